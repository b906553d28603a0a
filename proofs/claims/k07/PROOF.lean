import PyProof.Rows.All
import Wide.All
import OpenK.AllK
import Wide.FinOn
import HandS.ForMost
import KE.SortData
import HandS.ForExc
import HandS.Codes
import KE.KDictKeyed
import KE.KeyNested
import HandS.Deep
import HandS.TupAny
import HandS.Dict
import HandS.Conv
import KE.GoesZip
import PyProof.Draws
import HandS.Wide
import HandS.TupLe
import HandS.Zip
import KE.GoesEnum
import HandS.Comp
import HandS.TupLen
import PyProof.Claim2Refuses
import KE.DataMinMax
import KE.KDictSum
import HandS.Text
import HandS.IsInst
import HandS.Style
import HandS.SetFor
import KE.DataCmp
import HandS.Strs
import KE.KDictPairs
import HandS.HeadHook2
import HandS.HeadEnd
import HandS.Head2
import PySem.Challenge.RW_layworld_k07_worlds_written_and_read
set_option Elab.async false
set_option linter.all false
set_option maxRecDepth 100000
/-! A small language of data, slots and memory, and what its programs do. -/
namespace G
open PySem

/-- data: obj k is the k-th object of the memory -/
inductive D where
  | non | bl (b : Bool) | int (i : Int) | str (s : Str)
  | tup (xs : List D) | lst (xs : List D) | dic (kvs : List (D × D)) | obj (k : Nat)
  /-- the script: whole numbers that are known from without -/
  | scr (ns : List Int)
  /-- a dict, locked as it lies -/
  | pin (u : L2.HO)
  deriving Inhabited

mutual
def D.py : D → PyData
  | .non => .none
  | .bl b => .bool b
  | .int i => .int i
  | .str s => .str s
  | .tup xs => .tuple (D.pyL xs)
  | .lst xs => .list (D.pyL xs)
  | _ => .dict []
def D.pyL : List D → List PyData
  | [] => []
  | x :: xs => D.py x :: D.pyL xs
end

mutual
/-- no dict, no object within -/
def D.flat : D → Bool
  | .tup xs => D.flatL xs
  | .lst xs => D.flatL xs
  | .dic _ => false
  | .obj _ => false
  | .scr _ => false
  | .pin _ => false
  | .str s => PyData.strOk s
  | _ => true
def D.flatL : List D → Bool
  | [] => true
  | x :: xs => D.flat x && D.flatL xs
end

mutual
def D.dep : D → Nat
  | .tup xs => D.depL xs + 1
  | .lst xs => D.depL xs + 1
  | _ => 0
def D.depL : List D → Nat
  | [] => 0
  | x :: xs => max (D.dep x) (D.depL xs)
end

mutual
/-- x == y -/
def D.eqv : D → D → Bool
  | .non, .non => true
  | .bl a, .bl b => a == b
  | .bl a, .int j => (if a then 1 else 0) == j
  | .int i, .bl b => i == (if b then 1 else 0)
  | .int i, .int j => i == j
  | .str a, .str b => decide (a = b)
  | .tup xs, .tup ys => D.eqvL xs ys
  | .lst xs, .lst ys => D.eqvL xs ys
  | _, _ => false
def D.eqvL : List D → List D → Bool
  | [], [] => true
  | x :: xs, y :: ys => D.eqv x y && D.eqvL xs ys
  | _, _ => false
end

mutual
/-- a key of a dict: whole numbers, texts, tuples of keys -/
def D.keyp : D → Bool
  | .int _ => true
  | .str _ => true
  | .tup xs => D.keypL xs
  | _ => false
def D.keypL : List D → Bool
  | [] => true
  | x :: xs => D.keyp x && D.keypL xs
end
def D.key (d : D) : Bool := d.keyp && decide (d.dep ≤ 8)

mutual
def D.beq : D → D → Bool
  | .non, .non => true
  | .bl a, .bl b => a == b
  | .int i, .int j => i == j
  | .str a, .str b => decide (a = b)
  | .tup xs, .tup ys => D.beqL xs ys
  | .lst xs, .lst ys => D.beqL xs ys
  | .dic xs, .dic ys => D.beqP xs ys
  | .obj a, .obj b => a == b
  | .scr a, .scr b => a == b
  | _, _ => false
def D.beqL : List D → List D → Bool
  | [], [] => true
  | x :: xs, y :: ys => D.beq x y && D.beqL xs ys
  | _, _ => false
def D.beqP : List (D × D) → List (D × D) → Bool
  | [], [] => true
  | (x, u) :: xs, (y, v) :: ys => D.beq x y && D.beq u v && D.beqP xs ys
  | _, _ => false
end

mutual
/-- every object within stands under n -/
def D.under (n : Nat) : D → Bool
  | .tup xs => D.underL n xs
  | .lst xs => D.underL n xs
  | .dic kvs => D.underP n kvs
  | .obj k => decide (k < n)
  | _ => true
def D.underL (n : Nat) : List D → Bool
  | [] => true
  | x :: xs => D.under n x && D.underL n xs
def D.underP (n : Nat) : List (D × D) → Bool
  | [] => true
  | (_, y) :: xs => D.under n y && D.underP n xs
end

/-- a value at a root: own, if it is a list or a dict that stands here alone -/
abbrev RV := Bool × D

/-- what stands in the memory: an instance, a list -/
inductive MO where
  | ins (c : Nat) (fs : List (Nat × RV))
  | lst (xs : List D)
  deriving Inhabited
abbrev Mem := List MO

structure Exc where
  cls : Nat
  fs : List (Nat × D)
inductive R (α : Type) where
  | ok (a : α)
  | exn (e : Exc)

/-- the state within a def: its slots, the memory -/
structure S where
  l : List (Option RV)
  m : Mem
def M (α : Type) := S → Option (R α × S)
@[inline] def M.ret {α : Type} (a : α) : M α := fun s => some (.ok a, s)
@[inline] def M.bind {α β : Type} (x : M α) (f : α → M β) : M β := fun s => match x s with
  | some (.ok a, s') => f a s'
  | some (.exn e, s') => some (.exn e, s')
  | none => none
@[inline] def M.stuck {α : Type} : M α := fun _ => none
@[inline] def M.thr {α : Type} (e : Exc) : M α := fun s => some (.exn e, s)
instance : Monad M where
  pure := M.ret
  bind := M.bind
@[inline] def M.of {α : Type} (o : Option α) : M α := fun s => match o with
  | some a => some (.ok a, s)
  | none => none

inductive Op where | add | sub | mul | fdiv | mod | pow
  deriving DecidableEq
inductive Cm where | eq | ne | lt | le | gt | ge | is_ | isnot | in_ | notin
  deriving DecidableEq
/-- built-in functions -/
inductive Bf where | len | list | tuple | set | sset | tset | lset | sorted | min1 | max1 | min2 | max2 | sum | all | any | abs | int | str | ord | dict | repr
  deriving DecidableEq
/-- built-in methods that change nothing -/
inductive Bm where | join | split | partition | replace | startswith | upper | index | indexT | count | get1 | get2 | values | items
  deriving DecidableEq
/-- .. that change their list -/
inductive Mm where | append | extend | pop0 | pop | clear | popAt
  deriving DecidableEq
inductive Ty where | int | bool | str | tuple | list | cls (c : Nat) | exc (t : String)
  deriving DecidableEq

inductive Tg where
  | var (i : Nat) | tup (ts : List Tg)
mutual
inductive E where
  | con (d : D) | glob (g : Nat)
  | var (i : Nat) | take (i : Nat)
  | bin (o : Op) (a b : E) | neg (a : E) | not (a : E)
  | and (es : List E) | or (es : List E)
  | cmp (c : Cm) (a b : E) | chain (c c' : Cm) (a b d : E)
  | ite (c a b : E)
  | tup (es : List E) | lst (es : List E) | newl (es : List E) | dict (kvs : List E)
  | sub (a i : E) | slice (a : E) (lo hi : Option E)
  | fld (a : E) (f : Nat)
  | call (f : Nat) (es : List E) | make (c : Nat) (es : List E) | meth (a : E) (m : Nat) (es : List E)
  | blt (f : Bf) (a : E) | blt2 (f : Bf) (a b : E) | bm (m : Bm) (a : E) (es : List E) | bm1 (m : Bm) (a b : E)
  | comp (x : Tg) (it : It) (ifs : Option E) (e : E)
  | isinst (a : E) (ts : List Ty)
  | key (srt : Bool) (a : E) (x : Nat) (k : E)       -- min(a, key=lambda x: k); sorted
  | efld (i : Nat) (f : Nat)
  | it (t : It) | rev (a : E)
  | mem (a : E)       -- a new list, which is put into the memory
  | sset (a : E) | tset (a : E) | lset (a : E) | lrng (a : E) | trng (a : E)      -- sorted(set(a)), len(set(a)), list(range(a)), tuple(range(a))
  | pop (i : Nat) (a : E)      -- i.pop(a)
inductive It where
  | seq (e : E) | range1 (a : E) | range2 (a b : E) | range3 (a b c : E)
  | enum (e : E) | zip (a b : E) | zip3 (a b c : E) | enzip (a b : E)
end

inductive Pl where          -- a place that is stored to, or a list that is changed
  | var (i : Nat) | fld (i : Nat) (f : Nat) | any (e : E)
inductive Ta where
  | var (i : Nat) | fld (i : Nat) (f : Nat) | sub (p : Pl) (k : E) | tup (ts : List Ta)
mutual
inductive Sm where
  | asg (t : Ta) (e : E)
  | par (ts : List Nat) (es : List E)            -- a, b = e1, e2
  | mut (p : Pl) (m : Mm) (es : List E)
  | asgmut (t : Ta) (p : Pl) (m : Mm) (es : List E)
  | ite (c : E) (a b : List Sm)
  | for_ (x : Tg) (it : It) (b : List Sm)
  | while_ (c : E) (b : List Sm)
  | ret (e : E) | ret0
  | expr (e : E)
  | raise (c : Nat) (es : List E)
  | try_ (b : List Sm) (hs : List Hn)
  | pass | brk
  | dead      -- what is never come to
inductive Hn where
  | mk (c : Nat) (i : Option Nat) (b : List Sm)
end

structure Def where
  params : Nat
  slots : Nat
  body : List Sm
  deriving Inhabited

/-- a program: defs by number; what the classes' methods are; constants; the base of each class -/
structure Prog where
  df : Nat → Option Def
  mth : Nat → Nat → Option Nat
  ini : Nat → Option Nat
  gl : Nat → Option D
  exb : Nat → List Nat        -- of an exception class: itself and its own bases
  exf : Nat → List Nat        -- the fields that its __init__ sets
  fuel : Nat

/-! ### operations upon data -/
def sizeMax : Nat := 16777216
def D.kind : D → Nat
  | .non => 0 | .bl _ => 1 | .int _ => 2 | .str _ => 3 | .tup _ => 4 | .lst _ => 5 | .dic _ => 6 | .obj _ => 7 | .scr _ => 8 | .pin _ => 9

def strTimes (s : Str) (n : Nat) : Str := ⟨(List.replicate n s.cps.toList).flatten.toArray⟩
def listTimes (xs : List D) (n : Nat) : List D := (List.replicate n xs).flatten

def intBits (i : Int) : Nat := i.natAbs.log2 + 1
/-- a + b and so on; the flag: a new list -/
def addD : D → D → Option RV
  | .int i, .int j => some (false, .int (i + j))
  | .str a, .str b => if a.length + b.length ≤ sizeMax then some (false, .str (a ++ b)) else none
  | .tup xs, .tup ys => if xs.length + ys.length ≤ sizeMax then some (false, .tup (xs ++ ys)) else none
  | .lst xs, .lst ys => if xs.length + ys.length ≤ sizeMax then some (true, .lst (xs ++ ys)) else none
  | _, _ => none
def subD : D → D → Option RV
  | .int i, .int j => some (false, .int (i - j))
  | _, _ => none
def mulD : D → D → Option RV
  | .int i, .int j => if i.natAbs < 2 ^ 64 ∨ j.natAbs < 2 ^ 64 then some (false, .int (i * j)) else none
  | .lst xs, .int n => if -(2 ^ 63) ≤ n ∧ n < 2 ^ 63 ∧ xs.length * n.toNat ≤ sizeMax then some (true, .lst (listTimes xs n.toNat)) else none
  | .str a, .int n => if 0 ≤ n ∧ n < 2 ^ 63 ∧ a.length * n.toNat ≤ sizeMax then some (false, .str (strTimes a n.toNat)) else none
  | _, _ => none
def fdivD : D → D → Option RV
  | .int i, .int j => if 0 < j ∧ j < 1073741824 then some (false, .int (i / j)) else none
  | _, _ => none
def modD : D → D → Option RV
  | .int i, .int j => if 0 < j then some (false, .int (i % j)) else none
  | _, _ => none
def powD : D → D → Option RV
  | .int i, .int j => if 0 ≤ j ∧ j ≤ 1000000 ∧ i.natAbs < 2 ^ 64 then some (false, .int (i ^ j.toNat)) else none
  | _, _ => none
def binop : Op → D → D → Option RV
  | .add => addD | .sub => subD | .mul => mulD | .fdiv => fdivD | .mod => modD | .pow => powD

/-- what a walk over it yields -/
def D.items : D → Option (List D)
  | .tup xs => some xs
  | .lst xs => some xs
  | .dic kvs => some (kvs.map (·.1))
  | _ => none
def D.seq : D → Option (List D)
  | .tup xs => some xs
  | .lst xs => some xs
  | _ => none

def placeOf (n : Nat) (i : Int) : Option Nat := L2.ixN n i
def look (kvs : List (D × D)) (k : D) : Option D := (kvs.find? fun p => D.beq p.1 k).map (·.2)
def put (kvs : List (D × D)) (k v : D) : List (D × D) :=
  if kvs.any (fun p => D.beq p.1 k) then kvs.map (fun p => if D.beq p.1 k then (p.1, v) else p) else kvs ++ [(k, v)]
/-- the keys of a dict are of one kind: numbers and texts, or tuples -/
def D.isTup : D → Bool
  | .tup _ => true
  | _ => false
def fits (kvs : List (D × D)) (k : D) : Bool := k.key && kvs.all fun p => p.1.isTup == k.isTup
/-- a dict's display: key, value, key, value -/
def mkDic : List (D × D) → List D → Option (List (D × D))
  | acc, k :: v :: r => if fits acc k then mkDic (put acc k v) r else none
  | acc, [] => some acc
  | _, _ => none
def subscript : D → D → Option D
  | .tup xs, .int i => L2.atI xs i
  | .lst xs, .int i => L2.atI xs i
  | .str s, .int i => if s.length ≤ sizeMax then (L2.atI s.cps.toList i).map fun c => .str ⟨#[c]⟩ else none
  | .dic kvs, k => if fits kvs k then look kvs k else none
  | _, _ => none
/-- xs[lo:hi] -/
def cut {α : Type} (xs : List α) (lo hi : Option Int) : List α := (xs.drop (HT.sIx xs.length 0 lo)).take (HT.sIx xs.length xs.length hi - HT.sIx xs.length 0 lo)
def sliced : D → Option Int → Option Int → Option RV
  | .tup xs, lo, hi => some (false, .tup (cut xs lo hi))
  | .lst xs, lo, hi => some (true, .lst (cut xs lo hi))
  | .str s, lo, hi => if s.length ≤ sizeMax then some (false, .str (L2.cutS s lo hi)) else none
  | _, _, _ => none

def reversed : D → Option RV
  | .tup xs => some (false, .tup xs.reverse)
  | .lst xs => some (true, .lst xs.reverse)
  | _ => none
def negD : D → Option RV
  | .int i => some (false, .int (-i))
  | _ => none
def D.truth : D → Option Bool
  | .bl b => some b
  | _ => none

def D.isNon : D → Bool | .non => true | _ => false
def lessD (x y : D) : Option Bool :=
  if PySem.W.alike x.py y.py ∧ x.flat ∧ y.flat ∧ x.isNon = false then some (PySem.W.dataLt x.py y.py) else none
def eqD (x y : D) : Option Bool := match x, y with
  | .str a, .str b => some (decide (a = b))
  | _, _ => if x.flat ∧ y.flat ∧ x.dep ≤ 60 ∧ y.dep ≤ 60 then some (D.eqv x y) else none
def isIn (x y : D) : Option Bool := match y with
  | .tup ys => if x.flat ∧ D.flatL ys ∧ x.dep ≤ 60 ∧ D.depL ys ≤ 59 then some (ys.any fun z => D.eqv z x) else none
  | .lst ys => if x.flat ∧ D.flatL ys ∧ x.dep ≤ 60 ∧ D.depL ys ≤ 59 then some (ys.any fun z => D.eqv z x) else none
  | .dic kvs => if fits kvs x then some (look kvs x).isSome else none
  | .str s => match x with
    | .str z => some (!(Builtin.Str.occurrences s z 0 s.length 1).isEmpty)
    | _ => none
  | _ => none
def isD : D → D → Option Bool
  | x, .non => some x.isNon
  | .bl a, .bl b => some (decide (a = b))
  | _, _ => none
def ltD : D → D → Option Bool
  | .int i, .int j => some (decide (i < j))
  | _, _ => none
def leD : D → D → Option Bool
  | .int i, .int j => some (decide (i ≤ j))
  | .tup xs, .tup ys => if (D.tup xs).dep ≤ 50 then (lessD (.tup ys) (.tup xs)).map (!·) else none
  | _, _ => none
def compare : Cm → D → D → Option Bool
  | .eq, x, y => eqD x y
  | .ne, x, y => (eqD x y).map (!·)
  | .lt, x, y => ltD x y
  | .gt, x, y => ltD y x
  | .le, x, y => leD x y
  | .ge, .int i, .int j => some (decide (j ≤ i))
  | .ge, _, _ => none
  | .is_, x, y => isD x y
  | .isnot, x, y => (isD x y).map (!·)
  | .in_, x, y => isIn x y
  | .notin, x, y => (isIn x y).map (!·)

def D.tupled : D → Bool
  | .tup (_ :: _) => true
  | _ => false
/-- they may be put in order: alike, all tuples that hold something, or none a tuple -/
def allAlike (xs : List D) : Bool := xs.all fun x => (xs.all fun y => PySem.W.alike x.py y.py) && x.flat && !x.isNon && decide (x.dep ≤ 60)
def allLess (xs : List D) : Bool := allAlike xs && (xs.all D.tupled || xs.all fun x => !x.isTup)
theorem less_alike {xs : List D} (h : allLess xs = true) : allAlike xs = true := by
  unfold allLess at h
  rw [Bool.and_eq_true] at h
  exact h.1
def sortD (xs : List D) : List D := xs.mergeSort (PySem.W.dataLe false D.py)
def least (xs : List D) : Option D := match xs with
  | [] => none
  | x :: r => some (r.foldl (fun a b => if PySem.W.dataLt b.py a.py then b else a) x)
def greatest (xs : List D) : Option D := match xs with
  | [] => none
  | x :: r => some (r.foldl (fun a b => if PySem.W.dataLt a.py b.py then b else a) x)
def dedup (xs : List D) : List D := xs.foldl (fun acc x => if acc.any (fun y => D.eqv y x) then acc else acc ++ [x]) []

mutual
/-- numbers, and tuples of such -/
def D.numT : D → Bool
  | .int _ => true
  | .tup xs => D.numTs xs
  | _ => false
def D.numTs : List D → Bool
  | [] => true
  | x :: xs => D.numT x && D.numTs xs
end
/-- members of a set of tuples of numbers -/
def setTups (xs : List D) : Bool := (xs.all fun x => x.isTup && x.numT && decide (x.dep ≤ 8)) && decide ((dedup xs).length < 64) && (allLess (dedup xs) || decide ((dedup xs).length ≤ 1)) && decide (xs.length < 4000)

def asInts : List D → Option (List Int)
  | [] => some []
  | .int i :: r => (asInts r).map (i :: ·)
  | _ => none
def asBools : List D → Option (List Bool)
  | [] => some []
  | .bl i :: r => (asBools r).map (i :: ·)
  | _ => none
def asStrs : List D → Option (List Str)
  | [] => some []
  | .str i :: r => (asStrs r).map (i :: ·)
  | _ => none
/-- a number, a text -/
def D.atom : D → Bool
  | .int _ | .str _ => true
  | _ => false
def asPairs : List D → Option (List (D × D))
  | [] => some []
  | .tup [k, v] :: r => if k.atom then (asPairs r).map ((k, v) :: ·) else none
  | _ => none

/-- built-in functions; a set is told as the list of its members, each once: only its length and its sorted list are ever asked -/
def builtin : Bf → List D → Option RV
  | .len, [.tup xs] => some (false, .int xs.length)
  | .len, [.lst xs] => some (false, .int xs.length)
  | .len, [.dic xs] => if xs.length ≤ sizeMax then some (false, .int xs.length) else none
  | .len, [.str s] => if s.length ≤ sizeMax then some (false, .int s.length) else none
  | .len, [.scr s] => some (false, .int s.length)
  | .list, [.scr s] => some (true, .lst (s.map .int))
  | .list, [.tup xs] => some (true, .lst xs)
  | .list, [.lst xs] => some (true, .lst xs)
  | .list, [.dic kvs] => some (true, .lst (kvs.map Prod.fst))
  | .tuple, [.tup xs] => some (false, .tup xs)
  | .tuple, [.lst xs] => some (false, .tup xs)
  | .sset, [x] => x.seq.bind fun xs => (asStrs xs).bind fun _ => if xs.length < 4000 then some (true, .lst (sortD (dedup xs))) else none
  | .lset, [.tup xs] => if xs.length < 4000 ∧ (asStrs xs).isSome then some (false, .int (dedup xs).length) else none
  | .lset, [.lst xs] => if xs.length < 4000 ∧ ((asStrs xs).isSome ∨ (asInts xs).isSome) then some (false, .int (dedup xs).length) else none
  | .tset, [.lst xs] => if setTups xs then some (true, .lst (sortD (dedup xs))) else none
  | .set, [x] => x.seq.bind fun xs => if xs.all D.key then some (true, .lst (dedup xs)) else none
  | .sorted, [x] => x.items.bind fun xs => if allLess xs then some (true, .lst (sortD xs)) else none
  | .min1, [x] => x.seq.bind fun xs => if allAlike xs then (least xs).map fun z => (false, z) else none
  | .max1, [x] => x.seq.bind fun xs => if allAlike xs then (greatest xs).map fun z => (false, z) else none
  | .min2, [.int i, .int j] => some (false, .int (if j < i then j else i))
  | .max2, [.int i, .int j] => some (false, .int (if j > i then j else i))
  | .sum, [.lst xs] => (asInts xs).map fun is => (false, .int is.sum)
  | .all, [.lst xs] => (asBools xs).map fun is => (false, .bl (is.all id))
  | .any, [.lst xs] => (asBools xs).map fun is => (false, .bl (is.any id))
  | .abs, [.int i] => some (false, .int (if i < 0 then -i else i))
  | .int, [.int i] => some (false, .int i)
  | .int, [.bl b] => some (false, .int (if b then 1 else 0))
  | .str, [.int i] => if i.natAbs.log2 < 1920 then some (false, .str (toString i)) else none
  | .ord, [.str s] => if s.length = 1 then some (false, .int (s.cps.getD 0 0 : Nat)) else none
  | .dict, [.dic kvs] => if kvs.all (fun p => p.1.atom) then some (true, .dic kvs) else none
  | .dict, [x] => x.seq.bind fun xs => (asPairs xs).map fun kvs => (true, .dic (kvs.foldl (fun acc p => put acc p.1 p.2) []))
  | _, _ => none

def texts (xs : List Str) : D := .lst (xs.map D.str)
def bmeth : Bm → D → List D → Option RV
  | .join, .str s, [x] => x.seq.bind fun xs => (asStrs xs).bind fun ys =>
      if (ys.map (·.length)).sum + ys.length * s.length ≤ sizeMax then some (false, .str (Txt.join s ys)) else none
  | .split, .str s, [.str b] => if b.length == 0 then none else if s.length + 2 ≤ sizeMax then some (true, texts (Txt.split s b)) else none
  | .startswith, .str s, [.str b] => some (false, .bl (Txt.startswith s b))
  | .upper, .str s, [] => if s.length ≤ 5592405 then some (false, .str (Txt.upper s)) else none
  | .partition, .str s, [.str b] => if b.length == 0 then none else if s.length ≤ sizeMax then some (false, .tup [.str (Txt.partition s b).1, .str (Txt.partition s b).2.1, .str (Txt.partition s b).2.2]) else none
  | .replace, .str s, [.str a, .str b] => if a.length = 1 ∧ s.length * b.length ≤ sizeMax ∧ s.length ≤ sizeMax then some (false, .str ⟨(s.cps.toList.flatMap fun c => if [c] = a.cps.toList then b.cps.toList else [c]).toArray⟩) else none
  | .index, .lst xs, [.int k] => (asInts xs).bind fun ns => (ns.findIdx? fun a => a == k).map fun j => (false, .int (j : Nat))
  | .index, .lst xs, [.str k] => (asStrs xs).bind fun ns => (ns.findIdx? fun a => a == k).map fun j => (false, .int (j : Nat))
  | .indexT, .tup xs, [.int k] => (asInts xs).bind fun ns => (ns.findIdx? fun a => a == k).map fun j => (false, .int (j : Nat))
  | .indexT, .tup xs, [.str k] => (asStrs xs).bind fun ns => (ns.findIdx? fun a => a == k).map fun j => (false, .int (j : Nat))
  | .count, .lst xs, [.int k] => (asInts xs).map fun ns => (false, .int ((ns.count k : Nat) : Int))
  | .get1, .dic kvs, [k] => if fits kvs k then some (false, (look kvs k).getD .non) else none
  | .get2, .dic kvs, [k, d] => if fits kvs k then some (false, (look kvs k).getD d) else none
  | .values, .dic kvs, [] => some (true, .lst (kvs.map (·.2)))
  | .items, .dic kvs, [] => some (true, .lst (kvs.map fun p => .tup [p.1, p.2]))
  | _, _, _ => none

/-- the type that a method is asked of -/
def bmTy : Bm → D → Bool
  | .join, .str _ => true
  | .split, .str _ => true
  | .partition, .str _ => true
  | .replace, .str _ => true
  | .startswith, .str _ => true
  | .upper, .str _ => true
  | .index, .lst _ => true
  | .indexT, .tup _ => true
  | .count, .lst _ => true
  | .get1, .dic _ => true
  | .get2, .dic _ => true
  | .values, .dic _ => true
  | .items, .dic _ => true
  | _, _ => false
def rangeD (lo : Int) (n : Nat) : List D := (List.range n).map fun (k : Nat) => D.int (lo + (k : Nat))

/-! ### what an expression does -/
abbrev Call := List RV → Mem → Option (R RV × Mem)
/-- how defs and classes are called -/
structure Gam where
  fn : Nat → Call
  cl : Nat → Call
def callM (c : Call) (vs : List RV) : M RV := fun s => match c vs s.m with
  | some (.ok v, m) => some (.ok v, { s with m := m })
  | some (.exn e, m) => some (.exn e, { s with m := m })
  | none => none

def getS (i : Nat) : M RV := fun s => match s.l[i]? with
  | some (some v) => some (.ok v, s)
  | _ => none
def setS (i : Nat) (v : RV) : M Unit := fun s => if i < s.l.length then some (.ok (), { s with l := s.l.set i (some v) }) else none
def delS (i : Nat) : M Unit := fun s => some (.ok (), { s with l := s.l.set i none })
/-- read as a value: from then on it never changes -/
def varM (i : Nat) : M RV := do
  let v ← getS i
  if v.1 then setS i (false, v.2)
  M.ret (false, v.2)
def takeM (i : Nat) : M RV := do
  let v ← getS i
  delS i
  M.ret v
/-- a new list of the memory -/
def newM (xs : List D) : M RV := fun s => some (.ok (false, .obj s.m.length), { s with m := s.m ++ [.lst xs] })
def memAt (k : Nat) : M MO := fun s => (s.m[k]?).map fun o => (.ok o, s)
def setMem (k : Nat) (o : MO) : M Unit := fun s => if k < s.m.length then some (.ok (), { s with m := s.m.set k o }) else none
def fset (fs : List (Nat × RV)) (f : Nat) (v : RV) : List (Nat × RV) := match fs with
  | [] => [(f, v)]
  | p :: r => if p.1 = f then (f, v) :: r else p :: fset r f v
/-- a field; b: it is only looked at -/
def fldM (b : Bool) (f : Nat) : RV → M RV
  | (_, .obj k) => do match (← memAt k) with
      | .ins c fs => match fs.lookup f with
        | some v => do
          if v.1 && !b then setMem k (.ins c (fset fs f (false, v.2)))
          M.ret (false, v.2)
        | none => M.stuck
      | _ => M.stuck
  | _ => M.stuck
/-- a list of the memory, as what it holds -/
def seen : RV → M D
  | (_, .obj k) => do match (← memAt k) with
      | .lst xs => M.ret (.lst xs)
      | _ => M.stuck
  | (_, d) => M.ret d

/-- .. an instance as itself -/
def seenI : RV → M D
  | (_, .obj k) => do match (← memAt k) with
      | .lst xs => M.ret (.lst xs)
      | _ => M.ret (.obj k)
  | (_, d) => M.ret d

mutual
def tgStore : Tg → D → M Unit
  | .var i, d => setS i (false, d)
  | .tup ts, d => match d with
    | .tup ds => tgStoreL ts ds
    | _ => M.stuck
def tgStoreL : List Tg → List D → M Unit
  | [], [] => M.ret ()
  | t :: ts, d :: ds => do
    tgStore t d
    tgStoreL ts ds
  | _, _ => M.stuck
end
def wipeM (is : List Nat) : M Unit := fun s => some (.ok (), { s with l := is.foldl (fun l i => l.set i none) s.l })
mutual
def Tg.slots : Tg → List Nat
  | .var i => [i]
  | .tup ts => Tg.slotsL ts
def Tg.slotsL : List Tg → List Nat
  | [] => []
  | t :: ts => t.slots ++ Tg.slotsL ts
end

/-- the keys of a lambda -/
def keysL (i : Nat) (e : M RV) : List D → M (List (D × D))
  | [] => M.ret []
  | d :: ds => do
    setS i (false, d)
    let k ← e
    wipeM [i]
    let r ← keysL i e ds
    M.ret ((k.2, d) :: r)
def zipD : List D → List D → List D
  | x :: xs, y :: ys => .tup [x, y] :: zipD xs ys
  | _, _ => []
def zip3D : List D → List D → List D → List D
  | x :: xs, y :: ys, z :: zs => .tup [x, y, z] :: zip3D xs ys zs
  | _, _, _ => []
def enumD (n : Nat) : List D → List D
  | [] => []
  | x :: xs => .tup [.int n, x] :: enumD (n + 1) xs

mutual
/-- no call within: memory is left as it is -/
def E.calm : E → Bool
  | .con _ | .glob _ | .var _ => true
  | .bin _ a b => a.calm && b.calm
  | .neg a | .not a => a.calm
  | .cmp _ a b => a.calm && b.calm
  | .tup es => calmL es
  | .sub a i => a.calm && i.calm
  | .blt _ e => e.calm
  | .fld a _ => a.calm
  | _ => false
def calmL : List E → Bool
  | [] => true
  | e :: es => e.calm && calmL es
end

/-- of a type that is built in, and known -/
def D.basic : D → Bool
  | .non | .bl _ | .int _ | .str _ | .tup _ | .lst _ => true
  | _ => false
def isTy : Ty → D → Bool
  | .int, .int _ => true
  | .int, .bl _ => true
  | .bool, .bl _ => true
  | .str, .str _ => true
  | .tuple, .tup _ => true
  | .list, .lst _ => true
  | _, _ => false
def isOf (exb : Nat → List Nat) (d : D) : List Ty → Option Bool
  | [] => some false
  | t :: ts => do
    let a ← match t with
      | .cls c => match d with
        | .dic kvs => match look kvs (.int (-1)) with
          | some (.int k) => some ((exb k.toNat).contains c)
          | _ => none
        | _ => none
      | .exc _ => none
      | t => if d.basic then some (isTy t d) else none
    let r ← isOf exb d ts
    some (a || r)

def E.isVar : E → Bool
  | .var _ => true
  | _ => false
/-- a name's field -/
def E.isFld : E → Bool
  | .fld (.var _) _ => true
  | _ => false
/-- a name: looked at once more, behind what was done meanwhile -/
def again : E → RV → M RV
  | .var i, _ => do
    let v ← getS i
    M.ret (false, v.2)
  | _, u => M.ret u
/-- .. a name's field too -/
def againF : E → RV → M RV
  | .var i, _ => do
    let v ← getS i
    M.ret (false, v.2)
  | .fld (.var i) f, _ => do
    let v ← getS i
    fldM true f v
  | _, u => M.ret u
/-- what is walked: a name's list, a list of the memory stays as it is meanwhile -/
def still (e : E) (u : RV) (p : D) : M Bool := match u.2 with
  | .obj k => do
    let o ← memAt k
    match o with
    | .lst ys => M.ret (D.beq (.lst ys) p)
    | _ => M.ret false
  | _ => match e with
    | .var i => do
      let v ← getS i
      M.ret (D.beq v.2 p)
    | _ => M.ret true
/-- .. of what is held -/
def stillH (u : RV) (p : D) : M Bool := match u.2 with
  | .obj k => do
    let o ← memAt k
    match o with
    | .lst ys => M.ret (D.beq (.lst ys) p)
    | _ => M.ret false
  | _ => M.ret true
/-- a name's thing is never to change -/
def froz : E → M Unit
  | .var i => do
    let _ ← varM i
    M.ret ()
  | _ => M.ret ()
/-- a truth -/
def boolM (x : M RV) : M RV := do
  let u ← x
  let t ← M.of u.2.truth
  M.ret (false, .bl t)
/-- what raises nothing -/
def calmM {α : Type} (x : M α) : M α := fun s => match x s with
  | some (.ok a, s') => some (.ok a, s')
  | _ => none
def testM (t : Option (M RV)) : M Bool := match t with
  | none => M.ret true
  | some c => do
    let v ← c
    M.of v.2.truth
/-- the turns of a comprehension -/
def compL (x : Tg) (t : Option (M RV)) (e : M RV) (ok : M Bool) : List D → List D → M RV
  | [], acc => do
    let k ← ok
    if k then M.ret (true, .lst acc) else M.stuck
  | d :: ds, acc => do
    let k ← ok
    if k then do
      tgStore x d
      let go ← testM t
      if go then do
        let v ← e
        if acc.length < sizeMax then do
          wipeM x.slots
          compL x t e ok ds (acc ++ [v.2])
        else M.stuck
      else do
        wipeM x.slots
        compL x t e ok ds acc
    else M.stuck
/-- a walk: its items, and the question whether what is walked is as it was -/
structure Walk where
  ds : List D
  ok : M Bool

/-- d[k] = v -/
def putD (v : D) : List D → D → Option (RV × D)
  | [k], .dic kvs => if fits kvs k ∧ kvs.length < sizeMax then some ((false, .non), .dic (put kvs k v)) else none
  | [.int i], .lst xs => (placeOf xs.length i).map fun j => ((false, .non), .lst (xs.set j v))
  | _, _ => none
/-- a change of a list: what is told, and the list behind -/
def change : Mm → D → List D → Option (RV × D)
  | .append, .lst xs, [x] => if xs.length < sizeMax then some ((false, .non), .lst (xs ++ [x])) else none
  | .extend, .lst xs, [.lst ys] => if xs.length + ys.length ≤ sizeMax then some ((false, .non), .lst (xs ++ ys)) else none
  | .pop0, .lst (x :: xs), [] => some ((false, x), .lst xs)
  | .pop, .lst xs, [] => xs.getLast?.map fun x => ((false, x), .lst xs.dropLast)
  | .clear, .lst _, [] => some ((false, .non), .lst [])
  | .popAt, .lst xs, [.int i] => if -(2 ^ 63) ≤ i ∧ i < 2 ^ 63 then (placeOf xs.length i).bind fun k => (xs[k]?).map fun x => ((false, x), .lst (xs.eraseIdx k)) else none
  | _, _, _ => none
/-- the thing at a place is changed by f -/
def memCh (k : Nat) (f : D → Option (RV × D)) : M RV := do
  let o ← memAt k
  match o with
  | .lst xs => match f (.lst xs) with
    | some (r, .lst ys) => do
      setMem k (.lst ys)
      M.ret r
    | _ => M.stuck
  | _ => M.stuck
def slotCh (i : Nat) (f : D → Option (RV × D)) : M RV := do
  let v ← getS i
  match v with
  | (_, .obj k) => memCh k f
  | (true, d) => match f d with
    | some (r, d') => do
      setS i (true, d')
      M.ret r
    | none => M.stuck
  | _ => M.stuck
/-- a list stands in a slot: its own, or one of the memory -/
def listS (i : Nat) : M Unit := do
  let v ← getS i
  match v with
  | (true, .lst _) => M.ret ()
  | (_, .obj k) => do
    let o ← memAt k
    match o with
    | .lst _ => M.ret ()
    | _ => M.stuck
  | _ => M.stuck
variable (P : Prog) (Γ : Gam)
mutual
/-- b: what is told is only looked at, at once -/
def ev (b : Bool) : E → M RV
  | .con d => M.ret (false, d)
  | .glob g => M.of ((P.gl g).map fun d => (false, d))
  | .var i => if b then do
      let v ← getS i
      M.ret (false, v.2)
    else varM i
  | .take i => takeM i
  | .bin o x y => do
    let u ← ev x.isVar x
    let v ← ev true y
    let u ← again x u
    let p ← seen u
    let q ← seen v
    M.of (binop o p q)
  | .neg x => do
    let u ← ev true x
    M.of (negD u.2)
  | .not x => do
    let u ← ev true x
    let t ← M.of u.2.truth
    M.ret (false, .bl (!t))
  | .and es => evAnd es
  | .or es => evOr es
  | .cmp c x y => do
    let u ← ev x.isVar x
    let v ← ev true y
    let u ← again x u
    let p ← seen u
    let q ← seen v
    let r ← M.of (compare c p q)
    M.ret (false, .bl r)
  | .chain c c' x y z => do
    let u ← ev false x
    let v ← ev false y
    let r ← M.of (compare c u.2 v.2)
    if r then do
      let w ← ev true z
      let r ← M.of (compare c' v.2 w.2)
      M.ret (false, .bl r)
    else M.ret (false, .bl false)
  | .ite c x y => do
    let u ← ev true c
    let t ← M.of u.2.truth
    if t then ev b x else ev b y
  | .tup es => do
    let vs ← evs es
    M.ret (false, .tup (vs.map (·.2)))
  | .lst es => do
    let vs ← evs es
    M.ret (true, .lst (vs.map (·.2)))
  | .newl es => do
    let vs ← evs es
    newM (vs.map (·.2))
  | .dict kvs => do
    let vs ← evs kvs
    M.of ((mkDic [] (vs.map (·.2))).map fun d => (true, .dic d))
  | .sub x i => if x.isFld then
      if i.calm then do
        let u ← ev true x
        let v ← ev true i
        let u ← againF x u
        let p ← seen u
        let q ← seen v
        M.of ((subscript p q).map fun d => (false, d))
      else M.stuck
    else do
      let u ← ev x.isVar x
      let v ← ev true i
      let u ← again x u
      let p ← seen u
      let q ← seen v
      M.of ((subscript p q).map fun d => (false, d))
  | .slice x lo hi => do
    let u ← ev x.isVar x
    let l ← evO lo
    let h ← evO hi
    let u ← again x u
    let p ← seen u
    M.of (sliced p l h)
  | .rev x => do
    let u ← ev true x
    M.of (reversed u.2)
  | .fld x f => do
    let u ← ev true x
    fldM b f u
  | .call f es => do
    let vs ← evs es
    callM (Γ.fn f) vs
  | .make c es => do
    let vs ← evs es
    callM (Γ.cl c) vs
  | .meth x m es => do
    let u ← ev false x
    match u.2 with
    | .obj k => do
      let o ← memAt k
      match o with
      | .ins c _ => match P.mth c m with
        | some f => do
          let vs ← evs es
          callM (Γ.fn f) (u :: vs)
        | none => M.stuck
      | _ => M.stuck
    | _ => M.stuck
  | .blt f x => do
    let u ← ev true x
    let p ← seen u
    M.of (builtin f [p])
  | .blt2 f x y => do
    let u ← ev false x
    let v ← ev false y
    M.of (builtin f [u.2, v.2])
  | .bm1 m x y => do
    let u ← ev x.isVar x
    let p0 ← seen u
    if bmTy m p0 then do
      let qs ← (do
        let v ← ev true y
        let q ← seen v
        M.ret [q] : M (List D))
      let u ← again x u
      let p ← seen u
      M.of (bmeth m p qs)
    else M.stuck
  | .bm m x es => do
    let u ← ev x.isVar x
    let p0 ← seen u
    if bmTy m p0 then do
      let qs ← (do
        let vs ← evs es
        M.ret (vs.map (·.2)) : M (List D))
      let u ← again x u
      let p ← seen u
      M.of (bmeth m p qs)
    else M.stuck
  | .comp x it t e => do
    let w ← evIt it
    wipeM x.slots
    match t with
    | none => calmM (compL x none (ev false e) w.ok w.ds [])
    | some c => calmM (compL x (some (ev true c)) (ev false e) w.ok w.ds [])
  | .mem x => do
    let u ← ev false x
    match u with
    | (true, .lst xs) => newM xs
    | _ => M.stuck
  | .sset x => do
    let u ← ev true x
    let p ← seen u
    M.of (builtin .sset [p])
  | .tset x => do
    let u ← ev true x
    let p ← seen u
    M.of (builtin .tset [p])
  | .lset x => do
    let u ← ev true x
    let p ← seen u
    M.of (builtin .lset [p])
  | .pop i x => do
    listS i
    let vs ← (do
      let v ← ev false x
      M.ret [v] : M (List RV))
    slotCh i (fun d => change .popAt d (vs.map (·.2)))
  | .lrng x => do
    let n ← ev true x
    match n.2 with
    | .int n => if n < 2 ^ 24 ∧ -(2 ^ 62) ≤ n then M.ret (true, .lst (rangeD 0 n.toNat)) else M.stuck
    | _ => M.stuck
  | .trng x => do
    let n ← ev true x
    match n.2 with
    | .int n => if n < 2 ^ 24 ∧ -(2 ^ 62) ≤ n then M.ret (false, .tup (rangeD 0 n.toNat)) else M.stuck
    | _ => M.stuck
  | .isinst x ts => do
    let u ← ev true x
    let d ← seenI u
    M.of ((isOf P.exb d ts).map fun r => (false, .bl r))
  | .key srt x i k => do
    let u ← ev false x
    match u.2.seq with
    | some ds => do
      let ks ← keysL i (ev false k) ds
      if allLess (ks.map (·.1)) then
        if srt then M.ret (true, .lst ((ks.mergeSort (fun p q => PySem.W.dataLe false D.py p.1 q.1)).map (·.2)))
        else match ks with
          | [] => M.stuck
          | p :: r => M.ret (false, (r.foldl (fun a q => if PySem.W.dataLt q.1.py a.1.py then q else a) p).2)
      else M.stuck
    | none => M.stuck
  | .it t => do
    let w ← evIt t
    M.ret (true, .lst w.ds)
  | .efld i f => do
    let v ← getS i
    match v.2 with
    | .dic kvs => M.of ((look kvs (.int f)).map fun d => (false, d))
    | _ => M.stuck
def evAnd : List E → M RV
  | [] => M.stuck
  | [e] => boolM (ev true e)
  | e :: es => do
    let u ← ev true e
    let t ← M.of u.2.truth
    if t then evAnd es else M.ret (false, .bl false)
def evOr : List E → M RV
  | [] => M.stuck
  | [e] => boolM (ev true e)
  | e :: es => do
    let u ← ev true e
    let t ← M.of u.2.truth
    if t then M.ret (false, .bl true) else evOr es
def evs : List E → M (List RV)
  | [] => M.ret []
  | e :: es => do
    let v ← ev false e
    let vs ← evs es
    M.ret (v :: vs)
def evO : Option E → M (Option Int)
  | none => M.ret none
  | some e => do
    let u ← ev true e
    match u.2 with
    | .int i => M.ret (some i)
    | _ => M.stuck
/-- what is walked -/
def evIt : It → M Walk
  | .seq e => do
    let u ← ev e.isVar e
    let p ← seen u
    match p.seq with
    | some ds => M.ret ⟨ds, still e u p⟩
    | none => match p with
      | .dic kvs => do
        froz e
        M.ret ⟨kvs.map (·.1), M.ret true⟩
      | .str s => if s.length ≤ sizeMax then M.ret ⟨s.cps.toList.map fun c => .str ⟨#[c]⟩, M.ret true⟩ else M.stuck
      | _ => M.stuck
  | .range1 a => do
    let n ← ev true a
    match n.2 with
    | .int n => if n < 2 ^ 24 ∧ -(2 ^ 62) ≤ n then M.ret ⟨rangeD 0 n.toNat, M.ret true⟩ else M.stuck
    | _ => M.stuck
  | .range2 a c => do
    let i ← ev false a
    let j ← ev false c
    match i.2, j.2 with
    | .int i, .int j => if -(2 ^ 62) ≤ i ∧ i < 2 ^ 62 ∧ -(2 ^ 62) ≤ j ∧ j < 2 ^ 62 then M.ret ⟨rangeD i (j - i).toNat, M.ret true⟩ else M.stuck
    | _, _ => M.stuck
  | .range3 a c k => do
    let i ← ev false a
    let j ← ev false c
    let k ← ev false k
    match i.2, j.2, k.2 with
    | .int i, .int j, .int k => if k = -1 ∧ -(2 ^ 62) ≤ i ∧ i < 2 ^ 62 ∧ -(2 ^ 62) ≤ j ∧ j < 2 ^ 62 then M.ret ⟨(List.range (i - j).toNat).map fun (n : Nat) => D.int (i - (n : Nat)), M.ret true⟩ else M.stuck
    | _, _, _ => M.stuck
  | .enum e => do
    let u ← ev false e
    let p ← seen u
    match p.seq with
    | some ds => M.ret ⟨enumD 0 ds, stillH u p⟩
    | none => M.stuck
  | .zip a c => do
    let u ← ev false a
    let v ← ev false c
    let p ← seen u
    let q ← seen v
    match p.seq, q.seq with
    | some xs, some ys => M.ret ⟨zipD xs ys, do
      let i ← stillH u p
      let j ← stillH v q
      M.ret (i && j)⟩
    | _, _ => M.stuck
  | .zip3 a c k => do
    let u ← ev false a
    let v ← ev false c
    let w ← ev false k
    match u.2.seq, v.2.seq, w.2.seq with
    | some xs, some ys, some zs => M.ret ⟨zip3D xs ys zs, M.ret true⟩
    | _, _, _ => M.stuck
  | .enzip a c => do
    let u ← ev false a
    let v ← ev false c
    let p ← seen u
    let q ← seen v
    match p.seq, q.seq with
    | some xs, some ys => M.ret ⟨enumD 0 (zipD xs ys), do
      let i ← stillH u p
      let j ← stillH v q
      M.ret (i && j)⟩
    | _, _ => M.stuck
end

/-! ### what a statement does -/
inductive Fl where | next | brk | ret (v : RV)
variable (P : Prog) (Γ : Gam)
def fldCh (i g : Nat) (f : D → Option (RV × D)) : M RV := do
  let v ← getS i
  match v.2 with
  | .obj k => do
    let o ← memAt k
    match o with
    | .ins c fs => match fs.lookup g with
      | some (true, d) => match f d with
        | some (r, d') => do
          setMem k (.ins c (fset fs g (true, d')))
          M.ret r
        | none => M.stuck
      | some (false, .obj k') => memCh k' f
      | _ => M.stuck
    | _ => M.stuck
  | _ => M.stuck
/-- .. in a field -/
def listF (i g : Nat) : M Unit := do
  let v ← getS i
  match v.2 with
  | .obj k => do
    let o ← memAt k
    match o with
    | .ins _ fs => match fs.lookup g with
      | some (true, .lst _) => M.ret ()
      | some (_, .obj k') => do
        let o' ← memAt k'
        match o' with
        | .lst _ => M.ret ()
        | _ => M.stuck
      | _ => M.stuck
    | _ => M.stuck
  | _ => M.stuck
/-- a method that changes its list -/
def mutPl (args : List E) (f : List D → D → Option (RV × D)) : Pl → M RV
  | .var i => do
    listS i
    let vs ← evs P Γ args
    slotCh i (f (vs.map (·.2)))
  | .fld i g => if calmL args then do
      listF i g
      let vs ← evs P Γ args
      fldCh i g (f (vs.map (·.2)))
    else M.stuck
  | .any e => do
    let u ← ev P Γ false e
    match u.2 with
    | .obj k => do
      let o ← memAt k
      match o with
      | .lst _ => do
        let vs ← evs P Γ args
        memCh k (f (vs.map (·.2)))
      | _ => M.stuck
    | _ => M.stuck
/-- p[k] = v -/
def putPl (v : D) (e : E) : Pl → M Unit
  | .var i => do
    let _ ← getS i
    let k ← ev P Γ false e
    let _ ← slotCh i (putD v [k.2])
    M.ret ()
  | .fld i g => if e.calm then do
      let _ ← getS i
      let k ← ev P Γ false e
      let _ ← fldCh i g (putD v [k.2])
      M.ret ()
    else M.stuck
  | .any a => do
    let u ← ev P Γ false a
    let k ← ev P Γ false e
    match u.2 with
    | .obj j => do
      let _ ← memCh j (putD v [k.2])
      M.ret ()
    | _ => M.stuck
mutual
def store : Ta → RV → M Unit
  | .var i, v => setS i v
  | .fld i f, v => do
    let u ← getS i
    match u.2 with
    | .obj k => do
      let o ← memAt k
      match o with
      | .ins c fs => setMem k (.ins c (fset fs f v))
      | _ => M.stuck
    | _ => M.stuck
  | .sub p e, v => putPl P Γ v.2 e p
  | .tup ts, v => match v.2 with
    | .tup ds => storeL ts ds
    | _ => M.stuck
def storeL : List Ta → List D → M Unit
  | [], [] => M.ret ()
  | t :: ts, d :: ds => do
    store t (false, d)
    storeL ts ds
  | _, _ => M.stuck
end
/-- the turns of a for -/
def forL (x : Tg) (b : M Fl) (ok : M Bool) : List D → M Fl
  | [] => do
    let k ← ok
    if k then M.ret .next else M.stuck
  | d :: ds => do
    let k ← ok
    if k then do
      tgStore x d
      let f ← b
      match f with
      | .next => forL x b ok ds
      | .brk => M.ret .next
      | .ret v => M.ret (.ret v)
    else M.stuck
def whileL (c : M Bool) (b : M Fl) : Nat → M Fl
  | 0 => M.stuck
  | n + 1 => do
    let t ← c
    if t then do
      let f ← b
      match f with
      | .next => whileL c b n
      | .brk => M.ret .next
      | .ret v => M.ret (.ret v)
    else M.ret .next
def isExc (c : Nat) (e : Exc) : Bool := (P.exb e.cls).contains c
mutual
def ex : Sm → M Fl
  | .asg t e => do
    let v ← ev P Γ false e
    store P Γ t v
    M.ret .next
  | .par ts es => do
    let vs ← evs P Γ es
    if ts.length = vs.length then
      (ts.zip vs).foldlM (fun _ p => setS p.1 p.2) ()
      M.ret .next
    else M.stuck
  | .mut p m es => do
    let _ ← mutPl P Γ es (fun vs d => change m d vs) p
    M.ret .next
  | .asgmut t p m es => do
    let v ← mutPl P Γ es (fun vs d => change m d vs) p
    store P Γ t v
    M.ret .next
  | .ite c a b => do
    let u ← ev P Γ true c
    let t ← M.of u.2.truth
    if t then exs a else exs b
  | .for_ x it b => do
    let w ← evIt P Γ it
    forL x (exs b) w.ok w.ds
  | .while_ c b => whileL (do
      let u ← ev P Γ true c
      M.of u.2.truth) (exs b) P.fuel
  | .ret e => do
    let v ← ev P Γ false e
    M.ret (.ret v)
  | .ret0 => M.ret (.ret (false, .non))
  | .expr e => do
    let _ ← ev P Γ true e
    M.ret .next
  | .raise c es => do
    let vs ← evs P Γ es
    let fs := P.exf c
    if fs.length = vs.length then M.thr ⟨c, fs.zip (vs.map (·.2))⟩ else M.stuck
  | .try_ b hs => fun s => match exs b s with
    | some (.exn e, s') => handle hs e s'
    | r => r
  | .dead => M.stuck
  | .pass => M.ret .next
  | .brk => M.ret .brk
def exs : List Sm → M Fl
  | [] => M.ret .next
  | s :: r => do
    let f ← ex s
    match f with
    | .next => exs r
    | f => M.ret f
def handle : List Hn → Exc → M Fl
  | [], e => M.thr e
  | .mk c i b :: hs, e => if isExc P c e then
      match i with
      | none => exs b
      | some j => do
        setS j (false, .dic (( .int (-1), .int e.cls) :: e.fs.map fun p => (.int p.1, p.2)))
        let r ← exs b
        delS j
        M.ret r
    else handle hs e
end

/-! ### what a program does -/
def gc (n : Nat) (v : RV) (m : Mem) : RV × Mem :=
  if v.2.under n && ((m.take n).all fun o => match o with
    | .ins _ fs => fs.all fun p => p.2.2.under n
    | .lst xs => D.underL n xs) then (v, m.take n) else (v, m)
def runDef (Γ : Gam) (d : Def) (vs : List RV) (m : Mem) : Option (R RV × Mem) :=
  if vs.length = d.params then
    match exs P Γ d.body ⟨vs.map some ++ List.replicate (d.slots - d.params) none, m⟩ with
    | some (.ok (.ret v), s) => some (.ok (gc m.length v s.m).1, (gc m.length v s.m).2)
    | some (.ok .next, s) => some (.ok (gc m.length (false, .non) s.m).1, (gc m.length (false, .non) s.m).2)
    | some (.exn e, s) => some (.exn e, (gc m.length (false, .non) s.m).2)
    | _ => none
  else none
/-- a class called -/
def make (fn : Nat → Call) (c : Nat) (vs : List RV) (m : Mem) : Option (R RV × Mem) := match P.ini c with
  | none => none
  | some f => match fn f ((false, .obj m.length) :: vs) (m ++ [.ins c []]) with
    | some (.ok (_, .non), m') => some (.ok (false, .obj m.length), m')
    | some (.ok _, _) => none
    | some (.exn e, m') => some (.exn e, m')
    | none => none
def callN : Nat → Nat → Call
  | 0 => fun _ _ _ => none
  | n + 1 => fun f vs m => match P.df f with
    | none => none
    | some d => runDef P ⟨callN n, fun c us m' => match n with
      | 0 => none
      | k + 1 => make P (callN k) c us m'⟩ d vs m
end G

set_option linter.all false
set_option maxRecDepth 100000
set_option maxHeartbeats 1000000
namespace G.Pl
open PySem
namespace Wp
end Wp
open scoped Wp
/-! plain runs: a computation that ends well -/
def Wp {α : Type} (x : M α) (s : S) (K : α → S → Prop) : Prop := ∃ a s', x s = some (.ok a, s') ∧ K a s'
section
variable {α β : Type} {s : S}
theorem Wp.mono {x : M α} {K K' : α → S → Prop} (h : Wp x s K) (hk : ∀ a s', K a s' → K' a s') : Wp x s K' := let ⟨a, s', e, k⟩ := h; ⟨a, s', e, hk a s' k⟩
@[scoped simp] theorem Wp.bind {x : M α} {f : α → M β} {K : β → S → Prop} : Wp (x >>= f) s K ↔ Wp x s (fun a s' => Wp (f a) s' K) := by
  show Wp (M.bind x f) s K ↔ _
  unfold Wp M.bind
  constructor
  · rintro ⟨b, s2, e, k⟩
    cases h : x s with
    | none => rw [h] at e; cases e
    | some r =>
      obtain ⟨r, s1⟩ := r
      rw [h] at e
      cases r with
      | ok a => exact ⟨a, s1, rfl, b, s2, e, k⟩
      | exn a => cases e
  · rintro ⟨a, s1, e, b, s2, e2, k⟩
    exact ⟨b, s2, by rw [e]; exact e2, k⟩
@[scoped simp] theorem Wp.ret {a : α} {K : α → S → Prop} : Wp (M.ret a) s K ↔ K a s := ⟨fun ⟨_, _, e, k⟩ => by cases e; exact k, fun k => ⟨a, s, rfl, k⟩⟩
@[scoped simp] theorem Wp.pure {a : α} {K : α → S → Prop} : Wp (pure a) s K ↔ K a s := Wp.ret
@[scoped simp] theorem Wp.stuck {K : α → S → Prop} : Wp M.stuck s K ↔ False := ⟨fun ⟨_, _, e, _⟩ => (nomatch e), fun h => h.elim⟩
@[scoped simp] theorem Wp.ofS {a : α} {K : α → S → Prop} : Wp (M.of (some a)) s K ↔ K a s := Wp.ret
@[scoped simp] theorem Wp.ofN {K : α → S → Prop} : Wp (M.of none) s K ↔ False := ⟨fun ⟨_, _, e, _⟩ => (nomatch e), fun h => h.elim⟩
theorem Wp.of {o : Option α} {a : α} {K : α → S → Prop} (h : o = some a) (k : K a s) : Wp (M.of o) s K := by rw [h]; exact Wp.ofS.mpr k
@[scoped simp] theorem Wp.ite {c : Prop} [Decidable c] {x y : M α} {K : α → S → Prop} : Wp (if c then x else y) s K ↔ if c then Wp x s K else Wp y s K := by
  split <;> exact Iff.rfl
theorem getS_e (s : S) (i : Nat) : G.getS i s = (match s.l[i]? with | some (some v) => some (.ok v, s) | _ => none) := rfl
@[scoped simp] theorem Wp.getS {i : Nat} {K : RV → S → Prop} : Wp (G.getS i) s K ↔ (match s.l[i]? with | some (some v) => K v s | _ => False) := by
  unfold Wp
  rw [getS_e]
  generalize s.l[i]? = o
  match o with
  | none => exact ⟨fun h => by obtain ⟨_, _, z, _⟩ := h; exact (nomatch z), fun h => False.elim h⟩
  | some none => exact ⟨fun h => by obtain ⟨_, _, z, _⟩ := h; exact (nomatch z), fun h => False.elim h⟩
  | some (some v) => exact ⟨fun h => by obtain ⟨_, _, z, k⟩ := h; cases z; exact k, fun k => ⟨v, s, rfl, k⟩⟩
@[scoped simp] theorem Wp.setS {i : Nat} {v : RV} {K : Unit → S → Prop} : Wp (G.setS i v) s K ↔ i < s.l.length ∧ K () { s with l := s.l.set i (some v) } := by
  unfold Wp G.setS
  by_cases h : i < s.l.length
  · rw [if_pos h]
    exact ⟨fun ⟨_, _, e, k⟩ => by cases e; exact ⟨h, k⟩, fun k => ⟨_, _, rfl, k.2⟩⟩
  · rw [if_neg h]
    exact ⟨fun ⟨_, _, e, _⟩ => (nomatch e), fun k => absurd k.1 h⟩
@[scoped simp] theorem Wp.delS {i : Nat} {K : Unit → S → Prop} : Wp (G.delS i) s K ↔ K () { s with l := s.l.set i none } := ⟨fun ⟨_, _, e, k⟩ => by cases e; exact k, fun k => ⟨_, _, rfl, k⟩⟩
@[scoped simp] theorem Wp.memAt {i : Nat} {K : MO → S → Prop} : Wp (G.memAt i) s K ↔ (match s.m[i]? with | some o => K o s | none => False) := by
  unfold Wp G.memAt
  cases h : s.m[i]? with
  | none => exact ⟨fun ⟨_, _, e, _⟩ => (nomatch e), fun h => h.elim⟩
  | some o => exact ⟨fun ⟨_, _, e, k⟩ => by cases e; exact k, fun k => ⟨_, _, rfl, k⟩⟩
@[scoped simp] theorem Wp.seenO {o : Bool} {i : Nat} {K : D → S → Prop} : Wp (G.seen (o, .obj i)) s K ↔ (match s.m[i]? with | some (.lst xs) => K (.lst xs) s | _ => False) := by
  unfold G.seen
  simp only [Wp.bind, Wp.memAt]
  cases s.m[i]? with
  | none => exact Iff.rfl
  | some o => cases o <;> simp
@[scoped simp] theorem Wp.seenI {o : Bool} {i : Int} {K : D → S → Prop} : Wp (G.seen (o, .int i)) s K ↔ K (.int i) s := Wp.ret
@[scoped simp] theorem Wp.seenB {o : Bool} {i : Bool} {K : D → S → Prop} : Wp (G.seen (o, .bl i)) s K ↔ K (.bl i) s := Wp.ret
@[scoped simp] theorem Wp.seenS {o : Bool} {i : Str} {K : D → S → Prop} : Wp (G.seen (o, .str i)) s K ↔ K (.str i) s := Wp.ret
@[scoped simp] theorem Wp.seenN {o : Bool} {K : D → S → Prop} : Wp (G.seen (o, .non)) s K ↔ K .non s := Wp.ret
@[scoped simp] theorem Wp.seenT {o : Bool} {i : List D} {K : D → S → Prop} : Wp (G.seen (o, .tup i)) s K ↔ K (.tup i) s := Wp.ret
@[scoped simp] theorem Wp.seenL {o : Bool} {i : List D} {K : D → S → Prop} : Wp (G.seen (o, .lst i)) s K ↔ K (.lst i) s := Wp.ret
@[scoped simp] theorem Wp.seenD {o : Bool} {i : List (D × D)} {K : D → S → Prop} : Wp (G.seen (o, .dic i)) s K ↔ K (.dic i) s := Wp.ret
@[scoped simp] theorem Wp.seenC {o : Bool} {i : List Int} {K : D → S → Prop} : Wp (G.seen (o, .scr i)) s K ↔ K (.scr i) s := Wp.ret
@[scoped simp] theorem sub_lst {xs : List D} {i : Int} : subscript (.lst xs) (.int i) = L2.atI xs i := rfl
@[scoped simp] theorem sub_tup {xs : List D} {i : Int} : subscript (.tup xs) (.int i) = L2.atI xs i := rfl
@[scoped simp] theorem binop_add {x y : D} : binop .add x y = addD x y := rfl
@[scoped simp] theorem binop_sub {x y : D} : binop .sub x y = subD x y := rfl
@[scoped simp] theorem binop_mul {x y : D} : binop .mul x y = mulD x y := rfl
@[scoped simp] theorem binop_fdiv {x y : D} : binop .fdiv x y = fdivD x y := rfl
@[scoped simp] theorem binop_mod {x y : D} : binop .mod x y = modD x y := rfl
@[scoped simp] theorem binop_pow {x y : D} : binop .pow x y = powD x y := rfl
@[scoped simp] theorem add_int {i j : Int} : addD (.int i) (.int j) = some (false, .int (i + j)) := rfl
@[scoped simp] theorem sub_int {i j : Int} : subD (.int i) (.int j) = some (false, .int (i - j)) := rfl
@[scoped simp] theorem mul_int {i j : Int} : mulD (.int i) (.int j) = if i.natAbs < 2 ^ 64 ∨ j.natAbs < 2 ^ 64 then some (false, .int (i * j)) else none := rfl
@[scoped simp] theorem fdiv_int {i j : Int} : fdivD (.int i) (.int j) = if 0 < j ∧ j < 1073741824 then some (false, .int (i / j)) else none := rfl
@[scoped simp] theorem mod_int {i j : Int} : modD (.int i) (.int j) = if 0 < j then some (false, .int (i % j)) else none := rfl
@[scoped simp] theorem eq_int {i j : Int} : eqD (.int i) (.int j) = some (decide (i = j)) := by simp [eqD, D.flat, D.dep, D.eqv]; rfl
@[scoped simp] theorem eq_str {i j : Str} : eqD (.str i) (.str j) = some (decide (i = j)) := rfl
@[scoped simp] theorem cmp_eq {x y : D} : compare .eq x y = eqD x y := rfl
@[scoped simp] theorem cmp_ne {x y : D} : compare .ne x y = (eqD x y).map (!·) := rfl
@[scoped simp] theorem cmp_lt {x y : Int} : compare .lt (.int x) (.int y) = some (decide (x < y)) := rfl
@[scoped simp] theorem cmp_gt {x y : Int} : compare .gt (.int x) (.int y) = some (decide (y < x)) := rfl
@[scoped simp] theorem cmp_ge {x y : Int} : compare .ge (.int x) (.int y) = some (decide (y ≤ x)) := rfl
@[scoped simp] theorem len_lst {xs : List D} : builtin .len [.lst xs] = some (false, .int xs.length) := rfl
@[scoped simp] theorem len_tup {xs : List D} : builtin .len [.tup xs] = some (false, .int xs.length) := rfl
@[scoped simp] theorem truth_bl {b : Bool} : D.truth (.bl b) = some b := rfl
@[scoped simp] theorem Wp.setMem {i : Nat} {v : MO} {K : Unit → S → Prop} : Wp (G.setMem i v) s K ↔ i < s.m.length ∧ K () { s with m := s.m.set i v } := by
  unfold Wp G.setMem
  by_cases h : i < s.m.length
  · rw [if_pos h]
    exact ⟨fun ⟨_, _, e, k⟩ => by cases e; exact ⟨h, k⟩, fun k => ⟨_, _, rfl, k.2⟩⟩
  · rw [if_neg h]
    exact ⟨fun ⟨_, _, e, _⟩ => (nomatch e), fun k => absurd k.1 h⟩
@[scoped simp] theorem Wp.newM {xs : List D} {K : RV → S → Prop} : Wp (G.newM xs) s K ↔ K (false, .obj s.m.length) { s with m := s.m ++ [.lst xs] } := ⟨fun ⟨_, _, e, k⟩ => by cases e; exact k, fun k => ⟨_, _, rfl, k⟩⟩
@[scoped simp] theorem Wp.wipeM {is : List Nat} {K : Unit → S → Prop} : Wp (G.wipeM is) s K ↔ K () { s with l := is.foldl (fun l i => l.set i none) s.l } := ⟨fun ⟨_, _, e, k⟩ => by cases e; exact k, fun k => ⟨_, _, rfl, k⟩⟩
@[scoped simp] theorem Wp.calmM {x : M α} {K : α → S → Prop} : Wp (G.calmM x) s K ↔ Wp x s K := by
  unfold Wp G.calmM
  constructor
  · rintro ⟨a, s', e, k⟩
    cases h : x s with
    | none => rw [h] at e; cases e
    | some r =>
      obtain ⟨r, s1⟩ := r
      rw [h] at e
      cases r with
      | ok a => cases e; exact ⟨_, _, rfl, k⟩
      | exn a => cases e
  · rintro ⟨a, s', e, k⟩
    exact ⟨a, s', by rw [e], k⟩
/-- what a call tells -/
def Says (c : Call) (vs : List RV) (m : Mem) (K : RV → Mem → Prop) : Prop := ∃ r m', c vs m = some (.ok r, m') ∧ K r m'
theorem Says.mono {c : Call} {vs : List RV} {m : Mem} {K K' : RV → Mem → Prop} (h : Says c vs m K) (hk : ∀ a s', K a s' → K' a s') : Says c vs m K' := let ⟨a, s', e, k⟩ := h; ⟨a, s', e, hk a s' k⟩
@[scoped simp] theorem Wp.callM {c : Call} {vs : List RV} {K : RV → S → Prop} : Wp (G.callM c vs) s K ↔ Says c vs s.m (fun r m => K r { s with m := m }) := by
  unfold Wp G.callM Says
  constructor
  · rintro ⟨a, s', e, k⟩
    cases h : c vs s.m with
    | none => rw [h] at e; cases e
    | some r =>
      obtain ⟨r, s1⟩ := r
      rw [h] at e
      cases r with
      | ok a => cases e; exact ⟨_, _, rfl, k⟩
      | exn a => cases e
  · rintro ⟨a, m', e, k⟩
    exact ⟨a, { s with m := m' }, by rw [e], k⟩
theorem says_def {P : Prog} {Γ : Gam} {d : Def} {vs : List RV} {m : Mem} {K : RV → Mem → Prop} (hl : vs.length = d.params)
    (h : Wp (exs P Γ d.body) ⟨vs.map some ++ List.replicate (d.slots - d.params) none, m⟩ (fun f s => match f with
      | .ret v => K (gc m.length v s.m).1 (gc m.length v s.m).2
      | .next => K (gc m.length (false, .non) s.m).1 (gc m.length (false, .non) s.m).2
      | .brk => False)) : Says (runDef P Γ d) vs m K := by
  obtain ⟨f, s', e, k⟩ := h
  unfold Says runDef
  rw [if_pos hl, e]
  cases f with
  | next => exact ⟨_, _, rfl, k⟩
  | brk => exact k.elim
  | ret v => exact ⟨_, _, rfl, k⟩
end
section
variable {P : Prog} {Γ : Gam} {s : S}
@[scoped simp] theorem Wp.storeV {i : Nat} {v : RV} {K : Unit → S → Prop} : Wp (store P Γ (.var i) v) s K ↔ i < s.l.length ∧ K () { s with l := s.l.set i (some v) } := by
  unfold store
  exact Wp.setS
@[scoped simp] theorem Wp.memCh {k : Nat} {f : D → Option (RV × D)} {K : RV → S → Prop} : Wp (G.memCh k f) s K ↔ (match s.m[k]? with
    | some (.lst xs) => (match f (.lst xs) with
      | some (r, .lst ys) => k < s.m.length ∧ K r { s with m := s.m.set k (.lst ys) }
      | _ => False)
    | _ => False) := by
  unfold G.memCh
  simp only [Wp.bind, Wp.memAt]
  cases s.m[k]? with
  | none => exact Iff.rfl
  | some o =>
    cases o with
    | ins _ _ => simp
    | lst xs =>
      simp only
      cases f (.lst xs) with
      | none => simp
      | some q =>
        obtain ⟨r, d⟩ := q
        cases d <;> simp
@[scoped simp] theorem Wp.slotCh {i : Nat} {f : D → Option (RV × D)} {K : RV → S → Prop} : Wp (G.slotCh i f) s K ↔ (match s.l[i]? with
    | some (some (_, .obj k)) => Wp (G.memCh k f) s K
    | some (some (true, d)) => (match f d with
      | some (r, d') => i < s.l.length ∧ K r { s with l := s.l.set i (some (true, d')) }
      | none => False)
    | _ => False) := by
  unfold G.slotCh
  simp only [Wp.bind, Wp.getS]
  cases h : s.l[i]? with
  | none => exact Iff.rfl
  | some o =>
    cases o with
    | none => exact Iff.rfl
    | some v =>
      obtain ⟨o, d⟩ := v
      simp only
      cases d with
      | obj k => exact Iff.rfl
      | _ =>
        cases o with
        | false => simp
        | true =>
          simp only
          split <;> simp_all
@[scoped simp] theorem Wp.storeS {i : Nat} {e : E} {v : RV} {K : Unit → S → Prop} : Wp (store P Γ (.sub (.var i) e) v) s K ↔ (match s.l[i]? with
    | some (some _) => Wp (ev P Γ false e) s (fun k s' => Wp (G.slotCh i (putD v.2 [k.2])) s' fun _ s' => K () s')
    | _ => False) := by
  unfold store putPl
  simp only [Wp.bind, Wp.getS, Wp.ret]
@[scoped simp] theorem Wp.varM {i : Nat} {K : RV → S → Prop} : Wp (G.varM i) s K ↔ (match s.l[i]? with
    | some (some (true, d)) => i < s.l.length ∧ K (false, d) { s with l := s.l.set i (some (false, d)) }
    | some (some (false, d)) => K (false, d) s
    | _ => False) := by
  unfold G.varM
  simp only [Wp.bind, Wp.getS, Wp.ret]
  cases s.l[i]? with
  | none => exact Iff.rfl
  | some o =>
    cases o with
    | none => exact Iff.rfl
    | some v =>
      obtain ⟨o, d⟩ := v
      cases o <;> simp
@[scoped simp] theorem Wp.takeM {i : Nat} {K : RV → S → Prop} : Wp (G.takeM i) s K ↔ (match s.l[i]? with
    | some (some v) => K v { s with l := s.l.set i none }
    | _ => False) := by
  unfold G.takeM
  simp only [Wp.bind, Wp.getS, Wp.ret, Wp.delS]
end
theorem Wp.exs_cons {P : Prog} {Γ : Gam} {st : Sm} {r : List Sm} {s : S} {K : Fl → S → Prop} : Wp (exs P Γ (st :: r)) s K ↔ Wp (ex P Γ st) s (fun f s' => match f with | .next => Wp (exs P Γ r) s' K | f => K f s') := by
  conv => lhs; unfold exs
  simp only [Wp.bind]
  constructor
  · intro h
    refine h.mono fun f s' k => ?_
    cases f <;> first | exact k | exact Wp.ret.mp k
  · intro h
    refine h.mono fun f s' k => ?_
    cases f <;> first | exact k | exact Wp.ret.mpr k
@[scoped simp] theorem Wp.exs_nil {P : Prog} {Γ : Gam} {s : S} {K : Fl → S → Prop} : Wp (exs P Γ []) s K ↔ K .next s := by
  unfold exs
  exact Wp.ret
/-! walks -/
theorem Wp.forL {x : Tg} {b : M Fl} {ok : M Bool} {ds : List D} {s : S} {K : Fl → S → Prop} (I : Nat → S → Prop) (h0 : I 0 s)
    (hs : ∀ i d s, ds[i]? = some d → I i s → Wp ok s (fun k s1 => k = true ∧ Wp (tgStore x d) s1 (fun _ s2 => Wp b s2 (fun f s3 => match f with | .next => I (i + 1) s3 | .brk => K .next s3 | .ret v => K (.ret v) s3))))
    (hd : ∀ s, I ds.length s → Wp ok s (fun k s1 => k = true ∧ K .next s1)) : Wp (forL x b ok ds) s K := by
  have go : ∀ (n i : Nat) (s : S), n = ds.length - i → i ≤ ds.length → I i s → Wp (G.forL x b ok (ds.drop i)) s K := by
    intro n
    induction n with
    | zero =>
      intro i s hn hi h
      have : i = ds.length := by omega
      subst this
      rw [List.drop_length]
      unfold G.forL
      rw [Wp.bind]
      refine (hd s h).mono fun k s1 z => ?_
      rw [z.1]
      exact Wp.ret.mpr z.2
    | succ n ih =>
      intro i s hn hi h
      have hlt : i < ds.length := by omega
      rw [List.drop_eq_getElem_cons hlt]
      unfold G.forL
      rw [Wp.bind]
      refine (hs i ds[i] s (List.getElem?_eq_getElem hlt) h).mono fun k s1 z => ?_
      rw [z.1]
      simp only [if_true, Wp.bind]
      refine z.2.mono fun _ s2 z => z.mono fun f s3 z => ?_
      cases f with
      | next => exact ih (i + 1) s3 (by omega) hlt z
      | brk => exact Wp.ret.mpr z
      | ret v => exact Wp.ret.mpr z
  exact go _ 0 s rfl (Nat.zero_le _) h0
theorem Wp.compL {x : Tg} {t : Option (M RV)} {e : M RV} {ok : M Bool} {ds acc : List D} {s : S} {K : RV → S → Prop} (I : Nat → List D → S → Prop) (h0 : I 0 acc s)
    (hs : ∀ i d acc s, ds[i]? = some d → I i acc s → Wp ok s (fun k s1 => k = true ∧ Wp (tgStore x d) s1 (fun _ s2 => Wp (testM t) s2 (fun go s3 => if go = true then
      Wp e s3 (fun v s4 => acc.length < sizeMax ∧ I (i + 1) (acc ++ [v.2]) { s4 with l := x.slots.foldl (fun l i => l.set i none) s4.l }) else I (i + 1) acc { s3 with l := x.slots.foldl (fun l i => l.set i none) s3.l }))))
    (hd : ∀ acc s, I ds.length acc s → Wp ok s (fun k s1 => k = true ∧ K (true, .lst acc) s1)) : Wp (compL x t e ok ds acc) s K := by
  have go : ∀ (n i : Nat) (acc : List D) (s : S), n = ds.length - i → i ≤ ds.length → I i acc s → Wp (G.compL x t e ok (ds.drop i) acc) s K := by
    intro n
    induction n with
    | zero =>
      intro i acc s hn hi h
      have : i = ds.length := by omega
      subst this
      rw [List.drop_length]
      unfold G.compL
      rw [Wp.bind]
      refine (hd acc s h).mono fun k s1 z => ?_
      rw [z.1]
      exact Wp.ret.mpr z.2
    | succ n ih =>
      intro i acc s hn hi h
      have hlt : i < ds.length := by omega
      rw [List.drop_eq_getElem_cons hlt]
      unfold G.compL
      rw [Wp.bind]
      refine (hs i ds[i] acc s (List.getElem?_eq_getElem hlt) h).mono fun k s1 z => ?_
      rw [z.1]
      simp only [if_true, Wp.bind]
      refine z.2.mono fun _ s2 z => z.mono fun go s3 z => ?_
      cases go with
      | true =>
        simp only [if_true, Wp.bind] at z ⊢
        refine z.mono fun v s4 z => ?_
        rw [if_pos z.1]
        simp only [Wp.bind, Wp.wipeM]
        exact ih (i + 1) _ _ (by omega) hlt z.2
      | false =>
        simp only [Bool.false_eq_true, if_false, Wp.bind, Wp.wipeM] at z ⊢
        exact ih (i + 1) _ _ (by omega) hlt z
  exact go _ 0 acc s rfl (Nat.zero_le _) h0
theorem Wp.whileL {c : M Bool} {b : M Fl} {n : Nat} {s : S} {K : Fl → S → Prop} (I : Nat → S → Prop) (k : Nat) (hk : k < n) (h0 : I k s)
    (hs : ∀ k s, I k s → Wp c s (fun t s1 => if t = true then 0 < k ∧ Wp b s1 (fun f s2 => match f with | .next => I (k - 1) s2 | .brk => K .next s2 | .ret v => K (.ret v) s2) else K .next s1)) : Wp (whileL c b n) s K := by
  induction n generalizing k s with
  | zero => omega
  | succ n ih =>
    unfold G.whileL
    rw [Wp.bind]
    refine (hs k s h0).mono fun t s1 z => ?_
    cases t with
    | false => exact Wp.ret.mpr z
    | true =>
      simp only [if_true, Wp.bind] at z ⊢
      refine z.2.mono fun f s2 z2 => ?_
      cases f with
      | next => exact ih (k - 1) (by omega) z2
      | brk => exact Wp.ret.mpr z2
      | ret v => exact Wp.ret.mpr z2
def gam (P : Prog) (n : Nat) : Gam := ⟨callN P n, fun c us m' => match n with
  | 0 => none
  | k + 1 => make P (callN P k) c us m'⟩
@[scoped simp] theorem gam_fn {P : Prog} {n x : Nat} : (gam P n).fn x = callN P n x := rfl
/-- a def, by its body -/
theorem says_fn {P : Prog} {n x : Nat} {d : Def} (h : P.df x = some d) {vs : List RV} {m : Mem} {K : RV → Mem → Prop} (hl : vs.length = d.params)
    (hb : Wp (exs P (gam P n) d.body) ⟨vs.map some ++ List.replicate (d.slots - d.params) none, m⟩ (fun f s => match f with
      | .ret v => K (gc m.length v s.m).1 (gc m.length v s.m).2
      | .next => K (gc m.length (false, .non) s.m).1 (gc m.length (false, .non) s.m).2
      | .brk => False)) : Says (callN P (n + 1) x) vs m K := by
  have q := says_def hl hb
  unfold Says at q ⊢
  unfold callN
  rw [h]
  exact q
/-- what is left of a block, to be looked at later -/
def Rest (P : Prog) (Γ : Gam) (r : List Sm) (s : S) (K : Fl → S → Prop) : Prop := Wp (exs P Γ r) s K
theorem Wp.step {P : Prog} {Γ : Gam} {st : Sm} {r : List Sm} {s : S} {K : Fl → S → Prop} : Wp (exs P Γ (st :: r)) s K ↔ Wp (ex P Γ st) s (fun f s' => match f with | .next => Rest P Γ r s' K | f => K f s') := Wp.exs_cons
section
variable {P : Prog} {Γ : Gam} {s : S}
@[scoped simp] theorem Wp.listS {i : Nat} {K : Unit → S → Prop} : Wp (G.listS i) s K ↔ (match s.l[i]? with
    | some (some (true, .lst _)) => K () s
    | some (some (_, .obj k)) => (match s.m[k]? with
      | some (.lst _) => K () s
      | _ => False)
    | _ => False) := by
  unfold G.listS
  simp only [Wp.bind, Wp.getS]
  cases s.l[i]? with
  | none => exact Iff.rfl
  | some o =>
    cases o with
    | none => exact Iff.rfl
    | some v =>
      obtain ⟨o, d⟩ := v
      simp only
      cases d with
      | obj k =>
        simp only [Wp.bind, Wp.memAt]
        cases s.m[k]? with
        | none => cases o <;> exact Iff.rfl
        | some q => cases q <;> simp
      | lst xs => cases o <;> simp
      | _ => cases o <;> simp
@[scoped simp] theorem app_lst {xs : List D} {x : D} : change .append (.lst xs) [x] = if xs.length < sizeMax then some ((false, .non), .lst (xs ++ [x])) else none := rfl
@[scoped simp] theorem storeT {ts : List Ta} {o : Bool} {ds : List D} : store P Γ (.tup ts) (o, .tup ds) = storeL P Γ ts ds := by
  conv => lhs; unfold store
@[scoped simp] theorem storeL_nil : storeL P Γ [] [] = M.ret () := by
  conv => lhs; unfold storeL
@[scoped simp] theorem storeL_cons {t : Ta} {ts : List Ta} {d : D} {ds : List D} : storeL P Γ (t :: ts) (d :: ds) = (do
    store P Γ t (false, d)
    storeL P Γ ts ds) := by
  conv => lhs; unfold storeL
end
end G.Pl

set_option linter.all false
set_option maxRecDepth 100000
set_option maxHeartbeats 4000000
namespace G.Pl
open PySem
namespace Wp
end Wp
open scoped Wp
def d_pick : Def := { params := 2, slots := 4, body := [.ite (.and [.cmp .eq (.sub (.var 0) (.con (.int 2))) (.con (.int 0)), .cmp .lt (.sub (.var 0) (.con (.int 1))) (.blt .len (.sub (.var 0) (.con (.int 0))))]) [.asg (.var 2) (.sub (.sub (.var 0) (.con (.int 0))) (.sub (.var 0) (.con (.int 1)))), .asg (.sub (.var 0) (.con (.int 1))) (.bin .add (.sub (.var 0) (.con (.int 1))) (.con (.int 1))), .ite (.cmp .ge (.var 2) (.bin .pow (.con (.int 10)) (.con (.int 18)))) [.asg (.sub (.var 0) (.con (.int 2))) (.var 2)] [.asg (.sub (.var 0) (.con (.int 3))) (.bin .mod (.bin .add (.bin .add (.bin .mul (.sub (.var 0) (.con (.int 3))) (.con (.int 40013))) (.bin .mod (.var 2) (.con (.int 1000003)))) (.con (.int 1))) (.con (.int 2147483647)))]] [], .ite (.cmp .gt (.sub (.var 0) (.con (.int 2))) (.con (.int 0))) [.asg (.var 3) (.bin .mod (.sub (.var 0) (.con (.int 2))) (.var 1)), .asg (.sub (.var 0) (.con (.int 2))) (.bin .fdiv (.sub (.var 0) (.con (.int 2))) (.var 1)), .ret (.take 3)] [], .asg (.sub (.var 0) (.con (.int 4))) (.bin .add (.sub (.var 0) (.con (.int 4))) (.con (.int 1))), .asg (.sub (.var 0) (.con (.int 3))) (.bin .mod (.bin .add (.bin .add (.bin .mul (.sub (.var 0) (.con (.int 3))) (.con (.int 48271))) (.con (.int 12820163))) (.sub (.var 0) (.con (.int 4)))) (.con (.int 2147483647))), .ret (.bin .mod (.bin .fdiv (.bin .mod (.bin .mul (.bin .add (.bin .mod (.sub (.var 0) (.con (.int 3))) (.con (.int 65521))) (.con (.int 1))) (.bin .add (.bin .fdiv (.sub (.var 0) (.con (.int 3))) (.con (.int 65521))) (.con (.int 7919)))) (.con (.int 1000003))) (.con (.int 7))) (.var 1))] }
structure Flow where
  cs : List Int
  a : Int
  dg : Int
  mx : Int
  ct : Int
def Flow.d (f : Flow) : List D := [.lst (f.cs.map .int), .int f.a, .int f.dg, .int f.mx, .int f.ct]
structure Flow.Ok (f : Flow) : Prop where
  a0 : 0 ≤ f.a
  a1 : f.a ≤ f.cs.length
  dg : 0 ≤ f.dg
  mx : 0 ≤ f.mx
  mx1 : f.mx < 2147483647
theorem ix_lt {n : Nat} {i : Int} (h0 : 0 ≤ i) (h1 : i < n) : L2.ixN n i = some i.toNat := by
  unfold L2.ixN
  rw [if_pos h0, if_pos h1]
theorem atI_of {α : Type} {xs : List α} {i : Int} (h0 : 0 ≤ i) (h1 : i < xs.length) : L2.atI xs i = some (xs[i.toNat]'(by omega)) := by
  unfold L2.atI
  rw [ix_lt h0 h1]
  simp
section
variable {f : Flow} {x : Int}
@[scoped simp] theorem fl0 : L2.atI f.d 0 = some (.lst (f.cs.map .int)) := rfl
@[scoped simp] theorem fl1 : L2.atI f.d 1 = some (.int f.a) := rfl
@[scoped simp] theorem fl2 : L2.atI f.d 2 = some (.int f.dg) := rfl
@[scoped simp] theorem fl3 : L2.atI f.d 3 = some (.int f.mx) := rfl
@[scoped simp] theorem fl4 : L2.atI f.d 4 = some (.int f.ct) := rfl
@[scoped simp] theorem fs1 : putD (.int x) [.int 1] (.lst f.d) = some ((false, .non), .lst ({ f with a := x } : Flow).d) := rfl
@[scoped simp] theorem fs2 : putD (.int x) [.int 2] (.lst f.d) = some ((false, .non), .lst ({ f with dg := x } : Flow).d) := rfl
@[scoped simp] theorem fs3 : putD (.int x) [.int 3] (.lst f.d) = some ((false, .non), .lst ({ f with mx := x } : Flow).d) := rfl
@[scoped simp] theorem fs4 : putD (.int x) [.int 4] (.lst f.d) = some ((false, .non), .lst ({ f with ct := x } : Flow).d) := rfl
end
theorem gc_same {n : Nat} {v : RV} {m : Mem} (h : m.length = n) : gc n v m = (v, m) := by
  unfold gc
  split
  · rw [List.take_of_length_le (Nat.le_of_eq h)]
  · rfl
theorem pick_body {P : Prog} {Γ : Gam} {m : Mem} {k : Nat} (hk : k < m.length) {f : Flow} (ok : f.Ok) {many : Int} (h0 : 0 < many) (h1 : many < 1073741824) {K : Fl → S → Prop}
    (hK : ∀ l x f', 0 ≤ x → x < many → Flow.Ok f' → K (.ret (false, .int x)) ⟨l, m.set k (.lst f'.d)⟩) : Wp (exs P Γ d_pick.body) ⟨[some (false, .obj k), some (false, .int many), none, none], m.set k (.lst f.d)⟩ K := by
  have fin : ∀ (f : Flow) (c : Option RV), f.Ok → Wp (exs P Γ (d_pick.body.drop 1)) ⟨[some (false, .obj k), some (false, .int many), c, none], m.set k (.lst f.d)⟩ K := by
    intro f c ok
    by_cases hd : 0 < f.dg
    · simp [d_pick, exs, ex, ev, hk, E.isVar, E.isFld, again, hd, h0, h1]
      refine hK _ _ _ (Int.emod_nonneg _ (by omega)) (Int.emod_lt_of_pos _ h0) ?_
      exact ⟨ok.a0, ok.a1, Int.ediv_nonneg (by omega) (by omega), ok.mx, ok.mx1⟩
    · have hm : ∀ z : Int, (z % 65521 + 1).natAbs < 18446744073709551616 := by intro z; omega
      simp [d_pick, exs, ex, ev, hk, E.isVar, E.isFld, again, hd, h0, h1, hm]
      refine hK _ _ _ (Int.emod_nonneg _ (by omega)) (Int.emod_lt_of_pos _ h0) ?_
      exact ⟨ok.a0, ok.a1, ok.dg, Int.emod_nonneg _ (by omega), Int.emod_lt_of_pos _ (by omega)⟩
  have hb : d_pick.body = d_pick.body.head (by decide) :: d_pick.body.drop 1 := rfl
  rw [hb, Wp.exs_cons]
  generalize d_pick.body.drop 1 = t at fin
  by_cases hd : f.dg = 0
  · by_cases ha : f.a < f.cs.length
    · have hc : L2.atI (f.cs.map D.int) f.a = some (.int (f.cs[f.a.toNat]'(by have := ok.a0; omega))) := by
        rw [atI_of ok.a0 (by simpa using ha)]
        simp
      generalize (f.cs[f.a.toNat]'(by have := ok.a0; omega)) = cell at hc
      by_cases hl : 1000000000000000000 ≤ cell
      · simp [d_pick, exs, ex, ev, evAnd, boolM, hk, E.isVar, E.isFld, again, hd, ha, hc, powD, hl]
        have := ok.a0
        exact fin { f with a := f.a + 1, dg := cell } _ ⟨by show (0 : Int) ≤ f.a + 1; omega, by show f.a + 1 ≤ (f.cs.length : Int); omega, by show (0 : Int) ≤ cell; omega, ok.mx, ok.mx1⟩
      · simp [d_pick, exs, ex, ev, evAnd, boolM, hk, E.isVar, E.isFld, again, hd, ha, hc, powD, hl]
        have := ok.a0
        exact fin { f with a := f.a + 1, dg := 0, mx := (f.mx * 40013 + cell % 1000003 + 1) % 2147483647 } _ ⟨by show (0 : Int) ≤ f.a + 1; omega, by show f.a + 1 ≤ (f.cs.length : Int); omega, by show (0 : Int) ≤ 0; omega, Int.emod_nonneg _ (by omega), Int.emod_lt_of_pos _ (by omega)⟩
    · simp [d_pick, exs, ex, ev, evAnd, boolM, hk, E.isVar, E.isFld, again, hd, ha]
      exact fin _ _ ok
  · simp [d_pick, exs, ex, ev, evAnd, boolM, hk, E.isVar, E.isFld, again, hd]
    exact fin _ _ ok
/-- the flow, as it stands at the memory's head -/
def fl (f : Flow) : MO := .lst f.d
theorem gc_len {n : Nat} {v : RV} {m : Mem} (h : m.length = n) : gc n v m = (v, m) := gc_same h
/-- a call that draws: the flow stands first in the memory, all else stays -/
def Draws (c : Call) (vs : List RV) (post : RV → Prop) : Prop := ∀ f m, Flow.Ok f → Says c vs (fl f :: m) (fun r mm => ∃ f', Flow.Ok f' ∧ mm = fl f' :: m ∧ post r)
theorem pick_draws {P : Prog} {n : Nat} (h : P.df 2 = some d_pick) {many : Int} (h0 : 0 < many) (h1 : many < 1073741824) : Draws (callN P (n + 1) 2) [(false, .obj 0), (false, .int many)] (fun r => ∃ x : Int, r = (false, .int x) ∧ 0 ≤ x ∧ x < many) := by
  intro f m ok
  refine says_fn h rfl ?_
  exact pick_body (P := P) (Γ := gam P n) (m := fl f :: m) (k := 0) (by simp) ok h0 h1 (fun l x f' a b c => by
    have g : gc (fl f :: m).length (false, D.int x) ((fl f :: m).set 0 (.lst f'.d)) = ((false, D.int x), fl f' :: m) := gc_len (by simp)
    exact ⟨f', c, congrArg Prod.snd g, x, congrArg Prod.fst g, a, b⟩)
end G.Pl

set_option linter.all false
set_option maxRecDepth 100000
set_option maxHeartbeats 4000000
namespace G.Pl
open PySem
namespace Wp
end Wp
open scoped Wp
def NameS (t : Str) : Prop := PyData.strOk t = true ∧ t.length ≤ 1000
def NameD (d : D) : Prop := ∃ t, d = .str t ∧ NameS t
theorem asStrs_of : ∀ {ds : List D} {ys : List Str}, ds = ys.map D.str → asStrs ds = some ys
  | _, [], h => by subst h; rfl
  | _, y :: ys, h => by
    subst h
    show (asStrs (ys.map D.str)).map (y :: ·) = _
    rw [asStrs_of rfl]
    rfl
/-- texts of one sign each -/
structure Signs (ds : List D) : Prop where
  ex : ∃ ys : List Str, ds = ys.map D.str ∧ ∀ y ∈ ys, PyData.strOk y = true ∧ y.length = 1
theorem sum_ones : ∀ {ys : List Str}, (∀ y ∈ ys, y.length = 1) → (ys.map (·.length)).sum = ys.length
  | [], _ => rfl
  | y :: ys, h => by
    rw [List.map_cons, List.sum_cons, h y List.mem_cons_self, sum_ones fun z hz => h z (List.mem_cons_of_mem _ hz)]
    simp; omega
@[scoped simp] theorem range_len {lo : Int} {n : Nat} : (rangeD lo n).length = n := by simp [rangeD]
def d_letters : Def := { params := 2, slots := 3, body := [.ret (.bm1 .join (.con (.str "")) (.comp (.var 2) (.range1 (.var 1)) none (.sub (.con (.str "abcdefghijklmnopqrstuvwxyz")) (.call 2 [.var 0, .con (.int 26)]))))] }
end G.Pl

set_option linter.all false
set_option maxRecDepth 100000
set_option maxHeartbeats 4000000
namespace G.Pl
open PySem
namespace Wp
end Wp
open scoped Wp
def d_unlike : Def := { params := 2, slots := 3, body := [.asg (.var 2) (.con (.int 0)), .while_ (.or [.cmp .in_ (.var 0) (.var 1), .cmp .in_ (.var 0) (.tup [.con (.str "marks"), .con (.str "ways"), .con (.str "bar"), .con (.str "some"), .con (.str "each"), .con (.str "not"), .con (.str "and"), .con (.str "or"), .con (.str "is")])]) [.asg (.var 0) (.bin .mul (.sub (.con (.str "qxyzabcdefghijklmnoprstuvw")) (.bin .mod (.var 2) (.con (.int 26)))) (.bin .add (.con (.int 1)) (.bin .fdiv (.var 2) (.con (.int 26))))), .asg (.var 2) (.bin .add (.var 2) (.con (.int 1)))], .ret (.take 0)] }  -- 82: 0 _law_name, 1 _law_names, 2 _law_spare
def reserved : List D := [.str "marks", .str "ways", .str "bar", .str "some", .str "each", .str "not", .str "and", .str "or", .str "is"]
def letters26 : Str := "qxyzabcdefghijklmnoprstuvw"
def cand (k : Nat) : Str := ⟨#[letters26.cps.toList.getD k 0]⟩
structure Names (ds : List D) : Prop where
  nm : ∀ d ∈ ds, NameD d
theorem Names.flat : ∀ {ds : List D}, Names ds → D.flatL ds = true
  | [], _ => rfl
  | d :: ds, h => by
    obtain ⟨t, rfl, ht⟩ := h.nm d List.mem_cons_self
    show (PyData.strOk t && D.flatL ds) = true
    rw [ht.1, Names.flat ⟨fun x hx => h.nm x (List.mem_cons_of_mem _ hx)⟩]
    rfl
theorem Names.dep : ∀ {ds : List D}, Names ds → D.depL ds = 0
  | [], _ => rfl
  | d :: ds, h => by
    obtain ⟨t, rfl, ht⟩ := h.nm d List.mem_cons_self
    show max 0 (D.depL ds) = 0
    rw [Names.dep ⟨fun x hx => h.nm x (List.mem_cons_of_mem _ hx)⟩]
    rfl
theorem res_names : Names reserved := ⟨fun d hd => by
  have : ∀ d ∈ reserved, ∃ t ∈ ([("marks" : Str), "ways", "bar", "some", "each", "not", "and", "or", "is"] : List Str), d = .str t := by
    intro d hd
    simp only [reserved, List.mem_cons, List.not_mem_nil, or_false] at hd
    rcases hd with rfl | rfl | rfl | rfl | rfl | rfl | rfl | rfl | rfl <;> exact ⟨_, by simp, rfl⟩
  obtain ⟨t, ht, rfl⟩ := this d hd
  have h2 : ∀ t ∈ ([("marks" : Str), "ways", "bar", "some", "each", "not", "and", "or", "is"] : List Str), PyData.strOk t = true ∧ t.length ≤ 1000 := by decide +kernel
  exact ⟨t, rfl, h2 t ht⟩⟩
def taken (ds : List D) (t : Str) : Bool := (ds.any fun z => D.eqv z (.str t)) || (reserved.any fun z => D.eqv z (.str t))
theorem eqv_str {a b : Str} : D.eqv (.str a) (.str b) = decide (a = b) := rfl
theorem isIn_names {ds : List D} (hn : Names ds) {t : Str} (ht : NameS t) : isIn (.str t) (.lst ds) = some (ds.any fun z => D.eqv z (.str t)) := by
  show (if _ then _ else none) = _
  rw [if_pos ⟨ht.1, hn.flat, by show 0 ≤ 60; omega, by rw [hn.dep]; omega⟩]
theorem once {c : Str} : strTimes c 1 = c := by
  unfold strTimes
  simp
end G.Pl

set_option linter.all false
set_option maxRecDepth 100000
set_option maxHeartbeats 4000000
namespace G.Pl
open PySem
namespace Wp
end Wp
open scoped Wp
def d_rule : Def := { params := 1, slots := 8, body := [.asg (.tup [.var 1, .var 2]) (.sub (.lst [.tup [.con (.int 1), .con (.int 1)], .tup [.con (.int 1), .con (.int 2)], .tup [.con (.int 1), .con (.int 3)], .tup [.con (.int 2), .con (.int 1)], .tup [.con (.int 2), .con (.int 2)], .tup [.con (.int 2), .con (.int 3)], .tup [.con (.int 3), .con (.int 1)], .tup [.con (.int 3), .con (.int 2)]]) (.call 2 [.var 0, .con (.int 8)])), .asg (.var 3) (.lst [.con (.str "mark"), .con (.str "way"), .con (.str "bars"), .con (.str "somes"), .con (.str "eachx"), .con (.str "no"), .con (.str "an"), .con (.str "o"), .con (.str "isa"), .con (.str "x"), .con (.str "y"), .con (.str "waysx"), .con (.str "nott"), .con (.str "andor")]), .asg (.var 4) (.newl []), .for_ (.var 5) (.range1 (.bin .add (.var 1) (.var 2))) [.asg (.var 6) (.call 3 [.var 0, .bin .add (.con (.int 1)) (.call 2 [.var 0, .con (.int 8)])]), .ite (.cmp .eq (.call 2 [.var 0, .con (.int 4)]) (.con (.int 0))) [.asg (.var 6) (.sub (.var 3) (.call 2 [.var 0, .con (.int 14)]))] [], .mut (.var 4) .append [.call 82 [.var 6, .var 4]]], .asg (.var 7) (.sub (.lst [.lst [.lst [.con (.int 0)]], .lst [.lst [.con (.int 0), .con (.int 1)], .lst [.con (.int 1), .con (.int 0)]], .lst [.lst [.con (.int 0), .con (.int 1), .con (.int 2)], .lst [.con (.int 1), .con (.int 0), .con (.int 2)], .lst [.con (.int 0), .con (.int 2), .con (.int 1)]]]) (.bin .sub (.var 2) (.con (.int 1)))), .asg (.var 7) (.sub (.var 7) (.call 2 [.var 0, .blt .len (.var 7)])), .ret (.tup [.blt .tuple (.slice (.var 4) none (some (.var 1))), .blt .tuple (.comp (.var 5) (.range1 (.var 2)) none (.tup [.sub (.var 4) (.bin .add (.var 1) (.var 5)), .sub (.var 7) (.var 5)])), .tup []])] }  -- 18: 0 _law_flow_here, 1 _law_marks, 2 _law_many, 3 _law_near, 4 _law_names, 5 _law_k, 6 _law_name, 7 _law_backs
theorem pickK {P : Prog} {n : Nat} (h : P.df 2 = some d_pick) {many : Int} (h0 : 0 < many) (h1 : many < 1073741824) {f : Flow} {m : Mem} (ok : f.Ok) {K : RV → Mem → Prop} (hK : ∀ (x : Int) f', 0 ≤ x → x < many → Flow.Ok f' → K (false, .int x) (fl f' :: m)) : Says (callN P (n + 1) 2) [(false, .obj 0), (false, .int many)] (fl f :: m) K :=
  (pick_draws h h0 h1 f m ok).mono fun r mm ⟨f', ok', e, x, er, a, b⟩ => by subst e er; exact hK x f' a b ok'
/-- one of several, by a number -/
theorem one_of {p : D → Prop} {xs : List D} {x : Int} (h0 : 0 ≤ x) (h1 : x < xs.length) (hp : ∀ d ∈ xs, p d) : ∃ d, L2.atI xs x = some d ∧ p d := by
  rw [atI_of h0 h1]
  exact ⟨_, rfl, hp _ (List.getElem_mem _)⟩
mutual
theorem flat_under {n : Nat} : ∀ (d : D), D.flat d = true → D.under n d = true
  | .non, _ => rfl
  | .bl _, _ => rfl
  | .int _, _ => rfl
  | .str _, _ => rfl
  | .tup xs, h => flat_underL xs h
  | .lst xs, h => flat_underL xs h
  | .dic _, h => by cases h
  | .obj _, h => by cases h
  | .scr _, h => by cases h
  | .pin _, h => by cases h
theorem flat_underL {n : Nat} : ∀ (ds : List D), D.flatL ds = true → D.underL n ds = true
  | [], _ => rfl
  | d :: ds, h => by
    have h : (D.flat d && D.flatL ds) = true := h
    rw [Bool.and_eq_true] at h
    show (D.under n d && D.underL n ds) = true
    rw [flat_under d h.1, flat_underL ds h.2]
    rfl
end
theorem flatL_all : ∀ {ds : List D}, (∀ d ∈ ds, D.flat d = true) → D.flatL ds = true
  | [], _ => rfl
  | d :: ds, h => by
    show (D.flat d && D.flatL ds) = true
    rw [h d List.mem_cons_self, flatL_all fun x hx => h x (List.mem_cons_of_mem _ hx)]
    rfl
theorem sIx_none {n d : Nat} : HT.sIx n d none = d := rfl
theorem sIx_some {n d : Nat} {k : Int} (h0 : 0 ≤ k) (h1 : k ≤ n) : HT.sIx n d (some k) = k.toNat := by
  show (if k < 0 then (k + (n : Int)).toNat else min k.toNat n) = k.toNat
  rw [if_neg (by omega)]
  omega
theorem cut_hi {α : Type} {xs : List α} {k : Int} (h0 : 0 ≤ k) (h1 : k ≤ xs.length) : cut xs none (some k) = xs.take k.toNat := by
  unfold cut
  rw [sIx_none, sIx_some h0 h1]
  simp
theorem cut_lo {α : Type} {xs : List α} {k : Int} (h0 : 0 ≤ k) (h1 : k ≤ xs.length) : cut xs (some k) none = xs.drop k.toNat := by
  unfold cut
  rw [sIx_none, sIx_some h0 h1]
  rw [List.take_of_length_le (by simp)]
def near14 : List D := [.str "mark", .str "way", .str "bars", .str "somes", .str "eachx", .str "no", .str "an", .str "o", .str "isa", .str "x", .str "y", .str "waysx", .str "nott", .str "andor"]
theorem Names.snoc {ds : List D} (h : Names ds) {t : Str} (ht : NameS t) : Names (ds ++ [.str t]) := ⟨fun d hd => by
  rcases List.mem_append.mp hd with hd | hd
  · exact h.nm d hd
  · rw [List.mem_singleton] at hd; subst hd; exact ⟨t, rfl, ht⟩⟩
theorem Names.at {ds : List D} (h : Names ds) {x : Int} (h0 : 0 ≤ x) (h1 : x < ds.length) : ∃ t, L2.atI ds x = some (.str t) ∧ NameS t := by
  obtain ⟨d, e, t, rfl, ht⟩ := one_of (p := NameD) h0 h1 h.nm
  exact ⟨t, e, ht⟩
structure RuleD (d : D) (ms ws : List D) : Prop where
  e : d = .tup [.tup ms, .tup ws, .tup []]
  nms : Names ms
  m1 : 1 ≤ ms.length
  m3 : ms.length ≤ 3
  nws : ∀ w ∈ ws, ∃ nm, ∃ b : Int, w = .tup [nm, .int b] ∧ NameD nm
  w1 : 1 ≤ ws.length
  w3 : ws.length ≤ 3
def backs3 : List D := [.lst [.lst [.int 0]], .lst [.lst [.int 0, .int 1], .lst [.int 1, .int 0]], .lst [.lst [.int 0, .int 1, .int 2], .lst [.int 1, .int 0, .int 2], .lst [.int 0, .int 2, .int 1]]]
end G.Pl

set_option linter.all false
set_option maxRecDepth 100000
set_option maxHeartbeats 4000000
namespace G.Pl
open PySem
namespace Wp
end Wp
open scoped Wp
def d_place_names : Def := { params := 3, slots := 8, body := [.asg (.var 3) (.comp (.var 6) (.seq (.bin .add (.blt .list (.sub (.var 1) (.con (.int 0)))) (.comp (.var 7) (.seq (.sub (.var 1) (.con (.int 1)))) none (.sub (.var 7) (.con (.int 0)))))) (some (.cmp .lt (.blt .len (.var 6)) (.con (.int 4)))) (.var 6)), .asg (.var 4) (.newl []), .for_ (.var 5) (.range1 (.var 2)) [.asg (.var 6) (.call 3 [.var 0, .bin .add (.con (.int 1)) (.call 2 [.var 0, .con (.int 3)])]), .ite (.cmp .eq (.call 2 [.var 0, .con (.int 4)]) (.con (.int 0))) [.asg (.var 6) (.sub (.bin .add (.lst [.con (.str "no"), .con (.str "an"), .con (.str "so"), .con (.str "ors"), .con (.str "iss"), .con (.str "nt"), .con (.str "b"), .con (.str "ea")]) (.var 3)) (.call 2 [.var 0, .bin .add (.con (.int 8)) (.blt .len (.var 3))]))] [], .mut (.var 4) .append [.call 82 [.var 6, .var 4]]], .ret (.take 4)] }  -- 85: 0 _law_flow_here, 1 _law_rule_here, 2 _law_many, 3 _law_short, 4 _law_names, 5 _law_k, 6 _law_name, 7 _law_pair
@[scoped simp] theorem atI0 {α : Type} {x : α} {xs : List α} : L2.atI (x :: xs) 0 = some x := by
  rw [atI_of (by omega) (by simp)]
  rfl
@[scoped simp] theorem atI1 {α : Type} {x y : α} {xs : List α} : L2.atI (x :: y :: xs) 1 = some y := by
  rw [atI_of (by omega) (by simp; omega)]
  rfl
@[scoped simp] theorem atI2 {α : Type} {x y z : α} {xs : List α} : L2.atI (x :: y :: z :: xs) 2 = some z := by
  rw [atI_of (by omega) (by simp; omega)]
  rfl
@[scoped simp] theorem atI3 {α : Type} {x y z u : α} {xs : List α} : L2.atI (x :: y :: z :: u :: xs) 3 = some u := by
  rw [atI_of (by omega) (by simp; omega)]
  rfl
@[scoped simp] theorem list_tup {xs : List D} : builtin .list [.tup xs] = some (true, .lst xs) := rfl
@[scoped simp] theorem list_lst {xs : List D} : builtin .list [.lst xs] = some (true, .lst xs) := rfl
@[scoped simp] theorem tuple_lst {xs : List D} : builtin .tuple [.lst xs] = some (false, .tup xs) := rfl
@[scoped simp] theorem add_lst {xs ys : List D} : addD (.lst xs) (.lst ys) = if xs.length + ys.length ≤ sizeMax then some (true, .lst (xs ++ ys)) else none := rfl
@[scoped simp] theorem seq_tup {xs : List D} : D.seq (.tup xs) = some xs := rfl
@[scoped simp] theorem seq_lst {xs : List D} : D.seq (.lst xs) = some xs := rfl
theorem NameS.len {t : Str} (h : NameS t) : builtin .len [.str t] = some (false, .int t.length) := by
  show (if t.length ≤ sizeMax then _ else none) = _
  rw [if_pos (by have := h.2; show _ ≤ 16777216; omega)]
def near8 : List D := [.str "no", .str "an", .str "so", .str "ors", .str "iss", .str "nt", .str "b", .str "ea"]
theorem Names.append {a b : List D} (ha : Names a) (hb : Names b) : Names (a ++ b) := ⟨fun d hd => (List.mem_append.mp hd).elim (ha.nm d) (hb.nm d)⟩
theorem gc_keep {n : Nat} {v : RV} {m : Mem} (h : v.2.under n = false) : gc n v m = (v, m) := by
  unfold gc
  rw [h]
  rfl
end G.Pl

set_option linter.all false
set_option maxRecDepth 100000
set_option maxHeartbeats 4000000
namespace G.Pl
open PySem
namespace Wp
end Wp
open scoped Wp
def d_name1 : Def := { params := 2, slots := 3, body := [.ite (.cmp .ne (.var 1) (.con (.str ""))) [.ret (.bin .add (.var 1) (.call 3 [.var 0, .bin .add (.con (.int 1)) (.call 2 [.var 0, .con (.int 2)])]))] [], .ite (.cmp .eq (.call 2 [.var 0, .con (.int 6)]) (.con (.int 0))) [.asg (.var 2) (.lst [.con (.str "markss"), .con (.str "mark"), .con (.str "way"), .con (.str "wayss"), .con (.str "bars"), .con (.str "ba"), .con (.str "somex")]), .asg (.var 2) (.bin .add (.var 2) (.lst [.con (.str "eachx"), .con (.str "note"), .con (.str "no"), .con (.str "ands"), .con (.str "ors"), .con (.str "o"), .con (.str "iss")])), .ret (.sub (.var 2) (.call 2 [.var 0, .con (.int 14)]))] [], .ret (.call 3 [.var 0, .bin .add (.con (.int 1)) (.call 2 [.var 0, .con (.int 8)])])] }  -- 4: 0 _law_flow_here, 1 _law_stem, 2 _law_near
def d_names1 : Def := { params := 2, slots := 7, body := [.asg (.var 2) (.con (.str "")), .ite (.cmp .eq (.call 2 [.var 0, .con (.int 3)]) (.con (.int 0))) [.asg (.var 2) (.call 3 [.var 0, .bin .add (.con (.int 1)) (.call 2 [.var 0, .con (.int 6)])])] [], .asg (.var 3) (.lst [.con (.str "marks"), .con (.str "ways"), .con (.str "bar"), .con (.str "some"), .con (.str "each"), .con (.str "not"), .con (.str "and"), .con (.str "or"), .con (.str "is")]), .for_ (.var 4) (.range1 (.var 1)) [.asg (.var 5) (.call 4 [.var 0, .var 2]), .asg (.var 6) (.con (.int 0)), .while_ (.cmp .in_ (.var 5) (.var 3)) [.asg (.var 5) (.bin .mul (.sub (.con (.str "abcdefghijklmnopqrstuvwxyz")) (.bin .mod (.var 6) (.con (.int 26)))) (.bin .add (.con (.int 1)) (.bin .fdiv (.var 6) (.con (.int 26))))), .asg (.var 6) (.bin .add (.var 6) (.con (.int 1)))], .mut (.var 3) .append [.var 5]], .ret (.blt .tuple (.slice (.var 3) (some (.con (.int 9))) none))] }  -- 8: 0 _law_flow_here, 1 _law_many, 2 _law_stem, 3 _law_names_here, 4 _law_k, 5 _law_name_here, 6 _law_spare
/-- small letters alone -/
def Lets (t : Str) : Prop := ∀ c ∈ t.cps.toList, 97 ≤ c ∧ c ≤ 122
instance {t : Str} : Decidable (Lets t) := by unfold Lets; infer_instance
/-- a name, as a rule has it -/
structure Word (t : Str) : Prop where
  l1 : 1 ≤ t.length
  l8 : t.length ≤ 8
  ls : Lets t
instance {t : Str} : Decidable (Word t) := decidable_of_iff (1 ≤ t.length ∧ t.length ≤ 8 ∧ Lets t) ⟨fun h => ⟨h.1, h.2.1, h.2.2⟩, fun h => ⟨h.1, h.2, h.3⟩⟩
theorem Lets.ok {t : Str} (h : Lets t) : PyData.strOk t = true := by
  show (t.cps.all (· < 0x110000)) = true
  rw [Array.all_eq_true]
  intro i hi
  have := h t.cps[i] (by simp)
  simp
  omega
theorem Lets.append {a b : Str} (ha : Lets a) (hb : Lets b) : Lets (a ++ b) := by
  intro c hc
  have hc : c ∈ (a.cps ++ b.cps).toList := hc
  rw [Array.toList_append] at hc
  exact (List.mem_append.mp hc).elim (ha c) (hb c)
theorem Word.name {t : Str} (h : Word t) : NameS t := ⟨h.ls.ok, by have := h.l8; omega⟩
theorem join_lets : ∀ {ys : List Str}, (∀ y ∈ ys, Lets y) → Lets (Str.join "" ys)
  | [], _ => by decide +kernel
  | [x], h => h x List.mem_cons_self
  | x :: y :: r, h => by
    show Lets (x ++ "" ++ Str.join "" (y :: r))
    exact ((h x List.mem_cons_self).append (by decide +kernel)).append (join_lets fun z hz => h z (List.mem_cons_of_mem _ hz))
theorem len_append {a b : Str} : (a ++ b).length = a.length + b.length := by
  show (a.cps ++ b.cps).size = _
  rw [Array.size_append]
  rfl
theorem join_len : ∀ (ys : List Str), (Str.join "" ys).length = (ys.map (·.length)).sum
  | [] => rfl
  | [x] => by simp [Str.join]
  | x :: y :: r => by
    show (x ++ "" ++ Str.join "" (y :: r)).length = _
    rw [len_append, len_append, join_len (y :: r)]
    simp
    rfl
structure SignsL (ds : List D) : Prop where
  ex : ∃ ys : List Str, ds = ys.map D.str ∧ ∀ y ∈ ys, Lets y ∧ y.length = 1
theorem sign_lets {s : Str} (hs : Lets s) (hl : s.length ≤ sizeMax) {x : Int} (h0 : 0 ≤ x) (h1 : x < s.length) : ∃ y : Str, subscript (.str s) (.int x) = some (.str y) ∧ Lets y ∧ y.length = 1 := by
  have hx : x.toNat < s.cps.toList.length := by
    have : s.length = s.cps.toList.length := by simp [Str.length]
    omega
  have e : subscript (.str s) (.int x) = (L2.atI s.cps.toList x).map fun c => .str ⟨#[c]⟩ := by
    show (if s.length ≤ sizeMax then _ else none) = _
    rw [if_pos hl]
  rw [e, atI_of h0 (by omega)]
  refine ⟨_, rfl, ?_, rfl⟩
  intro c hc
  have hc : c ∈ [s.cps.toList[x.toNat]] := hc
  rw [List.mem_singleton] at hc
  rw [hc]
  exact hs _ (List.getElem_mem _)
theorem lettersL {P : Prog} {n : Nat} (h2 : P.df 2 = some d_pick) (h3 : P.df 3 = some d_letters) {many : Int} (h0 : 0 ≤ many) (h1 : many ≤ 1000) {f : Flow} {m : Mem} (ok : f.Ok) {K : RV → Mem → Prop} (hK : ∀ t f', Lets t → (t.length : Int) = many → Flow.Ok f' → K (false, .str t) (fl f' :: m)) : Says (callN P (n + 2) 3) [(false, .obj 0), (false, .int many)] (fl f :: m) K := by
  refine says_fn h3 rfl ?_
  have hr : many < 16777216 ∧ -4611686018427387904 ≤ many := ⟨by omega, by omega⟩
  simp [d_letters, exs, ex, ev, evIt, E.isVar, bmTy, hr, again]
  refine Wp.compL (fun i acc s => (∃ c, s.l = [some (false, .obj 0), some (false, .int many), c]) ∧ (∃ f', Flow.Ok f' ∧ s.m = fl f' :: m) ∧ SignsL acc ∧ acc.length = i) ⟨⟨_, rfl⟩, ⟨f, ok, rfl⟩, ⟨[], rfl, by simp⟩, rfl⟩ ?_ ?_
  · rintro i d acc ⟨l, mm⟩ hd ⟨⟨c, rfl⟩, ⟨f', ok', rfl⟩, sg, hl⟩
    simp [tgStore, testM, ev, evs, E.isFld, E.isVar, again, Tg.slots]
    refine (pick_draws h2 (by omega) (by omega) f' m ok').mono ?_
    rintro r mm ⟨f2, ok2, rfl, x, rfl, x0, x1⟩
    obtain ⟨y, e1, y1, y2⟩ := sign_lets (s := "abcdefghijklmnopqrstuvwxyz") (by decide +kernel) (by decide +kernel) x0 (by exact x1)
    simp [e1]
    have hl2 : i < many.toNat := by
      have := (List.getElem?_eq_some_iff.mp hd).1
      simpa using this
    refine ⟨by show _ < 16777216; omega, ⟨f2, ok2, rfl⟩, ?_, hl⟩
    obtain ⟨ys, rfl, hy⟩ := sg.ex
    exact ⟨ys ++ [y], by simp, fun z hz => by
      rcases List.mem_append.mp hz with hz | hz
      · exact hy z hz
      · rw [List.mem_singleton] at hz; subst hz; exact ⟨y1, y2⟩⟩
  · rintro acc ⟨l, mm⟩ ⟨⟨c, rfl⟩, ⟨f', ok', rfl⟩, sg, hl⟩
    obtain ⟨ys, rfl, hy⟩ := sg.ex
    have hs := sum_ones fun y hyy => (hy y hyy).2
    have hyl : ys.length = many.toNat := by simpa using hl
    have e : bmeth .join (.str "") [.lst (ys.map D.str)] = some (false, .str (Txt.join "" ys)) := by
      have e : bmeth .join (.str "") [.lst (ys.map D.str)] = if (ys.map (·.length)).sum + ys.length * ("" : Str).length ≤ sizeMax then some (false, .str (Txt.join "" ys)) else none := by
        show ((some (ys.map D.str)).bind fun xs => (asStrs xs).bind fun ys => if (ys.map (·.length)).sum + ys.length * ("" : Str).length ≤ sizeMax then some (false, D.str (Txt.join "" ys)) else none) = _
        rw [Option.bind_some, asStrs_of rfl, Option.bind_some]
      have h0 : ("" : Str).length = 0 := rfl
      rw [e, hs, h0, if_pos (by show _ ≤ 16777216; omega)]
    have ej : Txt.join "" ys = Str.join "" ys := by
      show Builtin.Str.glued "" ys = _
      rw [StrLaws.glued_eq_join]
    rw [ej] at e
    simp [e]
    have g : gc (m.length + 1) (false, D.str (Str.join "" ys)) (fl f' :: m) = ((false, D.str (Str.join "" ys)), fl f' :: m) := gc_len (by simp)
    rw [g]
    exact hK _ f' (join_lets fun y hyy => (hy y hyy).1) (by rw [join_len, hs]; omega) ok'
theorem add_str {a b : Str} : addD (.str a) (.str b) = if a.length + b.length ≤ sizeMax then some (false, .str (a ++ b)) else none := rfl
def near14b : List D := [.str "markss", .str "mark", .str "way", .str "wayss", .str "bars", .str "ba", .str "somex", .str "eachx", .str "note", .str "no", .str "ands", .str "ors", .str "o", .str "iss"]
/-- names -/
def Words (ds : List D) : Prop := ∀ d ∈ ds, ∃ t, d = .str t ∧ Word t
theorem Words.names {ds : List D} (h : Words ds) : Names ds := ⟨fun d hd => let ⟨t, e, w⟩ := h d hd; ⟨t, e, w.name⟩⟩
theorem Words.snoc {ds : List D} (h : Words ds) {t : Str} (ht : Word t) : Words (ds ++ [.str t]) := by
  intro d hd
  rcases List.mem_append.mp hd with hd | hd
  · exact h d hd
  · rw [List.mem_singleton] at hd; exact ⟨t, hd, ht⟩
theorem words_of {ts : List Str} (h : ∀ t ∈ ts, Word t) : Words (ts.map .str) := by
  intro d hd
  obtain ⟨t, ht, rfl⟩ := List.mem_map.mp hd
  exact ⟨t, rfl, h t ht⟩
theorem near14b_words : Words near14b := words_of (ts := ["markss", "mark", "way", "wayss", "bars", "ba", "somex", "eachx", "note", "no", "ands", "ors", "o", "iss"]) (by decide +kernel)
theorem name1_ok {P : Prog} {n : Nat} (h2 : P.df 2 = some d_pick) (h3 : P.df 3 = some d_letters) (h4 : P.df 4 = some d_name1) {f : Flow} {m : Mem} (ok : f.Ok) {t : Str} (ht : Lets t) (hl : t.length ≤ 6) {K : RV → Mem → Prop} (hK : ∀ u f', Word u → Flow.Ok f' → K (false, .str u) (fl f' :: m)) :
    Says (callN P (n + 3) 4) [(false, .obj 0), (false, .str t)] (fl f :: m) K := by
  refine says_fn h4 rfl ?_
  have fin : ∀ u f', Word u → Flow.Ok f' → K (gc (m.length + 1) (false, D.str u) (fl f' :: m)).1 (gc (m.length + 1) (false, D.str u) (fl f' :: m)).2 := fun u f' hu ok' => by
    rw [gc_len (by simp)]
    exact hK u f' hu ok'
  simp only [d_name1]
  rw [Wp.step]
  by_cases h0 : t = ""
  · simp [ex, ev, E.isVar, again, h0]
    unfold Rest
    rw [Wp.step]
    simp [ex, ev, evs, E.isVar, E.isFld, again]
    refine pickK h2 (by omega) (by omega) ok fun x f1 x0 x1 ok1 => ?_
    by_cases hx : x = 0
    · simp [hx]
      rw [Wp.step]
      simp [ex, ev, evs]
      unfold Rest
      rw [Wp.step]
      simp [ex, ev, evs, E.isVar, again, sizeMax]
      unfold Rest
      rw [Wp.step]
      simp [ex, ev, evs, E.isVar, E.isFld, again]
      refine pickK h2 (by omega) (by omega) ok1 fun y f2 y0 y1 ok2 => ?_
      obtain ⟨_, eu, u, rfl, hu⟩ := one_of (xs := near14b) y0 (by exact y1) near14b_words
      unfold near14b at eu
      simp [eu]
      exact fin u f2 hu ok2
    · simp [hx]
      unfold Rest
      rw [Wp.step]
      simp [ex, ev, evs, E.isVar, E.isFld, again]
      refine pickK h2 (by omega) (by omega) ok1 fun y f2 y0 y1 ok2 => ?_
      simp
      refine lettersL h2 h3 (by omega) (by omega) ok2 fun u f3 hu hul ok3 => ?_
      exact fin u f3 ⟨by omega, by omega, hu⟩ ok3
  · simp [ex, ev, E.isVar, again, h0]
    rw [Wp.step]
    simp [ex, ev, evs, E.isVar, E.isFld, again]
    refine pickK h2 (by omega) (by omega) ok fun y f2 y0 y1 ok2 => ?_
    simp
    refine lettersL h2 h3 (by omega) (by omega) ok2 fun u f3 hu hul ok3 => ?_
    have hz : t.length + u.length ≤ sizeMax := by show _ ≤ 16777216; omega
    simp [add_str, hz]
    exact fin (t ++ u) f3 ⟨by rw [len_append]; omega, by rw [len_append]; omega, ht.append hu⟩ ok3
end G.Pl

set_option linter.all false
set_option maxRecDepth 100000
set_option maxHeartbeats 4000000
namespace G.Pl
open PySem
namespace Wp
end Wp
open scoped Wp
def abc : Str := "abcdefghijklmnopqrstuvwxyz"
def candA (k : Nat) : Str := ⟨#[abc.cps.toList.getD k 0]⟩
theorem candsA_nodup : ((List.range 26).map candA).Nodup := by decide +kernel
theorem candA_word {k : Nat} (h : k < 26) : Word (candA k) := by
  have : ∀ k < 26, Word (candA k) := by decide +kernel
  exact this k h
theorem candA_at {k : Nat} (h : k < 26) : subscript (.str "abcdefghijklmnopqrstuvwxyz") (.int ((k : Int) % 26)) = some (.str (candA k)) := by
  have e : ((k : Int) % 26) = k := by omega
  rw [e]
  have e2 : ∀ i, subscript (.str "abcdefghijklmnopqrstuvwxyz") (.int i) = if abc.length ≤ sizeMax then (L2.atI abc.cps.toList i).map fun c => D.str ⟨#[c]⟩ else none := fun _ => rfl
  have hl : abc.cps.toList.length = 26 := by decide +kernel
  rw [e2, if_pos (by decide +kernel), atI_of (by omega) (by rw [hl]; omega)]
  simp only [Option.map_some, Int.toNat_natCast, candA]
  rw [List.getD_eq_getElem?_getD, List.getElem?_eq_getElem (by rw [hl]; exact h)]
  rfl
theorem names_any {xs : List D} (hx : Names xs) {t : Str} (h : (xs.any fun z => D.eqv z (.str t)) = true) : D.str t ∈ xs := by
  obtain ⟨z, hz, e⟩ := List.any_eq_true.mp h
  obtain ⟨u, rfl, _⟩ := hx.nm z hz
  rw [eqv_str] at e
  rw [← of_decide_eq_true e]
  exact hz
theorem free_candA {ds : List D} (hn : Names ds) (hl : ds.length ≤ 25) : ∃ k < 26, (ds.any fun z => D.eqv z (.str (candA k))) = false := by
  by_cases h : ∃ k < 26, (ds.any fun z => D.eqv z (.str (candA k))) = false
  · exact h
  · exfalso
    have all : ∀ k < 26, (ds.any fun z => D.eqv z (.str (candA k))) = true := fun k hk => by
      cases e : (ds.any fun z => D.eqv z (.str (candA k))) with
      | true => rfl
      | false => exact absurd ⟨k, hk, e⟩ h
    have nd : (((List.range 26).map candA).map D.str).Nodup := List.pairwise_map.mpr (candsA_nodup.imp fun hne e => hne (by injection e))
    have sub : (((List.range 26).map candA).map D.str) ⊆ ds := by
      intro d hd
      obtain ⟨t, ht, rfl⟩ := List.mem_map.mp hd
      obtain ⟨k, hk, rfl⟩ := List.mem_map.mp ht
      exact names_any hn (all k (List.mem_range.mp hk))
    have := List.Nodup.length_le_of_subset nd sub
    simp at this
    omega
/-- while name in names: .. -/
theorem spare_loop {P : Prog} {n : Nat} (hf : 40 ≤ P.fuel) {m : Mem} {ds : List D} (hn : Names ds) (hl : ds.length ≤ 25) {t : Str} (ht : Word t) {a b c e : Option RV} {K : Fl → S → Prop}
    (hK : ∀ u k, Word u → D.str u ∉ ds → K .next ⟨[a, b, c, some (true, .lst ds), e, some (false, .str u), some (false, .int k)], m⟩) :
    Wp (ex P (gam P n) (.while_ (.cmp .in_ (.var 5) (.var 3)) [.asg (.var 5) (.bin .mul (.sub (.con (.str "abcdefghijklmnopqrstuvwxyz")) (.bin .mod (.var 6) (.con (.int 26)))) (.bin .add (.con (.int 1)) (.bin .fdiv (.var 6) (.con (.int 26))))), .asg (.var 6) (.bin .add (.var 6) (.con (.int 1)))])) ⟨[a, b, c, some (true, .lst ds), e, some (false, .str t), some (false, .int 0)], m⟩ K := by
  obtain ⟨C, hC, hfree⟩ := free_candA hn hl
  unfold ex
  refine Wp.whileL (fun r s => ∃ (nm : Str) (k : Nat), s = ⟨[a, b, c, some (true, .lst ds), e, some (false, .str nm), some (false, .int (k : Nat))], m⟩ ∧ Word nm ∧ k + r = C + 1 ∧ (r = 0 → nm = candA C)) (C + 1) (by omega) ⟨t, 0, rfl, ht, by omega, fun z => by omega⟩ ?_
  rintro r s ⟨nm, k, rfl, hnm, hk, h0⟩
  have e1 := isIn_names hn hnm.name
  have e3 : r = 0 → (ds.any fun z => D.eqv z (.str nm)) = false := fun hr => by
    rw [h0 hr]; exact hfree
  have e4 : (ds.any fun z => D.eqv z (.str nm)) = false → D.str nm ∉ ds := fun h hm => by
    have := List.any_eq_false.mp h _ hm
    rw [eqv_str] at this
    simp at this
  generalize (ds.any fun z => D.eqv z (.str nm)) = x at e1 e3 e4
  have q1 : 0 < r → subscript (.str "abcdefghijklmnopqrstuvwxyz") (.int ((k : Int) % 26)) = some (.str (candA k)) := fun hr => candA_at (k := k) (by omega)
  have q3 : 0 < r → mulD (.str (candA k)) (.int (1 + (k : Int) / 26)) = some (false, .str (candA k)) := fun hr => by
    have : (1 + (k : Int) / 26) = 1 := by omega
    rw [this]
    have e : mulD (.str (candA k)) (.int 1) = some (false, .str (strTimes (candA k) 1)) := rfl
    rw [e, once]
  simp [ev, E.isVar, again, compare, e1]
  cases x with
  | false => simp; exact hK nm k hnm (e4 rfl)
  | true =>
    have hr : 0 < r := by
      by_cases hr : r = 0
      · cases e3 hr
      · omega
    have q1 := q1 hr
    have q3 := q3 hr
    simp [hr, exs, ex, ev, E.isVar, E.isFld, again, q1, q3]
    exact ⟨candA k, k + 1, by simp, candA_word (by omega), by omega, fun z => by rw [show C = k by omega]⟩
theorem reserved_nodup : reserved.Nodup := by
  have h : ([("marks" : Str), "ways", "bar", "some", "each", "not", "and", "or", "is"] : List Str).Nodup := by decide +kernel
  have e : reserved = ([("marks" : Str), "ways", "bar", "some", "each", "not", "and", "or", "is"] : List Str).map D.str := rfl
  rw [e]
  exact List.pairwise_map.mpr (h.imp fun hne e => hne (by injection e))
theorem names1_ok {P : Prog} {n : Nat} (h2 : P.df 2 = some d_pick) (h3 : P.df 3 = some d_letters) (h4 : P.df 4 = some d_name1) (h8 : P.df 8 = some d_names1) (hf : 40 ≤ P.fuel) {f : Flow} {m : Mem} (ok : f.Ok) {many : Int} (m0 : 0 ≤ many) (m6 : many ≤ 8) {K : RV → Mem → Prop}
    (hK : ∀ ns f', Words ns → (reserved ++ ns).Nodup → (ns.length : Int) = many → Flow.Ok f' → K (false, .tup ns) (fl f' :: m)) :
    Says (callN P (n + 4) 8) [(false, .obj 0), (false, .int many)] (fl f :: m) K := by
  refine says_fn h8 rfl ?_
  simp only [d_names1]
  rw [Wp.step]
  simp [ex, ev]
  unfold Rest
  rw [Wp.step]
  have main : ∀ (t : Str) (f1 : Flow), Lets t → t.length ≤ 6 → Flow.Ok f1 → Wp (exs P (gam P (n + 3)) (d_names1.body.drop 2)) ⟨[some (false, .obj 0), some (false, .int many), some (false, .str t), none, none, none, none], fl f1 :: m⟩ (fun f s => match f with
      | .ret v => K (gc (m.length + 1) v s.m).1 (gc (m.length + 1) v s.m).2
      | .next => K (gc (m.length + 1) (false, .non) s.m).1 (gc (m.length + 1) (false, .non) s.m).2
      | .brk => False) := by
    intro t f1 ht hl ok1
    simp only [d_names1, List.drop_succ_cons, List.drop_zero]
    rw [Wp.step]
    simp [ex, ev, evs]
    unfold Rest
    rw [Wp.step]
    have hr : many < 16777216 ∧ -4611686018427387904 ≤ many := ⟨by omega, by omega⟩
    simp [ex, ev, evIt, E.isVar, again, hr]
    refine Wp.forL (fun i s => ∃ f' names c4 c5 c6, Flow.Ok f' ∧ Words names ∧ (reserved ++ names).Nodup ∧ names.length = i ∧ s = ⟨[some (false, .obj 0), some (false, .int many), some (false, .str t), some (true, .lst (reserved ++ names)), c4, c5, c6], fl f' :: m⟩) ⟨f1, [], none, none, none, ok1, by simp [Words], by rw [List.append_nil]; exact reserved_nodup, rfl, by simp [reserved]⟩ ?_ ?_
    · rintro i d s hd ⟨f', names, c4, c5, c6, ok', hn, hnd, hlen, rfl⟩
      have hi : i < many.toNat := by
        have := (List.getElem?_eq_some_iff.mp hd).1
        simpa using this
      have hr9 : (reserved ++ names).length = 9 + i := by rw [List.length_append, hlen]; rfl
      simp [tgStore]
      rw [Wp.step]
      simp [ex, ev, evs]
      refine name1_ok h2 h3 h4 ok' ht hl fun u f2 hu ok2 => ?_
      unfold Rest
      rw [Wp.step]
      simp [ex, ev]
      unfold Rest
      rw [Wp.step]
      refine spare_loop hf (res_names.append hn.names) (by omega) hu fun w k hw hwn => ?_
      unfold Rest
      rw [Wp.step]
      have hz : reserved.length + names.length < sizeMax := by rw [← List.length_append, hr9]; show _ < 16777216; omega
      simp [ex, ev, evs, mutPl, hz]
      unfold Rest
      simp
      refine ⟨f2, ok2, names ++ [.str w], hn.snoc hw, ?_, by simp [hlen], rfl, rfl⟩
      rw [← List.append_assoc, List.nodup_append]
      refine ⟨hnd, by simp, fun a ha b hb e => ?_⟩
      rw [List.mem_singleton] at hb
      subst hb e
      exact hwn ha
    · rintro s ⟨f', names, c4, c5, c6, ok', hn, hnd, hlen, rfl⟩
      simp
      unfold Rest
      rw [Wp.step]
      have hc : cut (reserved ++ names) (some 9) none = names := by
        rw [cut_lo (by omega) (by rw [List.length_append]; show (9 : Int) ≤ ((9 + names.length : Nat) : Int); omega)]
        rfl
      simp [ex, ev, evO, E.isVar, again, sliced, hc]
      rw [gc_len (by simp)]
      exact hK names f' hn hnd (by rw [hlen]; simp; omega) ok'
  simp [ex, ev, evs, E.isVar, E.isFld, again]
  refine pickK h2 (by omega) (by omega) ok fun x f1 x0 x1 ok1 => ?_
  by_cases hx : x = 0
  · simp [hx]
    rw [Wp.step]
    simp [ex, ev, evs, E.isVar, E.isFld, again]
    refine pickK h2 (by omega) (by omega) ok1 fun y f2 y0 y1 ok2 => ?_
    simp
    refine lettersL h2 h3 (by omega) (by omega) ok2 fun u f3 hu hul ok3 => ?_
    unfold Rest
    simp
    exact main u f3 hu (by omega) ok3
  · simp [hx]
    exact main "" f1 (by decide +kernel) (by decide +kernel) ok1
end G.Pl

set_option linter.all false
set_option maxRecDepth 100000
namespace G.Pl
open PySem PySem.W
/-! the order of data -/
def dlt (x y : D) : Bool := dataLt x.py y.py
def al (x y : D) : Bool := alike x.py y.py
theorem dlt_irrefl (x : D) : dlt x x = false := PyProof.Rows.lex_irrefl _
theorem dlt_trans {x y z : D} (h : dlt x y = true) (h' : dlt y z = true) : dlt x z = true := PyProof.Rows.lex_trans _ _ _ h h'
theorem dlt_negTrans {x z : D} (y : D) (h : dlt x z = true) : dlt x y = true ∨ dlt y z = true := PyProof.Rows.lex_negTrans _ _ _ h
theorem dlt_asymm {x y : D} (h : dlt x y = true) : dlt y x = false := by
  cases h' : dlt y x with
  | false => rfl
  | true => have := dlt_trans h h'; rw [dlt_irrefl] at this; cases this
mutual
theorem toks_inj : ∀ (x y : D), x.keyp = true → y.keyp = true → al x y = true → ∀ l l', keyToks x.py ++ l = keyToks y.py ++ l' → x = y ∧ l = l'
  | .int a, .int b, _, _, _, l, l', h => by
    simp [D.py, keyToks] at h
    exact ⟨by rw [h.1], h.2⟩
  | .str a, .str b, _, _, _, l, l', h => by
    simp [D.py, keyToks] at h
    have e : a = b := str_of_cps (by simpa using h.1)
    exact ⟨by rw [e], h.2⟩
  | .tup xs, .tup ys, hx, hy, ha, l, l', h => by
    have q := toks_injL xs ys (by simpa [D.keyp] using hx) (by simpa [D.keyp] using hy) (by simpa [al, D.py, alike] using ha) l l' (by simpa [D.py, keyToks] using h)
    exact ⟨by rw [q.1], q.2⟩
  | .int a, .str b, _, _, ha, _, _, _ => by simp [al, D.py, alike] at ha
  | .int a, .tup b, _, _, ha, _, _, _ => by simp [al, D.py, alike] at ha
  | .str a, .int b, _, _, ha, _, _, _ => by simp [al, D.py, alike] at ha
  | .str a, .tup b, _, _, ha, _, _, _ => by simp [al, D.py, alike] at ha
  | .tup a, .int b, _, _, ha, _, _, _ => by simp [al, D.py, alike] at ha
  | .tup a, .str b, _, _, ha, _, _, _ => by simp [al, D.py, alike] at ha
  | .non, _, hx, _, _, _, _, _ => by simp [D.keyp] at hx
  | .bl _, _, hx, _, _, _, _, _ => by simp [D.keyp] at hx
  | .lst _, _, hx, _, _, _, _, _ => by simp [D.keyp] at hx
  | .dic _, _, hx, _, _, _, _, _ => by simp [D.keyp] at hx
  | .obj _, _, hx, _, _, _, _, _ => by simp [D.keyp] at hx
  | .scr _, _, hx, _, _, _, _, _ => by simp [D.keyp] at hx
  | .pin _, _, hx, _, _, _, _, _ => by simp [D.keyp] at hx
  | _, .non, _, hx, _, _, _, _ => by simp [D.keyp] at hx
  | _, .bl _, _, hx, _, _, _, _ => by simp [D.keyp] at hx
  | _, .lst _, _, hx, _, _, _, _ => by simp [D.keyp] at hx
  | _, .dic _, _, hx, _, _, _, _ => by simp [D.keyp] at hx
  | _, .obj _, _, hx, _, _, _, _ => by simp [D.keyp] at hx
  | _, .scr _, _, hx, _, _, _, _ => by simp [D.keyp] at hx
  | _, .pin _, _, hx, _, _, _, _ => by simp [D.keyp] at hx
theorem toks_injL : ∀ (xs ys : List D), D.keypL xs = true → D.keypL ys = true → alikeAll (D.pyL xs) (D.pyL ys) = true → ∀ l l', keyToksAll (D.pyL xs) ++ l = keyToksAll (D.pyL ys) ++ l' → xs = ys ∧ l = l'
  | [], [], _, _, _, l, l', h => by
    simp [D.pyL, keyToksAll] at h
    exact ⟨rfl, h⟩
  | [], y :: ys, _, _, _, l, l', h => by simp [D.pyL, keyToksAll] at h
  | x :: xs, [], _, _, _, l, l', h => by simp [D.pyL, keyToksAll] at h
  | x :: xs, y :: ys, hx, hy, ha, l, l', h => by
    simp only [D.keypL, Bool.and_eq_true] at hx hy
    simp only [D.pyL, alikeAll, Bool.and_eq_true] at ha
    simp only [D.pyL, keyToksAll, List.cons_append, List.append_assoc, List.cons.injEq, true_and] at h
    obtain ⟨e1, e2⟩ := toks_inj x y hx.1 hy.1 ha.1 _ _ h
    obtain ⟨e3, e4⟩ := toks_injL xs ys hx.2 hy.2 ha.2 _ _ e2
    exact ⟨by rw [e1, e3], e4⟩
end
theorem dlt_total {x y : D} (hx : x.keyp = true) (hy : y.keyp = true) (ha : al x y = true) (h1 : dlt x y = false) (h2 : dlt y x = false) : x = y :=
  (toks_inj x y hx hy ha [] [] (by rw [PyProof.Rows.lex_total _ _ h1 h2])).1
/-- they may be put in order, and no two are as good -/
structure Lin (p : D → Prop) : Prop where
  key : ∀ x, p x → x.keyp = true
  al : ∀ x y, p x → p y → al x y = true
theorem Lin.tot {p : D → Prop} (h : Lin p) {x y : D} (hx : p x) (hy : p y) (h1 : dlt x y = false) (h2 : dlt y x = false) : x = y := dlt_total (h.key x hx) (h.key y hy) (h.al x y hx hy) h1 h2
theorem sortD_perm (xs : List D) : (sortD xs).Perm xs := List.mergeSort_perm xs _
theorem sortD_in {xs : List D} {d : D} : d ∈ sortD xs ↔ d ∈ xs := (sortD_perm xs).mem_iff
theorem sortD_pair (xs : List D) : (sortD xs).Pairwise (fun a b => dlt b a = false) := by
  have h := List.pairwise_mergeSort (le := dataLe false D.py) (fun a b c h1 h2 => by
    have h1 : (!dlt b a) = true := h1
    have h2 : (!dlt c b) = true := h2
    show (!dlt c a) = true
    simp only [Bool.not_eq_true'] at h1 h2 ⊢
    cases h : dlt c a with
    | false => rfl
    | true =>
      rcases dlt_negTrans b h with q | q
      · rw [q] at h2; cases h2
      · rw [q] at h1; cases h1) (fun a b => by
    show ((!dlt b a) || (!dlt a b)) = true
    cases h : dlt b a with
    | false => rfl
    | true => rw [dlt_asymm h]; rfl) xs
  refine h.imp fun {a b} q => ?_
  have q : (!dlt b a) = true := q
  simpa using q
theorem sortD_strict {p : D → Prop} (hp : Lin p) {xs : List D} (hx : ∀ d ∈ xs, p d) (hn : xs.Nodup) : (sortD xs).Pairwise (fun a b => dlt a b = true) := by
  have h1 := sortD_pair xs
  have h2 : (sortD xs).Nodup := (sortD_perm xs).nodup_iff.mpr hn
  refine (h1.and h2).imp_of_mem fun {a b} ha hb q => ?_
  cases h : dlt a b with
  | true => rfl
  | false => exact absurd (hp.tot (hx a (sortD_in.mp ha)) (hx b (sortD_in.mp hb)) h q.1) q.2
theorem least_le : ∀ (r : List D) (a : D), r.foldl (fun a b => if dataLt b.py a.py then b else a) a ∈ a :: r ∧ ∀ b ∈ a :: r, dlt b (r.foldl (fun a b => if dataLt b.py a.py then b else a) a) = false
  | [], a => ⟨List.mem_cons_self, fun b hb => by rw [List.mem_singleton.mp hb]; exact dlt_irrefl a⟩
  | c :: r, a => by
    rw [List.foldl_cons]
    obtain ⟨h1, h2⟩ := least_le r (if dataLt c.py a.py then c else a)
    generalize hz : List.foldl (fun a b => if dataLt b.py a.py then b else a) (if dataLt c.py a.py then c else a) r = z at h1 h2
    generalize hq : (if dataLt c.py a.py then c else a) = q at h1 h2
    have hqm : q = c ∨ q = a := by rw [← hq]; split <;> simp
    have q0 := h2 q List.mem_cons_self
    have qa : dlt a q = false := by
      rw [← hq]
      split
      · rename_i hc; exact dlt_asymm hc
      · exact dlt_irrefl a
    have qc : dlt c q = false := by
      rw [← hq]
      split
      · exact dlt_irrefl c
      · rename_i hc; exact Bool.eq_false_iff.mpr hc
    have le : ∀ x, dlt x q = false → dlt x z = false := fun x hx => by
      cases h : dlt x z with
      | false => rfl
      | true =>
        rcases dlt_negTrans q h with e | e
        · rw [e] at hx; cases hx
        · rw [e] at q0; cases q0
    refine ⟨?_, fun b hb => ?_⟩
    · rcases List.mem_cons.mp h1 with e | e
      · rcases hqm with e2 | e2
        · rw [e, e2]; simp
        · rw [e, e2]; simp
      · simp [e]
    · rcases List.mem_cons.mp hb with rfl | hb
      · exact le _ qa
      · rcases List.mem_cons.mp hb with rfl | hb
        · exact le _ qc
        · exact h2 b (List.mem_cons_of_mem _ hb)
theorem least_spec {xs : List D} {z : D} (h : least xs = some z) : z ∈ xs ∧ ∀ b ∈ xs, dlt b z = false := by
  cases xs with
  | nil => cases h
  | cons a r =>
    obtain rfl := Option.some.inj h
    exact least_le r a
theorem least_some {xs : List D} (h : xs ≠ []) : ∃ z, least xs = some z := by
  cases xs with
  | nil => exact absurd rfl h
  | cons a r => exact ⟨_, rfl⟩
theorem least_is {p : D → Prop} (hp : Lin p) {xs : List D} (hx : ∀ d ∈ xs, p d) {z : D} (hz : z ∈ xs) (h : ∀ b ∈ xs, dlt b z = false) : least xs = some z := by
  obtain ⟨y, e⟩ := least_some (xs := xs) (fun e => by rw [e] at hz; cases hz)
  obtain ⟨a, b⟩ := least_spec e
  rw [e, hp.tot (hx y a) (hx z hz) (h y a) (b z hz)]
theorem least_same {p : D → Prop} (hp : Lin p) {xs ys : List D} (hx : ∀ d ∈ xs, p d) (h : ∀ d, d ∈ xs ↔ d ∈ ys) : least xs = least ys := by
  cases ys with
  | nil =>
    cases xs with
    | nil => rfl
    | cons a r => exact absurd ((h a).mp List.mem_cons_self) (by simp)
  | cons a r =>
    obtain ⟨z, e⟩ := least_some (xs := a :: r) (by simp)
    obtain ⟨h1, h2⟩ := least_spec e
    rw [e]
    exact least_is hp hx ((h z).mpr h1) fun b hb => h2 b ((h b).mp hb)
end G.Pl

set_option linter.all false
set_option maxRecDepth 100000
set_option maxHeartbeats 4000000
namespace G.Pl
open PySem
namespace Wp
end Wp
open scoped Wp
/-! worlds, plain -/
abbrev Pt := Int × List Int
def ptD (p : Pt) : D := .tup [.int p.1, .tup (p.2.map .int)]
def wd (w : List Pt) : D := .tup (w.map ptD)
structure WOk (nw : Nat) (w : List Pt) : Prop where
  len : ∀ k (h : k < w.length), (w[k]).2.length = k
  wy : ∀ k (h : k < w.length), ∀ x ∈ (w[k]).2, 0 ≤ x ∧ x < nw
def BackSet : List (List Int) := [[0], [0, 1], [1, 0], [0, 1, 2], [0, 2, 1], [1, 0, 2]]
def bkAt (bk : List Int) (x : Int) : Int := bk.getD x.toNat 0
def ptAt (w : List Pt) (i : Nat) : Pt := w.getD i (0, [])
def wyAt (w : List Pt) (i j : Nat) : Int := (ptAt w i).2.getD j 0
theorem back_len {b : List Int} (h : b ∈ BackSet) : 1 ≤ b.length ∧ b.length ≤ 3 := by
  have : ∀ b ∈ BackSet, 1 ≤ b.length ∧ b.length ≤ 3 := by decide
  exact this b h
theorem back_in {b : List Int} (h : b ∈ BackSet) {x : Int} (h0 : 0 ≤ x) (h1 : x < b.length) : 0 ≤ bkAt b x ∧ bkAt b x < b.length ∧ bkAt b (bkAt b x) = x := by
  unfold bkAt
  have : ∀ b ∈ BackSet, ∀ k < b.length, 0 ≤ b.getD k 0 ∧ b.getD k 0 < b.length ∧ b.getD (b.getD k 0).toNat 0 = k := by decide
  obtain ⟨a, c, d⟩ := this b h x.toNat (by omega)
  exact ⟨a, c, by rw [d]; omega⟩
theorem atI_map {α β : Type} {f : α → β} {xs : List α} {i : Nat} (h : i < xs.length) : L2.atI (xs.map f) (i : Int) = some (f xs[i]) := by
  rw [atI_of (by omega) (by rw [List.length_map]; omega)]
  simp
theorem atI_get {α β : Type} {f : α → β} {xs : List α} {x : Int} (h0 : 0 ≤ x) (h : x < xs.length) (z : α) : L2.atI (xs.map f) x = some (f (xs.getD x.toNat z)) := by
  rw [atI_of h0 (by rw [List.length_map]; omega)]
  simp [List.getD_eq_getElem?_getD]
  rw [List.getElem?_eq_getElem (by omega)]
  rfl
def betwF (bk : List Int) (w : List Pt) (i j : Nat) : Int := if j < i then wyAt w i j else bkAt bk (wyAt w j i)
theorem ptAt_eq {w : List Pt} {i : Nat} (hi : i < w.length) : ptAt w i = w[i] := by
  unfold ptAt
  rw [List.getD_eq_getElem?_getD, List.getElem?_eq_getElem hi]; rfl
theorem WOk.at {nw : Nat} {w : List Pt} (h : WOk nw w) {i j : Nat} (hi : i < w.length) (hj : j < i) : 0 ≤ wyAt w i j ∧ wyAt w i j < nw := by
  have l := h.len i hi
  have q := h.wy i hi
  unfold wyAt
  rw [ptAt_eq hi]
  generalize w[i] = p at l q
  have e2 : p.2.getD j 0 = p.2[j]'(by omega) := by rw [List.getD_eq_getElem?_getD, List.getElem?_eq_getElem (by omega)]; rfl
  rw [e2]
  exact q _ (List.getElem_mem _)
theorem betw_in {bk : List Int} (hb : bk ∈ BackSet) {w : List Pt} (h : WOk bk.length w) {i j : Nat} (hi : i < w.length) (hj : j < w.length) (hij : i ≠ j) : 0 ≤ betwF bk w i j ∧ betwF bk w i j < bk.length := by
  unfold betwF
  split
  · exact h.at hi (by omega)
  · have q := h.at (i := j) (j := i) hj (by omega)
    have := back_in hb q.1 q.2
    exact ⟨this.1, this.2.1⟩
theorem pt_at {w : List Pt} {i : Nat} (hi : i < w.length) : L2.atI (w.map ptD) (i : Int) = some (.tup [.int (ptAt w i).1, .tup ((ptAt w i).2.map .int)]) := by
  rw [atI_map hi, ptAt_eq hi]; rfl
theorem WOk.wat {nw : Nat} {w : List Pt} (h : WOk nw w) {i j : Nat} (hi : i < w.length) (hj : j < i) : L2.atI ((ptAt w i).2.map D.int) (j : Int) = some (.int (wyAt w i j)) := by
  have l := h.len i hi
  unfold wyAt
  rw [ptAt_eq hi]
  generalize w[i] = p at l
  have := atI_get (f := D.int) (xs := p.2) (x := (j : Int)) (by omega) (by omega) 0
  rw [this]
  simp
theorem betw_back {bk : List Int} (hb : bk ∈ BackSet) {w : List Pt} (h : WOk bk.length w) {i j : Nat} (hi : i < w.length) (hj : j < w.length) (hij : i ≠ j) : betwF bk w j i = bkAt bk (betwF bk w i j) := by
  unfold betwF
  by_cases h1 : j < i
  · rw [if_pos h1, if_neg (by omega)]
  · have h2 : i < j := by omega
    rw [if_neg h1, if_pos h2]
    obtain ⟨a, b⟩ := h.at hj h2
    exact (back_in hb a b).2.2.symm
def partF (bk : List Int) (w : List Pt) (pts : List Nat) : List Pt := (List.range pts.length).map fun k => ((ptAt w (pts.getD k 0)).1, (pts.take k).map fun j => betwF bk w (pts.getD k 0) j)
theorem partF_len {bk : List Int} {w : List Pt} {pts : List Nat} : (partF bk w pts).length = pts.length := by simp [partF]
theorem partF_at {bk : List Int} {w : List Pt} {pts : List Nat} {k : Nat} (h : k < pts.length) : (partF bk w pts)[k]'(by rw [partF_len]; exact h) = ((ptAt w pts[k]).1, (pts.take k).map fun j => betwF bk w pts[k] j) := by
  simp [partF, List.getD_eq_getElem?_getD, List.getElem?_eq_getElem h]
theorem partF_ok {bk : List Int} (hb : bk ∈ BackSet) {w : List Pt} (hw : WOk bk.length w) {pts : List Nat} (hp : ∀ p ∈ pts, p < w.length) (hn : pts.Nodup) : WOk bk.length (partF bk w pts) := by
  constructor
  · intro k hk
    have hk2 : k < pts.length := by rw [partF_len] at hk; exact hk
    rw [partF_at hk2]
    simp
    omega
  · intro k hk x hx
    have hk2 : k < pts.length := by rw [partF_len] at hk; exact hk
    rw [partF_at hk2] at hx
    simp only [List.mem_map] at hx
    obtain ⟨j, hj, rfl⟩ := hx
    obtain ⟨i, hi, e⟩ := List.mem_take_iff_getElem.mp hj
    refine betw_in hb hw (hp _ (List.getElem_mem _)) (hp _ (List.mem_of_mem_take hj)) fun z => ?_
    rw [← e] at z
    have := (List.getElem_inj hn).mp z
    omega
def bwD (bk : List Int) (w : List Pt) (i q : Nat) : D := .int (betwF bk w i q)
def ptsD (pts : List Nat) : List D := pts.map fun p : Nat => D.int (p : Int)
theorem rangeD_at {n i : Nat} {d : D} (h : (rangeD 0 n)[i]? = some d) : i < n ∧ d = .int (i : Nat) := by
  have h1 := (List.getElem?_eq_some_iff.mp h).1
  have h1 : i < n := by simpa using h1
  refine ⟨h1, ?_⟩
  have h2 := (List.getElem?_eq_some_iff.mp h).2
  simp [rangeD] at h2
  rw [← h2]
theorem WOk.nil {nw : Nat} : WOk nw [] := ⟨fun k h => absurd h (Nat.not_lt_zero k), fun k h => absurd h (Nat.not_lt_zero k)⟩
theorem WOk.snoc {nw : Nat} {w : List Pt} (h : WOk nw w) {mk : Int} {l : List Int} (hl : l.length = w.length) (hx : ∀ x ∈ l, 0 ≤ x ∧ x < nw) : WOk nw (w ++ [(mk, l)]) := by
  constructor
  · intro k hk
    rw [List.getElem_append]
    split
    · exact h.len k _
    · have : k = w.length := by simp at hk; omega
      simp [hl, this]
  · intro k hk
    rw [List.getElem_append]
    split
    · exact h.wy k _
    · simpa using hx
/-- all marks within -/
def MOk (nm : Int) (w : List Pt) : Prop := ∀ p ∈ w, 0 ≤ p.1 ∧ p.1 < nm
theorem three_ok {nw : Nat} {a b c x y z : Int} (hx : 0 ≤ x ∧ x < nw) (hy : 0 ≤ y ∧ y < nw) (hz : 0 ≤ z ∧ z < nw) : WOk nw [(a, []), (b, [x]), (c, [y, z])] := by
  have h1 : WOk nw ([] ++ [(a, [])]) := WOk.nil.snoc rfl (by simp)
  have h2 : WOk nw (([] ++ [(a, [])]) ++ [(b, [x])]) := h1.snoc rfl (by simpa using hx)
  have h3 : WOk nw ((([] ++ [(a, [])]) ++ [(b, [x])]) ++ [(c, [y, z])]) := h2.snoc rfl (by
    intro v hv
    simp at hv
    rcases hv with rfl | rfl
    · exact hy
    · exact hz)
  exact h3
theorem ints_flat : ∀ (xs : List Int), D.flatL (xs.map D.int) = true
  | [] => rfl
  | x :: xs => by
    show (true && D.flatL (xs.map D.int)) = true
    rw [ints_flat xs]; rfl
theorem ints_keyp : ∀ (xs : List Int), D.keypL (xs.map D.int) = true
  | [] => rfl
  | x :: xs => by
    show (true && D.keypL (xs.map D.int)) = true
    rw [ints_keyp xs]; rfl
theorem ints_dep : ∀ (xs : List Int), D.depL (xs.map D.int) = 0
  | [] => rfl
  | x :: xs => by
    show max 0 (D.depL (xs.map D.int)) = 0
    rw [ints_dep xs]; rfl
theorem ints_py : ∀ (xs : List Int), D.pyL (xs.map D.int) = xs.map PyData.int
  | [] => rfl
  | x :: xs => by
    show PyData.int x :: D.pyL (xs.map D.int) = _
    rw [ints_py xs]; rfl
theorem ints_alike : ∀ (xs ys : List Int), PySem.W.alikeAll (xs.map PyData.int) (ys.map PyData.int) = true
  | [], ys => by
    cases ys <;> (simp only [List.map_nil, List.map_cons]; unfold PySem.W.alikeAll; rfl)
  | x :: xs, [] => by
    simp only [List.map_nil, List.map_cons]; unfold PySem.W.alikeAll; rfl
  | x :: xs, y :: ys => by
    simp only [List.map_cons]
    unfold PySem.W.alikeAll
    rw [ints_alike xs ys]
    unfold PySem.W.alike
    rfl
theorem pts_flat : ∀ (w : List Pt), D.flatL (w.map ptD) = true
  | [] => rfl
  | p :: w => by
    show ((true && (D.flatL (p.2.map D.int) && true)) && D.flatL (w.map ptD)) = true
    rw [ints_flat, pts_flat w]; rfl
theorem pts_keyp : ∀ (w : List Pt), D.keypL (w.map ptD) = true
  | [] => rfl
  | p :: w => by
    show ((true && (D.keypL (p.2.map D.int) && true)) && D.keypL (w.map ptD)) = true
    rw [ints_keyp, pts_keyp w]; rfl
theorem pts_dep : ∀ (w : List Pt), D.depL (w.map ptD) ≤ 2
  | [] => by decide
  | p :: w => by
    show max (max 0 (max (D.depL (p.2.map D.int) + 1) 0) + 1) (D.depL (w.map ptD)) ≤ 2
    rw [ints_dep]
    have := pts_dep w
    omega
def ptPy (p : Pt) : PyData := .tuple [.int p.1, .tuple (p.2.map .int)]
theorem pts_py : ∀ (w : List Pt), D.pyL (w.map ptD) = w.map ptPy
  | [] => rfl
  | p :: w => by
    show PyData.tuple [PyData.int p.1, PyData.tuple (D.pyL (p.2.map D.int))] :: D.pyL (w.map ptD) = _
    rw [ints_py, pts_py w]; rfl
theorem pts_alike : ∀ (v w : List Pt), PySem.W.alikeAll (v.map ptPy) (w.map ptPy) = true
  | [], ys => by
    cases ys <;> (simp only [List.map_nil, List.map_cons]; unfold PySem.W.alikeAll; rfl)
  | x :: xs, [] => by
    simp only [List.map_nil, List.map_cons]; unfold PySem.W.alikeAll; rfl
  | x :: xs, y :: ys => by
    simp only [List.map_cons]
    unfold PySem.W.alikeAll
    rw [pts_alike xs ys]
    have : PySem.W.alike (ptPy x) (ptPy y) = true := by
      unfold ptPy
      unfold PySem.W.alike
      unfold PySem.W.alikeAll
      unfold PySem.W.alikeAll
      unfold PySem.W.alikeAll
      unfold PySem.W.alike
      simp [ints_alike]
    rw [this]; rfl
theorem wd_flat {w : List Pt} : D.flat (wd w) = true := pts_flat w
theorem wd_key {w : List Pt} : D.key (wd w) = true := by
  have h1 : D.keyp (wd w) = true := pts_keyp w
  have h2 : D.dep (wd w) ≤ 8 := by
    show D.depL (w.map ptD) + 1 ≤ 8
    have := pts_dep w
    omega
  unfold D.key
  rw [h1]
  simpa using h2
theorem wd_alike {v w : List Pt} : PySem.W.alike (wd v).py (wd w).py = true := by
  show PySem.W.alike (.tuple (D.pyL (v.map ptD))) (.tuple (D.pyL (w.map ptD))) = true
  rw [pts_py, pts_py]
  unfold PySem.W.alike
  exact pts_alike v w
/-- worlds that hold something may be put in order -/
def Wd (d : D) : Prop := ∃ w : List Pt, d = wd w ∧ w ≠ []
theorem wds_less {xs : List D} (h : ∀ d ∈ xs, Wd d) : allLess xs = true := by
  unfold allLess allAlike
  have h1 : (xs.all fun x => (xs.all fun y => PySem.W.alike x.py y.py) && x.flat && !x.isNon && decide (x.dep ≤ 60)) = true := by
    rw [List.all_eq_true]
    intro x hx
    obtain ⟨w, rfl, hw⟩ := h x hx
    have a1 : (xs.all fun y => PySem.W.alike (G.Pl.wd w).py y.py) = true := by
      rw [List.all_eq_true]
      intro y hy
      obtain ⟨v, rfl, hv⟩ := h y hy
      exact wd_alike
    have a2 : D.dep (G.Pl.wd w) ≤ 60 := by
      show D.depL (w.map ptD) + 1 ≤ 60
      have := pts_dep w
      omega
    rw [a1, wd_flat]
    have a3 : (G.Pl.wd w).isNon = false := rfl
    rw [a3]
    simpa using a2
  have h2 : (xs.all D.tupled) = true := by
    rw [List.all_eq_true]
    intro x hx
    obtain ⟨w, rfl, hw⟩ := h x hx
    cases w with
    | nil => exact absurd rfl hw
    | cons p w => rfl
  rw [h1, h2]; rfl
theorem sorted_lst {xs : List D} (h : ∀ d ∈ xs, Wd d) : builtin .sorted [.lst xs] = some (true, .lst (sortD xs)) := by
  show (if allLess xs then some (true, D.lst (sortD xs)) else none) = _
  rw [if_pos (wds_less h)]
theorem sorted_tup {xs : List D} (h : ∀ d ∈ xs, Wd d) : builtin .sorted [.tup xs] = some (true, .lst (sortD xs)) := by
  show (if allLess xs then some (true, D.lst (sortD xs)) else none) = _
  rw [if_pos (wds_less h)]
theorem sorted_dic {kvs : List (D × D)} (h : ∀ d ∈ kvs.map (·.1), Wd d) : builtin .sorted [.dic kvs] = some (true, .lst (sortD (kvs.map (·.1)))) := by
  show (if allLess (kvs.map (·.1)) then some (true, D.lst (sortD (kvs.map (·.1)))) else none) = _
  rw [if_pos (wds_less h)]
theorem sortD_mem {xs : List D} {d : D} (h : d ∈ sortD xs) : d ∈ xs := by
  unfold sortD at h
  exact (List.mergeSort_perm xs _).mem_iff.mp h
def turnsL : List (List Nat) := [[0, 1, 2], [0, 2, 1], [1, 0, 2], [1, 2, 0], [2, 0, 1], [2, 1, 0]]

/-! worlds in order -/
def IsWd (d : D) : Prop := ∃ w : List Pt, d = wd w
theorem wd_keyp {w : List Pt} : D.keyp (wd w) = true := pts_keyp w
theorem wdLin : Lin IsWd := ⟨fun x ⟨w, e⟩ => by rw [e]; exact wd_keyp, fun x y ⟨v, e⟩ ⟨w, e'⟩ => by rw [e, e']; exact wd_alike⟩
theorem ints_inj : ∀ {xs ys : List Int}, xs.map D.int = ys.map D.int → xs = ys
  | [], [], _ => rfl
  | [], _ :: _, h => by simp at h
  | _ :: _, [], h => by simp at h
  | x :: xs, y :: ys, h => by
    rw [List.map_cons, List.map_cons] at h
    injection h with h1 h2
    injection h1 with h1
    rw [h1, ints_inj h2]
theorem ptD_inj {p q : Pt} (h : ptD p = ptD q) : p = q := by
  obtain ⟨a, l⟩ := p
  obtain ⟨b, l'⟩ := q
  simp only [ptD, D.tup.injEq, List.cons.injEq, D.int.injEq, and_true] at h
  rw [h.1, ints_inj h.2]
theorem wd_inj {v w : List Pt} (h : wd v = wd w) : v = w := by
  unfold wd at h
  injection h with h
  have : ∀ {v w : List Pt}, v.map ptD = w.map ptD → v = w := by
    intro v
    induction v with
    | nil => intro w h; cases w with
      | nil => rfl
      | cons _ _ => simp at h
    | cons p v ih => intro w h; cases w with
      | nil => simp at h
      | cons q w =>
        rw [List.map_cons, List.map_cons] at h
        injection h with h1 h2
        rw [ptD_inj h1, ih h2]
  exact this h
def wlt (v w : List Pt) : Bool := dlt (wd v) (wd w)
def leastW : List (List Pt) → List Pt
  | [] => []
  | a :: r => r.foldl (fun a b => if wlt b a then b else a) a
theorem leastW_eq {l : List (List Pt)} (h : l ≠ []) : least (l.map wd) = some (wd (leastW l)) := by
  cases l with
  | nil => exact absurd rfl h
  | cons a r =>
    show some ((r.map wd).foldl (fun a b => if PySem.W.dataLt b.py a.py then b else a) (wd a)) = some (wd (r.foldl (fun a b => if wlt b a then b else a) a))
    clear h
    congr 1
    induction r generalizing a with
    | nil => rfl
    | cons b r ih =>
      rw [List.map_cons, List.foldl_cons, List.foldl_cons, ← ih]
      congr 1
      show (if wlt b a = true then wd b else wd a) = wd (if wlt b a = true then b else a)
      split <;> rfl
theorem leastW_mem {l : List (List Pt)} (h : l ≠ []) : leastW l ∈ l := by
  obtain ⟨a, _⟩ := least_spec (leastW_eq h)
  obtain ⟨w, hw, e⟩ := List.mem_map.mp a
  rw [← wd_inj e]
  exact hw
theorem leastW_same {l l' : List (List Pt)} (hl : l ≠ []) (h : ∀ w, w ∈ l ↔ w ∈ l') : leastW l = leastW l' := by
  have hl' : l' ≠ [] := by
    intro e
    cases l with
    | nil => exact hl rfl
    | cons a r => have := (h a).mp List.mem_cons_self; rw [e] at this; cases this
  have e := least_same wdLin (xs := l.map wd) (ys := l'.map wd) (fun d hd => by
    obtain ⟨w, _, e⟩ := List.mem_map.mp hd
    exact ⟨w, e.symm⟩) (fun d => by
    constructor
    · intro hd
      obtain ⟨w, hw, e⟩ := List.mem_map.mp hd
      exact List.mem_map.mpr ⟨w, (h w).mp hw, e⟩
    · intro hd
      obtain ⟨w, hw, e⟩ := List.mem_map.mp hd
      exact List.mem_map.mpr ⟨w, (h w).mpr hw, e⟩)
  rw [leastW_eq hl, leastW_eq hl'] at e
  exact wd_inj (Option.some.inj e)
theorem leastW_one {l : List (List Pt)} {w : List Pt} (hl : l ≠ []) (h : ∀ v ∈ l, v = w) : leastW l = w := h _ (leastW_mem hl)
/-! parts of parts -/
theorem ptAt_part {bk : List Int} {w : List Pt} {p : List Nat} {k : Nat} (h : k < p.length) : ptAt (partF bk w p) k = ((ptAt w p[k]).1, (p.take k).map fun j => betwF bk w p[k] j) := by
  rw [ptAt_eq (by rw [partF_len]; exact h), partF_at h]
theorem wyAt_part {bk : List Int} {w : List Pt} {p : List Nat} {i j : Nat} (hi : i < p.length) (hj : j < i) : wyAt (partF bk w p) i j = betwF bk w p[i] p[j] := by
  unfold wyAt
  rw [ptAt_part hi]
  simp [List.getD_eq_getElem?_getD, hj, List.getElem?_eq_getElem (show j < p.length by omega)]
theorem betw_part {bk : List Int} (hb : bk ∈ BackSet) {w : List Pt} (hw : WOk bk.length w) {p : List Nat} (hp : ∀ x ∈ p, x < w.length) (hn : p.Nodup) {i j : Nat} (hi : i < p.length) (hj : j < p.length) (hij : i ≠ j) : betwF bk (partF bk w p) i j = betwF bk w p[i] p[j] := by
  by_cases h : j < i
  · rw [show betwF bk (partF bk w p) i j = wyAt (partF bk w p) i j from if_pos h, wyAt_part hi h]
  · have hji : i < j := by omega
    rw [show betwF bk (partF bk w p) i j = bkAt bk (wyAt (partF bk w p) j i) from if_neg h, wyAt_part hj hji]
    exact (betw_back hb hw (hp _ (List.getElem_mem _)) (hp _ (List.getElem_mem _)) fun e => hij.symm ((List.getElem_inj hn).mp e)).symm
/-- p behind q -/
def thr (p q : List Nat) : List Nat := q.map fun i => p.getD i 0
theorem thr_at {p q : List Nat} {k : Nat} (h : k < q.length) (hq : q[k] < p.length) : (thr p q)[k]'(by simp [thr, h]) = p[q[k]] := by
  simp [thr, List.getD_eq_getElem?_getD, List.getElem?_eq_getElem hq]
theorem part_part {bk : List Int} (hb : bk ∈ BackSet) {w : List Pt} (hw : WOk bk.length w) {p q : List Nat} (hp : ∀ x ∈ p, x < w.length) (hn : p.Nodup) (hq : ∀ x ∈ q, x < p.length) (hqn : q.Nodup) : partF bk (partF bk w p) q = partF bk w (thr p q) := by
  have hl : (thr p q).length = q.length := by simp [thr]
  refine List.ext_getElem (by rw [partF_len, partF_len, hl]) fun k h1 h2 => ?_
  have hk : k < q.length := by rw [partF_len] at h1; exact h1
  have hk2 : k < (thr p q).length := by rw [hl]; exact hk
  have hqk := hq _ (List.getElem_mem hk)
  rw [partF_at hk, partF_at hk2, ptAt_part hqk, thr_at hk hqk]
  refine Prod.ext rfl ?_
  show (q.take k).map (fun j => betwF bk (partF bk w p) q[k] j) = ((thr p q).take k).map fun j => betwF bk w p[q[k]] j
  refine List.ext_getElem (by simp [hl]) fun i h3 h4 => ?_
  have hik : i < k := by simp at h3; omega
  have hiq : i < q.length := by omega
  have hqi := hq _ (List.getElem_mem hiq)
  rw [List.getElem_map, List.getElem_map, List.getElem_take, List.getElem_take, thr_at hiq hqi]
  exact betw_part hb hw hp hn hqk hqi fun e => by
    have := (List.getElem_inj hqn).mp e
    omega
theorem part_mok {bk : List Int} {w : List Pt} {nm : Int} (hm : MOk nm w) {p : List Nat} (hp : ∀ x ∈ p, x < w.length) : MOk nm (partF bk w p) := by
  intro a ha
  obtain ⟨k, hk, e⟩ := List.getElem_of_mem ha
  have hk2 : k < p.length := by rw [partF_len] at hk; exact hk
  rw [partF_at hk2] at e
  subst e
  have := hp _ (List.getElem_mem hk2)
  show 0 ≤ (ptAt w p[k]).1 ∧ _
  rw [ptAt_eq this]
  exact hm _ (List.getElem_mem _)
/-! figures -/
theorem turn_ok : ∀ p ∈ turnsL, p.length = 3 ∧ p.Nodup ∧ ∀ i ∈ p, i < 3 := by decide
/-- the six tellings of a three -/
def orb (bk : List Int) (w : List Pt) : List (List Pt) := turnsL.map (partF bk w)
@[irreducible] def figF (bk : List Int) (w : List Pt) : List Pt := leastW (orb bk w)
theorem orb_ne {bk : List Int} {w : List Pt} : orb bk w ≠ [] := by simp [orb, turnsL]
theorem figF_mem {bk : List Int} {w : List Pt} : figF bk w ∈ orb bk w := by unfold figF; exact leastW_mem orb_ne
theorem orb_orb {bk : List Int} (hb : bk ∈ BackSet) {w : List Pt} (h3 : w.length = 3) (hw : WOk bk.length w) {v : List Pt} (hv : v ∈ orb bk w) : ∀ u, u ∈ orb bk v ↔ u ∈ orb bk w := by
  obtain ⟨p, hp, rfl⟩ := List.mem_map.mp hv
  obtain ⟨p1, p2, p3⟩ := turn_ok p hp
  have key : ∀ q ∈ turnsL, partF bk (partF bk w p) q = partF bk w (thr p q) := fun q hq => by
    obtain ⟨q1, q2, q3⟩ := turn_ok q hq
    exact part_part hb hw (fun x hx => by rw [h3]; exact p3 x hx) p2 (fun x hx => by rw [p1]; exact q3 x hx) q2
  have t1 : ∀ p ∈ turnsL, ∀ q ∈ turnsL, thr p q ∈ turnsL := by decide
  have t2 : ∀ p ∈ turnsL, ∀ r ∈ turnsL, ∃ q ∈ turnsL, thr p q = r := by decide
  intro u
  constructor
  · intro hu
    obtain ⟨q, hq, rfl⟩ := List.mem_map.mp hu
    rw [key q hq]
    exact List.mem_map.mpr ⟨_, t1 p hp q hq, rfl⟩
  · intro hu
    obtain ⟨r, hr, rfl⟩ := List.mem_map.mp hu
    obtain ⟨q, hq, e⟩ := t2 p hp r hr
    exact List.mem_map.mpr ⟨q, hq, by rw [key q hq, e]⟩
theorem orb_len {bk : List Int} {w v : List Pt} (hv : v ∈ orb bk w) : v.length = 3 := by
  obtain ⟨p, hp, rfl⟩ := List.mem_map.mp hv
  rw [partF_len, (turn_ok p hp).1]
theorem orb_ok {bk : List Int} (hb : bk ∈ BackSet) {w : List Pt} (h3 : w.length = 3) (hw : WOk bk.length w) {v : List Pt} (hv : v ∈ orb bk w) : WOk bk.length v := by
  obtain ⟨p, hp, rfl⟩ := List.mem_map.mp hv
  obtain ⟨p1, p2, p3⟩ := turn_ok p hp
  exact partF_ok hb hw (fun x hx => by rw [h3]; exact p3 x hx) p2
theorem orb_mok {bk : List Int} {w : List Pt} (h3 : w.length = 3) {nm : Int} (hm : MOk nm w) {v : List Pt} (hv : v ∈ orb bk w) : MOk nm v := by
  obtain ⟨p, hp, rfl⟩ := List.mem_map.mp hv
  exact part_mok hm fun x hx => by rw [h3]; exact (turn_ok p hp).2.2 x hx
theorem figF_orb {bk : List Int} (hb : bk ∈ BackSet) {w : List Pt} (h3 : w.length = 3) (hw : WOk bk.length w) {v : List Pt} (hv : v ∈ orb bk w) : figF bk v = figF bk w := by
  unfold figF
  exact leastW_same orb_ne (orb_orb hb h3 hw hv)
theorem figF_fig {bk : List Int} (hb : bk ∈ BackSet) {w : List Pt} (h3 : w.length = 3) (hw : WOk bk.length w) : figF bk (figF bk w) = figF bk w := figF_orb hb h3 hw figF_mem
theorem figF_len {bk : List Int} {w : List Pt} : (figF bk w).length = 3 := orb_len figF_mem
/-- a figure of a rule of so many marks -/
def FigP (nm : Nat) (bk : List Int) (w : List Pt) : Prop := w.length = 3 ∧ WOk bk.length w ∧ MOk nm w ∧ figF bk w = w
def Fig (nm : Nat) (bk : List Int) (d : D) : Prop := ∃ w : List Pt, d = wd w ∧ FigP nm bk w
theorem figF_FigP {bk : List Int} (hb : bk ∈ BackSet) {w : List Pt} (h3 : w.length = 3) (hw : WOk bk.length w) {nm : Nat} (hm : MOk nm w) : FigP nm bk (figF bk w) :=
  ⟨figF_len, orb_ok hb h3 hw figF_mem, orb_mok h3 hm figF_mem, figF_fig hb h3 hw⟩
theorem Fig.of {nm : Nat} {bk : List Int} {w : List Pt} (h : FigP nm bk w) : Fig nm bk (G.Pl.wd w) := ⟨w, rfl, h⟩
theorem Fig.wd {nm : Nat} {bk : List Int} {d : D} (h : Fig nm bk d) : Wd d := by
  obtain ⟨w, rfl, h, _⟩ := h
  exact ⟨w, rfl, fun z => by subst z; cases h⟩
theorem Wd.is {d : D} (h : Wd d) : IsWd d := let ⟨w, e, _⟩ := h; ⟨w, e⟩
/-- figures, none twice -/
def FigL (nm : Nat) (bk : List Int) (xs : List D) : Prop := (∀ d ∈ xs, Fig nm bk d) ∧ xs.Nodup
theorem FigL.srt {nm : Nat} {bk : List Int} {xs : List D} (h : FigL nm bk xs) : (sortD xs).Pairwise (fun a b => dlt a b = true) := sortD_strict wdLin (fun d hd => (h.1 d hd).wd.is) h.2
/-- a three whose six tellings are one is its own figure -/
theorem figF_one {bk : List Int} {w : List Pt} (h : ∀ v ∈ orb bk w, v = w) : figF bk w = w := by unfold figF; exact leastW_one orb_ne h
/-- three points -/
def tri (a b x c y z : Int) : List Pt := [(a, []), (b, [x]), (c, [y, z])]
theorem tri_ok {nw : Nat} {a b x c y z : Int} (hx : 0 ≤ x ∧ x < nw) (hy : 0 ≤ y ∧ y < nw) (hz : 0 ≤ z ∧ z < nw) : WOk nw (tri a b x c y z) := three_ok hx hy hz
theorem orb_tri {bk : List Int} {a b x c y z : Int} : orb bk (tri a b x c y z) = [tri a b x c y z, tri a c y b x (bkAt bk z), tri b a (bkAt bk x) c z y, tri b c z a (bkAt bk x) (bkAt bk y), tri c a (bkAt bk y) b (bkAt bk z) x, tri c b (bkAt bk z) a (bkAt bk y) (bkAt bk x)] := rfl
theorem tri_mok {a b x c y z nm : Int} (ha : 0 ≤ a ∧ a < nm) (hb : 0 ≤ b ∧ b < nm) (hc : 0 ≤ c ∧ c < nm) : MOk nm (tri a b x c y z) := by
  intro p hp
  simp only [tri, List.mem_cons, List.not_mem_nil, or_false] at hp
  rcases hp with rfl | rfl | rfl <;> assumption
theorem tri_inj {a b x c y z a' b' x' c' y' z' : Int} (h : tri a b x c y z = tri a' b' x' c' y' z') : a = a' ∧ b = b' ∧ x = x' ∧ c = c' ∧ y = y' ∧ z = z' := by
  simp [tri] at h
  simp [h]
theorem nodup_range {f : Nat → D} (h : ∀ a b, f a = f b → a = b) (n : Nat) : ((List.range n).map f).Nodup :=
  List.pairwise_map.mpr (List.nodup_range.imp fun hne e => hne (h _ _ e))
theorem least_orb {bk : List Int} {w : List Pt} : least ((orb bk w).map wd) = some (wd (figF bk w)) := by unfold figF; exact leastW_eq orb_ne
end G.Pl

set_option linter.all false
set_option maxRecDepth 100000
set_option maxHeartbeats 4000000
namespace G.Pl
open PySem
namespace Wp
end Wp
open scoped Wp
def d_between : Def := { params := 4, slots := 4, body := [.ite (.cmp .lt (.var 3) (.var 2)) [.ret (.sub (.sub (.sub (.var 1) (.var 2)) (.con (.int 1))) (.var 3))] [], .ret (.sub (.sub (.sub (.var 0) (.con (.int 1))) (.sub (.sub (.sub (.var 1) (.var 3)) (.con (.int 1))) (.var 2))) (.con (.int 1)))] }  -- 5: 0 _law_rule_here, 1 _law_world, 2 _law_i, 3 _law_j
def d_part : Def := { params := 3, slots := 7, body := [.asg (.var 3) (.lst []), .for_ (.var 4) (.range1 (.blt .len (.var 2))) [.asg (.var 5) (.sub (.var 2) (.var 4)), .mut (.var 3) .append [.tup [.sub (.sub (.var 1) (.var 5)) (.con (.int 0)), .blt .tuple (.comp (.var 6) (.seq (.slice (.var 2) none (some (.var 4)))) none (.call 5 [.var 0, .var 1, .var 5, .var 6]))]]], .ret (.blt .tuple (.var 3))] }  -- 7: 0 _law_rule_here, 1 _law_world, 2 _law_points, 3 _law_told, 4 _law_k, 5 _law_i, 6 _law_j
def d_turns : Def := { params := 0, slots := 0, body := [.ret (.lst [.tup [.con (.int 0), .con (.int 1), .con (.int 2)], .tup [.con (.int 0), .con (.int 2), .con (.int 1)], .tup [.con (.int 1), .con (.int 0), .con (.int 2)], .tup [.con (.int 1), .con (.int 2), .con (.int 0)], .tup [.con (.int 2), .con (.int 0), .con (.int 1)], .tup [.con (.int 2), .con (.int 1), .con (.int 0)]])] }  -- 6: 
def d_figure : Def := { params := 2, slots := 3, body := [.ret (.blt .min1 (.comp (.var 2) (.seq (.call 6 [])) none (.call 7 [.var 0, .var 1, .var 2])))] }  -- 13: 0 _law_rule_here, 1 _law_three, 2 _law_points
structure RuleR where
  nm : List D
  wn : List D
  bk : List Int
  bars : List D
def wayD (p : D × Int) : D := .tup [p.1, .int p.2]
def RuleR.ways (r : RuleR) : List (D × Int) := r.wn.zip r.bk
def RuleR.d (r : RuleR) : D := .tup [.tup r.nm, .tup (r.ways.map wayD), .tup r.bars]
structure RuleR.Ok (r : RuleR) : Prop where
  nmw : Words r.nm
  m1 : 1 ≤ r.nm.length
  m3 : r.nm.length ≤ 3
  wnw : Words r.wn
  wl : r.wn.length = r.bk.length
  bk : r.bk ∈ BackSet
  tm : r.nm.length * r.bk.length ≤ 6
  dis : (reserved ++ (r.nm ++ r.wn)).Nodup
  bars : ∀ d ∈ r.bars, Fig r.nm.length r.bk d
  srt : r.bars.Pairwise (fun a b => dlt a b = true)
  bl : r.bars.length ≤ 1000
theorem RuleR.Ok.nm {r : RuleR} (h : r.Ok) : Names r.nm := h.nmw.names
theorem RuleR.Ok.wn {r : RuleR} (h : r.Ok) : Names r.wn := h.wnw.names
theorem RuleR.Ok.wlen {r : RuleR} (h : r.Ok) : r.ways.length = r.bk.length := by
  unfold RuleR.ways
  rw [List.length_zip, h.wl, Nat.min_self]
theorem RuleR.Ok.back {r : RuleR} (h : r.Ok) {x : Int} (h0 : 0 ≤ x) (h1 : x < r.bk.length) : ∃ nm, L2.atI (r.ways.map wayD) x = some (.tup [nm, .int (bkAt r.bk x)]) := by
  unfold bkAt
  have e := atI_get (f := wayD) (xs := r.ways) h0 (by rw [h.wlen]; exact h1) (.non, 0)
  rw [e]
  refine ⟨(r.ways.getD x.toNat (.non, 0)).1, ?_⟩
  unfold wayD
  have : (r.ways.getD x.toNat (.non, 0)).2 = r.bk.getD x.toNat 0 := by
    unfold RuleR.ways
    rw [List.getD_eq_getElem?_getD, List.getElem?_eq_getElem (by rw [List.length_zip, h.wl]; omega), List.getD_eq_getElem?_getD, List.getElem?_eq_getElem (by omega)]
    simp
  rw [this]
theorem between_ok {P : Prog} {n : Nat} (h5 : P.df 5 = some d_between) {m : Mem} {r : RuleR} (hr : r.Ok) {w : List Pt} (hw : WOk r.bk.length w) {i j : Nat} (hi : i < w.length) (hj : j < w.length) (hij : i ≠ j) {K : RV → Mem → Prop} (hK : K (false, .int (betwF r.bk w i j)) m) :
    Says (callN P (n + 1) 5) [(false, r.d), (false, wd w), (false, .int (i : Nat)), (false, .int (j : Nat))] m K := by
  refine says_fn h5 rfl ?_
  simp only [d_between, RuleR.d, wd]
  rw [Wp.step]
  unfold betwF at hK
  by_cases h : j < i
  · rw [if_pos h] at hK
    have e1 := pt_at hi
    have e2 := hw.wat hi h
    simp [ex, ev, E.isVar, E.isFld, again, h]
    rw [Wp.step]
    simp [ex, ev, E.isVar, E.isFld, again, e1, e2]
    rw [gc_len rfl]
    exact hK
  · rw [if_neg h] at hK
    have hji : i < j := by omega
    have e1 := pt_at hj
    have e2 := hw.wat hj hji
    obtain ⟨b0, b1⟩ := hw.at hj hji
    obtain ⟨nm, e3⟩ := hr.back b0 b1
    simp [ex, ev, E.isVar, E.isFld, again, h]
    unfold Rest
    rw [Wp.step]
    simp [ex, ev, E.isVar, E.isFld, again, e1, e2, e3]
    rw [gc_len rfl]
    exact hK
end G.Pl

set_option linter.all false
set_option maxRecDepth 100000
set_option maxHeartbeats 4000000
namespace G.Pl
open PySem
namespace Wp
end Wp
open scoped Wp
theorem part_ok {P : Prog} {n : Nat} (h5 : P.df 5 = some d_between) (h7 : P.df 7 = some d_part) {m : Mem} {r : RuleR} (hr : r.Ok) {w : List Pt} (hw : WOk r.bk.length w) {pts : List Nat} (hp : ∀ p ∈ pts, p < w.length) (hn : pts.Nodup) (hl : pts.length ≤ 1000) {K : RV → Mem → Prop} (hK : K (false, wd (partF r.bk w pts)) m) :
    Says (callN P (n + 2) 7) [(false, r.d), (false, wd w), (false, .tup (ptsD pts))] m K := by
  refine says_fn h7 rfl ?_
  simp only [d_part]
  rw [Wp.step]
  simp [ex, ev, evs]
  unfold Rest
  rw [Wp.step]
  have hlp : (ptsD pts).length = pts.length := by simp [ptsD]
  have hr4 : (pts.length : Int) < 16777216 ∧ -4611686018427387904 ≤ (pts.length : Int) := ⟨by omega, by omega⟩
  simp [ex, ev, evIt, E.isVar, again, hlp, hr4]
  refine Wp.forL (fun i s => ∃ c4 c5 c6, s = ⟨[some (false, r.d), some (false, wd w), some (false, .tup (ptsD pts)), some (true, .lst (((partF r.bk w pts).map ptD).take i)), c4, c5, c6], m⟩) ⟨none, none, none, by simp⟩ ?_ ?_
  · rintro i d s hd ⟨c4, c5, c6, rfl⟩
    obtain ⟨hi, rfl⟩ := rangeD_at hd
    have hpi : pts[i] < w.length := hp _ (List.getElem_mem _)
    have e1 : L2.atI (ptsD pts) (i : Int) = some (.int (pts[i] : Nat)) := atI_map hi
    simp [tgStore]
    rw [Wp.step]
    simp [ex, ev, E.isVar, again, e1]
    unfold Rest
    rw [Wp.step]
    have e2 := pt_at hpi
    have hc : cut (ptsD pts) none (some (i : Int)) = (ptsD pts).take i := by
      rw [cut_hi (by omega) (by rw [hlp]; omega)]
      simp
    simp only [wd]
    simp [ex, ev, evs, evO, evIt, mutPl, E.isVar, E.isFld, again, e2, sliced, hc, Tg.slots]
    refine Wp.compL (fun j acc s => (∃ c6, s = ⟨[some (false, r.d), some (false, .tup (w.map ptD)), some (false, .tup (ptsD pts)), some (true, .lst (((partF r.bk w pts).map ptD).take i)), some (false, .int (i : Nat)), some (false, .int (pts[i] : Nat)), c6], m⟩) ∧ acc = (pts.map (bwD r.bk w pts[i])).take j ∧ j ≤ i) ⟨⟨none, rfl⟩, by simp, Nat.zero_le _⟩ ?_ ?_
    · rintro j d acc s hd2 ⟨⟨c6, rfl⟩, ha, hji⟩
      have hjl : j < i := by
        have := (List.getElem?_eq_some_iff.mp hd2).1
        simp [hlp] at this
        omega
      have ed : d = .int (pts[j] : Nat) := by
        have := (List.getElem?_eq_some_iff.mp hd2).2
        simp [ptsD] at this
        exact this.symm
      subst ed
      simp [tgStore, testM, still, ev, evs, Tg.slots]
      have hne : pts[i] ≠ pts[j] := fun z => by
        have := (List.getElem_inj hn).mp z
        omega
      refine between_ok h5 hr hw hpi (hp _ (List.getElem_mem _)) hne ?_
      have ha2 : acc.length = j := by rw [ha]; simp; omega
      simp
      refine ⟨by rw [ha2]; show _ < 16777216; omega, ?_, by omega⟩
      rw [ha, List.take_succ_eq_append_getElem (by rw [List.length_map]; omega), List.getElem_map]
      rfl
    · rintro acc s ⟨⟨c6, rfl⟩, ha, hji⟩
      have hlt : ((ptsD pts).take i).length = i := by simp [hlp]; omega
      rw [hlt] at ha
      have hm : ((pts.take i).map fun j => betwF r.bk w pts[i] j).map D.int = (pts.map (bwD r.bk w pts[i])).take i := by
        rw [List.map_map, List.map_take]; rfl
      have hz : ((partF r.bk w pts).take i).length < sizeMax := by
        rw [List.length_take, partF_len]; show _ < 16777216; omega
      have hz2 : min i (partF r.bk w pts).length < sizeMax := by rw [List.length_take] at hz; exact hz
      simp [still, hz2]
      unfold Rest
      simp
      rw [List.take_succ_eq_append_getElem (by rw [List.length_map, partF_len]; exact hi), List.getElem_map, partF_at hi, ha]
      unfold ptD
      rw [hm]
  · rintro s ⟨c4, c5, c6, rfl⟩
    simp
    unfold Rest
    rw [Wp.step]
    simp [ex, ev, E.isVar, again]
    rw [gc_len rfl]
    have : ((partF r.bk w pts).map ptD).take pts.length = (partF r.bk w pts).map ptD := List.take_of_length_le (by rw [List.length_map, partF_len]; omega)
    rw [this]
    exact hK
end G.Pl

set_option linter.all false
set_option maxRecDepth 100000
set_option maxHeartbeats 4000000
namespace G.Pl
open PySem
namespace Wp
end Wp
open scoped Wp
theorem turns_ok {P : Prog} {n : Nat} (h6 : P.df 6 = some d_turns) {m : Mem} {K : RV → Mem → Prop} (hK : K (true, .lst (turnsL.map fun p => .tup (ptsD p))) m) : Says (callN P (n + 1) 6) [] m K := by
  refine says_fn h6 rfl ?_
  simp only [d_turns]
  rw [Wp.step]
  simp [ex, ev, evs]
  rw [gc_len rfl]
  exact hK
theorem figure_ok {P : Prog} {n : Nat} (h5 : P.df 5 = some d_between) (h6 : P.df 6 = some d_turns) (h7 : P.df 7 = some d_part) (h13 : P.df 13 = some d_figure) {m : Mem} {r : RuleR} (hr : r.Ok) {w : List Pt} (hw : WOk r.bk.length w) (h3 : w.length = 3) {K : RV → Mem → Prop}
    (hK : K (false, wd (figF r.bk w)) m) : Says (callN P (n + 3) 13) [(false, r.d), (false, wd w)] m K := by
  refine says_fn h13 rfl ?_
  simp only [d_figure]
  rw [Wp.step]
  simp [ex, ev, evs, evIt, E.isVar, again]
  refine turns_ok h6 ?_
  simp
  refine Wp.compL (fun j acc s => (∃ c, s = ⟨[some (false, r.d), some (false, wd w), c], m⟩) ∧ acc = ((orb r.bk w).map wd).take j) ⟨⟨none, rfl⟩, by simp⟩ ?_ ?_
  · rintro j d acc s hd ⟨⟨c, rfl⟩, rfl⟩
    have hj : j < turnsL.length := by simpa using (List.getElem?_eq_some_iff.mp hd).1
    have ed : d = .tup (ptsD turnsL[j]) := by
      have := (List.getElem?_eq_some_iff.mp hd).2
      simpa using this.symm
    subst ed
    obtain ⟨q1, q2, q3⟩ := turn_ok turnsL[j] (List.getElem_mem _)
    simp [tgStore, testM, still, ev, evs, Tg.slots]
    refine part_ok h5 h7 hr hw (fun i hi => by rw [h3]; exact q3 i hi) q2 (by omega) ?_
    simp
    have hj6 : turnsL.length = 6 := rfl
    refine ⟨by show min _ _ < 16777216; omega, ?_⟩
    rw [List.take_succ_eq_append_getElem (by simp [orb]; exact hj)]
    simp [orb]
  · rintro acc s ⟨⟨c, rfl⟩, rfl⟩
    have e6 : ((orb r.bk w).map wd).take (turnsL.map fun p => D.tup (ptsD p)).length = (orb r.bk w).map wd := List.take_of_length_le (by simp [orb])
    have e : builtin .min1 [.lst ((orb r.bk w).map wd)] = some (false, wd (figF r.bk w)) := by
      show (if allAlike ((orb r.bk w).map wd) then (least ((orb r.bk w).map wd)).map fun z => (false, z) else none) = _
      rw [if_pos (less_alike (wds_less fun d hd => by
        obtain ⟨v, hv, rfl⟩ := List.mem_map.mp hd
        exact ⟨v, rfl, fun z => by subst z; have := orb_len hv; cases this⟩)), least_orb]
      rfl
    rw [e6]
    simp [still, e]
    rw [gc_len rfl]
    exact hK
end G.Pl

set_option linter.all false
set_option maxRecDepth 100000
set_option maxHeartbeats 4000000
namespace G.Pl
open PySem
namespace Wp
end Wp
open scoped Wp
def d_backs : Def := { params := 2, slots := 3, body := [.asg (.var 2) (.sub (.lst [.lst [.tup [.con (.int 0)]], .lst [.tup [.con (.int 0), .con (.int 1)], .tup [.con (.int 1), .con (.int 0)]], .lst [.tup [.con (.int 0), .con (.int 1), .con (.int 2)], .tup [.con (.int 1), .con (.int 0), .con (.int 2)], .tup [.con (.int 0), .con (.int 2), .con (.int 1)]]]) (.bin .sub (.var 1) (.con (.int 1)))), .ret (.sub (.var 2) (.call 2 [.var 0, .blt .len (.var 2)]))] }  -- 12: 0 _law_flow_here, 1 _law_many, 2 _law_menu
def d_rule_of : Def := { params := 4, slots := 7, body := [.asg (.var 4) (.call 8 [.var 0, .bin .add (.var 1) (.blt .len (.var 2))]), .asg (.var 5) (.blt .tuple (.comp (.var 6) (.range1 (.blt .len (.var 2))) none (.tup [.sub (.var 4) (.bin .add (.var 1) (.var 6)), .sub (.var 2) (.var 6)]))), .ret (.tup [.slice (.var 4) none (some (.var 1)), .var 5, .blt .tuple (.blt .sorted (.var 3))])] }  -- 11: 0 _law_flow_here, 1 _law_marks, 2 _law_backs_here, 3 _law_barred, 4 _law_names_here, 5 _law_ways, 6 _law_k
theorem backs_ok {P : Prog} {n : Nat} (h2 : P.df 2 = some d_pick) (h12 : P.df 12 = some d_backs) {f : Flow} {m : Mem} (ok : f.Ok) {many : Int} (m1 : 1 ≤ many) (m3 : many ≤ 3) {K : RV → Mem → Prop}
    (hK : ∀ bk f', bk ∈ BackSet → (bk.length : Int) = many → Flow.Ok f' → K (false, .tup (bk.map .int)) (fl f' :: m)) :
    Says (callN P (n + 2) 12) [(false, .obj 0), (false, .int many)] (fl f :: m) K := by
  refine says_fn h12 rfl ?_
  simp only [d_backs]
  rw [Wp.step]
  obtain ⟨bs, eb, b0, b3, hb⟩ : ∃ bs : List (List Int), L2.atI [.lst [.tup [.int 0]], .lst [.tup [.int 0, .int 1], .tup [.int 1, .int 0]], .lst [.tup [.int 0, .int 1, .int 2], .tup [.int 1, .int 0, .int 2], .tup [.int 0, .int 2, .int 1]]] (many - 1) = some (D.lst (bs.map fun b => .tup (b.map .int))) ∧ 0 < bs.length ∧ bs.length ≤ 3 ∧ ∀ b ∈ bs, b ∈ BackSet ∧ (b.length : Int) = many := by
    obtain rfl | rfl | rfl : many = 1 ∨ many = 2 ∨ many = 3 := by omega
    · exact ⟨[[0]], rfl, by decide, by decide, by decide⟩
    · exact ⟨[[0, 1], [1, 0]], rfl, by decide, by decide, by decide⟩
    · exact ⟨[[0, 1, 2], [1, 0, 2], [0, 2, 1]], rfl, by decide, by decide, by decide⟩
  simp [ex, ev, evs, E.isVar, E.isFld, again, eb]
  unfold Rest
  rw [Wp.step]
  simp [ex, ev, evs, E.isVar, E.isFld, again]
  refine pickK h2 (by omega) (by omega) ok fun x f1 x0 x1 ok1 => ?_
  obtain ⟨d, e, bk, rfl, q1, q2⟩ := one_of (p := fun d => ∃ bk : List Int, d = .tup (bk.map .int) ∧ bk ∈ BackSet ∧ (bk.length : Int) = many) (xs := bs.map fun b => D.tup (b.map D.int)) x0 (by rw [List.length_map]; exact x1) (by
    intro d hd
    obtain ⟨b, hb', rfl⟩ := List.mem_map.mp hd
    exact ⟨b, rfl, hb b hb'⟩)
  simp [e]
  rw [gc_len (by simp)]
  exact hK bk f1 q1 q2 ok1
/-- names, as many as wanted -/
def NamesOk (P : Prog) : Prop := ∀ (n : Nat) (f : Flow) (m : Mem) (many : Int) (K : RV → Mem → Prop), f.Ok → 0 ≤ many → many ≤ 6 → (∀ ns f', Words ns → (reserved ++ ns).Nodup → (ns.length : Int) = many → Flow.Ok f' → K (false, .tup ns) (fl f' :: m)) → Says (callN P (n + 4) 8) [(false, .obj 0), (false, .int many)] (fl f :: m) K
theorem rule_of_ok {P : Prog} {n : Nat} (hN : NamesOk P) (h11 : P.df 11 = some d_rule_of) {f : Flow} {m : Mem} (ok : f.Ok) {mk : Int} (m1 : 1 ≤ mk) (m3 : mk ≤ 3) {bk : List Int} (hb : bk ∈ BackSet)
    {o : Bool} {b : D} {xs : List D} (eb : b = .tup xs ∨ b = .lst xs) (hx : FigL mk.toNat bk xs) (hxl : xs.length ≤ 1000) (htm : mk * bk.length ≤ 6) {K : RV → Mem → Prop}
    (hK : ∀ (r : RuleR) f', r.Ok → (r.nm.length : Int) = mk → r.bk = bk → Flow.Ok f' → K (false, r.d) (fl f' :: m)) :
    Says (callN P (n + 5) 11) [(false, .obj 0), (false, .int mk), (false, .tup (bk.map .int)), (o, b)] (fl f :: m) K := by
  obtain ⟨l1, l3⟩ := back_len hb
  have es : builtin .sorted [b] = some (true, .lst (sortD xs)) := by
    rcases eb with rfl | rfl
    · exact sorted_tup fun d hd => (hx.1 d hd).wd
    · exact sorted_lst fun d hd => (hx.1 d hd).wd
  have seenb : ∀ {K : D → S → Prop} {s : S}, Wp (G.seen (o, b)) s K ↔ K b s := by
    rcases eb with rfl | rfl <;> (intro K s; simp)
  have seenb' : ∀ {K : D → S → Prop} {s : S}, Wp (G.seen (false, b)) s K ↔ K b s := by
    rcases eb with rfl | rfl <;> (intro K s; simp)
  refine says_fn h11 rfl ?_
  simp only [d_rule_of]
  rw [Wp.step]
  simp [ex, ev, evs, E.isVar, again]
  refine hN _ _ _ _ _ ok (by omega) (by omega) fun ns f1 hn hnd hl ok1 => ?_
  unfold Rest
  rw [Wp.step]
  have hr : (bk.length : Int) < 16777216 ∧ -4611686018427387904 ≤ (bk.length : Int) := ⟨by omega, by omega⟩
  simp [ex, ev, evs, evIt, E.isVar, again, hr, Tg.slots]
  refine Wp.compL (fun j acc s => (∃ c, s = ⟨[some (false, .obj 0), some (false, .int mk), some (false, .tup (bk.map .int)), some (o, b), some (false, .tup ns), none, c], fl f1 :: m⟩) ∧ acc = (((ns.drop mk.toNat).zip bk).map wayD).take j ∧ j ≤ bk.length) ⟨⟨none, rfl⟩, by simp, Nat.zero_le _⟩ ?_ ?_
  · rintro j d acc s hd ⟨⟨c, rfl⟩, ha, hj⟩
    obtain ⟨hj2, rfl⟩ := rangeD_at hd
    have hj2 : j < bk.length := by simpa using hj2
    have hjn : mk.toNat + j < ns.length := by omega
    have e1 : L2.atI ns (mk + (j : Int)) = some ns[mk.toNat + j] := by
      rw [atI_of (by omega) (by omega)]
      congr 1
      congr 1
      omega
    have e2 : L2.atI (bk.map D.int) (j : Int) = some (.int bk[j]) := atI_map hj2
    have hal : acc.length < sizeMax := by
      rw [ha, List.length_take]
      show _ < 16777216
      omega
    simp [tgStore, testM, ev, evs, E.isVar, E.isFld, again, e1, e2, Tg.slots]
    refine ⟨hal, ?_, by omega⟩
    rw [ha, List.take_succ_eq_append_getElem (by simp; omega)]
    simp [wayD]
  · rintro acc s ⟨⟨c, rfl⟩, ha, hj⟩
    have hln : (((ns.drop mk.toNat).zip bk).map wayD).length = bk.length := by simp; omega
    have ha : acc = ((ns.drop mk.toNat).zip bk).map wayD := by
      rw [ha]
      refine List.take_of_length_le ?_
      rw [hln]
      simp
    subst ha
    simp
    unfold Rest
    rw [Wp.step]
    have hc : cut ns none (some mk) = ns.take mk.toNat := cut_hi (by omega) (by omega)
    have hfin : K (false, D.tup [D.tup (ns.take mk.toNat), D.tup (((ns.drop mk.toNat).zip bk).map wayD), D.tup (sortD xs)]) (fl f1 :: m) := by
      have etk : (ns.take mk.toNat).length = mk.toNat := by rw [List.length_take]; omega
      refine hK ⟨ns.take mk.toNat, ns.drop mk.toNat, bk, sortD xs⟩ f1 ⟨fun d hd => hn d (List.mem_of_mem_take hd), ?_, ?_, fun d hd => hn d (List.mem_of_mem_drop hd), ?_, hb, ?_, ?_, ?_, hx.srt, by show (sortD xs).length ≤ 1000; unfold sortD; rw [List.length_mergeSort]; exact hxl⟩ ?_ rfl ok1
      · show 1 ≤ (ns.take mk.toNat).length
        rw [List.length_take]; omega
      · show (ns.take mk.toNat).length ≤ 3
        rw [List.length_take]; omega
      · show (ns.drop mk.toNat).length = bk.length
        rw [List.length_drop]; omega
      · show (ns.take mk.toNat).length * bk.length ≤ 6
        rw [etk]
        have e : ((mk.toNat * bk.length : Nat) : Int) = mk * bk.length := by
          rw [Int.natCast_mul, Int.toNat_of_nonneg (by omega)]
        omega
      · show (reserved ++ (ns.take mk.toNat ++ ns.drop mk.toNat)).Nodup
        rw [List.take_append_drop]
        exact hnd
      · intro d hd
        show Fig (ns.take mk.toNat).length bk d
        rw [etk]
        exact hx.1 d (sortD_mem hd)
      · show ((ns.take mk.toNat).length : Int) = mk
        rw [List.length_take]; omega
    cases o <;> (simp [ex, ev, evs, evO, E.isVar, again, sliced, hc, seenb, seenb', es]; rw [gc_len (by simp)]; exact hfin)
end G.Pl

set_option linter.all false
set_option maxRecDepth 100000
set_option maxHeartbeats 4000000
namespace G.Pl
open PySem
namespace Wp
end Wp
open scoped Wp
def d_laying_kind : Def := { params := 1, slots := 2, body := [.asg (.var 1) (.lst [.tup [.tup [.con (.int 1), .con (.int 0)], .dict [.tup [.con (.int 0), .con (.int 0)], .lst [.con (.int 0)]], .con (.int 3)], .tup [.tup [.con (.int 0), .con (.int 2), .con (.int 1)], .dict [.tup [.con (.int 1), .con (.int 1)], .lst [.con (.int 1)]], .con (.int 2)], .tup [.tup [.con (.int 0), .con (.int 1)], .dict [.tup [.con (.int 1), .con (.int 1)], .lst [.con (.int 1)]], .con (.int 3)]]), .mut (.var 1) .append [.tup [.tup [.con (.int 0), .con (.int 1)], .dict [.tup [.con (.int 1), .con (.int 1)], .lst [.con (.int 1)], .tup [.con (.int 0), .con (.int 0)], .lst [.con (.int 1)]], .con (.int 3)]], .mut (.var 1) .append [.tup [.tup [.con (.int 0), .con (.int 1)], .dict [.tup [.con (.int 1), .con (.int 1)], .lst []], .con (.int 1)]], .mut (.var 1) .append [.tup [.tup [.con (.int 0), .con (.int 2), .con (.int 1)], .dict [.tup [.con (.int 0), .con (.int 0)], .lst [.con (.int 0)], .tup [.con (.int 0), .con (.int 1)], .lst [.con (.int 1)], .tup [.con (.int 1), .con (.int 0)], .lst [.con (.int 1)], .tup [.con (.int 1), .con (.int 1)], .lst [.con (.int 1)]], .con (.int 2)]], .mut (.var 1) .append [.tup [.tup [.con (.int 1), .con (.int 0)], .dict [], .con (.int 3)]], .mut (.var 1) .append [.tup [.tup [.con (.int 0), .con (.int 1), .con (.int 2)], .dict [.tup [.con (.int 2), .con (.int 2)], .lst [.con (.int 2)], .tup [.con (.int 1), .con (.int 2)], .lst [.con (.int 1)], .tup [.con (.int 2), .con (.int 1)], .lst [.con (.int 1)], .tup [.con (.int 1), .con (.int 1)], .lst [.con (.int 1), .con (.int 2)]], .con (.int 2)]], .mut (.var 1) .append [.tup [.tup [.con (.int 0), .con (.int 1), .con (.int 2)], .dict [.tup [.con (.int 0), .con (.int 0)], .lst [.con (.int 0), .con (.int 1)]], .con (.int 2)]], .ret (.sub (.var 1) (.call 2 [.var 0, .con (.int 9)]))] }  -- 27: 0 _law_flow_here, 1 _law_menu
abbrev ML := List ((Int × Int) × List Int)
def mE (p : (Int × Int) × List Int) : D × D := (.tup [.int p.1.1, .int p.1.2], .lst (p.2.map .int))
def MustL (k : Nat) (ml : ML) : Prop := ml.length ≤ 20 ∧ ∀ p ∈ ml, 0 ≤ p.1.1 ∧ p.1.1 < k ∧ 0 ≤ p.1.2 ∧ p.1.2 < k ∧ (∀ x ∈ p.2, 0 ≤ x ∧ x < k) ∧ p.2.length ≤ 10
instance {k : Nat} {ml : ML} : Decidable (MustL k ml) := by unfold MustL; infer_instance
/-- what must be: of two ways, which ones may stand between -/
def MustK (k : Nat) (kvs : List (D × D)) : Prop := ∀ p ∈ kvs, ∃ (a b : Int) (l : List Int), p = (.tup [.int a, .int b], .lst (l.map .int)) ∧ 0 ≤ a ∧ a < k ∧ 0 ≤ b ∧ b < k ∧ (∀ x ∈ l, 0 ≤ x ∧ x < k) ∧ l.length ≤ 10
theorem MustL.k {k : Nat} {ml : ML} (h : MustL k ml) : MustK k (ml.map mE) := by
  intro p hp
  obtain ⟨q, hq, rfl⟩ := List.mem_map.mp hp
  obtain ⟨a, b, c, d, e⟩ := h.2 q hq
  exact ⟨_, _, _, rfl, a, b, c, d, e⟩
def kindsL : List (List Int × ML × Int) := [
  ([1, 0], [((0, 0), [0])], 3), ([0, 2, 1], [((1, 1), [1])], 2), ([0, 1], [((1, 1), [1])], 3),
  ([0, 1], [((1, 1), [1]), ((0, 0), [1])], 3), ([0, 1], [((1, 1), [])], 1),
  ([0, 2, 1], [((0, 0), [0]), ((0, 1), [1]), ((1, 0), [1]), ((1, 1), [1])], 2), ([1, 0], [], 3),
  ([0, 1, 2], [((2, 2), [2]), ((1, 2), [1]), ((2, 1), [1]), ((1, 1), [1, 2])], 2), ([0, 1, 2], [((0, 0), [0, 1])], 2)]
def kindD (q : List Int × ML × Int) : D := .tup [.tup (q.1.map .int), .dic (q.2.1.map mE), .int q.2.2]
def KindSet : List (List Int) := [[1, 0], [0, 2, 1], [0, 1], [0, 1, 2]]
theorem kind_back : ∀ bk ∈ KindSet, bk ∈ BackSet := by decide
theorem kinds_ok : ∀ q ∈ kindsL, q.1 ∈ KindSet ∧ MustL q.1.length q.2.1 ∧ 1 ≤ q.2.2 ∧ q.2.2 ≤ 3 ∧ q.2.2 * q.1.length ≤ 6 := by decide
theorem laying_kind_ok {P : Prog} {n : Nat} (h2 : P.df 2 = some d_pick) (h27 : P.df 27 = some d_laying_kind) {f : Flow} {m : Mem} (ok : f.Ok) {K : RV → Mem → Prop}
    (hK : ∀ (bk : List Int) (kvs : List (D × D)) (most : Int) f', bk ∈ KindSet → MustK bk.length kvs → kvs.length ≤ 20 → 1 ≤ most → most ≤ 3 → most * bk.length ≤ 6 → Flow.Ok f' → K (false, .tup [.tup (bk.map .int), .dic kvs, .int most]) (fl f' :: m)) :
    Says (callN P (n + 2) 27) [(false, .obj 0)] (fl f :: m) K := by
  refine says_fn h27 rfl ?_
  simp only [d_laying_kind]
  rw [Wp.step]
  simp [ex, ev, evs, mkDic, fits, D.key, D.keyp, D.keypL, D.dep, D.depL, put, D.beq, D.beqL, D.isTup]
  unfold Rest
  rw [Wp.step]
  simp [ex, mutPl, ev, evs, mkDic, fits, D.key, D.keyp, D.keypL, D.dep, D.depL, put, D.beq, D.beqL, D.isTup, sizeMax]
  unfold Rest
  rw [Wp.step]
  simp [ex, mutPl, ev, evs, mkDic, fits, D.key, D.keyp, D.keypL, D.dep, D.depL, put, D.beq, D.beqL, D.isTup, sizeMax]
  unfold Rest
  rw [Wp.step]
  simp [ex, mutPl, ev, evs, mkDic, fits, D.key, D.keyp, D.keypL, D.dep, D.depL, put, D.beq, D.beqL, D.isTup, sizeMax]
  unfold Rest
  rw [Wp.step]
  simp [ex, mutPl, ev, evs, mkDic, fits, D.key, D.keyp, D.keypL, D.dep, D.depL, put, D.beq, D.beqL, D.isTup, sizeMax]
  unfold Rest
  rw [Wp.step]
  simp [ex, mutPl, ev, evs, mkDic, fits, D.key, D.keyp, D.keypL, D.dep, D.depL, put, D.beq, D.beqL, D.isTup, sizeMax]
  unfold Rest
  rw [Wp.step]
  simp [ex, mutPl, ev, evs, mkDic, fits, D.key, D.keyp, D.keypL, D.dep, D.depL, put, D.beq, D.beqL, D.isTup, sizeMax]
  unfold Rest
  rw [Wp.step]
  simp [ex, ev, evs, E.isVar, E.isFld, again]
  refine pickK h2 (by omega) (by omega) ok fun x f1 x0 x1 ok1 => ?_
  obtain ⟨d, e, q, hq, rfl⟩ := one_of (p := fun d => ∃ q ∈ kindsL, d = kindD q) (xs := kindsL.map kindD) x0 (by rw [List.length_map]; exact x1) (by
    intro d hd
    obtain ⟨q, hq, e⟩ := List.mem_map.mp hd
    exact ⟨q, hq, e.symm⟩)
  generalize hdd : kindD q = dd at e
  simp [kindsL, kindD, mE] at e
  simp [e]
  rw [gc_len (by simp)]
  subst hdd
  obtain ⟨q1, q2, q3, q4, q5⟩ := kinds_ok q hq
  exact hK q.1 _ q.2.2 f1 q1 q2.k (by rw [List.length_map]; exact q2.1) q3 q4 q5 ok1
end G.Pl

set_option linter.all false
set_option maxRecDepth 100000
set_option maxHeartbeats 4000000
namespace G.Pl
open PySem
namespace Wp
end Wp
open scoped Wp
def d_sizes : Def := { params := 1, slots := 2, body := [.asg (.var 1) (.lst [.tup [.con (.int 1), .con (.int 1)], .tup [.con (.int 2), .con (.int 1)], .tup [.con (.int 3), .con (.int 1)], .tup [.con (.int 1), .con (.int 2)], .tup [.con (.int 1), .con (.int 2)], .tup [.con (.int 2), .con (.int 2)], .tup [.con (.int 2), .con (.int 2)], .tup [.con (.int 3), .con (.int 2)], .tup [.con (.int 1), .con (.int 3)], .tup [.con (.int 1), .con (.int 3)], .tup [.con (.int 2), .con (.int 3)]]), .ret (.sub (.var 1) (.call 2 [.var 0, .con (.int 11)]))] }  -- 10: 0 _law_flow_here, 1 _law_menu
def d_free_three : Def := { params := 3, slots := 6, body := [.asg (.var 3) (.lst []), .for_ (.var 4) (.range1 (.con (.int 3))) [.mut (.var 3) .append [.tup [.call 2 [.var 0, .var 1], .blt .tuple (.comp (.var 5) (.range1 (.var 4)) none (.call 2 [.var 0, .var 2]))]]], .ret (.blt .tuple (.var 3))] }  -- 14: 0 _law_flow_here, 1 _law_marks, 2 _law_ways, 3 _law_told, 4 _law_k, 5 _law_j
def d_any_rule : Def := { params := 1, slots := 6, body := [.asg (.tup [.var 1, .var 2]) (.call 10 [.var 0]), .asg (.var 3) (.call 11 [.var 0, .var 1, .call 12 [.var 0, .var 2], .tup []]), .asg (.var 4) (.dict []), .for_ (.var 5) (.range1 (.call 2 [.var 0, .con (.int 9)])) [.asg (.sub (.var 4) (.call 13 [.var 3, .call 14 [.var 0, .var 1, .var 2]])) (.con (.bl true))], .ret (.tup [.sub (.var 3) (.con (.int 0)), .sub (.var 3) (.con (.int 1)), .blt .tuple (.blt .sorted (.var 4))])] }  -- 33: 0 _law_flow_here, 1 _law_marks, 2 _law_ways, 3 _law_rule_here, 4 _law_barred, 5 _law_k
theorem sizes_ok {P : Prog} {n : Nat} (h2 : P.df 2 = some d_pick) (h10 : P.df 10 = some d_sizes) {f : Flow} {m : Mem} (ok : f.Ok) {K : RV → Mem → Prop}
    (hK : ∀ (mk wy : Int) f', 1 ≤ mk → mk ≤ 3 → 1 ≤ wy → wy ≤ 3 → mk * wy ≤ 6 → Flow.Ok f' → K (false, .tup [.int mk, .int wy]) (fl f' :: m)) :
    Says (callN P (n + 2) 10) [(false, .obj 0)] (fl f :: m) K := by
  refine says_fn h10 rfl ?_
  simp only [d_sizes]
  rw [Wp.step]
  simp [ex, ev, evs]
  unfold Rest
  rw [Wp.step]
  simp [ex, ev, evs, E.isVar, E.isFld, again]
  refine pickK h2 (by omega) (by omega) ok fun x f1 x0 x1 ok1 => ?_
  obtain ⟨d, e, mk, wy, rfl, m1, m3, w1, w3, tm⟩ := one_of (p := fun d => ∃ mk wy : Int, d = .tup [.int mk, .int wy] ∧ 1 ≤ mk ∧ mk ≤ 3 ∧ 1 ≤ wy ∧ wy ≤ 3 ∧ mk * wy ≤ 6) (xs := [.tup [.int 1, .int 1], .tup [.int 2, .int 1], .tup [.int 3, .int 1], .tup [.int 1, .int 2], .tup [.int 1, .int 2], .tup [.int 2, .int 2], .tup [.int 2, .int 2], .tup [.int 3, .int 2], .tup [.int 1, .int 3], .tup [.int 1, .int 3], .tup [.int 2, .int 3]]) x0 (by exact x1) (by
    intro d hd
    simp only [List.mem_cons, List.not_mem_nil, or_false] at hd
    rcases hd with rfl | rfl | rfl | rfl | rfl | rfl | rfl | rfl | rfl | rfl | rfl <;> exact ⟨_, _, rfl, by omega, by omega, by omega, by omega, by decide⟩)
  simp [e]
  rw [gc_len (by simp)]
  exact hK mk wy f1 m1 m3 w1 w3 tm ok1
theorem free_three_ok {P : Prog} {n : Nat} (h2 : P.df 2 = some d_pick) (h14 : P.df 14 = some d_free_three) {f : Flow} {m : Mem} (ok : f.Ok) {mk wy : Int} (m1 : 1 ≤ mk) (m3 : mk ≤ 3) (w1 : 1 ≤ wy) (w3 : wy ≤ 3) {K : RV → Mem → Prop}
    (hK : ∀ w f', WOk wy.toNat w → w.length = 3 → MOk mk w → Flow.Ok f' → K (false, wd w) (fl f' :: m)) :
    Says (callN P (n + 2) 14) [(false, .obj 0), (false, .int mk), (false, .int wy)] (fl f :: m) K := by
  refine says_fn h14 rfl ?_
  simp only [d_free_three]
  rw [Wp.step]
  simp [ex, ev, evs]
  unfold Rest
  rw [Wp.step]
  simp [ex, ev, evIt, E.isVar, again]
  refine Wp.forL (fun i s => ∃ f' w c4 c5, Flow.Ok f' ∧ WOk wy.toNat w ∧ w.length = i ∧ MOk mk w ∧ s = ⟨[some (false, .obj 0), some (false, .int mk), some (false, .int wy), some (true, .lst (w.map ptD)), c4, c5], fl f' :: m⟩) ⟨f, [], none, none, ok, .nil, rfl, by simp [MOk], rfl⟩ ?_ ?_
  · rintro i d s hd ⟨f', w, c4, c5, ok', hw, hl, hm, rfl⟩
    obtain ⟨hi, rfl⟩ := rangeD_at hd
    have hr : (i : Int) < 16777216 ∧ -4611686018427387904 ≤ (i : Int) := ⟨by omega, by omega⟩
    simp [tgStore]
    rw [Wp.step]
    simp [ex, mutPl, ev, evs, evIt, E.isVar, again, hr, Tg.slots]
    refine pickK h2 (by omega) (by omega) ok' fun x f1 x0 x1 ok1 => ?_
    simp
    refine Wp.compL (fun j acc s => ∃ f2 l c5, Flow.Ok f2 ∧ acc = l.map D.int ∧ l.length = j ∧ (∀ x ∈ l, 0 ≤ x ∧ x < wy) ∧ s = ⟨[some (false, .obj 0), some (false, .int mk), some (false, .int wy), some (true, .lst (w.map ptD)), some (false, .int (i : Nat)), c5], fl f2 :: m⟩) ⟨f1, [], none, ok1, rfl, rfl, by simp, rfl⟩ ?_ ?_
    · rintro j d acc s hd ⟨f2, l, c5, ok2, rfl, hj, hx, rfl⟩
      have hj2 : j < i := by simpa using (List.getElem?_eq_some_iff.mp hd).1
      simp [tgStore, testM, ev, evs, Tg.slots]
      refine pickK h2 (by omega) (by omega) ok2 fun y f3 y0 y1 ok3 => ?_
      simp
      refine ⟨by rw [hj]; show _ < 16777216; omega, f3, ok3, l ++ [y], by simp, by simp [hj], ?_, rfl⟩
      intro z hz
      rcases List.mem_append.mp hz with hz | hz
      · exact hx z hz
      · rw [List.mem_singleton] at hz; subst hz; exact ⟨y0, y1⟩
    · rintro acc s ⟨f2, l, c5, ok2, rfl, hj, hx, rfl⟩
      have hj : l.length = i := by simpa using hj
      have hz : w.length < sizeMax := by rw [hl]; show _ < 16777216; omega
      simp [hz]
      unfold Rest
      simp
      refine ⟨f2, ok2, w ++ [(x, l)], hw.snoc (by omega) fun z hz => ⟨(hx z hz).1, by have := (hx z hz).2; omega⟩, by simp [hl], ?_, by simp [ptD], rfl⟩
      intro p hp
      rcases List.mem_append.mp hp with hp | hp
      · exact hm p hp
      · rw [List.mem_singleton] at hp; subst hp; exact ⟨x0, x1⟩
  · rintro s ⟨f', w, c4, c5, ok', hw, hl, hm, rfl⟩
    simp
    unfold Rest
    rw [Wp.step]
    simp [ex, ev, E.isVar, again]
    rw [gc_len (by simp)]
    exact hK w f' hw hl hm ok'
/-- a dict of figures -/
def FigK (nm : Nat) (bk : List Int) (kvs : List (D × D)) : Prop := FigL nm bk (kvs.map (·.1))
theorem FigK.nil {nm : Nat} {bk : List Int} : FigK nm bk [] := ⟨by simp, by simp⟩
theorem ints_beq : ∀ (xs ys : List Int), D.beqL (xs.map D.int) (ys.map D.int) = decide (xs = ys)
  | [], [] => rfl
  | [], _ :: _ => rfl
  | _ :: _, [] => rfl
  | x :: xs, y :: ys => by
    show (x == y && D.beqL (xs.map D.int) (ys.map D.int)) = _
    rw [ints_beq xs ys]
    by_cases h : x = y
    · subst h; simp
    · simp [h]
theorem beq_pts : ∀ (v w : List Pt), D.beqL (v.map ptD) (w.map ptD) = decide (v = w)
  | [], [] => rfl
  | [], _ :: _ => rfl
  | _ :: _, [] => rfl
  | p :: v, q :: w => by
    show ((p.1 == q.1 && (D.beqL (p.2.map D.int) (q.2.map D.int) && true)) && D.beqL (v.map ptD) (w.map ptD)) = _
    rw [ints_beq, beq_pts v w]
    obtain ⟨a, l⟩ := p
    obtain ⟨b, l'⟩ := q
    by_cases h : a = b
    · subst h
      by_cases h' : l = l'
      · subst h'; simp
      · simp [h']
    · simp [h]
theorem beq_wd {v w : List Pt} : D.beq (wd v) (wd w) = decide (v = w) := beq_pts v w
/-- keys that are worlds, none twice -/
theorem put_keys {kvs : List (D × D)} (h : ∀ d ∈ kvs.map (·.1), IsWd d) (hn : (kvs.map (·.1)).Nodup) {k v : D} (hk : IsWd k) : (∀ d, d ∈ (put kvs k v).map (·.1) ↔ d ∈ kvs.map (·.1) ∨ d = k) ∧ ((put kvs k v).map (·.1)).Nodup ∧ (put kvs k v).length ≤ kvs.length + 1 := by
  obtain ⟨w, rfl⟩ := hk
  have hb : ∀ p ∈ kvs, D.beq p.1 (wd w) = true ↔ p.1 = wd w := fun p hp => by
    obtain ⟨u, e⟩ := h p.1 (List.mem_map.mpr ⟨p, hp, rfl⟩)
    rw [e, beq_wd]
    constructor
    · intro z; rw [of_decide_eq_true z]
    · intro z; rw [wd_inj z]; simp
  unfold put
  split
  · rename_i ha
    obtain ⟨p0, hp0, e0⟩ := List.any_eq_true.mp ha
    have e0 := (hb p0 hp0).mp e0
    have em : (kvs.map (fun p => if D.beq p.1 (wd w) = true then (p.1, v) else p)).map (·.1) = kvs.map (·.1) := by
      rw [List.map_map]
      refine List.map_congr_left fun p hp => ?_
      show (if D.beq p.1 (wd w) = true then (p.1, v) else p).1 = p.1
      split <;> rfl
    rw [em]
    refine ⟨fun d => ⟨.inl, fun z => ?_⟩, hn, by simp⟩
    rcases z with z | rfl
    · exact z
    · exact List.mem_map.mpr ⟨p0, hp0, e0⟩
  · rename_i ha
    refine ⟨fun d => by simp, ?_, by simp⟩
    rw [List.map_append, List.nodup_append]
    refine ⟨hn, by simp, fun a ha' b hb' e => ?_⟩
    simp at hb'
    subst hb' e
    obtain ⟨p, hp, e⟩ := List.mem_map.mp ha'
    exact ha (List.any_eq_true.mpr ⟨p, hp, (hb p hp).mpr e⟩)
theorem put_figs {nm : Nat} {bk : List Int} {kvs : List (D × D)} (h : FigK nm bk kvs) {k v : D} (hk : Fig nm bk k) : FigK nm bk (put kvs k v) ∧ (put kvs k v).length ≤ kvs.length + 1 := by
  obtain ⟨a, b, c⟩ := put_keys (fun d hd => (h.1 d hd).wd.is) h.2 (v := v) hk.wd.is
  exact ⟨⟨fun d hd => ((a d).mp hd).elim (h.1 d) (fun e => e ▸ hk), b⟩, c⟩
theorem putD_wds {kvs : List (D × D)} (h : ∀ d ∈ kvs.map (·.1), IsWd d) {w : List Pt} {v : D} (hl : kvs.length < 1000000) : putD v [wd w] (.dic kvs) = some ((false, .non), .dic (put kvs (wd w) v)) := by
  have hf : fits kvs (wd w) = true := by
    unfold fits
    rw [wd_key, Bool.true_and, List.all_eq_true]
    intro p hp
    obtain ⟨v, e⟩ := h p.1 (List.mem_map.mpr ⟨p, hp, rfl⟩)
    rw [e]
    rfl
  have e : putD v [wd w] (.dic kvs) = if fits kvs (wd w) ∧ kvs.length < sizeMax then some ((false, .non), D.dic (put kvs (wd w) v)) else none := rfl
  rw [e, if_pos ⟨hf, by show _ < 16777216; omega⟩]
theorem putD_figs {nm : Nat} {bk : List Int} {kvs : List (D × D)} (h : FigK nm bk kvs) {k v : D} (hk : Fig nm bk k) (hl : kvs.length < 1000000) : putD v [k] (.dic kvs) = some ((false, .non), .dic (put kvs k v)) := by
  obtain ⟨w, rfl, _⟩ := hk
  exact putD_wds (fun d hd => (h.1 d hd).wd.is) hl
theorem sorted_figs {nm : Nat} {bk : List Int} {kvs : List (D × D)} (h : FigK nm bk kvs) : builtin .sorted [.dic kvs] = some (true, .lst (sortD (kvs.map (·.1)))) := sorted_dic fun d hd => (h.1 d hd).wd
/-- a rule with other bars -/
def RuleR.barred (r : RuleR) (kvs : List (D × D)) : RuleR := { r with bars := sortD (kvs.map (·.1)) }
theorem RuleR.Ok.barred {r : RuleR} (h : r.Ok) {kvs : List (D × D)} (hk : FigK r.nm.length r.bk kvs) (hl : kvs.length ≤ 1000) : (r.barred kvs).Ok := ⟨h.nmw, h.m1, h.m3, h.wnw, h.wl, h.bk, h.tm, h.dis, fun d hd => hk.1 d (sortD_mem hd), hk.srt, by
  show (sortD (kvs.map (·.1))).length ≤ 1000; unfold sortD; rw [List.length_mergeSort, List.length_map]; exact hl⟩
/-- the defs that make rules -/
structure Made (P : Prog) : Prop where
  h2 : P.df 2 = some d_pick
  hN : NamesOk P
  h5 : P.df 5 = some d_between
  h6 : P.df 6 = some d_turns
  h7 : P.df 7 = some d_part
  h13 : P.df 13 = some d_figure
  h12 : P.df 12 = some d_backs
  h11 : P.df 11 = some d_rule_of
  h14 : P.df 14 = some d_free_three
  h10 : P.df 10 = some d_sizes
theorem any_rule_ok {P : Prog} {n : Nat} (M : Made P) (h33 : P.df 33 = some d_any_rule) {f : Flow} {m : Mem} (ok : f.Ok) {K : RV → Mem → Prop}
    (hK : ∀ (r : RuleR) f', r.Ok → Flow.Ok f' → K (false, r.d) (fl f' :: m)) :
    Says (callN P (n + 6) 33) [(false, .obj 0)] (fl f :: m) K := by
  refine says_fn h33 rfl ?_
  simp only [d_any_rule]
  rw [Wp.step]
  simp [ex, ev, evs]
  refine sizes_ok M.h2 M.h10 ok fun mk wy f1 m1 m3 w1 w3 tm ok1 => ?_
  simp
  unfold Rest
  rw [Wp.step]
  simp [ex, ev, evs]
  refine backs_ok M.h2 M.h12 ok1 w1 w3 fun bk f2 hb hbl ok2 => ?_
  refine rule_of_ok M.hN M.h11 ok2 m1 m3 hb (.inl rfl) ⟨by simp, by simp⟩ (by simp) (by rw [hbl]; exact tm) fun r f3 hr rm rb ok3 => ?_
  unfold Rest
  rw [Wp.step]
  simp [ex, ev, evs, mkDic]
  unfold Rest
  rw [Wp.step]
  simp [ex, ev, evs, evIt, E.isVar, E.isFld, again]
  refine pickK M.h2 (by omega) (by omega) ok3 fun x f4 x0 x1 ok4 => ?_
  have hr9 : x < 16777216 ∧ -4611686018427387904 ≤ x := ⟨by omega, by omega⟩
  simp [hr9]
  refine Wp.forL (fun i s => ∃ f' kvs c5, Flow.Ok f' ∧ FigK r.nm.length r.bk kvs ∧ kvs.length ≤ i ∧ s = ⟨[some (false, .obj 0), some (false, .int mk), some (false, .int wy), some (false, r.d), some (true, .dic kvs), c5], fl f' :: m⟩) ⟨f4, [], none, ok4, .nil, by simp, rfl⟩ ?_ ?_
  · rintro i d s hd ⟨f', kvs, c5, ok', hk, hl, rfl⟩
    obtain ⟨hi, rfl⟩ := rangeD_at hd
    simp [tgStore]
    rw [Wp.step]
    simp [ex, ev, evs]
    refine free_three_ok M.h2 M.h14 ok' m1 m3 w1 w3 fun w f5 hw hwl hwm ok5 => ?_
    have hwy : wy.toNat = r.bk.length := by rw [rb]; omega
    rw [hwy] at hw
    refine figure_ok M.h5 M.h6 M.h7 M.h13 hr hw hwl ?_
    have hv : Fig r.nm.length r.bk (wd (figF r.bk w)) := Fig.of (figF_FigP hr.bk hwl hw (by rw [rm]; exact hwm))
    have ep := putD_figs hk (v := .bl true) hv (by omega)
    obtain ⟨q1, q2⟩ := put_figs hk (v := .bl true) hv
    simp [ep]
    unfold Rest
    simp
    exact ⟨f5, ok5, _, q1, by omega, rfl, rfl⟩
  · rintro s ⟨f', kvs, c5, ok', hk, hl, rfl⟩
    have es := sorted_figs hk
    simp
    unfold Rest
    rw [Wp.step]
    simp only [RuleR.d]
    simp [ex, ev, evs, E.isVar, E.isFld, again, es]
    rw [gc_len (by simp)]
    exact hK (r.barred kvs) f' (hr.barred hk (by have := hl; simp at this; omega)) ok'
end G.Pl

set_option linter.all false
set_option maxRecDepth 100000
set_option maxHeartbeats 4000000
namespace G.Pl
open PySem
namespace Wp
end Wp
open scoped Wp
def d_rising : Def := { params := 1, slots := 5, body := [.asg (.var 1) (.lst []), .for_ (.var 2) (.range1 (.var 0)) [.for_ (.var 3) (.range2 (.var 2) (.var 0)) [.asg (.var 1) (.bin .add (.var 1) (.comp (.var 4) (.range2 (.var 3) (.var 0)) none (.tup [.var 2, .var 3, .var 4])))]], .ret (.take 1)] }  -- 30: 0 _law_marks, 1 _law_told, 2 _law_i, 3 _law_j, 4 _law_k
def d_one_way_rule : Def := { params := 1, slots := 4, body := [.asg (.var 1) (.bin .add (.con (.int 1)) (.call 2 [.var 0, .con (.int 3)])), .asg (.var 2) (.comp (.var 3) (.range1 (.var 1)) (some (.cmp .eq (.call 2 [.var 0, .con (.int 2)]) (.con (.int 0)))) (.tup [.tup [.var 3, .tup []], .tup [.var 3, .tup [.con (.int 0)]], .tup [.var 3, .tup [.con (.int 0), .con (.int 0)]]])), .ret (.call 11 [.var 0, .var 1, .tup [.con (.int 0)], .var 2])] }  -- 26: 0 _law_flow_here, 1 _law_marks, 2 _law_barred, 3 _law_k
theorem rangeD_at2 {lo : Int} {n i : Nat} {d : D} (h : (rangeD lo n)[i]? = some d) : i < n ∧ d = .int (lo + (i : Nat)) := by
  have h1 := (List.getElem?_eq_some_iff.mp h).1
  have h1 : i < n := by simpa using h1
  refine ⟨h1, ?_⟩
  have h2 := (List.getElem?_eq_some_iff.mp h).2
  simp [rangeD] at h2
  rw [← h2]
def T3 (mk : Int) (d : D) : Prop := ∃ a b c : Int, d = .tup [.int a, .int b, .int c] ∧ 0 ≤ a ∧ a < mk ∧ 0 ≤ b ∧ b < mk ∧ 0 ≤ c ∧ c < mk
theorem rising_ok {P : Prog} {n : Nat} (h30 : P.df 30 = some d_rising) {mk : Int} (m1 : 1 ≤ mk) (m3 : mk ≤ 3) {m : Mem} {K : RV → Mem → Prop} (hK : ∀ ts, (∀ d ∈ ts, T3 mk d) → ts.length ≤ 27 → K (true, .lst ts) m) :
    Says (callN P (n + 1) 30) [(false, .int mk)] m K := by
  refine says_fn h30 rfl ?_
  simp only [d_rising]
  rw [Wp.step]
  simp [ex, ev, evs]
  unfold Rest
  rw [Wp.step]
  have hr : mk < 16777216 ∧ -4611686018427387904 ≤ mk := ⟨by omega, by omega⟩
  simp [ex, ev, evIt, E.isVar, again, hr]
  refine Wp.forL (fun i s => ∃ ts c2 c3 c4, (∀ d ∈ ts, T3 mk d) ∧ ts.length ≤ 9 * i ∧ s = ⟨[some (false, .int mk), some (true, .lst ts), c2, c3, c4], m⟩) ⟨[], none, none, none, by simp, by simp, rfl⟩ ?_ ?_
  · rintro i d s hd ⟨ts, c2, c3, c4, ht, hl, rfl⟩
    obtain ⟨hi, rfl⟩ := rangeD_at hd
    have hr2 : (-4611686018427387904 ≤ (i : Int) ∧ (i : Int) < 4611686018427387904 ∧ -4611686018427387904 ≤ mk ∧ mk < 4611686018427387904) := ⟨by omega, by omega, by omega, by omega⟩
    simp [tgStore]
    rw [Wp.step]
    simp [ex, ev, evIt, E.isVar, again, hr2]
    refine Wp.forL (fun j s => ∃ ts c3 c4, (∀ d ∈ ts, T3 mk d) ∧ ts.length ≤ 9 * i + 3 * j ∧ s = ⟨[some (false, .int mk), some (true, .lst ts), some (false, .int (i : Nat)), c3, c4], m⟩) ⟨ts, c3, c4, ht, by omega, rfl⟩ ?_ ?_
    · rintro j d s hd ⟨ts, c3, c4, ht, hl, rfl⟩
      obtain ⟨hj, rfl⟩ := rangeD_at2 hd
      have hr3 : (-4611686018427387904 ≤ (i : Int) + (j : Int) ∧ (i : Int) + (j : Int) < 4611686018427387904 ∧ -4611686018427387904 ≤ mk ∧ mk < 4611686018427387904) := ⟨by omega, by omega, by omega, by omega⟩
      simp [tgStore]
      rw [Wp.step]
      simp [ex, ev, evs, evIt, E.isVar, E.isFld, again, hr3, Tg.slots]
      refine Wp.compL (fun k acc s => ∃ c4, (∀ d ∈ acc, T3 mk d) ∧ acc.length = k ∧ s = ⟨[some (false, .int mk), some (true, .lst ts), some (false, .int (i : Nat)), some (false, .int ((i : Int) + (j : Nat))), c4], m⟩) ⟨none, by simp, rfl, rfl⟩ ?_ ?_
      · rintro k d acc s hd ⟨c4, ha, hk, rfl⟩
        obtain ⟨hk2, rfl⟩ := rangeD_at2 hd
        simp [tgStore, testM, ev, evs, Tg.slots]
        refine ⟨by show _ < 16777216; omega, fun d hd => ?_, hk⟩
        rcases hd with hd | rfl
        · exact ha d hd
        · exact ⟨_, _, _, rfl, by omega, by omega, by omega, by omega, by omega, by omega⟩
      · rintro acc s ⟨c4, ha, hk, rfl⟩
        have hk : acc.length = (mk - ((i : Int) + (j : Int))).toNat := by simpa using hk
        have hz : ts.length + acc.length ≤ sizeMax := by show _ ≤ 16777216; omega
        simp [hz]
        unfold Rest
        simp
        exact ⟨fun d hd => hd.elim (ht d) (ha d), by omega⟩
    · rintro s ⟨ts, c3, c4, ht, hl, rfl⟩
      have hl : ts.length ≤ 9 * i + 3 * (mk - (i : Int)).toNat := by simpa using hl
      simp
      unfold Rest
      simp
      exact ⟨ht, by omega⟩
  · rintro s ⟨ts, c2, c3, c4, ht, hl, rfl⟩
    have hl : ts.length ≤ 9 * mk.toNat := by simpa using hl
    simp
    unfold Rest
    rw [Wp.step]
    simp [ex, ev]
    rw [gc_len rfl]
    exact hK ts ht (by omega)
def oneW (k : Nat) : D := wd (tri k k 0 k 0 0)
theorem oneW_inj (a b : Nat) (h : oneW a = oneW b) : a = b := by
  have := tri_inj (wd_inj h)
  omega
theorem oneW_fig {nm k : Nat} (h : k < nm) : Fig nm [0] (oneW k) := by
  refine ⟨_, rfl, rfl, tri_ok (by simp) (by simp) (by simp), tri_mok (by omega) (by omega) (by omega), figF_one fun v hv => ?_⟩
  rw [orb_tri] at hv
  simpa [bkAt] using hv
theorem one_way_rule_ok {P : Prog} {n : Nat} (M : Made P) (h26 : P.df 26 = some d_one_way_rule) {f : Flow} {m : Mem} (ok : f.Ok) {K : RV → Mem → Prop}
    (hK : ∀ (r : RuleR) f', r.Ok → Flow.Ok f' → K (false, r.d) (fl f' :: m)) :
    Says (callN P (n + 6) 26) [(false, .obj 0)] (fl f :: m) K := by
  refine says_fn h26 rfl ?_
  simp only [d_one_way_rule]
  rw [Wp.step]
  simp [ex, ev, evs, E.isVar, E.isFld, again]
  refine pickK M.h2 (by omega) (by omega) ok fun x f1 x0 x1 ok1 => ?_
  simp
  unfold Rest
  rw [Wp.step]
  have hr : 1 + x < 16777216 ∧ -4611686018427387904 ≤ 1 + x := ⟨by omega, by omega⟩
  simp [ex, ev, evs, evIt, E.isVar, again, hr, Tg.slots]
  refine Wp.compL (fun j acc s => ∃ f2 c3, Flow.Ok f2 ∧ (∃ ks : List Nat, acc = ks.map oneW ∧ ks.Nodup ∧ (∀ k ∈ ks, k < j) ∧ ks.length ≤ j) ∧ s = ⟨[some (false, .obj 0), some (false, .int (1 + x)), none, c3], fl f2 :: m⟩) ⟨f1, none, ok1, ⟨[], rfl, by simp, by simp, by simp⟩, rfl⟩ ?_ ?_
  · rintro j d acc s hd ⟨f2, c3, ok2, ⟨ks, rfl, hk1, hk2, hk3⟩, rfl⟩
    obtain ⟨hj2, rfl⟩ := rangeD_at hd
    simp [tgStore, testM, ev, evs, E.isVar, E.isFld, again, Tg.slots]
    refine pickK M.h2 (by omega) (by omega) ok2 fun y f3 y0 y1 ok3 => ?_
    by_cases hy : y = 0
    · simp [hy]
      refine ⟨by show _ < 16777216; omega, f3, ok3, ⟨ks ++ [j], by simp [oneW, wd, tri, ptD], ?_, ?_, by simp; omega⟩, rfl⟩
      · rw [List.nodup_append]
        refine ⟨hk1, by simp, fun a ha b hb e => ?_⟩
        rw [List.mem_singleton] at hb
        subst hb e
        exact absurd (hk2 _ ha) (by omega)
      · intro k hk
        rcases List.mem_append.mp hk with hk | hk
        · have := hk2 k hk; omega
        · rw [List.mem_singleton] at hk; omega
    · simp [hy]
      exact ⟨f3, ok3, ⟨ks, rfl, hk1, fun k hk => by have := hk2 k hk; omega, by omega⟩, rfl⟩
  · rintro acc s ⟨f2, c3, ok2, ⟨ks, rfl, hk1, hk2, hk3⟩, rfl⟩
    have hk2 : ∀ k ∈ ks, k < (1 + x).toNat := by simpa using hk2
    have hk3 : ks.length ≤ (1 + x).toNat := by simpa using hk3
    have hfl : FigL (1 + x).toNat [0] (ks.map oneW) := ⟨fun d hd => by
      obtain ⟨k, hk, rfl⟩ := List.mem_map.mp hd
      exact oneW_fig (hk2 k hk), List.pairwise_map.mpr (hk1.imp fun hne e => hne (oneW_inj _ _ e))⟩
    simp
    unfold Rest
    rw [Wp.step]
    simp [ex, ev, evs]
    refine rule_of_ok (bk := [0]) M.hN M.h11 ok2 (by omega) (by omega) (by decide) (.inr rfl) hfl (by rw [List.length_map]; omega) (by show (1 + x) * ((1 : Nat) : Int) ≤ 6; omega) fun r f3 hr rm rb ok3 => ?_
    rw [gc_len (by simp)]
    exact hK r f3 hr ok3
end G.Pl

set_option linter.all false
set_option maxRecDepth 100000
set_option maxHeartbeats 4000000
namespace G.Pl
open PySem
namespace Wp
end Wp
open scoped Wp
def d_unlaying_rule : Def := { params := 1, slots := 11, body := [.asg (.var 1) (.call 2 [.var 0, .con (.int 3)]), .ite (.cmp .eq (.var 1) (.con (.int 0))) [.ret (.call 11 [.var 0, .con (.int 1), .tup [.con (.int 0), .con (.int 1)], .comp (.var 10) (.range1 (.con (.int 2))) none (.tup [.tup [.con (.int 0), .tup []], .tup [.con (.int 0), .tup [.var 10]], .tup [.con (.int 0), .tup [.var 10, .var 10]]])])] [], .ite (.cmp .eq (.var 1) (.con (.int 1))) [.asg (.var 2) (.call 11 [.var 0, .con (.int 2), .tup [.con (.int 0), .con (.int 1)], .tup []]), .asg (.var 3) (.dict []), .for_ (.var 4) (.seq (.call 30 [.con (.int 2)])) [.for_ (.tup [.var 5, .var 6, .var 7]) (.seq (.lst [.tup [.con (.int 1), .con (.int 1), .con (.int 0)], .tup [.con (.int 1), .con (.int 1), .con (.int 1)], .tup [.con (.int 1), .con (.int 0), .con (.int 1)], .tup [.con (.int 0), .con (.int 1), .con (.int 1)]])) [.asg (.var 8) (.tup [.tup [.sub (.var 4) (.con (.int 0)), .tup []], .tup [.sub (.var 4) (.con (.int 1)), .tup [.var 5]]]), .asg (.sub (.var 3) (.call 13 [.var 2, .bin .add (.var 8) (.tup [.tup [.sub (.var 4) (.con (.int 2)), .tup [.var 6, .var 7]]])])) (.con (.bl true))]], .ret (.tup [.sub (.var 2) (.con (.int 0)), .sub (.var 2) (.con (.int 1)), .blt .tuple (.blt .sorted (.var 3))])] [], .asg (.var 9) (.bin .add (.con (.int 2)) (.call 2 [.var 0, .con (.int 2)])), .asg (.var 3) (.comp (.var 4) (.range1 (.var 9)) none (.tup [.tup [.con (.int 0), .tup []], .tup [.var 4, .tup [.con (.int 0)]], .tup [.bin .sub (.var 9) (.con (.int 1)), .tup [.con (.int 0), .con (.int 0)]]])), .ret (.call 11 [.var 0, .var 9, .tup [.con (.int 0)], .slice (.var 3) none (some (.bin .add (.con (.int 1)) (.call 2 [.var 0, .var 9])))])] }  -- 32: 0 _law_flow_here, 1 _law_form, 2 _law_rule_here, 3 _law_barred, 4 _law_some, 5 _law_one, 6 _law_two, 7 _law_between_here, 8 _law_first, 9 _law_marks, 10 _law_k
@[scoped simp] theorem add_tup {xs ys : List D} : addD (.tup xs) (.tup ys) = if xs.length + ys.length ≤ sizeMax then some (false, .tup (xs ++ ys)) else none := rfl
theorem eq_nil {l : List Int} : compare .eq (.lst (l.map .int)) (.lst []) = some l.isEmpty := by
  show eqD (.lst (l.map .int)) (.lst []) = _
  show (if D.flat (.lst (l.map .int)) ∧ D.flat (.lst []) ∧ D.dep (.lst (l.map .int)) ≤ 60 ∧ D.dep (.lst []) ≤ 60 then some (D.eqv (.lst (l.map .int)) (.lst [])) else none) = _
  rw [if_pos ⟨ints_flat l, rfl, by show D.depL (l.map .int) + 1 ≤ 60; rw [ints_dep]; omega, by decide⟩]
  cases l <;> rfl
theorem isIn_ints {x : Int} {l : List Int} : isIn (.int x) (.tup (l.map .int)) = some ((l.map D.int).any fun z => D.eqv z (.int x)) := by
  show (if _ then _ else none) = _
  rw [if_pos ⟨rfl, ints_flat l, by show 0 ≤ 60; omega, by rw [ints_dep]; omega⟩]
theorem isIn_intsL {x : Int} {l : List Int} : isIn (.int x) (.lst (l.map .int)) = some ((l.map D.int).any fun z => D.eqv z (.int x)) := by
  show (if _ then _ else none) = _
  rw [if_pos ⟨rfl, ints_flat l, by show 0 ≤ 60; omega, by rw [ints_dep]; omega⟩]
def selfW (k : Nat) : D := wd (tri 0 0 k 0 k k)
theorem selfW_inj (a b : Nat) (h : selfW a = selfW b) : a = b := by
  have := tri_inj (wd_inj h)
  omega
theorem selfW_fig {k : Nat} (h : k < 2) : Fig 1 [0, 1] (selfW k) := by
  refine ⟨_, rfl, rfl, tri_ok (by simp; omega) (by simp; omega) (by simp; omega), tri_mok (by omega) (by omega) (by omega), ?_⟩
  have : ∀ k < 2, figF [0, 1] (tri 0 0 (k : Nat) 0 (k : Nat) (k : Nat)) = tri 0 0 (k : Nat) 0 (k : Nat) (k : Nat) := by decide +kernel
  exact this k h
def thirdW (mk : Nat) (k : Nat) : D := wd (tri 0 k 0 ((mk : Int) - 1) 0 0)
theorem thirdW_inj (mk a b : Nat) (h : thirdW mk a = thirdW mk b) : a = b := by
  have := tri_inj (wd_inj h)
  omega
theorem thirdW_fig {mk k : Nat} (h2 : 2 ≤ mk) (h3 : mk ≤ 3) (h : k < mk) : Fig mk [0] (thirdW mk k) := by
  refine ⟨_, rfl, rfl, tri_ok (by simp) (by simp) (by simp), tri_mok (by omega) (by omega) (by omega), ?_⟩
  have : ∀ mk < 4, ∀ k < mk, figF [0] (tri 0 (k : Nat) 0 ((mk : Nat) - 1) 0 0) = tri 0 (k : Nat) 0 ((mk : Nat) - 1) 0 0 := by decide +kernel
  exact this mk (by omega) k h
theorem unlaying_rule_ok {P : Prog} {n : Nat} (M : Made P) (h30 : P.df 30 = some d_rising) (h32 : P.df 32 = some d_unlaying_rule) {f : Flow} {m : Mem} (ok : f.Ok) {K : RV → Mem → Prop}
    (hK : ∀ (r : RuleR) f', r.Ok → Flow.Ok f' → K (false, r.d) (fl f' :: m)) :
    Says (callN P (n + 6) 32) [(false, .obj 0)] (fl f :: m) K := by
  refine says_fn h32 rfl ?_
  simp only [d_unlaying_rule]
  rw [Wp.step]
  simp [ex, ev, evs]
  refine pickK M.h2 (by omega) (by omega) ok fun x f1 x0 x1 ok1 => ?_
  unfold Rest
  rw [Wp.step]
  by_cases hx0 : x = 0
  · simp [ex, ev, E.isVar, again, hx0]
    rw [Wp.step]
    simp [ex, ev, evs, evIt, Tg.slots]
    refine Wp.compL (fun j acc s => ∃ c, acc = (List.range j).map selfW ∧ s = ⟨[some (false, .obj 0), some (false, .int 0), none, none, none, none, none, none, none, none, c], fl f1 :: m⟩) ⟨none, rfl, rfl⟩ ?_ ?_
    · rintro j d acc s hd ⟨c, rfl, rfl⟩
      obtain ⟨hj2, rfl⟩ := rangeD_at hd
      simp [tgStore, testM, ev, evs, Tg.slots]
      refine ⟨by show _ < 16777216; omega, ?_⟩
      rw [List.range_succ, List.map_append]
      simp [selfW, wd, tri, ptD]
    · rintro acc s ⟨c, rfl, rfl⟩
      rw [range_len]
      simp only [Wp.ret, true_and]
      refine rule_of_ok (bk := [0, 1]) M.hN M.h11 ok1 (by omega) (by omega) (by decide) (.inr rfl) ⟨fun d hd => by
        obtain ⟨k, hk, rfl⟩ := List.mem_map.mp hd
        exact selfW_fig (List.mem_range.mp hk), nodup_range selfW_inj 2⟩ (by simp) (by decide) fun r f3 hr rm rb ok3 => ?_
      rw [gc_len (by simp)]
      exact hK r f3 hr ok3
  · simp [ex, ev, E.isVar, again, hx0]
    unfold Rest
    rw [Wp.step]
    by_cases hx1 : x = 1
    · simp [ex, ev, E.isVar, again, hx1]
      rw [Wp.step]
      simp [ex, ev, evs]
      refine rule_of_ok (bk := [0, 1]) M.hN M.h11 ok1 (by omega) (by omega) (by decide) (.inl rfl) ⟨by simp, by simp⟩ (by simp) (by decide) fun r f2 hr rm rb ok2 => ?_
      unfold Rest
      rw [Wp.step]
      simp [ex, ev, evs, mkDic]
      unfold Rest
      rw [Wp.step]
      simp [ex, ev, evs, evIt, E.isVar]
      refine rising_ok h30 (by omega) (by omega) fun ts ht hl => ?_
      simp
      refine Wp.forL (fun i s => ∃ kvs c4 c5 c6 c7 c8, FigK r.nm.length r.bk kvs ∧ kvs.length ≤ 4 * i ∧ s = ⟨[some (false, .obj 0), some (false, .int 1), some (false, r.d), some (true, .dic kvs), c4, c5, c6, c7, c8, none, none], fl f2 :: m⟩) ⟨[], none, none, none, none, none, .nil, by simp, rfl⟩ ?_ ?_
      · rintro i d s hd ⟨kvs, c4, c5, c6, c7, c8, hk, hkl, rfl⟩
        have hi := (List.getElem?_eq_some_iff.mp hd).1
        obtain ⟨a, b, c, rfl, ma0, ma1, mb0, mb1, mc0, mc1⟩ := ht d (List.mem_of_getElem? hd)
        simp [tgStore, still]
        rw [Wp.step]
        simp [ex, ev, evs, evIt, E.isVar]
        refine Wp.forL (fun j s => ∃ kvs c5 c6 c7 c8, FigK r.nm.length r.bk kvs ∧ kvs.length ≤ 4 * i + j ∧ s = ⟨[some (false, .obj 0), some (false, .int 1), some (false, r.d), some (true, .dic kvs), some (false, .tup [.int a, .int b, .int c]), c5, c6, c7, c8, none, none], fl f2 :: m⟩) ⟨kvs, c5, c6, c7, c8, hk, by omega, rfl⟩ ?_ ?_
        · rintro j d s hd ⟨kvs, c5, c6, c7, c8, hk, hkl, rfl⟩
          have hj := (List.getElem?_eq_some_iff.mp hd).1
          have hj : j < 4 := hj
          obtain ⟨o1, o2, o3, rfl, p1, p2, p3⟩ : ∃ o1 o2 o3 : Int, d = .tup [.int o1, .int o2, .int o3] ∧ (0 ≤ o1 ∧ o1 < (2 : Nat)) ∧ (0 ≤ o2 ∧ o2 < (2 : Nat)) ∧ (0 ≤ o3 ∧ o3 < (2 : Nat)) := by
            have hm := List.mem_of_getElem? hd
            simp only [List.mem_cons, List.not_mem_nil, or_false] at hm
            rcases hm with rfl | rfl | rfl | rfl <;> exact ⟨_, _, _, rfl, by omega, by omega, by omega⟩
          simp [tgStore, tgStoreL, still]
          rw [Wp.step]
          simp [ex, ev, evs, E.isVar, E.isFld, again]
          unfold Rest
          rw [Wp.step]
          simp [ex, ev, evs, E.isVar, E.isFld, again, sizeMax]
          have hw : WOk r.bk.length [(a, []), (b, [o1]), (c, [o2, o3])] := by
            rw [rb]
            exact three_ok p1 p2 p3
          refine figure_ok (w := [(a, []), (b, [o1]), (c, [o2, o3])]) M.h5 M.h6 M.h7 M.h13 hr hw rfl ?_
          have hv : Fig r.nm.length r.bk (wd (figF r.bk [(a, []), (b, [o1]), (c, [o2, o3])])) := Fig.of (figF_FigP hr.bk rfl hw (by rw [rm]; exact tri_mok ⟨ma0, ma1⟩ ⟨mb0, mb1⟩ ⟨mc0, mc1⟩))
          have ep := putD_figs hk (v := .bl true) hv (by omega)
          obtain ⟨q1, q2⟩ := put_figs hk (v := .bl true) hv
          simp [ep]
          unfold Rest
          simp
          exact ⟨q1, by omega⟩
        · rintro s ⟨kvs, c5, c6, c7, c8, hk, hkl, rfl⟩
          have hkl : kvs.length ≤ 4 * i + 4 := hkl
          simp [still]
          unfold Rest
          simp
          exact ⟨hk, by omega⟩
      · rintro s ⟨kvs, c4, c5, c6, c7, c8, hk, hkl, rfl⟩
        have es := sorted_figs hk
        simp [still]
        unfold Rest
        rw [Wp.step]
        simp only [RuleR.d]
        simp [ex, ev, evs, E.isVar, E.isFld, again, es]
        rw [gc_len (by simp)]
        exact hK (r.barred kvs) f2 (hr.barred hk (by omega)) ok2
    · simp [ex, ev, E.isVar, again, hx1]
      unfold Rest
      rw [Wp.step]
      simp [ex, ev, evs, E.isVar, E.isFld, again]
      refine pickK M.h2 (by omega) (by omega) ok1 fun y f2 y0 y1 ok2 => ?_
      simp
      unfold Rest
      rw [Wp.step]
      have hr : 2 + y < 16777216 ∧ -4611686018427387904 ≤ 2 + y := ⟨by omega, by omega⟩
      simp [ex, ev, evs, evIt, E.isVar, again, hr, Tg.slots]
      refine Wp.compL (fun j acc s => ∃ c, acc = (List.range j).map (thirdW (2 + y).toNat) ∧ s = ⟨[some (false, .obj 0), some (false, .int x), none, none, c, none, none, none, none, some (false, .int (2 + y)), none], fl f2 :: m⟩) ⟨none, rfl, rfl⟩ ?_ ?_
      · rintro j d acc s hd ⟨c, rfl, rfl⟩
        obtain ⟨hj2, rfl⟩ := rangeD_at hd
        simp [tgStore, testM, ev, evs, E.isVar, E.isFld, again, Tg.slots]
        refine ⟨by show _ < 16777216; omega, ?_⟩
        have ey : (((2 + y).toNat : Nat) : Int) - 1 = 2 + y - 1 := by omega
        rw [List.range_succ, List.map_append]
        simp [thirdW, wd, tri, ptD, ey]
        omega
      · rintro acc s ⟨c, rfl, rfl⟩
        generalize hacc : (List.range (rangeD 0 (2 + y).toNat).length).map (thirdW (2 + y).toNat) = acc
        have hj : acc.length = (2 + y).toNat := by rw [← hacc]; simp
        have hfl : FigL (2 + y).toNat [0] acc := by
          rw [← hacc, range_len]
          refine ⟨fun d hd => ?_, nodup_range (thirdW_inj _) _⟩
          obtain ⟨k, hk, rfl⟩ := List.mem_map.mp hd
          exact thirdW_fig (by omega) (by omega) (List.mem_range.mp hk)
        simp
        unfold Rest
        rw [Wp.step]
        simp [ex, ev, evs, evO, E.isVar, E.isFld, again]
        refine pickK M.h2 (by omega) (by omega) ok2 fun z f3 z0 z1 ok3 => ?_
        have hc : cut acc none (some (1 + z)) = acc.take (1 + z).toNat := cut_hi (by omega) (by omega)
        simp [sliced, hc]
        refine rule_of_ok (bk := [0]) M.hN M.h11 ok3 (by omega) (by omega) (by decide) (.inr rfl) ⟨fun d hd => hfl.1 d (List.mem_of_mem_take hd), hfl.2.sublist (List.take_sublist _ _)⟩ (by rw [List.length_take]; omega) (by show (2 + y) * ((1 : Nat) : Int) ≤ 6; omega) fun r f4 hr rm rb ok4 => ?_
        rw [gc_len (by simp)]
        exact hK r f4 hr ok4
end G.Pl

set_option linter.all false
set_option maxRecDepth 100000
set_option maxHeartbeats 4000000
namespace G.Pl
open PySem
namespace Wp
end Wp
open scoped Wp
def d_numbered : Def := { params := 3, slots := 13, body := [.asg (.var 3) (.blt .len (.var 1)), .asg (.var 4) (.lst [.lst [.tup [.con (.int 0)]], .lst [.tup [.con (.int 0), .con (.int 1)], .tup [.con (.int 1), .con (.int 0)]]]), .mut (.var 4) .append [.lst [.tup [.con (.int 0), .con (.int 1), .con (.int 2)], .tup [.con (.int 0), .con (.int 2), .con (.int 1)], .tup [.con (.int 2), .con (.int 0), .con (.int 1)], .tup [.con (.int 2), .con (.int 1), .con (.int 0)]]], .asg (.var 5) (.sub (.var 4) (.bin .sub (.var 3) (.con (.int 1)))), .ite (.cmp .eq (.var 1) (.tup [.con (.int 0), .con (.int 1), .con (.int 2)])) [.asg (.var 5) (.call 6 [])] [], .asg (.var 6) (.sub (.var 5) (.call 2 [.var 0, .blt .len (.var 5)])), .asg (.var 7) (.bin .mul (.lst [.con (.int 0)]) (.var 3)), .for_ (.var 8) (.range1 (.var 3)) [.asg (.sub (.var 7) (.sub (.var 6) (.var 8))) (.sub (.var 6) (.sub (.var 1) (.var 8)))], .asg (.var 9) (.dict []), .for_ (.tup [.var 10, .var 11]) (.seq (.var 2)) [.asg (.sub (.var 9) (.tup [.sub (.var 6) (.var 10), .sub (.var 6) (.var 11)])) (.comp (.var 12) (.seq (.sub (.var 2) (.tup [.var 10, .var 11]))) none (.sub (.var 6) (.var 12)))], .ret (.tup [.blt .tuple (.var 7), .var 9])] }  -- 28: 0 _law_flow_here, 1 _law_backs_here, 2 _law_must, 3 _law_many, 4 _law_menu, 5 _law_some, 6 _law_numbers, 7 _law_told, 8 _law_k, 9 _law_other, 10 _law_u, 11 _law_v, 12 _law_w
def PermSet : List (List Int) := [[0], [0, 1], [1, 0], [0, 1, 2], [0, 2, 1], [1, 0, 2], [1, 2, 0], [2, 0, 1], [2, 1, 0]]
theorem perm_ok : ∀ nu ∈ PermSet, ∀ k < nu.length, 0 ≤ nu.getD k 0 ∧ nu.getD k 0 < nu.length := by decide
theorem perm_in {nu : List Int} (h : nu ∈ PermSet) {x : Int} (h0 : 0 ≤ x) (h1 : x < nu.length) : L2.atI (nu.map D.int) x = some (.int (bkAt nu x)) ∧ 0 ≤ bkAt nu x ∧ bkAt nu x < nu.length := by
  obtain ⟨a, b⟩ := perm_ok nu h x.toNat (by omega)
  exact ⟨atI_get h0 h1 0, a, b⟩
def conjF (nu bk : List Int) (k : Nat) : List Int := (List.range k).foldl (fun t (i : Nat) => t.set (bkAt nu (i : Int)).toNat (bkAt nu (bkAt bk (i : Int)))) (List.replicate bk.length 0)
def MenuSet : List (List Int) := [[0], [0, 1], [1, 0], [0, 1, 2], [0, 2, 1], [2, 0, 1], [2, 1, 0]]
theorem conj_ok : ∀ bk ∈ KindSet, ∀ nu ∈ PermSet, nu.length = bk.length → (bk = [0, 1, 2] ∨ nu ∈ MenuSet) → conjF nu bk bk.length ∈ BackSet ∧ (conjF nu bk bk.length).length = bk.length := by decide
theorem conj_len {nu bk : List Int} : ∀ k, (conjF nu bk k).length = bk.length := by
  intro k
  unfold conjF
  induction k with
  | zero => simp
  | succ k ih => rw [List.range_succ, List.foldl_append]; simp [ih]
theorem conj_succ {nu bk : List Int} {k : Nat} : conjF nu bk (k + 1) = (conjF nu bk k).set (bkAt nu (k : Int)).toNat (bkAt nu (bkAt bk (k : Int))) := by
  unfold conjF
  rw [List.range_succ, List.foldl_append]
  rfl
theorem zeros : ∀ n : Nat, listTimes [.int 0] n = (List.replicate n (0 : Int)).map D.int := by
  intro n
  unfold listTimes
  induction n with
  | zero => rfl
  | succ n ih => rw [List.replicate_succ, List.flatten_cons, ih]; rfl
theorem eqD_id {bk : List Int} (h : bk ∈ BackSet) : eqD (.tup (bk.map .int)) (.tup [.int 0, .int 1, .int 2]) = some (decide (bk = [0, 1, 2])) := by
  have e : eqD (.tup (bk.map .int)) (.tup [.int 0, .int 1, .int 2]) = if D.flat (.tup (bk.map .int)) ∧ D.flat (.tup [.int 0, .int 1, .int 2]) ∧ D.dep (.tup (bk.map .int)) ≤ 60 ∧ D.dep (.tup [.int 0, .int 1, .int 2]) ≤ 60 then some (D.eqv (.tup (bk.map .int)) (.tup [.int 0, .int 1, .int 2])) else none := rfl
  rw [e, if_pos ⟨ints_flat bk, rfl, by show D.depL (bk.map .int) + 1 ≤ 60; rw [ints_dep]; omega, by decide⟩]
  have : ∀ bk ∈ BackSet, D.eqv (.tup (bk.map .int)) (.tup [.int 0, .int 1, .int 2]) = decide (bk = [0, 1, 2]) := by decide
  rw [this bk h]
theorem beq_key {a b c d : Int} : D.beq (.tup [.int a, .int b]) (.tup [.int c, .int d]) = (a == c && b == d) := by
  simp [D.beq, D.beqL]
theorem key2 {a b : Int} : D.key (.tup [.int a, .int b]) = true := by
  simp [D.key, D.keyp, D.keypL, D.dep, D.depL]
theorem MustK.fitsK {k : Nat} {kvs : List (D × D)} (h : MustK k kvs) {a b : Int} : fits kvs (.tup [.int a, .int b]) = true := by
  unfold G.fits
  rw [key2, Bool.true_and, List.all_eq_true]
  intro p hp
  obtain ⟨a, b, l, rfl, _⟩ := h p hp
  rfl
theorem MustK.lookK {k : Nat} {kvs : List (D × D)} (h : MustK k kvs) {a b : Int} (hm : .tup [.int a, .int b] ∈ kvs.map (·.1)) : ∃ l : List Int, look kvs (.tup [.int a, .int b]) = some (.lst (l.map .int)) ∧ (∀ x ∈ l, 0 ≤ x ∧ x < k) ∧ l.length ≤ 10 := by
  obtain ⟨p, hp, e⟩ := List.mem_map.mp hm
  unfold G.look
  cases hf : kvs.find? fun p => D.beq p.1 (.tup [.int a, .int b]) with
  | none =>
    have := List.find?_eq_none.mp hf p hp
    rw [e, beq_key] at this
    simp at this
  | some q =>
    obtain ⟨a', b', l, rfl, _, _, _, _, hl⟩ := h q (List.mem_of_find?_eq_some hf)
    exact ⟨l, rfl, hl⟩
theorem MustK.getK {k : Nat} {kvs : List (D × D)} (h : MustK k kvs) {a b : Int} (z : List Int) : ∃ l : List Int, (look kvs (.tup [.int a, .int b])).getD (.lst (z.map .int)) = .lst (l.map .int) := by
  unfold G.look
  cases hf : kvs.find? fun p => D.beq p.1 (.tup [.int a, .int b]) with
  | none => exact ⟨z, rfl⟩
  | some q =>
    obtain ⟨a', b', l, rfl, _⟩ := h q (List.mem_of_find?_eq_some hf)
    exact ⟨l, rfl⟩
theorem MustK.putK {k : Nat} {kvs : List (D × D)} (h : MustK k kvs) {a b : Int} {l : List Int} (ha : 0 ≤ a ∧ a < k) (hb : 0 ≤ b ∧ b < k) (hl : (∀ x ∈ l, 0 ≤ x ∧ x < k) ∧ l.length ≤ 10) : MustK k (put kvs (.tup [.int a, .int b]) (.lst (l.map .int))) ∧ (put kvs (.tup [.int a, .int b]) (.lst (l.map .int))).length ≤ kvs.length + 1 := by
  unfold G.put
  split
  · refine ⟨fun p hp => ?_, by simp⟩
    obtain ⟨q, hq, e⟩ := List.mem_map.mp hp
    obtain ⟨a', b', l', rfl, h1, h2, h3, h4, h5⟩ := h q hq
    split at e
    · subst e; exact ⟨a', b', l, rfl, h1, h2, h3, h4, hl⟩
    · subst e; exact ⟨a', b', l', rfl, h1, h2, h3, h4, h5⟩
  · refine ⟨fun p hp => ?_, by simp⟩
    rcases List.mem_append.mp hp with hp | hp
    · exact h p hp
    · rw [List.mem_singleton] at hp; subst hp; exact ⟨a, b, l, rfl, ha.1, ha.2, hb.1, hb.2, hl⟩
def permsOf (k : Int) : List (List Int) := if k = 1 then [[0]] else if k = 2 then [[0, 1], [1, 0]] else [[0, 1, 2], [0, 2, 1], [2, 0, 1], [2, 1, 0]]
def intsD (b : List Int) : D := .tup (b.map .int)
theorem numbered_ok {P : Prog} {n : Nat} (h2 : P.df 2 = some d_pick) (h6 : P.df 6 = some d_turns) (h28 : P.df 28 = some d_numbered) {f : Flow} {m : Mem} (ok : f.Ok) {bk : List Int} (hbk : bk ∈ KindSet) {kvs : List (D × D)} (hk : MustK bk.length kvs) (hkl : kvs.length ≤ 20) {K : RV → Mem → Prop}
    (hK : ∀ (bk' : List Int) (kvs' : List (D × D)) f', bk' ∈ BackSet → bk'.length = bk.length → MustK bk.length kvs' → kvs'.length ≤ 20 → Flow.Ok f' → K (false, .tup [.tup (bk'.map .int), .dic kvs']) (fl f' :: m)) :
    Says (callN P (n + 2) 28) [(false, .obj 0), (false, .tup (bk.map .int)), (false, .dic kvs)] (fl f :: m) K := by
  have hb := kind_back bk hbk
  obtain ⟨l1, l3⟩ := back_len hb
  refine says_fn h28 rfl ?_
  simp only [d_numbered]
  rw [Wp.step]
  simp [ex, ev, evs, E.isVar, again]
  unfold Rest
  rw [Wp.step]
  simp [ex, ev, evs]
  unfold Rest
  rw [Wp.step]
  simp [ex, mutPl, ev, evs, sizeMax]
  unfold Rest
  rw [Wp.step]
  have em : L2.atI [.lst [.tup [.int 0]], .lst [.tup [.int 0, .int 1], .tup [.int 1, .int 0]], .lst [.tup [.int 0, .int 1, .int 2], .tup [.int 0, .int 2, .int 1], .tup [.int 2, .int 0, .int 1], .tup [.int 2, .int 1, .int 0]]] ((bk.length : Int) - 1) = some (D.lst ((permsOf bk.length).map intsD)) := by
    obtain h | h | h : bk.length = 1 ∨ bk.length = 2 ∨ bk.length = 3 := by omega
    · rw [h]; rfl
    · rw [h]; rfl
    · rw [h]; rfl
  simp [ex, ev, evs, E.isVar, E.isFld, again, em]
  unfold Rest
  rw [Wp.step]
  generalize hmenu : D.lst [.lst [.tup [.int 0]], .lst [.tup [.int 0, .int 1], .tup [.int 1, .int 0]], .lst [.tup [.int 0, .int 1, .int 2], .tup [.int 0, .int 2, .int 1], .tup [.int 2, .int 0, .int 1], .tup [.int 2, .int 1, .int 0]]] = menu
  have eid := eqD_id hb
  have main : ∀ (o : Bool) (some' : List (List Int)) , 0 < some'.length → some'.length ≤ 6 → (∀ nu ∈ some', nu ∈ PermSet ∧ nu.length = bk.length ∧ (bk = [0, 1, 2] ∨ nu ∈ MenuSet)) → Wp (exs P (gam P (n + 1)) (d_numbered.body.drop 5)) ⟨[some (false, .obj 0), some (false, .tup (bk.map .int)), some (false, .dic kvs), some (false, .int bk.length), some (true, menu), some (o, .lst (some'.map intsD)), none, none, none, none, none, none, none], fl f :: m⟩ (fun f s => match f with
      | .ret v => K (gc (m.length + 1) v s.m).1 (gc (m.length + 1) v s.m).2
      | .next => K (gc (m.length + 1) (false, .non) s.m).1 (gc (m.length + 1) (false, .non) s.m).2
      | .brk => False) := by
    intro o some' s0 s6 hs
    simp only [d_numbered, List.drop_succ_cons, List.drop_zero]
    rw [Wp.step]
    have tail : ∀ (nu : List Int) f1, nu ∈ PermSet → nu.length = bk.length → (bk = [0, 1, 2] ∨ nu ∈ MenuSet) → Flow.Ok f1 → ∀ (c5 : Option RV), Wp (exs P (gam P (n + 1)) (d_numbered.body.drop 6)) ⟨[some (false, .obj 0), some (false, .tup (bk.map .int)), some (false, .dic kvs), some (false, .int bk.length), some (true, menu), c5, some (false, intsD nu), none, none, none, none, none, none], fl f1 :: m⟩ (fun f s => match f with
      | .ret v => K (gc (m.length + 1) v s.m).1 (gc (m.length + 1) v s.m).2
      | .next => K (gc (m.length + 1) (false, .non) s.m).1 (gc (m.length + 1) (false, .non) s.m).2
      | .brk => False) := by
      intro nu f1 hnu hnl hnm ok1 c5
      simp only [d_numbered, List.drop_succ_cons, List.drop_zero]
      rw [Wp.step]
      have hmul : mulD (.lst [.int 0]) (.int bk.length) = some (true, .lst ((conjF nu bk 0).map .int)) := by
        have e : mulD (.lst [.int 0]) (.int bk.length) = if -(2 ^ 63) ≤ (bk.length : Int) ∧ (bk.length : Int) < 2 ^ 63 ∧ [D.int 0].length * (bk.length : Int).toNat ≤ sizeMax then some (true, .lst (listTimes [.int 0] (bk.length : Int).toNat)) else none := rfl
        rw [e, if_pos ⟨by omega, by omega, by show 1 * _ ≤ 16777216; omega⟩, zeros, Int.toNat_natCast]
        rfl
      simp [ex, ev, evs, E.isVar, E.isFld, again, hmul]
      unfold Rest
      rw [Wp.step]
      have hr : (bk.length : Int) < 16777216 ∧ -4611686018427387904 ≤ (bk.length : Int) := ⟨by omega, by omega⟩
      simp [ex, ev, evIt, E.isVar, again, hr]
      refine Wp.forL (fun i s => ∃ c8, s = ⟨[some (false, .obj 0), some (false, .tup (bk.map .int)), some (false, .dic kvs), some (false, .int bk.length), some (true, menu), c5, some (false, intsD nu), some (true, .lst ((conjF nu bk i).map .int)), c8, none, none, none, none], fl f1 :: m⟩) ⟨none, rfl⟩ ?_ ?_
      · rintro i d s hd ⟨c8, rfl⟩
        obtain ⟨hi, rfl⟩ := rangeD_at hd
        have b1 := back_in hb (x := (i : Int)) (by omega) (by omega)
        have e1 : L2.atI (bk.map D.int) (i : Int) = some (.int (bkAt bk i)) := atI_get (by omega) (by omega) 0
        obtain ⟨e2, -, -⟩ := perm_in hnu (x := bkAt bk i) b1.1 (by rw [hnl]; exact b1.2.1)
        obtain ⟨e3, p0, p1⟩ := perm_in hnu (x := (i : Int)) (by omega) (by rw [hnl]; omega)
        have ep : ∀ v, putD v [.int (bkAt nu i)] (.lst ((conjF nu bk i).map .int)) = some ((false, .non), .lst (((conjF nu bk i).map D.int).set (bkAt nu i).toNat v)) := by
          intro v
          have e : putD v [.int (bkAt nu i)] (.lst ((conjF nu bk i).map .int)) = (placeOf ((conjF nu bk i).map D.int).length (bkAt nu i)).map fun j => ((false, .non), .lst (((conjF nu bk i).map D.int).set j v)) := rfl
          rw [e]
          unfold placeOf
          rw [ix_lt p0 (by rw [List.length_map, conj_len, ← hnl]; exact p1)]
          rfl
        simp only [intsD]
        simp [tgStore]
        rw [Wp.step]
        simp [ex, ev, evs, E.isVar, E.isFld, again, e1, e2, e3, ep]
        unfold Rest
        simp
        rw [conj_succ]
        simp
      · rintro s ⟨c8, rfl⟩
        obtain ⟨q1, q2⟩ := conj_ok bk hbk nu hnu hnl hnm
        simp
        unfold Rest
        rw [Wp.step]
        simp [ex, ev, evs, mkDic]
        unfold Rest
        rw [Wp.step]
        simp [ex, ev, evIt, E.isVar, D.seq, froz]
        refine Wp.forL (fun i s => ∃ kvs' c10 c11 c12, MustK bk.length kvs' ∧ kvs'.length ≤ i ∧ s = ⟨[some (false, .obj 0), some (false, .tup (bk.map .int)), some (false, .dic kvs), some (false, .int bk.length), some (true, menu), c5, some (false, intsD nu), some (true, .lst ((conjF nu bk bk.length).map .int)), c8, some (true, .dic kvs'), c10, c11, c12], fl f1 :: m⟩) ⟨[], none, none, none, by simp [MustK], by simp, rfl⟩ ?_ ?_
        · rintro i d s hd ⟨kvs', c10, c11, c12, hk', hl', rfl⟩
          have hi : i < kvs.length := by simpa using (List.getElem?_eq_some_iff.mp hd).1
          have hmem := List.mem_of_getElem? hd
          obtain ⟨p, hp, ep⟩ := List.mem_map.mp hmem
          obtain ⟨u, v, l0, rfl, u0, u1, v0, v1, -⟩ := hk p hp
          have ep : D.tup [.int u, .int v] = d := ep
          subst ep
          obtain ⟨l, el, hl, hll⟩ := hk.lookK hmem
          have ef := hk.fitsK (a := u) (b := v)
          obtain ⟨e1, a0, a1⟩ := perm_in hnu (x := u) u0 (by rw [hnl]; exact u1)
          obtain ⟨e2, b0, b1⟩ := perm_in hnu (x := v) v0 (by rw [hnl]; exact v1)
          simp only [intsD]
          simp [tgStore, tgStoreL]
          rw [Wp.step]
          have es : subscript (.dic kvs) (.tup [.int u, .int v]) = some (.lst (l.map .int)) := by
            show (if G.fits kvs (.tup [.int u, .int v]) then G.look kvs (.tup [.int u, .int v]) else none) = _
            rw [ef, el]; rfl
          simp [ex, ev, evs, evIt, E.isVar, E.isFld, again, es, Tg.slots]
          refine Wp.compL (fun j acc s => ∃ c12 l', acc = l'.map D.int ∧ l'.length = j ∧ (∀ x ∈ l', 0 ≤ x ∧ x < (bk.length : Int)) ∧ s = ⟨[some (false, .obj 0), some (false, .tup (bk.map .int)), some (false, .dic kvs), some (false, .int bk.length), some (true, menu), c5, some (false, .tup (nu.map .int)), some (true, .lst ((conjF nu bk bk.length).map .int)), c8, some (true, .dic kvs'), some (false, .int u), some (false, .int v), c12], fl f1 :: m⟩) ⟨none, [], rfl, rfl, by simp, rfl⟩ ?_ ?_
          · rintro j d acc s hd ⟨c12, l', rfl, hj, hx, rfl⟩
            obtain ⟨w, hw, rfl⟩ := List.mem_map.mp (List.mem_of_getElem? hd)
            have hjl : j < l.length := by simpa using (List.getElem?_eq_some_iff.mp hd).1
            obtain ⟨e3, p0, p1⟩ := perm_in hnu (x := w) (hl w hw).1 (by rw [hnl]; exact (hl w hw).2)
            simp [tgStore, testM, still, ev, evs, E.isVar, E.isFld, again, e3, Tg.slots]
            refine ⟨by show _ < 16777216; omega, none, l' ++ [bkAt nu w], by simp, by simp [hj], ?_, rfl⟩
            intro z hz
            rcases List.mem_append.mp hz with hz | hz
            · exact hx z hz
            · rw [List.mem_singleton] at hz; subst hz; exact ⟨p0, by omega⟩
          · rintro acc s ⟨c12, l', rfl, hj, hx, rfl⟩
            have hp := hk'.putK (a := bkAt nu u) (b := bkAt nu v) (l := l') ⟨a0, by omega⟩ ⟨b0, by omega⟩ ⟨hx, by simp at hj; omega⟩
            have ep : putD (.lst (l'.map .int)) [.tup [.int (bkAt nu u), .int (bkAt nu v)]] (.dic kvs') = some ((false, .non), .dic (put kvs' (.tup [.int (bkAt nu u), .int (bkAt nu v)]) (.lst (l'.map .int)))) := by
              show (if G.fits kvs' (.tup [.int (bkAt nu u), .int (bkAt nu v)]) ∧ kvs'.length < sizeMax then _ else none) = _
              rw [if_pos ⟨hk'.fitsK, by show _ < 16777216; omega⟩]
            simp [still, ev, evs, E.isVar, E.isFld, again, e1, e2, ep]
            unfold Rest
            simp
            exact ⟨hp.1, by omega⟩
        · rintro s ⟨kvs', c10, c11, c12, hk', hl', rfl⟩
          have hl' : kvs'.length ≤ kvs.length := by simpa using hl'
          simp
          unfold Rest
          rw [Wp.step]
          simp [ex, ev, evs, E.isVar, again]
          rw [gc_len (by simp)]
          exact hK (conjF nu bk bk.length) kvs' f1 q1 q2 hk' (by omega) ok1
    simp [ex, ev, evs, E.isVar, E.isFld, again]
    refine pickK h2 (by omega) (by omega) ok fun x f1 x0 x1 ok1 => ?_
    obtain ⟨d, e, nu, rfl, hnu⟩ := one_of (p := fun d => ∃ nu, d = intsD nu ∧ (nu ∈ PermSet ∧ nu.length = bk.length ∧ (bk = [0, 1, 2] ∨ nu ∈ MenuSet))) (xs := some'.map intsD) x0 (by simpa using x1) (by
      intro d hd
      obtain ⟨b, hb', rfl⟩ := List.mem_map.mp hd
      exact ⟨b, rfl, hs b hb'⟩)
    simp [e]
    exact tail nu f1 hnu.1 hnu.2.1 hnu.2.2 ok1 _
  have hperm : ∀ k : Nat, (k = 1 ∨ k = 2 ∨ k = 3) → 0 < (permsOf k).length ∧ (permsOf k).length ≤ 6 ∧ ∀ nu ∈ permsOf k, nu ∈ PermSet ∧ nu.length = k ∧ nu ∈ MenuSet := by
    intro k hk
    rcases hk with rfl | rfl | rfl <;> decide
  obtain ⟨r1, r2, r3⟩ := hperm bk.length (by omega)
  by_cases hid : bk = [0, 1, 2]
  · have eid' : eqD (.tup (bk.map .int)) (.tup [.int 0, .int 1, .int 2]) = some true := by rw [eid, hid]; rfl
    simp [ex, ev, evs, E.isVar, again, eid']
    rw [Wp.step]
    simp [ex, ev, evs]
    refine turns_ok h6 ?_
    unfold Rest
    simp
    have q := main true [[0, 1, 2], [0, 2, 1], [1, 0, 2], [1, 2, 0], [2, 0, 1], [2, 1, 0]] (by decide) (by decide) (by
      intro nu hnu
      have : ∀ nu ∈ [[(0 : Int), 1, 2], [0, 2, 1], [1, 0, 2], [1, 2, 0], [2, 0, 1], [2, 1, 0]], nu ∈ PermSet ∧ nu.length = 3 := by decide
      rw [hid]
      exact ⟨(this nu hnu).1, (this nu hnu).2, .inl rfl⟩)
    exact q
  · have eid' : eqD (.tup (bk.map .int)) (.tup [.int 0, .int 1, .int 2]) = some false := by rw [eid, decide_eq_false hid]
    simp [ex, ev, evs, E.isVar, again, eid']
    exact main _ (permsOf bk.length) r1 r2 fun nu h => ⟨(r3 nu h).1, (r3 nu h).2.1, .inr (r3 nu h).2.2⟩
end G.Pl

set_option linter.all false
set_option maxRecDepth 100000
set_option maxHeartbeats 4000000
namespace G.Pl
open PySem
namespace Wp
end Wp
open scoped Wp
def d_breaks : Def := { params := 5, slots := 10, body := [.asg (.var 5) (.dict [.tup [.con (.int 1), .con (.int 0)], .var 2, .tup [.con (.int 2), .con (.int 0)], .var 3, .tup [.con (.int 2), .con (.int 1)], .var 4]), .for_ (.var 6) (.seq (.blt .list (.var 5))) [.asg (.sub (.var 5) (.tup [.sub (.var 6) (.con (.int 1)), .sub (.var 6) (.con (.int 0))])) (.sub (.var 0) (.sub (.var 5) (.var 6)))], .for_ (.tup [.var 7, .var 8, .var 9]) (.seq (.call 6 [])) [.ite (.cmp .notin (.sub (.var 5) (.tup [.var 7, .var 9])) (.bm .get2 (.var 1) [.tup [.sub (.var 5) (.tup [.var 7, .var 8]), .sub (.var 5) (.tup [.var 8, .var 9])], .lst [.sub (.var 5) (.tup [.var 7, .var 9])]])) [.ret (.con (.bl true))] []], .ret (.con (.bl false))] }  -- 29: 0 _law_backs_here, 1 _law_must, 2 _law_to_one, 3 _law_to_two, 4 _law_between_here, 5 _law_to, 6 _law_pair, 7 _law_x, 8 _law_y, 9 _law_z
theorem Wp.forL_nil {x : Tg} {b : M Fl} {ok : M Bool} {s : S} {K : Fl → S → Prop} : Wp (G.forL x b ok []) s K ↔ Wp ok s (fun k s1 => if k = true then K .next s1 else False) := by
  unfold G.forL
  simp
theorem Wp.forL_cons {x : Tg} {b : M Fl} {ok : M Bool} {d : D} {ds : List D} {s : S} {K : Fl → S → Prop} : Wp (G.forL x b ok (d :: ds)) s K ↔ Wp ok s (fun k s1 => if k = true then Wp (tgStore x d) s1 (fun _ s2 => Wp b s2 (fun f s3 => match f with | .next => Wp (G.forL x b ok ds) s3 K | .brk => K .next s3 | .ret v => K (.ret v) s3)) else False) := by
  conv => lhs; unfold G.forL
  simp only [Wp.bind, Wp.ite, Wp.stuck]
  constructor
  · intro h
    refine h.mono fun k s1 z => ?_
    cases k with
    | false => exact z
    | true =>
      simp only [if_true] at z ⊢
      refine z.mono fun _ s2 z => z.mono fun f s3 z => ?_
      cases f <;> first | exact z | exact Wp.ret.mp z
  · intro h
    refine h.mono fun k s1 z => ?_
    cases k with
    | false => exact z
    | true =>
      simp only [if_true] at z ⊢
      refine z.mono fun _ s2 z => z.mono fun f s3 z => ?_
      cases f <;> first | exact z | exact Wp.ret.mpr z
@[scoped simp] theorem list_dic {kvs : List (D × D)} : builtin .list [.dic kvs] = some (true, .lst (kvs.map Prod.fst)) := rfl
def toD (v10 v20 v21 v01 v02 v12 : Int) : List (D × D) := [(.tup [.int 1, .int 0], .int v10), (.tup [.int 2, .int 0], .int v20), (.tup [.int 2, .int 1], .int v21), (.tup [.int 0, .int 1], .int v01), (.tup [.int 0, .int 2], .int v02), (.tup [.int 1, .int 2], .int v12)]
/-- keys that are pairs, values that are numbers -/
def PairK (kv : List (D × D)) : Prop := ∀ p ∈ kv, ∃ a b : Int, p.1 = .tup [.int a, .int b]
theorem PairK.fitsK {kv : List (D × D)} (h : PairK kv) {a b : Int} : fits kv (.tup [.int a, .int b]) = true := by
  unfold G.fits
  rw [key2, Bool.true_and, List.all_eq_true]
  intro p hp
  obtain ⟨a, b, e⟩ := h p hp
  rw [e]
  rfl
theorem PairK.putK {kv : List (D × D)} (h : PairK kv) {a b : Int} {v : D} : PairK (put kv (.tup [.int a, .int b]) v) := by
  intro p hp
  unfold put at hp
  split at hp
  · obtain ⟨q, hq, e⟩ := List.mem_map.mp hp
    split at e
    · subst e; exact h q hq
    · subst e; exact h q hq
  · rcases List.mem_append.mp hp with hp | hp
    · exact h p hp
    · rw [List.mem_singleton] at hp; subst hp; exact ⟨a, b, rfl⟩
theorem PairK.sub {kv : List (D × D)} (h : PairK kv) {a b v : Int} (e : look kv (.tup [.int a, .int b]) = some (.int v)) : subscript (.dic kv) (.tup [.int a, .int b]) = some (.int v) := by
  show (if fits kv (.tup [.int a, .int b]) then look kv (.tup [.int a, .int b]) else none) = _
  rw [h.fitsK, e]; rfl
theorem br_step {P : Prog} {Γ : Gam} {m : Mem} {bk : List Int} {kv : List (D × D)} (hp : PairK kv) (hl : kv.length ≤ 100) {a b v : Int} (e : look kv (.tup [.int a, .int b]) = some (.int v)) (v1 : 0 ≤ v ∧ v < bk.length) {c1 c2 c3 c4 c7 c8 c9 : Option RV} :
    Wp (exs P Γ [.asg (.sub (.var 5) (.tup [.sub (.var 6) (.con (.int 1)), .sub (.var 6) (.con (.int 0))])) (.sub (.var 0) (.sub (.var 5) (.var 6)))]) ⟨[some (false, .tup (bk.map .int)), c1, c2, c3, c4, some (true, .dic kv), some (false, .tup [.int a, .int b]), c7, c8, c9], m⟩
      (fun f s => f = .next ∧ s = ⟨[some (false, .tup (bk.map .int)), c1, c2, c3, c4, some (true, .dic (put kv (.tup [.int b, .int a]) (.int (bkAt bk v)))), some (false, .tup [.int a, .int b]), c7, c8, c9], m⟩) := by
  have e1 : L2.atI (bk.map D.int) v = some (.int (bkAt bk v)) := atI_get v1.1 v1.2 0
  have e2 := hp.sub e
  have ep : putD (.int (bkAt bk v)) [.tup [.int b, .int a]] (.dic kv) = some ((false, .non), .dic (put kv (.tup [.int b, .int a]) (.int (bkAt bk v)))) := by
    show (if fits kv (.tup [.int b, .int a]) ∧ kv.length < sizeMax then _ else none) = _
    rw [if_pos ⟨hp.fitsK, by show _ < 16777216; omega⟩]
  simp [exs, ex, ev, evs, E.isVar, E.isFld, again, e1, e2, ep]
def br_body : List Sm := [.ite (.cmp .notin (.sub (.var 5) (.tup [.var 7, .var 9])) (.bm .get2 (.var 1) [.tup [.sub (.var 5) (.tup [.var 7, .var 8]), .sub (.var 5) (.tup [.var 8, .var 9])], .lst [.sub (.var 5) (.tup [.var 7, .var 9])]])) [.ret (.con (.bl true))] []]
theorem br_test {P : Prog} {Γ : Gam} {m : Mem} {kv kvs : List (D × D)} {nk : Nat} (hp : PairK kv) (hk : MustK nk kvs) {x y z v1 v2 v3 : Int} (l1 : look kv (.tup [.int x, .int z]) = some (.int v1)) (l2 : look kv (.tup [.int x, .int y]) = some (.int v2)) (l3 : look kv (.tup [.int y, .int z]) = some (.int v3)) {c0 c2 c3 c4 c6 : Option RV} {K : Fl → S → Prop}
    (hn : K .next ⟨[c0, some (false, .dic kvs), c2, c3, c4, some (true, .dic kv), c6, some (false, .int x), some (false, .int y), some (false, .int z)], m⟩) (hr : K (.ret (false, .bl true)) ⟨[c0, some (false, .dic kvs), c2, c3, c4, some (true, .dic kv), c6, some (false, .int x), some (false, .int y), some (false, .int z)], m⟩) :
    Wp (exs P Γ br_body) ⟨[c0, some (false, .dic kvs), c2, c3, c4, some (true, .dic kv), c6, some (false, .int x), some (false, .int y), some (false, .int z)], m⟩ K := by
  have e1 := hp.sub l1
  have e2 := hp.sub l2
  have e3 := hp.sub l3
  obtain ⟨l, el⟩ := hk.getK (a := v2) (b := v3) [v1]
  have eb : bmeth .get2 (.dic kvs) [.tup [.int v2, .int v3], .lst [.int v1]] = some (false, .lst (l.map .int)) := by
    show (if fits kvs (.tup [.int v2, .int v3]) then some (false, (look kvs (.tup [.int v2, .int v3])).getD (.lst [.int v1])) else none) = _
    rw [hk.fitsK]
    have el : (look kvs (.tup [.int v2, .int v3])).getD (.lst [.int v1]) = .lst (l.map .int) := el
    rw [el]; rfl
  have ei := isIn_intsL (x := v1) (l := l)
  generalize (l.map D.int).any (fun z => D.eqv z (.int v1)) = q at ei
  have ec : compare .notin (.int v1) (.lst (l.map .int)) = some (!q) := by
    show (isIn (.int v1) (.lst (l.map .int))).map (!·) = _
    rw [ei]; rfl
  unfold br_body
  cases q with
  | true =>
    simp [exs, ex, ev, evs, E.isVar, E.isFld, again, bmTy, e1, e2, e3, eb, ec]
    exact hn
  | false =>
    simp [exs, ex, ev, evs, E.isVar, E.isFld, again, bmTy, e1, e2, e3, eb, ec]
    exact hr
theorem breaks_ok {P : Prog} {n : Nat} (h6 : P.df 6 = some d_turns) (h29 : P.df 29 = some d_breaks) {m : Mem} {bk : List Int} (hb : bk ∈ BackSet) {kvs : List (D × D)} (hk : MustK bk.length kvs) {o t w : Int} (o1 : 0 ≤ o ∧ o < bk.length) (t1 : 0 ≤ t ∧ t < bk.length) (w1 : 0 ≤ w ∧ w < bk.length) {K : RV → Mem → Prop}
    (hK : ∀ b, K (false, .bl b) m) :
    Says (callN P (n + 2) 29) [(false, .tup (bk.map .int)), (false, .dic kvs), (false, .int o), (false, .int t), (false, .int w)] m K := by
  refine says_fn h29 rfl ?_
  simp only [d_breaks]
  rw [Wp.step]
  have ed : mkDic [] [.tup [.int 1, .int 0], .int o, .tup [.int 2, .int 0], .int t, .tup [.int 2, .int 1], .int w] = some [(.tup [.int 1, .int 0], .int o), (.tup [.int 2, .int 0], .int t), (.tup [.int 2, .int 1], .int w)] := rfl
  simp [ex, ev, evs, E.isVar, again, ed]
  unfold Rest
  rw [Wp.step]
  have p0 : PairK [(D.tup [.int 1, .int 0], D.int o), (.tup [.int 2, .int 0], .int t), (.tup [.int 2, .int 1], .int w)] := by
    intro p hp
    simp only [List.mem_cons, List.not_mem_nil, or_false] at hp
    rcases hp with rfl | rfl | rfl <;> exact ⟨_, _, rfl⟩
  have s1 := br_step (P := P) (Γ := gam P (n + 1)) (m := m) (bk := bk) p0 (by show 3 ≤ 100; omega) (a := 1) (b := 0) (v := o) rfl o1 (c1 := some (false, .dic kvs)) (c2 := some (false, .int o)) (c3 := some (false, .int t)) (c4 := some (false, .int w)) (c7 := none) (c8 := none) (c9 := none)
  have p1 := p0.putK (a := 0) (b := 1) (v := .int (bkAt bk o))
  have s2 := br_step (P := P) (Γ := gam P (n + 1)) (m := m) (bk := bk) p1 (by show 4 ≤ 100; omega) (a := 2) (b := 0) (v := t) rfl t1 (c1 := some (false, .dic kvs)) (c2 := some (false, .int o)) (c3 := some (false, .int t)) (c4 := some (false, .int w)) (c7 := none) (c8 := none) (c9 := none)
  have p2 := p1.putK (a := 0) (b := 2) (v := .int (bkAt bk t))
  have s3 := br_step (P := P) (Γ := gam P (n + 1)) (m := m) (bk := bk) p2 (by show 5 ≤ 100; omega) (a := 2) (b := 1) (v := w) rfl w1 (c1 := some (false, .dic kvs)) (c2 := some (false, .int o)) (c3 := some (false, .int t)) (c4 := some (false, .int w)) (c7 := none) (c8 := none) (c9 := none)
  have p3 := p2.putK (a := 1) (b := 2) (v := .int (bkAt bk w))
  generalize hkv : put (put (put [(D.tup [.int 1, .int 0], D.int o), (.tup [.int 2, .int 0], .int t), (.tup [.int 2, .int 1], .int w)] (.tup [.int 0, .int 1]) (.int (bkAt bk o))) (.tup [.int 0, .int 2]) (.int (bkAt bk t))) (.tup [.int 1, .int 2]) (.int (bkAt bk w)) = kv at p3 s3
  have hkv : toD o t w (bkAt bk o) (bkAt bk t) (bkAt bk w) = kv := by rw [← hkv]; rfl
  simp [ex, evIt, ev, evs, E.isVar, still]
  generalize hB : exs P (gam P (n + 1)) [Sm.asg (Ta.sub (Pl.var 5) (.tup [.sub (.var 6) (.con (.int 1)), .sub (.var 6) (.con (.int 0))])) (.sub (.var 0) (.sub (.var 5) (.var 6)))] = B at s1 s2 s3
  rw [Wp.forL_cons]
  simp [tgStore]
  refine s1.mono ?_
  rintro f s ⟨rfl, rfl⟩
  rw [Wp.forL_cons]
  simp [tgStore]
  refine s2.mono ?_
  rintro f s ⟨rfl, rfl⟩
  rw [Wp.forL_cons]
  simp [tgStore]
  refine s3.mono ?_
  rintro f s ⟨rfl, rfl⟩
  rw [Wp.forL_nil]
  simp
  unfold Rest
  rw [Wp.step]
  simp [ex, evIt, ev, evs, E.isVar]
  refine turns_ok h6 ?_
  simp
  refine Wp.forL (fun i s => ∃ c7 c8 c9, s = ⟨[some (false, .tup (bk.map .int)), some (false, .dic kvs), some (false, .int o), some (false, .int t), some (false, .int w), some (true, .dic kv), some (false, .tup [.int 2, .int 1]), c7, c8, c9], m⟩) ⟨none, none, none, rfl⟩ ?_ ?_
  · rintro i d s hd ⟨c7, c8, c9, rfl⟩
    obtain ⟨x, y, z, v1, v2, v3, rfl, l1, l2, l3⟩ : ∃ x y z v1 v2 v3 : Int, d = .tup [.int x, .int y, .int z] ∧ look kv (.tup [.int x, .int z]) = some (.int v1) ∧ look kv (.tup [.int x, .int y]) = some (.int v2) ∧ look kv (.tup [.int y, .int z]) = some (.int v3) := by
      obtain ⟨p, hp, e⟩ := List.mem_map.mp (List.mem_of_getElem? hd)
      subst e
      subst hkv
      simp only [turnsL, List.mem_cons, List.not_mem_nil, or_false] at hp
      rcases hp with rfl | rfl | rfl | rfl | rfl | rfl <;> exact ⟨_, _, _, _, _, _, rfl, rfl, rfl, rfl⟩
    simp [tgStore, tgStoreL, still]
    refine br_test p3 hk l1 l2 l3 ?_ ?_
    · exact ⟨_, _, _, rfl⟩
    · simp only
      rw [gc_len rfl]
      exact hK true
  · rintro s ⟨c7, c8, c9, rfl⟩
    simp [still]
    unfold Rest
    rw [Wp.step]
    simp [ex, ev]
    rw [gc_len rfl]
    exact hK false
end G.Pl

set_option linter.all false
set_option maxRecDepth 100000
set_option maxHeartbeats 4000000
namespace G.Pl
open PySem
namespace Wp
end Wp
open scoped Wp
def d_free_rule : Def := { params := 1, slots := 9, body := [.asg (.tup [.var 1, .var 2]) (.call 10 [.var 0]), .asg (.var 3) (.call 11 [.var 0, .var 1, .call 12 [.var 0, .var 2], .tup []]), .asg (.var 4) (.comp (.var 7) (.range1 (.var 2)) (some (.cmp .eq (.sub (.sub (.sub (.var 3) (.con (.int 1))) (.var 7)) (.con (.int 1))) (.var 7))) (.var 7)), .ite (.or [.cmp .eq (.var 4) (.lst []), .cmp .eq (.var 2) (.con (.int 1))]) [.ret (.take 3)] [], .asg (.var 5) (.sub (.var 4) (.call 2 [.var 0, .blt .len (.var 4)])), .asg (.var 6) (.dict []), .for_ (.var 7) (.range1 (.call 2 [.var 0, .con (.int 9)])) [.asg (.var 8) (.call 14 [.var 0, .var 1, .var 2]), .ite (.and [.cmp .ne (.sub (.sub (.sub (.var 8) (.con (.int 1))) (.con (.int 1))) (.con (.int 0))) (.var 5), .cmp .notin (.var 5) (.sub (.sub (.var 8) (.con (.int 2))) (.con (.int 1)))]) [.asg (.sub (.var 6) (.call 13 [.var 3, .var 8])) (.con (.bl true))] []], .ret (.tup [.sub (.var 3) (.con (.int 0)), .sub (.var 3) (.con (.int 1)), .blt .tuple (.blt .sorted (.var 6))])] }  -- 25: 0 _law_flow_here, 1 _law_marks, 2 _law_ways, 3 _law_rule_here, 4 _law_own, 5 _law_free, 6 _law_barred, 7 _law_k, 8 _law_three
theorem free_rule_ok {P : Prog} {n : Nat} (M : Made P) (h25 : P.df 25 = some d_free_rule) {f : Flow} {m : Mem} (ok : f.Ok) {K : RV → Mem → Prop}
    (hK : ∀ (r : RuleR) f', r.Ok → Flow.Ok f' → K (false, r.d) (fl f' :: m)) :
    Says (callN P (n + 6) 25) [(false, .obj 0)] (fl f :: m) K := by
  refine says_fn h25 rfl ?_
  simp only [d_free_rule]
  rw [Wp.step]
  simp [ex, ev, evs]
  refine sizes_ok M.h2 M.h10 ok fun mk wy f1 m1 m3 w1 w3 tm ok1 => ?_
  simp
  unfold Rest
  rw [Wp.step]
  simp [ex, ev, evs]
  refine backs_ok M.h2 M.h12 ok1 w1 w3 fun bk f2 hb hbl ok2 => ?_
  refine rule_of_ok M.hN M.h11 ok2 m1 m3 hb (.inl rfl) ⟨by simp, by simp⟩ (by simp) (by rw [hbl]; exact tm) fun r f3 hr rm rb ok3 => ?_
  unfold Rest
  rw [Wp.step]
  have hrw : wy < 16777216 ∧ -4611686018427387904 ≤ wy := ⟨by omega, by omega⟩
  simp [ex, ev, evs, evIt, E.isVar, again, hrw, Tg.slots]
  have hwy : wy.toNat = r.bk.length := by rw [rb]; omega
  refine Wp.compL (fun j acc s => ∃ c l, acc = l.map D.int ∧ acc.length ≤ j ∧ s = ⟨[some (false, .obj 0), some (false, .int mk), some (false, .int wy), some (false, r.d), none, none, none, c, none], fl f3 :: m⟩) ⟨none, [], rfl, by simp, rfl⟩ ?_ ?_
  · rintro j d acc s hd ⟨c, l, rfl, hj, rfl⟩
    obtain ⟨hj2, rfl⟩ := rangeD_at hd
    obtain ⟨nm, e⟩ := hr.back (x := (j : Int)) (by omega) (by omega)
    simp only [RuleR.d]
    simp [tgStore, testM, ev, evs, E.isVar, E.isFld, again, e, Tg.slots]
    split
    · simp at hj
      exact ⟨by show _ < 16777216; omega, ⟨l ++ [(j : Int)], by simp⟩, hj⟩
    · simp at hj
      exact ⟨⟨l, rfl⟩, by omega⟩
  · rintro acc s ⟨c, l, rfl, hj, rfl⟩
    simp
    unfold Rest
    rw [Wp.step]
    have hjl : l.length ≤ wy.toNat := by simpa using hj
    have en := eq_nil (l := l)
    have fin0 : K (false, r.d) (fl f3 :: m) := hK r f3 hr ok3
    have hgo : ∀ x : Bool, (x = true → l = []) → x = l.isEmpty → True := fun _ _ _ => trivial
    cases hl : l with
    | nil =>
      rw [hl] at en
      simp [ex, ev, evs, evOr, boolM, E.isVar, E.isFld, again]
      have en2 : compare .eq (.lst []) (.lst []) = some true := en
      simp at en2
      simp [en2]
      rw [Wp.step]
      simp [ex, ev]
      rw [gc_len (by simp)]
      exact fin0
    | cons a l' =>
      rw [hl] at en
      have en2 : eqD (.lst ((a :: l').map .int)) (.lst []) = some false := en
      simp at en2
      simp [ex, ev, evs, evOr, boolM, E.isVar, E.isFld, again, en2]
      by_cases h1 : wy = 1
      · simp [h1]
        rw [Wp.step]
        simp [ex, ev]
        rw [gc_len (by simp)]
        exact fin0
      · simp [h1]
        unfold Rest
        rw [Wp.step]
        rw [hl] at hjl
        simp at hjl
        simp [ex, ev, evs, E.isVar, E.isFld, again]
        refine pickK M.h2 (by omega) (by omega) ok3 fun x f4 x0 x1 ok4 => ?_
        obtain ⟨d, e, fr, rfl⟩ := one_of (p := fun d => ∃ fr : Int, d = .int fr) (xs := (a :: l').map D.int) x0 (by simpa using x1) (by
          intro d hd
          obtain ⟨z, _, rfl⟩ := List.mem_map.mp hd
          exact ⟨z, rfl⟩)
        simp at e
        simp [e]
        unfold Rest
        rw [Wp.step]
        simp [ex, ev, evs, mkDic]
        unfold Rest
        rw [Wp.step]
        simp [ex, ev, evs, evIt, E.isVar, E.isFld, again]
        refine pickK M.h2 (by omega) (by omega) ok4 fun x f5 x0 x1 ok5 => ?_
        have hr9 : x < 16777216 ∧ -4611686018427387904 ≤ x := ⟨by omega, by omega⟩
        simp [hr9]
        refine Wp.forL (fun i s => ∃ f' kvs c7 c8, Flow.Ok f' ∧ FigK r.nm.length r.bk kvs ∧ kvs.length ≤ i ∧ s = ⟨[some (false, .obj 0), some (false, .int mk), some (false, .int wy), some (false, r.d), some (true, .lst (.int a :: l'.map .int)), some (false, .int fr), some (true, .dic kvs), c7, c8], fl f' :: m⟩) ⟨f5, [], c, none, ok5, .nil, by simp, rfl⟩ ?_ ?_
        · rintro i d s hd ⟨f', kvs, c7, c8, ok', hk, hkl, rfl⟩
          obtain ⟨hi, rfl⟩ := rangeD_at hd
          simp [tgStore]
          rw [Wp.step]
          simp [ex, ev, evs]
          refine free_three_ok M.h2 M.h14 ok' m1 m3 w1 w3 fun w f6 hw hwl hwm ok6 => ?_
          unfold Rest
          rw [Wp.step]
          have e1 := pt_at (w := w) (i := 1) (by omega)
          have e2 := hw.wat (i := 1) (j := 0) (by omega) (by omega)
          have e3 := pt_at (w := w) (i := 2) (by omega)
          have e4 := isIn_ints (x := fr) (l := (ptAt w 2).2)
          simp at e1 e2 e3
          have hww : WOk r.bk.length w := by rw [← hwy]; exact hw
          have fin : ∀ (kvs : List (D × D)), FigK r.nm.length r.bk kvs → kvs.length ≤ i → Wp (exs P (gam P (n + 5)) [.asg (.sub (.var 6) (.call 13 [.var 3, .var 8])) (.con (.bl true))]) ⟨[some (false, .obj 0), some (false, .int mk), some (false, .int wy), some (false, r.d), some (true, .lst (.int a :: l'.map .int)), some (false, .int fr), some (true, .dic kvs), some (false, .int (i : Nat)), some (false, .tup (w.map ptD))], fl f6 :: m⟩ (fun fq s => fq = .next ∧ ∃ kvs, FigK r.nm.length r.bk kvs ∧ kvs.length ≤ i + 1 ∧ s = ⟨[some (false, .obj 0), some (false, .int mk), some (false, .int wy), some (false, r.d), some (true, .lst (.int a :: l'.map .int)), some (false, .int fr), some (true, .dic kvs), some (false, .int (i : Nat)), some (false, .tup (w.map ptD))], fl f6 :: m⟩) := by
            intro kvs hk hkl
            simp [exs, ex, ev, evs]
            refine figure_ok (w := w) M.h5 M.h6 M.h7 M.h13 hr hww hwl ?_
            have hv : Fig r.nm.length r.bk (wd (figF r.bk w)) := Fig.of (figF_FigP hr.bk hwl hww (by rw [rm]; exact hwm))
            have ep := putD_figs hk (v := .bl true) hv (by omega)
            obtain ⟨q1, q2⟩ := put_figs hk (v := .bl true) hv
            simp [ep]
            exact ⟨q1, by omega⟩
          simp only [wd]
          generalize ((ptAt w 2).2.map D.int).any (fun z => D.eqv z (.int fr)) = q at e4
          have e5 : compare .notin (.int fr) (.tup ((ptAt w 2).2.map .int)) = some (!q) := by
            show (isIn (.int fr) (.tup ((ptAt w 2).2.map .int))).map (!·) = _
            rw [e4]; rfl
          by_cases h2 : wyAt w 1 0 = fr
          · simp [ex, ev, evs, evAnd, boolM, E.isVar, E.isFld, again, e1, e2, e3, h2]
            unfold Rest
            simp
            exact ⟨f6, ok6, kvs, hk, by omega, rfl, rfl⟩
          · cases q with
            | true =>
              simp [ex, ev, evs, evAnd, boolM, E.isVar, E.isFld, again, e1, e2, e3, h2, e5]
              unfold Rest
              simp
              exact ⟨f6, ok6, kvs, hk, by omega, rfl, rfl⟩
            | false =>
              simp [ex, ev, evs, evAnd, boolM, E.isVar, E.isFld, again, e1, e2, e3, h2, e5]
              refine (fin kvs hk hkl).mono ?_
              rintro fq s ⟨rfl, kvs, hk, hkl, rfl⟩
              unfold Rest
              simp
              exact ⟨f6, ok6, kvs, hk, by omega, rfl, rfl⟩
        · rintro s ⟨f', kvs, c7, c8, ok', hk, hkl, rfl⟩
          have es := sorted_figs hk
          simp
          unfold Rest
          rw [Wp.step]
          simp only [RuleR.d]
          simp [ex, ev, evs, E.isVar, E.isFld, again, es]
          rw [gc_len (by simp)]
          exact hK (r.barred kvs) f' (hr.barred hk (by have := hkl; simp at this; omega)) ok'
end G.Pl

set_option linter.all false
set_option maxRecDepth 100000
set_option maxHeartbeats 4000000
namespace G.Pl
open PySem
namespace Wp
end Wp
open scoped Wp
def d_laying_rule : Def := { params := 1, slots := 15, body := [.asg (.var 1) (.call 2 [.var 0, .con (.int 7)]), .ite (.cmp .eq (.var 1) (.con (.int 0))) [.ret (.call 25 [.var 0])] [], .ite (.cmp .eq (.var 1) (.con (.int 1))) [.ret (.call 26 [.var 0])] [], .asg (.tup [.var 2, .var 3, .var 4]) (.call 27 [.var 0]), .asg (.var 5) (.bin .add (.con (.int 1)) (.call 2 [.var 0, .var 4])), .asg (.tup [.var 2, .var 3]) (.call 28 [.var 0, .var 2, .var 3]), .asg (.var 6) (.call 11 [.var 0, .var 5, .var 2, .tup []]), .asg (.var 7) (.dict []), .asg (.var 8) (.blt .len (.var 2)), .for_ (.var 9) (.range1 (.bin .mul (.bin .mul (.var 8) (.var 8)) (.var 8))) [.par [10, 11] [.bin .mod (.var 9) (.var 8), .bin .mod (.bin .fdiv (.var 9) (.var 8)) (.var 8)], .asg (.var 12) (.bin .fdiv (.bin .fdiv (.var 9) (.var 8)) (.var 8)), .ite (.call 29 [.var 2, .var 3, .var 10, .var 11, .var 12]) [.for_ (.var 13) (.seq (.call 30 [.var 5])) [.asg (.var 14) (.tup [.tup [.sub (.var 13) (.con (.int 0)), .tup []], .tup [.sub (.var 13) (.con (.int 1)), .tup [.var 10]]]), .asg (.sub (.var 7) (.call 13 [.var 6, .bin .add (.var 14) (.tup [.tup [.sub (.var 13) (.con (.int 2)), .tup [.var 11, .var 12]]])])) (.con (.bl true))]] []], .ret (.tup [.sub (.var 6) (.con (.int 0)), .sub (.var 6) (.con (.int 1)), .blt .tuple (.blt .sorted (.var 7))])] }  -- 31: 0 _law_flow_here, 1 _law_form, 2 _law_backs_here, 3 _law_must, 4 _law_most, 5 _law_marks, 6 _law_rule_here, 7 _law_barred, 8 _law_many, 9 _law_at, 10 _law_one, 11 _law_two, 12 _law_between_here, 13 _law_some, 14 _law_first
def d_rule1 : Def := { params := 1, slots := 2, body := [.asg (.var 1) (.call 2 [.var 0, .con (.int 4)]), .ite (.cmp .eq (.var 1) (.con (.int 0))) [.ret (.call 31 [.var 0])] [], .ite (.cmp .eq (.var 1) (.con (.int 1))) [.ret (.call 32 [.var 0])] [], .ret (.call 33 [.var 0])] }  -- 18: 0 _law_flow_here, 1 _law_form
structure MadeL (P : Prog) : Prop extends Made P where
  h25 : P.df 25 = some d_free_rule
  h26 : P.df 26 = some d_one_way_rule
  h27 : P.df 27 = some d_laying_kind
  h28 : P.df 28 = some d_numbered
  h29 : P.df 29 = some d_breaks
  h30 : P.df 30 = some d_rising
  h31 : P.df 31 = some d_laying_rule
  h33 : P.df 33 = some d_any_rule
structure Made2 (P : Prog) : Prop extends MadeL P where
  h32 : P.df 32 = some d_unlaying_rule
theorem digits3 {k i : Nat} (h1 : 1 ≤ k) (h3 : k ≤ 3) (hi : i < k * k * k) : (0 ≤ (i : Int) % k ∧ (i : Int) % k < k) ∧ (0 ≤ (i : Int) / k % k ∧ (i : Int) / k % k < k) ∧ (0 ≤ (i : Int) / k / k ∧ (i : Int) / k / k < k) := by
  obtain rfl | rfl | rfl : k = 1 ∨ k = 2 ∨ k = 3 := by omega
  · omega
  · omega
  · omega
theorem laying_rule_ok {P : Prog} {n : Nat} (M : MadeL P) {f : Flow} {m : Mem} (ok : f.Ok) {K : RV → Mem → Prop}
    (hK : ∀ (r : RuleR) f', r.Ok → Flow.Ok f' → K (false, r.d) (fl f' :: m)) :
    Says (callN P (n + 7) 31) [(false, .obj 0)] (fl f :: m) K := by
  refine says_fn M.h31 rfl ?_
  simp only [d_laying_rule]
  rw [Wp.step]
  simp [ex, ev, evs]
  refine pickK M.h2 (by omega) (by omega) ok fun x f1 x0 x1 ok1 => ?_
  unfold Rest
  rw [Wp.step]
  by_cases hx0 : x = 0
  · simp [ex, ev, E.isVar, again, hx0]
    rw [Wp.step]
    simp [ex, ev, evs]
    refine free_rule_ok M.toMade M.h25 ok1 fun r f2 hr ok2 => ?_
    rw [gc_len (by simp)]
    exact hK r f2 hr ok2
  · simp [ex, ev, E.isVar, again, hx0]
    unfold Rest
    rw [Wp.step]
    by_cases hx1 : x = 1
    · simp [ex, ev, E.isVar, again, hx1]
      rw [Wp.step]
      simp [ex, ev, evs]
      refine one_way_rule_ok M.toMade M.h26 ok1 fun r f2 hr ok2 => ?_
      rw [gc_len (by simp)]
      exact hK r f2 hr ok2
    · simp [ex, ev, E.isVar, again, hx1]
      unfold Rest
      rw [Wp.step]
      simp [ex, ev, evs]
      refine laying_kind_ok M.h2 M.h27 ok1 fun bk kvs most f2 hb hk hkl m1 m3 tm ok2 => ?_
      simp
      unfold Rest
      rw [Wp.step]
      simp [ex, ev, evs, E.isVar, E.isFld, again]
      refine pickK M.h2 (by omega) (by omega) ok2 fun y f3 y0 y1 ok3 => ?_
      simp
      unfold Rest
      rw [Wp.step]
      simp [ex, ev, evs]
      refine numbered_ok M.h2 M.h6 M.h28 ok3 hb hk hkl fun bk' kvs' f4 hb' hbl hk' hkl' ok4 => ?_
      obtain ⟨b1, b3⟩ := back_len hb'
      rw [← hbl] at hk'
      simp
      unfold Rest
      rw [Wp.step]
      simp [ex, ev, evs]
      have htm : (1 + y) * (bk'.length : Int) ≤ 6 := by
        rw [hbl]
        exact Int.le_trans (Int.mul_le_mul_of_nonneg_right (by omega) (by omega)) tm
      refine rule_of_ok M.hN M.h11 ok4 (by omega) (by omega) hb' (.inl rfl) ⟨by simp, by simp⟩ (by simp) htm fun r f5 hr rm rb ok5 => ?_
      unfold Rest
      rw [Wp.step]
      simp [ex, ev, evs, mkDic]
      unfold Rest
      rw [Wp.step]
      simp [ex, ev, evs, E.isVar]
      unfold Rest
      rw [Wp.step]
      have hq : (1 : Int) ≤ (bk'.length : Int) * bk'.length * bk'.length ∧ (bk'.length : Int) * bk'.length * bk'.length ≤ 27 := by
        obtain h | h | h : bk'.length = 1 ∨ bk'.length = 2 ∨ bk'.length = 3 := by omega
        · rw [h]; decide
        · rw [h]; decide
        · rw [h]; decide
      have hr3 : (bk'.length : Int) * bk'.length * bk'.length < 16777216 ∧ -4611686018427387904 ≤ (bk'.length : Int) * bk'.length * bk'.length := ⟨by omega, by omega⟩
      have hmul : bk'.length < 18446744073709551616 := by omega
      simp [ex, ev, evIt, E.isVar, E.isFld, again, hmul, hr3]
      have hN : ((bk'.length : Int) * bk'.length * bk'.length).toNat = bk'.length * bk'.length * bk'.length := by
        have : (bk'.length : Int) * bk'.length * bk'.length = ((bk'.length * bk'.length * bk'.length : Nat) : Int) := by simp
        rw [this, Int.toNat_natCast]
      have hNl : bk'.length * bk'.length * bk'.length ≤ 27 := by
        have : (bk'.length : Int) * bk'.length * bk'.length = ((bk'.length * bk'.length * bk'.length : Nat) : Int) := by simp
        omega
      rw [hN]
      have hdiv : 0 < bk'.length ∧ bk'.length < 1073741824 := ⟨by omega, by omega⟩
      have hdiv2 : (bk'.length : Int) < 1073741824 := by omega
      refine Wp.forL (fun i s => ∃ f' kq c9 c10 c11 c12 c13 c14, Flow.Ok f' ∧ FigK r.nm.length r.bk kq ∧ kq.length ≤ 27 * i ∧ s = ⟨[some (false, .obj 0), some (false, .int x), some (false, .tup (bk'.map .int)), some (false, .dic kvs'), some (false, .int most), some (false, .int (1 + y)), some (false, r.d), some (true, .dic kq), some (false, .int bk'.length), c9, c10, c11, c12, c13, c14], fl f' :: m⟩) ⟨f5, [], none, none, none, none, none, none, ok5, .nil, by simp, rfl⟩ ?_ ?_
      · rintro i d s hd ⟨f', kq, c9, c10, c11, c12, c13, c14, ok', hkq, hkl, rfl⟩
        obtain ⟨hi, rfl⟩ := rangeD_at hd
        obtain ⟨d1, d2, d3⟩ := digits3 b1 b3 hi
        simp [tgStore]
        rw [Wp.step]
        simp [ex, ev, evs, E.isVar, E.isFld, again, hdiv, hdiv2]
        unfold Rest
        rw [Wp.step]
        simp [ex, ev, evs, E.isVar, E.isFld, again, hdiv, hdiv2]
        unfold Rest
        rw [Wp.step]
        generalize (i : Int) % bk'.length = one at d1
        generalize (i : Int) / bk'.length % bk'.length = two at d2
        generalize (i : Int) / bk'.length / bk'.length = btw at d3
        simp [ex, ev, evs]
        refine breaks_ok M.h6 M.h29 hb' hk' d1 d2 d3 fun b => ?_
        cases b with
        | false =>
          simp
          unfold Rest
          simp
          exact ⟨f', ok', kq, hkq, by omega, rfl, rfl⟩
        | true =>
          simp
          rw [Wp.step]
          simp [ex, ev, evs, evIt, E.isVar]
          refine rising_ok M.h30 (by omega) (by omega) fun ts ht hl => ?_
          simp
          refine Wp.forL (fun j s => ∃ kq c13 c14, FigK r.nm.length r.bk kq ∧ kq.length ≤ 27 * i + j ∧ s = ⟨[some (false, .obj 0), some (false, .int x), some (false, .tup (bk'.map .int)), some (false, .dic kvs'), some (false, .int most), some (false, .int (1 + y)), some (false, r.d), some (true, .dic kq), some (false, .int bk'.length), some (false, .int (i : Nat)), some (false, .int one), some (false, .int two), some (false, .int btw), c13, c14], fl f' :: m⟩) ⟨kq, c13, c14, hkq, by omega, rfl⟩ ?_ ?_
          · rintro j d s hd ⟨kq, c13, c14, hkq, hkl, rfl⟩
            have hj := (List.getElem?_eq_some_iff.mp hd).1
            obtain ⟨a, b, c, rfl, ma0, ma1, mb0, mb1, mc0, mc1⟩ := ht d (List.mem_of_getElem? hd)
            simp [tgStore, still]
            rw [Wp.step]
            simp [ex, ev, evs, E.isVar, E.isFld, again]
            unfold Rest
            rw [Wp.step]
            simp [ex, ev, evs, E.isVar, E.isFld, again, sizeMax]
            have hw : WOk r.bk.length [(a, []), (b, [one]), (c, [two, btw])] := by
              rw [rb]
              exact three_ok d1 d2 d3
            refine figure_ok (w := [(a, []), (b, [one]), (c, [two, btw])]) M.h5 M.h6 M.h7 M.h13 hr hw rfl ?_
            have hv : Fig r.nm.length r.bk (wd (figF r.bk [(a, []), (b, [one]), (c, [two, btw])])) := Fig.of (figF_FigP hr.bk rfl hw (by rw [rm]; exact tri_mok ⟨ma0, ma1⟩ ⟨mb0, mb1⟩ ⟨mc0, mc1⟩))
            have ep := putD_figs hkq (v := .bl true) hv (by omega)
            obtain ⟨q1, q2⟩ := put_figs hkq (v := .bl true) hv
            simp [ep]
            unfold Rest
            simp
            exact ⟨q1, by omega⟩
          · rintro s ⟨kq, c13, c14, hkq, hkl, rfl⟩
            simp [still]
            unfold Rest
            simp
            exact ⟨f', ok', kq, hkq, by omega, rfl, rfl⟩
      · rintro s ⟨f', kq, c9, c10, c11, c12, c13, c14, ok', hkq, hkl, rfl⟩
        have es := sorted_figs hkq
        simp
        unfold Rest
        rw [Wp.step]
        simp only [RuleR.d]
        simp [ex, ev, evs, E.isVar, E.isFld, again, es]
        rw [gc_len (by simp)]
        exact hK (r.barred kq) f' (hr.barred hkq (by have := hkl; simp at this; omega)) ok'
theorem rule1_ok {P : Prog} {n : Nat} (M : Made2 P) (h18 : P.df 18 = some d_rule1) {f : Flow} {m : Mem} (ok : f.Ok) {K : RV → Mem → Prop}
    (hK : ∀ (r : RuleR) f', r.Ok → Flow.Ok f' → K (false, r.d) (fl f' :: m)) :
    Says (callN P (n + 8) 18) [(false, .obj 0)] (fl f :: m) K := by
  refine says_fn h18 rfl ?_
  simp only [d_rule1]
  rw [Wp.step]
  simp [ex, ev, evs]
  refine pickK M.h2 (by omega) (by omega) ok fun x f1 x0 x1 ok1 => ?_
  unfold Rest
  rw [Wp.step]
  by_cases hx0 : x = 0
  · simp [ex, ev, E.isVar, again, hx0]
    rw [Wp.step]
    simp [ex, ev, evs]
    refine laying_rule_ok M.toMadeL ok1 fun r f2 hr ok2 => ?_
    rw [gc_len (by simp)]
    exact hK r f2 hr ok2
  · simp [ex, ev, E.isVar, again, hx0]
    unfold Rest
    rw [Wp.step]
    by_cases hx1 : x = 1
    · simp [ex, ev, E.isVar, again, hx1]
      rw [Wp.step]
      simp [ex, ev, evs]
      refine unlaying_rule_ok (n := n + 1) M.toMade M.h30 M.h32 ok1 fun r f2 hr ok2 => ?_
      rw [gc_len (by simp)]
      exact hK r f2 hr ok2
    · simp [ex, ev, E.isVar, again, hx1]
      unfold Rest
      rw [Wp.step]
      simp [ex, ev, evs]
      refine any_rule_ok (n := n + 1) M.toMade M.h33 ok1 fun r f2 hr ok2 => ?_
      rw [gc_len (by simp)]
      exact hK r f2 hr ok2
end G.Pl

set_option linter.all false
set_option maxRecDepth 100000
set_option maxHeartbeats 4000000
namespace G.Pl
open PySem
namespace Wp
end Wp
open scoped Wp
def d_any_world : Def := { params := 3, slots := 7, body := [.asg (.var 3) (.lst []), .for_ (.var 4) (.range1 (.var 2)) [.asg (.var 5) (.call 2 [.var 0, .blt .len (.sub (.var 1) (.con (.int 0)))]), .mut (.var 3) .append [.tup [.var 5, .blt .tuple (.comp (.var 6) (.range1 (.var 4)) none (.call 2 [.var 0, .blt .len (.sub (.var 1) (.con (.int 1)))]))]]], .ret (.blt .tuple (.var 3))] }  -- 19: 0 _law_flow_here, 1 _law_rule_here, 2 _law_many, 3 _law_told, 4 _law_k, 5 _law_mark, 6 _law_j
def d_alike : Def := { params := 2, slots := 3, body := [.ite (.cmp .is_ (.var 1) (.con .non)) [.ret (.cmp .is_ (.var 0) (.con .non))] [], .ite (.or [.isinst (.var 1) [.bool], .isinst (.var 0) [.bool]]) [.ret (.and [.isinst (.var 1) [.bool], .isinst (.var 0) [.bool], .cmp .eq (.var 0) (.var 1)])] [], .ite (.isinst (.var 1) [.int]) [.ret (.and [.isinst (.var 0) [.int], .cmp .eq (.var 0) (.var 1)])] [], .ite (.isinst (.var 1) [.str]) [.ret (.and [.isinst (.var 0) [.str], .cmp .eq (.var 0) (.var 1)])] [], .ite (.or [.cmp .ne (.isinst (.var 1) [.tuple]) (.isinst (.var 0) [.tuple]), .cmp .ne (.isinst (.var 1) [.list]) (.isinst (.var 0) [.list])]) [.ret (.con (.bl false))] [], .ret (.and [.cmp .eq (.blt .len (.var 0)) (.blt .len (.var 1)), .blt .all (.comp (.var 2) (.range1 (.blt .len (.var 1))) none (.call 9 [.sub (.var 0) (.var 2), .sub (.var 1) (.var 2)]))])] }  -- 9: 0 _law_found, 1 _law_due, 2 _law_k
def d_p_back : Def := { params := 2, slots := 2, body := [.ret (.sub (.sub (.sub (.var 0) (.con (.int 1))) (.var 1)) (.con (.int 1)))] }  -- 23: 0 rule, 1 way
def d_p_way_between : Def := { params := 4, slots := 4, body := [.ite (.cmp .lt (.var 3) (.var 2)) [.ret (.sub (.sub (.sub (.var 1) (.var 2)) (.con (.int 1))) (.var 3))] [], .ret (.call 23 [.var 0, .sub (.sub (.sub (.var 1) (.var 3)) (.con (.int 1))) (.var 2)])] }  -- 24: 0 rule, 1 world, 2 i, 3 j
def d_p_way : Def := { params := 4, slots := 4, body := [.ret (.call 24 [.var 0, .var 1, .var 2, .var 3])] }  -- 34: 0 rule, 1 world, 2 i, 3 j
def d_holds : Def := { params := 4, slots := 6, body := [.asg (.var 4) (.call 5 [.var 0, .var 1, .var 2, .var 3]), .asg (.var 5) (.sub (.sub (.sub (.var 0) (.con (.int 1))) (.var 4)) (.con (.int 1))), .ite (.or [.not (.call 9 [.call 34 [.var 0, .var 1, .var 2, .var 3], .var 4]), .not (.call 9 [.call 34 [.var 0, .var 1, .var 3, .var 2], .var 5])]) [.ret (.con (.bl false))] [], .ret (.and [.call 9 [.call 23 [.var 0, .var 4], .var 5], .call 9 [.call 23 [.var 0, .var 5], .var 4]])] }  -- 35: 0 _law_rule_here, 1 _law_world, 2 _law_i, 3 _law_j, 4 _law_due, 5 _law_there
def d_flow1 : Def := { params := 1, slots := 1, body := [.ret (.newl [.blt .list (.var 0), .con (.int 0), .con (.int 0), .con (.int 1), .con (.int 0)])] }  -- 17: 0 _law_script
theorem flow1_ok {P : Prog} {n : Nat} (h17 : P.df 17 = some d_flow1) {ns : List Int} {K : RV → Mem → Prop} (hK : ∀ f, Flow.Ok f → K (false, .obj 0) [fl f]) : Says (callN P (n + 1) 17) [(false, .scr ns)] [] K := by
  refine says_fn h17 rfl ?_
  simp [d_flow1, exs, ex, ev, evs, builtin]
  have g := gc_keep (n := 0) (v := (false, D.obj 0)) (m := [fl ⟨ns, 0, 0, 1, 0⟩]) rfl
  exact hK ⟨ns, 0, 0, 1, 0⟩ ⟨by show (0 : Int) ≤ 0; omega, by show (0 : Int) ≤ _; omega, by show (0 : Int) ≤ 0; omega, by show (0 : Int) ≤ 1; omega, by show (1 : Int) < _; omega⟩
theorem any_world_ok {P : Prog} {n : Nat} (h2 : P.df 2 = some d_pick) (h19 : P.df 19 = some d_any_world) {f : Flow} {m : Mem} (ok : f.Ok) {r : RuleR} (hr : r.Ok) {many : Int} (m1 : 0 ≤ many) (m3 : many ≤ 1000) {K : RV → Mem → Prop}
    (hK : ∀ w f', WOk r.bk.length w → (w.length : Int) = many → MOk r.nm.length w → Flow.Ok f' → K (false, wd w) (fl f' :: m)) :
    Says (callN P (n + 2) 19) [(false, .obj 0), (false, r.d), (false, .int many)] (fl f :: m) K := by
  obtain ⟨b1, b3⟩ := back_len hr.bk
  have n1 := hr.m1
  have n3 := hr.m3
  have hwl : (r.ways.map wayD).length = r.bk.length := by rw [List.length_map, hr.wlen]
  have hwl2 : r.ways.length = r.bk.length := hr.wlen
  refine says_fn h19 rfl ?_
  simp only [d_any_world]
  rw [Wp.step]
  simp [ex, ev, evs]
  unfold Rest
  rw [Wp.step]
  have hrm : many < 16777216 ∧ -4611686018427387904 ≤ many := ⟨by omega, by omega⟩
  simp [ex, ev, evIt, E.isVar, again, hrm]
  refine Wp.forL (fun i s => ∃ f' w c4 c5 c6, Flow.Ok f' ∧ WOk r.bk.length w ∧ w.length = i ∧ MOk r.nm.length w ∧ s = ⟨[some (false, .obj 0), some (false, r.d), some (false, .int many), some (true, .lst (w.map ptD)), c4, c5, c6], fl f' :: m⟩) ⟨f, [], none, none, none, ok, .nil, rfl, by simp [MOk], rfl⟩ ?_ ?_
  · rintro i d s hd ⟨f', w, c4, c5, c6, ok', hw, hl, hm, rfl⟩
    obtain ⟨hi, rfl⟩ := rangeD_at hd
    have hri : (i : Int) < 16777216 ∧ -4611686018427387904 ≤ (i : Int) := ⟨by omega, by omega⟩
    simp only [RuleR.d]
    simp [tgStore]
    rw [Wp.step]
    simp [ex, ev, evs, E.isVar, E.isFld, again]
    refine pickK h2 (by omega) (by omega) ok' fun x f1 x0 x1 ok1 => ?_
    unfold Rest
    rw [Wp.step]
    simp [ex, mutPl, ev, evs, evIt, E.isVar, again, hri, Tg.slots]
    refine Wp.compL (fun j acc s => ∃ f2 l c6, Flow.Ok f2 ∧ acc = l.map D.int ∧ l.length = j ∧ (∀ x ∈ l, 0 ≤ x ∧ x < (r.bk.length : Int)) ∧ s = ⟨[some (false, .obj 0), some (false, .tup [.tup r.nm, .tup (r.ways.map wayD), .tup r.bars]), some (false, .int many), some (true, .lst (w.map ptD)), some (false, .int (i : Nat)), some (false, .int x), c6], fl f2 :: m⟩) ⟨f1, [], none, ok1, rfl, rfl, by simp, rfl⟩ ?_ ?_
    · rintro j d acc s hd ⟨f2, l, c6, ok2, rfl, hj, hx, rfl⟩
      have hj2 : j < i := by simpa using (List.getElem?_eq_some_iff.mp hd).1
      simp [tgStore, testM, ev, evs, E.isVar, E.isFld, again, hwl2, Tg.slots]
      refine pickK h2 (by omega) (by omega) ok2 fun y f3 y0 y1 ok3 => ?_
      simp
      refine ⟨by rw [hj]; show _ < 16777216; omega, f3, ok3, l ++ [y], by simp, by simp [hj], ?_, rfl⟩
      intro z hz
      rcases List.mem_append.mp hz with hz | hz
      · exact hx z hz
      · rw [List.mem_singleton] at hz; subst hz; exact ⟨y0, y1⟩
    · rintro acc s ⟨f2, l, c6, ok2, rfl, hj, hx, rfl⟩
      have hj : l.length = i := by simpa using hj
      have hz : w.length < sizeMax := by rw [hl]; show _ < 16777216; omega
      simp [hz]
      unfold Rest
      simp
      refine ⟨f2, ok2, w ++ [(x, l)], hw.snoc (by omega) hx, by simp [hl], ?_, by simp [ptD], rfl⟩
      intro p hp
      rcases List.mem_append.mp hp with hp | hp
      · exact hm p hp
      · rw [List.mem_singleton] at hp; subst hp; exact ⟨x0, x1⟩
  · rintro s ⟨f', w, c4, c5, c6, ok', hw, hl, hm, rfl⟩
    simp
    unfold Rest
    rw [Wp.step]
    simp [ex, ev, E.isVar, again]
    rw [gc_len (by simp)]
    exact hK w f' hw (by rw [hl]; simp; omega) hm ok'
@[scoped simp] theorem Wp.seenII {o : Bool} {i : Int} {K : D → S → Prop} {s : S} : Wp (G.seenI (o, .int i)) s K ↔ K (.int i) s := Wp.ret
theorem isOf_ib {exb : Nat → List Nat} {i : Int} : isOf exb (.int i) [.bool] = some false := rfl
theorem isOf_ii {exb : Nat → List Nat} {i : Int} : isOf exb (.int i) [.int] = some true := rfl
theorem is_non {i : Int} : compare .is_ (.int i) .non = some false := rfl
end G.Pl

set_option linter.all false
set_option maxRecDepth 100000
set_option maxHeartbeats 4000000
namespace G.Pl
open PySem
namespace Wp
end Wp
open scoped Wp
def d_names2 : Def := { params := 2, slots := 3, body := [.ret (.blt .tuple (.comp (.var 2) (.range1 (.var 1)) none (.sub (.con (.str "abcdef")) (.var 2))))] }  -- 8: 0 _law_flow_here, 1 _law_many, 2 _law_k
def d_bad : Def := { params := 1, slots := 4, body := [.asg (.var 1) (.dict []), .for_ (.var 2) (.seq (.sub (.var 0) (.con (.int 2)))) [.for_ (.var 3) (.seq (.call 6 [])) [.asg (.sub (.var 1) (.call 7 [.var 0, .var 2, .var 3])) (.con (.bl true))]], .ret (.take 1)] }  -- 73: 0 _law_rule, 1 _law_bad_here, 2 _law_three, 3 _law_points
def d_p_barred_worlds : Def := { params := 1, slots := 15, body := [.asg (.var 1) (.comp (.tup [.var 13, .var 14]) (.seq (.sub (.var 0) (.con (.int 1)))) none (.var 14)), .asg (.var 2) (.dict []), .for_ (.tup [.tup [.var 3, .var 4], .tup [.var 5, .tup [.var 6]], .tup [.var 7, .tup [.var 8, .var 9]]]) (.seq (.sub (.var 0) (.con (.int 2)))) [.par [10, 11, 12] [.sub (.var 1) (.var 6), .sub (.var 1) (.var 8), .sub (.var 1) (.var 9)], .asg (.sub (.var 2) (.tup [.tup [.var 3, .tup []], .tup [.var 5, .tup [.var 6]], .tup [.var 7, .tup [.var 8, .var 9]]])) (.con (.bl true)), .asg (.sub (.var 2) (.tup [.tup [.var 3, .tup []], .tup [.var 7, .tup [.var 8]], .tup [.var 5, .tup [.var 6, .var 12]]])) (.con (.bl true)), .asg (.sub (.var 2) (.tup [.tup [.var 5, .tup []], .tup [.var 3, .tup [.var 10]], .tup [.var 7, .tup [.var 9, .var 8]]])) (.con (.bl true)), .asg (.sub (.var 2) (.tup [.tup [.var 5, .tup []], .tup [.var 7, .tup [.var 9]], .tup [.var 3, .tup [.var 10, .var 11]]])) (.con (.bl true)), .asg (.sub (.var 2) (.tup [.tup [.var 7, .tup []], .tup [.var 3, .tup [.var 11]], .tup [.var 5, .tup [.var 12, .var 6]]])) (.con (.bl true)), .asg (.sub (.var 2) (.tup [.tup [.var 7, .tup []], .tup [.var 5, .tup [.var 12]], .tup [.var 3, .tup [.var 11, .var 10]]])) (.con (.bl true))], .ret (.take 2)] }  -- 159: 0 rule, 1 backs, 2 found, 3 p, 4 none, 5 q, 6 qp, 7 r, 8 rp, 9 rq, 10 pq, 11 pr, 12 qr, 13 name, 14 there
def six : Str := "abcdef"
/-- is it a key? -/
def Has (kvs : List (D × D)) (T : List Pt) : Prop := (look kvs (wd T)).isSome = true
theorem has_iff {kvs : List (D × D)} {T : List Pt} : Has kvs T ↔ ∃ p ∈ kvs, D.beq p.1 (wd T) = true := by
  unfold Has look
  rw [Option.isSome_map, List.find?_isSome]
theorem has_put {kvs : List (D × D)} {v T : List Pt} {x : D} : Has (put kvs (wd v) x) T ↔ T = v ∨ Has kvs T := by
  rw [has_iff, has_iff]
  unfold put
  split
  · rename_i ha
    obtain ⟨p0, hp0, e0⟩ := List.any_eq_true.mp ha
    constructor
    · rintro ⟨p, hp, e⟩
      obtain ⟨q, hq, e2⟩ := List.mem_map.mp hp
      refine .inr ⟨q, hq, ?_⟩
      split at e2
      · subst e2; exact e
      · subst e2; exact e
    · rintro (rfl | ⟨p, hp, e⟩)
      · exact ⟨(p0.1, x), List.mem_map.mpr ⟨p0, hp0, by rw [if_pos e0]⟩, e0⟩
      · by_cases hc : D.beq p.1 (wd v) = true
        · exact ⟨(p.1, x), List.mem_map.mpr ⟨p, hp, by rw [if_pos hc]⟩, e⟩
        · exact ⟨p, List.mem_map.mpr ⟨p, hp, by rw [if_neg hc]⟩, e⟩
  · constructor
    · rintro ⟨p, hp, e⟩
      rcases List.mem_append.mp hp with hp | hp
      · exact .inr ⟨p, hp, e⟩
      · rw [List.mem_singleton] at hp
        subst hp
        have e : D.beq (wd v) (wd T) = true := e
        rw [beq_wd] at e
        exact .inl (of_decide_eq_true e).symm
    · rintro (rfl | ⟨p, hp, e⟩)
      · exact ⟨(wd T, x), List.mem_append_right _ (List.mem_singleton.mpr rfl), by rw [beq_wd]; simp⟩
      · exact ⟨p, List.mem_append_left _ hp, e⟩
theorem RuleR.Ok.worlds {r : RuleR} (h : r.Ok) : ∃ bw : List (List Pt), r.bars = bw.map wd ∧ ∀ w ∈ bw, FigP r.nm.length r.bk w := by
  have : ∀ (xs : List D), (∀ d ∈ xs, Fig r.nm.length r.bk d) → ∃ bw : List (List Pt), xs = bw.map wd ∧ ∀ w ∈ bw, FigP r.nm.length r.bk w := by
    intro xs
    induction xs with
    | nil => intro _; exact ⟨[], rfl, by simp⟩
    | cons x xs ih =>
      intro hx
      obtain ⟨bw, e, hb⟩ := ih fun d hd => hx d (List.mem_cons_of_mem _ hd)
      obtain ⟨w, rfl, hw⟩ := hx x List.mem_cons_self
      refine ⟨w :: bw, by rw [e]; rfl, fun v hv => ?_⟩
      rcases List.mem_cons.mp hv with rfl | hv
      · exact hw
      · exact hb v hv
  exact this r.bars h.bars
structure BarD (kvs : List (D × D)) (ts : List (List Pt)) : Prop where
  key : ∀ d ∈ kvs.map (·.1), IsWd d
  nd : (kvs.map (·.1)).Nodup
  len : kvs.length ≤ ts.length
  has : ∀ T, Has kvs T ↔ T ∈ ts
theorem BarD.nil : BarD [] [] := ⟨by simp, by simp, by simp, fun T => by simp [Has, look]⟩
theorem BarD.put {kvs : List (D × D)} {ts : List (List Pt)} (h : BarD kvs ts) {v : List Pt} {x : D} : BarD (put kvs (wd v) x) (ts ++ [v]) := by
  obtain ⟨q1, q2, q3⟩ := put_keys h.key h.nd (k := wd v) (v := x) ⟨v, rfl⟩
  refine ⟨fun d hd => ((q1 d).mp hd).elim (h.key d) (fun e => ⟨v, e⟩), q2, by rw [List.length_append]; have := h.len; simp; omega, fun T => ?_⟩
  rw [has_put, h.has]
  simp [or_comm]
end G.Pl

set_option linter.all false
set_option maxRecDepth 100000
set_option maxHeartbeats 4000000
namespace G.Pl
open PySem
namespace Wp
end Wp
open scoped Wp
end G.Pl

set_option linter.all false
set_option maxRecDepth 100000
set_option maxHeartbeats 4000000
namespace G.Pl
open PySem
namespace Wp
end Wp
open scoped Wp
def d_new_ways : Def := { params := 6, slots := 11, body := [.for_ (.var 6) (.range2 (.blt .len (.var 5)) (.blt .len (.var 3))) [.asg (.var 7) (.lst []), .for_ (.var 8) (.range1 (.blt .len (.sub (.var 1) (.con (.int 1))))) [.asg (.var 9) (.lst []), .for_ (.var 10) (.range1 (.var 6)) [.mut (.var 9) .append [.cmp .in_ (.tup [.tup [.sub (.sub (.var 3) (.var 10)) (.con (.int 0)), .tup []], .tup [.sub (.sub (.var 3) (.var 6)) (.con (.int 0)), .tup [.sub (.sub (.sub (.var 3) (.var 6)) (.con (.int 1))) (.var 10)]], .tup [.var 4, .tup [.sub (.var 5) (.var 10), .var 8]]]) (.var 2)]], .ite (.cmp .notin (.con (.bl true)) (.var 9)) [.mut (.var 7) .append [.var 8]] []], .ite (.cmp .eq (.var 7) (.lst [])) [.ret (.con .non)] [], .asg (.var 5) (.bin .add (.var 5) (.tup [.sub (.var 7) (.call 2 [.var 0, .blt .len (.var 7)])]))], .ret (.take 5)] }  -- 71: 0 _law_flow_here, 1 _law_rule, 2 _law_bad_here, 3 _law_world_here, 4 _law_mark, 5 _law_to, 6 _law_k, 7 _law_left, 8 _law_w, 9 _law_seen, 10 _law_i
def d_world : Def := { params := 4, slots := 8, body := [.asg (.var 4) (.tup []), .for_ (.var 5) (.range1 (.var 3)) [.asg (.var 6) (.call 2 [.var 0, .blt .len (.sub (.var 1) (.con (.int 0)))]), .asg (.var 7) (.call 71 [.var 0, .var 1, .var 2, .var 4, .var 6, .tup []]), .ite (.cmp .isnot (.var 7) (.con .non)) [.asg (.var 4) (.bin .add (.var 4) (.tup [.tup [.var 6, .var 7]]))] []], .ret (.take 4)] }  -- 72: 0 _law_flow_here, 1 _law_rule, 2 _law_bad_here, 3 _law_many, 4 _law_world_here, 5 _law_k, 6 _law_mark, 7 _law_to
def d_new_point : Def := { params := 4, slots := 8, body := [.asg (.var 4) (.call 2 [.var 0, .blt .len (.sub (.var 1) (.con (.int 0)))]), .for_ (.var 5) (.range1 (.blt .len (.sub (.var 1) (.con (.int 0))))) [.asg (.var 6) (.bin .mod (.bin .add (.var 4) (.var 5)) (.blt .len (.sub (.var 1) (.con (.int 0))))), .asg (.var 7) (.call 71 [.var 0, .var 1, .var 2, .var 3, .var 6, .tup []]), .ite (.cmp .isnot (.var 7) (.con .non)) [.ret (.tup [.var 6, .var 7])] []], .ret (.con .non)] }  -- 161: 0 _law_flow_here, 1 _law_rule, 2 _law_bad_here, 3 _law_base, 4 _law_first, 5 _law_k, 6 _law_mark, 7 _law_to
@[scoped simp] theorem Wp.seenW {o : Bool} {w : List Pt} {K : D → S → Prop} {s : S} : Wp (G.seen (o, wd w)) s K ↔ K (wd w) s := Wp.ret
def gd (l : List Int) (i : Nat) : Int := l.getD i 0
/-- the point may stand behind: no three of it is barred -/
def May (ts : List (List Pt)) (w : List Pt) (pt : Pt) : Prop := ∀ i j, i < j → j < w.length → tri (ptAt w i).1 (ptAt w j).1 (wyAt w j i) pt.1 (gd pt.2 i) (gd pt.2 j) ∉ ts
/-- a point over w -/
structure Over (nw : Nat) (ts : List (List Pt)) (w : List Pt) (pt : Pt) : Prop where
  len : pt.2.length = w.length
  wy : ∀ x ∈ pt.2, 0 ≤ x ∧ x < (nw : Int)
  may : May ts w pt
/-- a world that grew point by point -/
structure Grown (nw : Nat) (ts : List (List Pt)) (w : List Pt) : Prop where
  ok : WOk nw w
  over : ∀ k (h : k < w.length), Over nw ts (w.take k) w[k]
theorem Grown.nil {nw : Nat} {ts : List (List Pt)} : Grown nw ts [] := ⟨.nil, fun k h => absurd h (Nat.not_lt_zero k)⟩
theorem Grown.snoc {nw : Nat} {ts : List (List Pt)} {w : List Pt} (h : Grown nw ts w) {pt : Pt} (hp : Over nw ts w pt) : Grown nw ts (w ++ [pt]) := by
  obtain ⟨mk, l⟩ := pt
  refine ⟨h.ok.snoc hp.len hp.wy, fun k hk => ?_⟩
  by_cases hkl : k < w.length
  · rw [List.take_append_of_le_length (by omega), List.getElem_append_left hkl]
    exact h.over k hkl
  · have : k = w.length := by simp at hk; omega
    subst this
    simp
    exact hp
end G.Pl

set_option linter.all false
set_option maxRecDepth 100000
set_option maxHeartbeats 4000000
namespace G.Pl
open PySem
namespace Wp
end Wp
open scoped Wp
/-- a comprehension over one name, whose turns leave no trace -/
theorem Wp.comp1 {i : Nat} {t : Option (M RV)} {e : M RV} {ok : M Bool} {ds : List D} {s : S} {K : RV → S → Prop} (f : D → Option D) (hi : s.l[i]? = some none) (hl : ds.length < sizeMax)
    (h : ∀ d ∈ ds, Wp (testM t) { s with l := s.l.set i (some (false, d)) } (fun go s3 => if go = true then Wp e s3 (fun v s4 => f d = some v.2 ∧ s4.l.set i none = s.l ∧ s4.m = s.m) else f d = none ∧ s3.l.set i none = s.l ∧ s3.m = s.m))
    (hok : Wp ok s (fun k s1 => k = true ∧ s1 = s)) (hK : K (true, .lst (ds.filterMap f)) s) : Wp (G.compL (.var i) t e ok ds []) s K := by
  have hil : i < s.l.length := (List.getElem?_eq_some_iff.mp hi).1
  refine Wp.compL (fun k acc s' => s' = s ∧ acc = (ds.take k).filterMap f) ⟨rfl, by simp⟩ ?_ ?_
  · rintro k d acc s' hd ⟨rfl, rfl⟩
    have hk : k < ds.length := (List.getElem?_eq_some_iff.mp hd).1
    have hdm := List.mem_of_getElem? hd
    have e2 : ds.take (k + 1) = ds.take k ++ [d] := by
      rw [List.take_succ, hd]; rfl
    refine hok.mono ?_
    rintro b s1 ⟨rfl, rfl⟩
    refine ⟨rfl, ?_⟩
    have hts : ∀ {K : Unit → S → Prop}, Wp (tgStore (.var i) d) s1 K ↔ (i < s1.l.length ∧ K () { s1 with l := s1.l.set i (some (false, d)) }) := by
      intro K
      unfold tgStore
      exact Wp.setS
    refine hts.mpr ⟨hil, (h d hdm).mono ?_⟩
    intro go s3 z
    have hacc : ((ds.take k).filterMap f).length < sizeMax := by
      have := List.length_filterMap_le f (ds.take k)
      rw [List.length_take] at this
      omega
    cases go with
    | true =>
      simp only [if_true] at z ⊢
      refine z.mono ?_
      rintro v s4 ⟨e1, e3, e4⟩
      refine ⟨hacc, ?_, ?_⟩
      · show S.mk (s4.l.set i none) s4.m = s1
        rw [e3, e4]
      · rw [e2, List.filterMap_append]
        simp [e1]
    | false =>
      simp only [Bool.false_eq_true, if_false] at z ⊢
      obtain ⟨e1, e3, e4⟩ := z
      refine ⟨?_, ?_⟩
      · show S.mk (s3.l.set i none) s3.m = s1
        rw [e3, e4]
      · rw [e2, List.filterMap_append]
        simp [e1]
  · rintro acc s' ⟨rfl, rfl⟩
    refine hok.mono ?_
    rintro b s1 ⟨rfl, rfl⟩
    rw [List.take_length]
    exact ⟨rfl, hK⟩
/-- .. without a condition -/
theorem Wp.compM {i : Nat} {e : M RV} {ok : M Bool} {ds : List D} {s : S} {K : RV → S → Prop} (f : D → D) (hi : s.l[i]? = some none) (hl : ds.length < sizeMax)
    (h : ∀ d ∈ ds, Wp e { s with l := s.l.set i (some (false, d)) } (fun v s4 => v.2 = f d ∧ s4.l.set i none = s.l ∧ s4.m = s.m))
    (hok : Wp ok s (fun k s1 => k = true ∧ s1 = s)) (hK : K (true, .lst (ds.map f)) s) : Wp (G.compL (.var i) none e ok ds []) s K := by
  refine Wp.comp1 (fun d => some (f d)) hi hl (fun d hd => ?_) hok (by
    have : ∀ l : List D, l.filterMap (fun d => some (f d)) = l.map f := fun l => by
      induction l with
      | nil => rfl
      | cons a r ih => simp [ih]
    rw [this]; exact hK)
  unfold testM
  refine Wp.ret.mpr ?_
  simp only [if_true]
  exact (h d hd).mono fun v s4 ⟨a, b, c⟩ => ⟨by rw [a], b, c⟩
end G.Pl


set_option linter.all false
set_option maxRecDepth 100000
set_option maxHeartbeats 4000000
namespace G.Pl
open PySem
namespace Wp
end Wp
open scoped Wp

/-! what is alike to itself -/
mutual
/-- data of any depth, no dict, no text that is none, nothing huge -/
def Tame : D → Bool
  | .tup xs => decide (xs.length < 1000000) && TameL xs
  | .lst xs => decide (xs.length < 1000000) && TameL xs
  | .non => true
  | .bl _ => true
  | .int _ => true
  | .str s => PyData.strOk s
  | _ => false
def TameL : List D → Bool
  | [] => true
  | x :: xs => Tame x && TameL xs
end
theorem TameL_mem : ∀ {xs : List D}, TameL xs = true → ∀ d ∈ xs, Tame d = true
  | [], _, d, h => nomatch h
  | x :: xs, h, d, hd => by
    have h : (Tame x && TameL xs) = true := h
    rw [Bool.and_eq_true] at h
    rcases List.mem_cons.mp hd with rfl | hd
    · exact h.1
    · exact TameL_mem h.2 d hd
theorem TameL_of : ∀ {xs : List D}, (∀ d ∈ xs, Tame d = true) → TameL xs = true
  | [], _ => rfl
  | x :: xs, h => by
    show (Tame x && TameL xs) = true
    rw [h x List.mem_cons_self, TameL_of fun d hd => h d (List.mem_cons_of_mem _ hd)]; rfl
theorem depL_mem : ∀ {xs : List D} {d : D}, d ∈ xs → d.dep ≤ D.depL xs
  | [], d, h => nomatch h
  | x :: xs, d, hd => by
    show d.dep ≤ max x.dep (D.depL xs)
    rcases List.mem_cons.mp hd with rfl | hd
    · omega
    · have := depL_mem hd; omega
@[scoped simp] theorem Wp.seenIN {o : Bool} {K : D → S → Prop} {s : S} : Wp (G.seenI (o, .non)) s K ↔ K .non s := Wp.ret
@[scoped simp] theorem Wp.seenIB {o : Bool} {i : Bool} {K : D → S → Prop} {s : S} : Wp (G.seenI (o, .bl i)) s K ↔ K (.bl i) s := Wp.ret
@[scoped simp] theorem Wp.seenIS {o : Bool} {i : Str} {K : D → S → Prop} {s : S} : Wp (G.seenI (o, .str i)) s K ↔ K (.str i) s := Wp.ret
@[scoped simp] theorem Wp.seenIT {o : Bool} {i : List D} {K : D → S → Prop} {s : S} : Wp (G.seenI (o, .tup i)) s K ↔ K (.tup i) s := Wp.ret
@[scoped simp] theorem Wp.seenIL {o : Bool} {i : List D} {K : D → S → Prop} {s : S} : Wp (G.seenI (o, .lst i)) s K ↔ K (.lst i) s := Wp.ret
@[scoped simp] theorem isOf_non {exb : Nat → List Nat} {t : Ty} (h : t = .int ∨ t = .bool ∨ t = .str ∨ t = .tuple ∨ t = .list) : isOf exb .non [t] = some false := by rcases h with rfl | rfl | rfl | rfl | rfl <;> rfl
@[scoped simp] theorem isOf_bb {exb : Nat → List Nat} {i : Bool} : isOf exb (.bl i) [.bool] = some true := rfl
@[scoped simp] theorem isOf_bi {exb : Nat → List Nat} {i : Bool} : isOf exb (.bl i) [.int] = some true := rfl
@[scoped simp] theorem isOf_bt {exb : Nat → List Nat} {i : Bool} : isOf exb (.bl i) [.tuple] = some false := rfl
@[scoped simp] theorem isOf_bs {exb : Nat → List Nat} {i : Bool} : isOf exb (.bl i) [.str] = some false := rfl
@[scoped simp] theorem isOf_bl {exb : Nat → List Nat} {i : Bool} : isOf exb (.bl i) [.list] = some false := rfl
@[scoped simp] theorem isOf_sb {exb : Nat → List Nat} {i : Str} : isOf exb (.str i) [.bool] = some false := rfl
@[scoped simp] theorem isOf_si {exb : Nat → List Nat} {i : Str} : isOf exb (.str i) [.int] = some false := rfl
@[scoped simp] theorem isOf_ss {exb : Nat → List Nat} {i : Str} : isOf exb (.str i) [.str] = some true := rfl
@[scoped simp] theorem isOf_st {exb : Nat → List Nat} {i : Str} : isOf exb (.str i) [.tuple] = some false := rfl
@[scoped simp] theorem isOf_sl {exb : Nat → List Nat} {i : Str} : isOf exb (.str i) [.list] = some false := rfl
@[scoped simp] theorem isOf_it {exb : Nat → List Nat} {i : Int} : isOf exb (.int i) [.tuple] = some false := rfl
@[scoped simp] theorem isOf_is {exb : Nat → List Nat} {i : Int} : isOf exb (.int i) [.str] = some false := rfl
@[scoped simp] theorem isOf_il {exb : Nat → List Nat} {i : Int} : isOf exb (.int i) [.list] = some false := rfl
@[scoped simp] theorem isOf_tb {exb : Nat → List Nat} {i : List D} : isOf exb (.tup i) [.bool] = some false := rfl
@[scoped simp] theorem isOf_ti {exb : Nat → List Nat} {i : List D} : isOf exb (.tup i) [.int] = some false := rfl
@[scoped simp] theorem isOf_ts {exb : Nat → List Nat} {i : List D} : isOf exb (.tup i) [.str] = some false := rfl
@[scoped simp] theorem isOf_tt {exb : Nat → List Nat} {i : List D} : isOf exb (.tup i) [.tuple] = some true := rfl
@[scoped simp] theorem isOf_tl {exb : Nat → List Nat} {i : List D} : isOf exb (.tup i) [.list] = some false := rfl
@[scoped simp] theorem isOf_lb {exb : Nat → List Nat} {i : List D} : isOf exb (.lst i) [.bool] = some false := rfl
@[scoped simp] theorem isOf_li {exb : Nat → List Nat} {i : List D} : isOf exb (.lst i) [.int] = some false := rfl
@[scoped simp] theorem isOf_ls {exb : Nat → List Nat} {i : List D} : isOf exb (.lst i) [.str] = some false := rfl
@[scoped simp] theorem isOf_lt {exb : Nat → List Nat} {i : List D} : isOf exb (.lst i) [.tuple] = some false := rfl
@[scoped simp] theorem isOf_ll {exb : Nat → List Nat} {i : List D} : isOf exb (.lst i) [.list] = some true := rfl
theorem is_nonN : compare .is_ .non .non = some true := rfl
theorem is_nonB {i : Bool} : compare .is_ (.bl i) .non = some false := rfl
theorem is_nonS {i : Str} : compare .is_ (.str i) .non = some false := rfl
theorem is_nonT {i : List D} : compare .is_ (.tup i) .non = some false := rfl
theorem is_nonL {i : List D} : compare .is_ (.lst i) .non = some false := rfl
theorem eq_bb {a b : Bool} : eqD (.bl a) (.bl b) = some (a == b) := by cases a <;> cases b <;> rfl
theorem all_true : ∀ {xs : List D}, (∀ d ∈ xs, d = .bl true) → asBools xs = some (List.replicate xs.length true)
  | [], _ => rfl
  | x :: xs, h => by
    obtain rfl := h x List.mem_cons_self
    show (asBools xs).map (true :: ·) = _
    rw [all_true fun d hd => h d (List.mem_cons_of_mem _ hd)]
    rfl
theorem builtin_all_true {xs : List D} (h : ∀ d ∈ xs, d = .bl true) : builtin .all [.lst xs] = some (false, .bl true) := by
  show (asBools xs).map (fun is => ((false, .bl (is.all id)) : RV)) = _
  rw [all_true h]
  simp
theorem atI_mem {xs : List D} {i : Nat} (h : i < xs.length) : L2.atI xs (i : Int) = some xs[i] := by
  rw [atI_of (by omega) (by omega)]
  simp
theorem alike_refl {P : Prog} (h9 : P.df 9 = some d_alike) : ∀ (k : Nat) (d : D), d.dep ≤ k → Tame d = true → ∀ {n : Nat} {m : Mem} {K : RV → Mem → Prop}, K (false, .bl true) m → ∀ {o1 o2 : Bool}, Says (callN P (n + k + 1) 9) [(o1, d), (o2, d)] m K := by
  intro k
  induction k with
  | zero =>
    intro d hd ht n m K hK o1 o2
    refine says_fn h9 rfl ?_
    simp only [d_alike]
    cases d with
    | non => cases o1 <;> cases o2 <;> (((try unfold Rest); rw [Wp.step]; simp (maxSteps := 2000000) [ex, ev, evs, evIt, evO, evAnd, evOr, boolM, mutPl, E.isVar, E.isFld, again, tgStore, tgStoreL, testM, Tg.slots, Tg.slotsL, is_nonN]); ((try unfold Rest); rw [Wp.step]; simp (maxSteps := 2000000) [ex, ev, evs, evIt, evO, evAnd, evOr, boolM, mutPl, E.isVar, E.isFld, again, tgStore, tgStoreL, testM, Tg.slots, Tg.slotsL, is_nonN]); rw [gc_len rfl]; exact hK)
    | bl b => cases o1 <;> cases o2 <;> (((try unfold Rest); rw [Wp.step]; simp (maxSteps := 2000000) [ex, ev, evs, evIt, evO, evAnd, evOr, boolM, mutPl, E.isVar, E.isFld, again, tgStore, tgStoreL, testM, Tg.slots, Tg.slotsL, is_nonB]); ((try unfold Rest); rw [Wp.step]; simp (maxSteps := 2000000) [ex, ev, evs, evIt, evO, evAnd, evOr, boolM, mutPl, E.isVar, E.isFld, again, tgStore, tgStoreL, testM, Tg.slots, Tg.slotsL]); ((try unfold Rest); rw [Wp.step]; simp (maxSteps := 2000000) [ex, ev, evs, evIt, evO, evAnd, evOr, boolM, mutPl, E.isVar, E.isFld, again, tgStore, tgStoreL, testM, Tg.slots, Tg.slotsL, eq_bb]); rw [gc_len rfl]; exact hK)
    | int b => cases o1 <;> cases o2 <;> (((try unfold Rest); rw [Wp.step]; simp (maxSteps := 2000000) [ex, ev, evs, evIt, evO, evAnd, evOr, boolM, mutPl, E.isVar, E.isFld, again, tgStore, tgStoreL, testM, Tg.slots, Tg.slotsL, is_non]); ((try unfold Rest); rw [Wp.step]; simp (maxSteps := 2000000) [ex, ev, evs, evIt, evO, evAnd, evOr, boolM, mutPl, E.isVar, E.isFld, again, tgStore, tgStoreL, testM, Tg.slots, Tg.slotsL, isOf_ib]); ((try unfold Rest); rw [Wp.step]; simp (maxSteps := 2000000) [ex, ev, evs, evIt, evO, evAnd, evOr, boolM, mutPl, E.isVar, E.isFld, again, tgStore, tgStoreL, testM, Tg.slots, Tg.slotsL, isOf_ii]); ((try unfold Rest); rw [Wp.step]; simp (maxSteps := 2000000) [ex, ev, evs, evIt, evO, evAnd, evOr, boolM, mutPl, E.isVar, E.isFld, again, tgStore, tgStoreL, testM, Tg.slots, Tg.slotsL, isOf_ii]); rw [gc_len rfl]; exact hK)
    | str b => cases o1 <;> cases o2 <;> (((try unfold Rest); rw [Wp.step]; simp (maxSteps := 2000000) [ex, ev, evs, evIt, evO, evAnd, evOr, boolM, mutPl, E.isVar, E.isFld, again, tgStore, tgStoreL, testM, Tg.slots, Tg.slotsL, is_nonS]); ((try unfold Rest); rw [Wp.step]; simp (maxSteps := 2000000) [ex, ev, evs, evIt, evO, evAnd, evOr, boolM, mutPl, E.isVar, E.isFld, again, tgStore, tgStoreL, testM, Tg.slots, Tg.slotsL]); ((try unfold Rest); rw [Wp.step]; simp (maxSteps := 2000000) [ex, ev, evs, evIt, evO, evAnd, evOr, boolM, mutPl, E.isVar, E.isFld, again, tgStore, tgStoreL, testM, Tg.slots, Tg.slotsL]); ((try unfold Rest); rw [Wp.step]; simp (maxSteps := 2000000) [ex, ev, evs, evIt, evO, evAnd, evOr, boolM, mutPl, E.isVar, E.isFld, again, tgStore, tgStoreL, testM, Tg.slots, Tg.slotsL]); ((try unfold Rest); rw [Wp.step]; simp (maxSteps := 2000000) [ex, ev, evs, evIt, evO, evAnd, evOr, boolM, mutPl, E.isVar, E.isFld, again, tgStore, tgStoreL, testM, Tg.slots, Tg.slotsL]); rw [gc_len rfl]; exact hK)
    | tup xs => exact absurd hd (by show ¬ (D.depL xs + 1 ≤ 0); omega)
    | lst xs => exact absurd hd (by show ¬ (D.depL xs + 1 ≤ 0); omega)
    | dic _ => cases ht
    | obj _ => cases ht
    | scr _ => cases ht
    | pin _ => cases ht
  | succ k ih =>
    intro d hd ht n m K hK o1 o2
    have body : ∀ (xs : List D) (u : D), (u = .tup xs ∨ u = .lst xs) → (∀ d ∈ xs, d.dep ≤ k ∧ Tame d = true) → xs.length < 1000000 → Wp (exs P (gam P (n + k + 1)) [.ret (.and [.cmp .eq (.blt .len (.var 0)) (.blt .len (.var 1)), .blt .all (.comp (.var 2) (.range1 (.blt .len (.var 1))) none (.call 9 [.sub (.var 0) (.var 2), .sub (.var 1) (.var 2)]))])]) ⟨[some (o1, u), some (o2, u), none], m⟩ (fun f s => match f with
      | .ret v => K (gc m.length v s.m).1 (gc m.length v s.m).2
      | .next => K (gc m.length (false, .non) s.m).1 (gc m.length (false, .non) s.m).2
      | .brk => False) := by
      intro xs u hu hx hl
      have hr : (xs.length : Int) < 16777216 ∧ -4611686018427387904 ≤ (xs.length : Int) := ⟨by omega, by omega⟩
      have go : ∀ (ok : M Bool) {K' : RV → S → Prop}, (∀ s : S, Wp ok s (fun k s1 => k = true ∧ s1 = s)) → K' (true, .lst ((rangeD 0 xs.length).map fun _ => .bl true)) ⟨[some (o1, u), some (o2, u), none], m⟩ → Wp (compL (.var 2) none (ev P (gam P (n + k + 1)) false (.call 9 [.sub (.var 0) (.var 2), .sub (.var 1) (.var 2)])) ok (rangeD 0 xs.length) []) ⟨[some (o1, u), some (o2, u), none], m⟩ K' := by
        intro ok K' hok hK'
        refine Wp.compM (fun _ => .bl true) rfl (by rw [range_len]; show _ < 16777216; omega) (fun d hd => ?_) (hok _) hK'
        obtain ⟨i, hi, e⟩ := List.getElem_of_mem hd
        obtain ⟨hi2, e2⟩ := rangeD_at (List.getElem?_eq_some_iff.mpr ⟨hi, e⟩)
        subst e2
        have ea := atI_mem (xs := xs) (i := i) (by simpa using hi)
        obtain ⟨q1, q2⟩ := hx _ (List.getElem_mem (show i < xs.length by simpa using hi))
        rcases hu with rfl | rfl
        · simp (maxSteps := 2000000) [ex, ev, evs, evIt, evO, evAnd, evOr, boolM, mutPl, E.isVar, E.isFld, again, tgStore, tgStoreL, testM, Tg.slots, Tg.slotsL, ea]
          exact ih xs[i] q1 q2 (by simp)
        · simp (maxSteps := 2000000) [ex, ev, evs, evIt, evO, evAnd, evOr, boolM, mutPl, E.isVar, E.isFld, again, tgStore, tgStoreL, testM, Tg.slots, Tg.slotsL, ea]
          exact ih xs[i] q1 q2 (by simp)
      have ea := builtin_all_true (xs := (rangeD 0 xs.length).map fun _ => D.bl true) (by intro d hd; obtain ⟨_, _, e⟩ := List.mem_map.mp hd; exact e.symm)
      rcases hu with rfl | rfl
      · ((try unfold Rest); rw [Wp.step]; simp (maxSteps := 2000000) [ex, ev, evs, evIt, evO, evAnd, evOr, boolM, mutPl, E.isVar, E.isFld, again, tgStore, tgStoreL, testM, Tg.slots, Tg.slotsL, hr])
        refine go _ (fun s => by simp) ?_
        simp [ea]
        rw [gc_len rfl]
        exact hK
      · ((try unfold Rest); rw [Wp.step]; simp (maxSteps := 2000000) [ex, ev, evs, evIt, evO, evAnd, evOr, boolM, mutPl, E.isVar, E.isFld, again, tgStore, tgStoreL, testM, Tg.slots, Tg.slotsL, hr])
        refine go _ (fun s => by simp) ?_
        simp [ea]
        rw [gc_len rfl]
        exact hK
    refine says_fn h9 rfl ?_
    simp only [d_alike]
    cases d with
    | non => cases o1 <;> cases o2 <;> (((try unfold Rest); rw [Wp.step]; simp (maxSteps := 2000000) [ex, ev, evs, evIt, evO, evAnd, evOr, boolM, mutPl, E.isVar, E.isFld, again, tgStore, tgStoreL, testM, Tg.slots, Tg.slotsL, is_nonN]); ((try unfold Rest); rw [Wp.step]; simp (maxSteps := 2000000) [ex, ev, evs, evIt, evO, evAnd, evOr, boolM, mutPl, E.isVar, E.isFld, again, tgStore, tgStoreL, testM, Tg.slots, Tg.slotsL, is_nonN]); rw [gc_len rfl]; exact hK)
    | bl b => cases o1 <;> cases o2 <;> (((try unfold Rest); rw [Wp.step]; simp (maxSteps := 2000000) [ex, ev, evs, evIt, evO, evAnd, evOr, boolM, mutPl, E.isVar, E.isFld, again, tgStore, tgStoreL, testM, Tg.slots, Tg.slotsL, is_nonB]); ((try unfold Rest); rw [Wp.step]; simp (maxSteps := 2000000) [ex, ev, evs, evIt, evO, evAnd, evOr, boolM, mutPl, E.isVar, E.isFld, again, tgStore, tgStoreL, testM, Tg.slots, Tg.slotsL]); ((try unfold Rest); rw [Wp.step]; simp (maxSteps := 2000000) [ex, ev, evs, evIt, evO, evAnd, evOr, boolM, mutPl, E.isVar, E.isFld, again, tgStore, tgStoreL, testM, Tg.slots, Tg.slotsL, eq_bb]); rw [gc_len rfl]; exact hK)
    | int b => cases o1 <;> cases o2 <;> (((try unfold Rest); rw [Wp.step]; simp (maxSteps := 2000000) [ex, ev, evs, evIt, evO, evAnd, evOr, boolM, mutPl, E.isVar, E.isFld, again, tgStore, tgStoreL, testM, Tg.slots, Tg.slotsL, is_non]); ((try unfold Rest); rw [Wp.step]; simp (maxSteps := 2000000) [ex, ev, evs, evIt, evO, evAnd, evOr, boolM, mutPl, E.isVar, E.isFld, again, tgStore, tgStoreL, testM, Tg.slots, Tg.slotsL, isOf_ib]); ((try unfold Rest); rw [Wp.step]; simp (maxSteps := 2000000) [ex, ev, evs, evIt, evO, evAnd, evOr, boolM, mutPl, E.isVar, E.isFld, again, tgStore, tgStoreL, testM, Tg.slots, Tg.slotsL, isOf_ii]); ((try unfold Rest); rw [Wp.step]; simp (maxSteps := 2000000) [ex, ev, evs, evIt, evO, evAnd, evOr, boolM, mutPl, E.isVar, E.isFld, again, tgStore, tgStoreL, testM, Tg.slots, Tg.slotsL, isOf_ii]); rw [gc_len rfl]; exact hK)
    | str b => cases o1 <;> cases o2 <;> (((try unfold Rest); rw [Wp.step]; simp (maxSteps := 2000000) [ex, ev, evs, evIt, evO, evAnd, evOr, boolM, mutPl, E.isVar, E.isFld, again, tgStore, tgStoreL, testM, Tg.slots, Tg.slotsL, is_nonS]); ((try unfold Rest); rw [Wp.step]; simp (maxSteps := 2000000) [ex, ev, evs, evIt, evO, evAnd, evOr, boolM, mutPl, E.isVar, E.isFld, again, tgStore, tgStoreL, testM, Tg.slots, Tg.slotsL]); ((try unfold Rest); rw [Wp.step]; simp (maxSteps := 2000000) [ex, ev, evs, evIt, evO, evAnd, evOr, boolM, mutPl, E.isVar, E.isFld, again, tgStore, tgStoreL, testM, Tg.slots, Tg.slotsL]); ((try unfold Rest); rw [Wp.step]; simp (maxSteps := 2000000) [ex, ev, evs, evIt, evO, evAnd, evOr, boolM, mutPl, E.isVar, E.isFld, again, tgStore, tgStoreL, testM, Tg.slots, Tg.slotsL]); ((try unfold Rest); rw [Wp.step]; simp (maxSteps := 2000000) [ex, ev, evs, evIt, evO, evAnd, evOr, boolM, mutPl, E.isVar, E.isFld, again, tgStore, tgStoreL, testM, Tg.slots, Tg.slotsL]); rw [gc_len rfl]; exact hK)
    | tup xs =>
      have ht : (decide (xs.length < 1000000) && TameL xs) = true := ht
      rw [Bool.and_eq_true] at ht
      have hd : D.depL xs + 1 ≤ k + 1 := hd
      have b := body xs (.tup xs) (.inl rfl) (fun d hd' => ⟨by have := depL_mem hd'; omega, TameL_mem ht.2 d hd'⟩) (of_decide_eq_true ht.1)
      ((try unfold Rest); rw [Wp.step]; simp (maxSteps := 2000000) [ex, ev, evs, evIt, evO, evAnd, evOr, boolM, mutPl, E.isVar, E.isFld, again, tgStore, tgStoreL, testM, Tg.slots, Tg.slotsL, is_nonT])
      ((try unfold Rest); rw [Wp.step]; simp (maxSteps := 2000000) [ex, ev, evs, evIt, evO, evAnd, evOr, boolM, mutPl, E.isVar, E.isFld, again, tgStore, tgStoreL, testM, Tg.slots, Tg.slotsL])
      ((try unfold Rest); rw [Wp.step]; simp (maxSteps := 2000000) [ex, ev, evs, evIt, evO, evAnd, evOr, boolM, mutPl, E.isVar, E.isFld, again, tgStore, tgStoreL, testM, Tg.slots, Tg.slotsL])
      ((try unfold Rest); rw [Wp.step]; simp (maxSteps := 2000000) [ex, ev, evs, evIt, evO, evAnd, evOr, boolM, mutPl, E.isVar, E.isFld, again, tgStore, tgStoreL, testM, Tg.slots, Tg.slotsL])
      ((try unfold Rest); rw [Wp.step]; simp (maxSteps := 2000000) [ex, ev, evs, evIt, evO, evAnd, evOr, boolM, mutPl, E.isVar, E.isFld, again, tgStore, tgStoreL, testM, Tg.slots, Tg.slotsL, eq_bb])
      unfold Rest
      exact b
    | lst xs =>
      have ht : (decide (xs.length < 1000000) && TameL xs) = true := ht
      rw [Bool.and_eq_true] at ht
      have hd : D.depL xs + 1 ≤ k + 1 := hd
      have b := body xs (.lst xs) (.inr rfl) (fun d hd' => ⟨by have := depL_mem hd'; omega, TameL_mem ht.2 d hd'⟩) (of_decide_eq_true ht.1)
      ((try unfold Rest); rw [Wp.step]; simp (maxSteps := 2000000) [ex, ev, evs, evIt, evO, evAnd, evOr, boolM, mutPl, E.isVar, E.isFld, again, tgStore, tgStoreL, testM, Tg.slots, Tg.slotsL, is_nonL])
      ((try unfold Rest); rw [Wp.step]; simp (maxSteps := 2000000) [ex, ev, evs, evIt, evO, evAnd, evOr, boolM, mutPl, E.isVar, E.isFld, again, tgStore, tgStoreL, testM, Tg.slots, Tg.slotsL])
      ((try unfold Rest); rw [Wp.step]; simp (maxSteps := 2000000) [ex, ev, evs, evIt, evO, evAnd, evOr, boolM, mutPl, E.isVar, E.isFld, again, tgStore, tgStoreL, testM, Tg.slots, Tg.slotsL])
      ((try unfold Rest); rw [Wp.step]; simp (maxSteps := 2000000) [ex, ev, evs, evIt, evO, evAnd, evOr, boolM, mutPl, E.isVar, E.isFld, again, tgStore, tgStoreL, testM, Tg.slots, Tg.slotsL])
      ((try unfold Rest); rw [Wp.step]; simp (maxSteps := 2000000) [ex, ev, evs, evIt, evO, evAnd, evOr, boolM, mutPl, E.isVar, E.isFld, again, tgStore, tgStoreL, testM, Tg.slots, Tg.slotsL, eq_bb])
      unfold Rest
      exact b
    | dic _ => cases ht
    | obj _ => cases ht
    | scr _ => cases ht
    | pin _ => cases ht
@[scoped simp] theorem Wp.seenIO {o : Bool} {i : Nat} {K : D → S → Prop} {s : S} : Wp (G.seenI (o, .obj i)) s K ↔ (match s.m[i]? with | some (.lst xs) => K (.lst xs) s | some (.ins _ _) => K (.obj i) s | _ => False) := by
  unfold G.seenI
  simp only [Wp.bind, Wp.memAt]
  cases s.m[i]? with
  | none => exact Iff.rfl
  | some o => cases o <;> simp
end G.Pl

set_option linter.all false
set_option maxRecDepth 100000
set_option maxHeartbeats 4000000
namespace G.Pl
open PySem
namespace Wp
end Wp
open scoped Wp
def d_last_may : Def := { params := 4, slots := 8, body := [.asg (.tup [.var 4, .var 5]) (.sub (.var 2) (.var 3)), .for_ (.var 6) (.range2 (.con (.int 1)) (.var 3)) [.for_ (.var 7) (.range1 (.var 6)) [.ite (.cmp .in_ (.tup [.tup [.sub (.sub (.var 2) (.var 7)) (.con (.int 0)), .tup []], .tup [.sub (.sub (.var 2) (.var 6)) (.con (.int 0)), .tup [.sub (.sub (.sub (.var 2) (.var 6)) (.con (.int 1))) (.var 7)]], .tup [.var 4, .tup [.sub (.var 5) (.var 7), .sub (.var 5) (.var 6)]]]) (.var 1)) [.ret (.con (.bl false))] []]], .ret (.con (.bl true))] }  -- 116: 0 _law_rule, 1 _law_bad_here, 2 _law_world_here, 3 _law_k, 4 _law_mark, 5 _law_to, 6 _law_j, 7 _law_i
def d_some_rule : Def := { params := 1, slots := 2, body := [.asg (.var 1) (.call 2 [.var 0, .con (.int 8)]), .ite (.cmp .lt (.var 1) (.con (.int 4))) [.ret (.call 33 [.var 0])] [], .ite (.cmp .lt (.var 1) (.con (.int 7))) [.ret (.call 31 [.var 0])] [], .ret (.call 32 [.var 0])] }  -- 164: 0 _law_flow_here, 1 _law_form
def d_near : Def := { params := 5, slots := 9, body := [.asg (.tup [.var 5, .var 6]) (.var 4), .asg (.var 7) (.call 2 [.var 0, .con (.int 4)]), .ite (.cmp .eq (.var 7) (.con (.int 1))) [.asg (.var 5) (.call 2 [.var 0, .blt .len (.sub (.var 1) (.con (.int 0)))])] [.ite (.and [.cmp .gt (.var 7) (.con (.int 1)), .cmp .ne (.var 6) (.tup [])]) [.asg (.var 8) (.call 2 [.var 0, .blt .len (.var 6)]), .asg (.var 6) (.bin .add (.bin .add (.slice (.var 6) none (some (.var 8))) (.tup [.call 2 [.var 0, .blt .len (.sub (.var 1) (.con (.int 1)))]])) (.slice (.var 6) (some (.bin .add (.var 8) (.con (.int 1)))) none))] []], .ite (.call 116 [.var 1, .var 2, .bin .add (.var 3) (.tup [.tup [.var 5, .var 6]]), .blt .len (.var 3)]) [.ret (.tup [.var 5, .var 6])] [], .ret (.take 4)] }  -- 162: 0 _law_flow_here, 1 _law_rule, 2 _law_bad_here, 3 _law_base, 4 _law_point, 5 _law_mark, 6 _law_to, 7 _law_kind, 8 _law_at
def d_pair : Def := { params := 4, slots := 7, body := [.asg (.var 4) (.call 72 [.var 0, .var 1, .var 2, .var 3]), .asg (.var 5) (.call 161 [.var 0, .var 1, .var 2, .var 4]), .ite (.cmp .is_ (.var 5) (.con .non)) [.asg (.var 5) (.sub (.var 4) (.neg (.con (.int 1)))), .asg (.var 4) (.slice (.var 4) none (some (.neg (.con (.int 1)))))] [], .asg (.var 6) (.con .non), .ite (.cmp .eq (.call 2 [.var 0, .con (.int 2)]) (.con (.int 0))) [.asg (.var 6) (.call 161 [.var 0, .var 1, .var 2, .var 4])] [], .ite (.cmp .is_ (.var 6) (.con .non)) [.asg (.var 6) (.call 162 [.var 0, .var 1, .var 2, .var 4, .var 5])] [], .ret (.tup [.var 4, .var 5, .var 6])] }  -- 112: 0 _law_flow_here, 1 _law_rule, 2 _law_bad_here, 3 _law_many, 4 _law_base, 5 _law_one, 6 _law_other

/-- threes that are barred, told in any order -/
def Clo (bk : List Int) (ts : List (List Pt)) : Prop := ∀ v ∈ ts, ∀ u ∈ orb bk v, u ∈ ts
def LastMay (ts : List (List Pt)) (w : List Pt) (k : Nat) : Prop := ∀ i j, i < j → j < k → tri (ptAt w i).1 (ptAt w j).1 (wyAt w j i) (ptAt w k).1 (wyAt w k i) (wyAt w k j) ∉ ts
end G.Pl

set_option linter.all false
set_option maxRecDepth 100000
set_option maxHeartbeats 4000000
namespace G.Pl
open PySem
namespace Wp
end Wp
open scoped Wp

theorem sl_tup {xs : List D} {a b : Option Int} : sliced (.tup xs) a b = some (false, .tup (cut xs a b)) := rfl
theorem sl_lst {xs : List D} {a b : Option Int} : sliced (.lst xs) a b = some (true, .lst (cut xs a b)) := rfl
@[scoped simp] theorem Wp.seenP {o : Bool} {p : Pt} {K : D → S → Prop} {s : S} : Wp (G.seen (o, ptD p)) s K ↔ K (ptD p) s := Wp.ret
end G.Pl

set_option linter.all false
set_option maxRecDepth 100000
set_option maxHeartbeats 4000000
namespace G.Pl
open PySem
namespace Wp
end Wp
open scoped Wp
/-! all worlds of so many points, all figures: plain lists -/
def crossF {α β γ : Type} (f : α → β → γ) (xs : List α) (ys : List β) (u : α) (v : β) : List γ := (List.range (xs.length * ys.length)).map fun a => f (xs.getD (a / ys.length) u) (ys.getD (a % ys.length) v)
def intsTo (m : Nat) : List Int := (List.range m).map fun (k : Nat) => (k : Int)
def digF (m : Nat) : Nat → List (List Int)
  | 0 => [[]]
  | k + 1 => crossF (fun l x => l ++ [x]) (digF m k) (intsTo m) [] 0
def ptsF (nm nw k : Nat) : List Pt := (List.range nm).flatMap fun (mk : Nat) => (digF nw k).map fun l => ((mk : Int), l)
def worldsF (nm nw : Nat) : Nat → List (List Pt)
  | 0 => [[]]
  | k + 1 => crossF (fun w p => w ++ [p]) (worldsF nm nw k) (ptsF nm nw k) [] (0, [])
/-! none twice -/
def nub (l : List (List Pt)) : List (List Pt) := l.foldl (fun acc x => if x ∈ acc then acc else acc ++ [x]) []
/-! how many figures there are -/
def cdT (w : List Pt) : Nat := (((((ptAt w 0).1.toNat * 3 + (ptAt w 1).1.toNat) * 3 + (wyAt w 1 0).toNat) * 3 + (ptAt w 2).1.toNat) * 3 + (wyAt w 2 0).toNat) * 3 + (wyAt w 2 1).toNat
def mcW (bk : List Int) (w : List Pt) : Nat := ((orb bk w).map cdT).foldl min 729
def bkN (bk : List Int) (x : Nat) : Nat := (bk.getD x 0).toNat
def cdN (a b x c y z : Nat) : Nat := ((((a * 3 + b) * 3 + x) * 3 + c) * 3 + y) * 3 + z
def mcN (bk : List Int) (a b x c y z : Nat) : Nat := min (min (min (min (min (min 729 (cdN a b x c y z)) (cdN a c y b x (bkN bk z))) (cdN b a (bkN bk x) c z y)) (cdN b c z a (bkN bk x) (bkN bk y))) (cdN c a (bkN bk y) b (bkN bk z) x)) (cdN c b (bkN bk z) a (bkN bk y) (bkN bk x))
def mcAll (nm : Nat) (bk : List Int) : List Nat := (List.range nm).flatMap fun a => (List.range nm).flatMap fun b => (List.range bk.length).flatMap fun x => (List.range nm).flatMap fun c => (List.range bk.length).flatMap fun y => (List.range bk.length).map fun z => mcN bk a b x c y z
def nubN (l : List Nat) : List Nat := l.foldr (fun x acc => if acc.elem x then acc else x :: acc) []
/-- all figures -/
def figsF (nm : Nat) (bk : List Int) : List (List Pt) := nub ((worldsF nm bk.length 3).map (figF bk))
end G.Pl

set_option linter.all false
set_option maxRecDepth 100000
set_option maxHeartbeats 4000000
namespace G.Pl
open PySem
namespace Wp
end Wp
open scoped Wp
section
variable {s : S}
@[scoped simp] theorem Wp.seenR {o : Bool} {r : RuleR} {K : D → S → Prop} : Wp (G.seen (o, r.d)) s K ↔ K r.d s := Wp.ret
@[scoped simp] theorem sub_rd0 {r : RuleR} : subscript r.d (.int 0) = some (.tup r.nm) := rfl
@[scoped simp] theorem sub_rd1 {r : RuleR} : subscript r.d (.int 1) = some (.tup (r.ways.map wayD)) := rfl
@[scoped simp] theorem sub_rd2 {r : RuleR} : subscript r.d (.int 2) = some (.tup r.bars) := rfl
@[scoped simp] theorem sub_wd {w : List Pt} {i : Int} : subscript (wd w) (.int i) = L2.atI (w.map ptD) i := rfl
@[scoped simp] theorem sub_pt0 {p : Pt} : subscript (ptD p) (.int 0) = some (.int p.1) := rfl
@[scoped simp] theorem sub_pt1 {p : Pt} : subscript (ptD p) (.int 1) = some (.tup (p.2.map .int)) := rfl
@[scoped simp] theorem len_wd' {w : List Pt} : builtin .len [wd w] = some (false, .int w.length) := by
  show some (false, D.int ((w.map ptD).length : Nat)) = _
  rw [List.length_map]
end
/-- a comprehension over things told by a list -/
theorem Wp.compA {α : Type} {i : Nat} {e : M RV} {ok : M Bool} {xs : List α} {g : α → D} {s : S} {K : RV → S → Prop} (f : α → D) (hi : s.l[i]? = some none) (hl : xs.length < sizeMax)
    (h : ∀ x ∈ xs, Wp e { s with l := s.l.set i (some (false, g x)) } (fun v s4 => v.2 = f x ∧ s4.l.set i none = s.l ∧ s4.m = s.m))
    (hok : Wp ok s (fun k s1 => k = true ∧ s1 = s)) (hK : K (true, .lst (xs.map f)) s) : Wp (G.compL (.var i) none e ok (xs.map g) []) s K := by
  have hil : i < s.l.length := (List.getElem?_eq_some_iff.mp hi).1
  refine Wp.compL (fun k acc s' => s' = s ∧ acc = (xs.take k).map f) ⟨rfl, by simp⟩ ?_ ?_
  · rintro k d acc s' hd ⟨rfl, rfl⟩
    have hk : k < xs.length := by simpa using (List.getElem?_eq_some_iff.mp hd).1
    have hd' : d = g xs[k] := by
      have := (List.getElem?_eq_some_iff.mp hd).2
      rw [List.getElem_map] at this
      exact this.symm
    subst hd'
    have e2 : xs.take (k + 1) = xs.take k ++ [xs[k]] := List.take_succ_eq_append_getElem hk
    refine hok.mono ?_
    rintro b s1 ⟨rfl, rfl⟩
    refine ⟨rfl, ?_⟩
    have hts : ∀ {K : Unit → S → Prop}, Wp (tgStore (.var i) (g xs[k])) s1 K ↔ (i < s1.l.length ∧ K () { s1 with l := s1.l.set i (some (false, g xs[k])) }) := by
      intro K
      unfold tgStore
      exact Wp.setS
    refine hts.mpr ⟨hil, ?_⟩
    unfold testM
    refine Wp.ret.mpr ?_
    simp only [if_true]
    refine (h xs[k] (List.getElem_mem _)).mono ?_
    rintro v s4 ⟨e1, e3, e4⟩
    refine ⟨by rw [List.length_map, List.length_take]; omega, ?_, ?_⟩
    · show S.mk (s4.l.set i none) s4.m = s1
      rw [e3, e4]
    · rw [e2, List.map_append, e1]; rfl
  · rintro acc s' ⟨rfl, rfl⟩
    refine hok.mono ?_
    rintro b s1 ⟨rfl, rfl⟩
    rw [List.length_map, List.take_length]
    exact ⟨rfl, hK⟩
/-- .. over a range -/
theorem Wp.compR {i : Nat} {e : M RV} {ok : M Bool} {n : Nat} {s : S} {K : RV → S → Prop} (f : Nat → D) (hi : s.l[i]? = some none) (hl : n < sizeMax)
    (h : ∀ a < n, Wp e { s with l := s.l.set i (some (false, .int (a : Nat))) } (fun v s4 => v.2 = f a ∧ s4.l.set i none = s.l ∧ s4.m = s.m))
    (hok : Wp ok s (fun k s1 => k = true ∧ s1 = s)) (hK : K (true, .lst ((List.range n).map f)) s) : Wp (G.compL (.var i) none e ok (rangeD 0 n) []) s K := by
  have e0 : rangeD 0 n = (List.range n).map fun a : Nat => D.int (a : Nat) := by
    unfold rangeD
    exact List.map_congr_left fun a _ => by rw [Int.zero_add]
  rw [e0]
  exact Wp.compA f hi (by rw [List.length_range]; exact hl) (fun a ha => h a (List.mem_range.mp ha)) hok hK
/-- a walk over things told by a list -/
theorem Wp.forA {α : Type} {x : Tg} {b : M Fl} {ok : M Bool} {xs : List α} {g : α → D} {s : S} {K : Fl → S → Prop} (I : Nat → S → Prop) (h0 : I 0 s)
    (hs : ∀ i (h : i < xs.length) s, I i s → Wp ok s (fun k s1 => k = true ∧ Wp (tgStore x (g xs[i])) s1 (fun _ s2 => Wp b s2 (fun f s3 => match f with | .next => I (i + 1) s3 | .brk => K .next s3 | .ret v => K (.ret v) s3))))
    (hd : ∀ s, I xs.length s → Wp ok s (fun k s1 => k = true ∧ K .next s1)) : Wp (G.forL x b ok (xs.map g)) s K := by
  refine Wp.forL I h0 ?_ ?_
  · intro i d s hd' hI
    have hi : i < xs.length := by simpa using (List.getElem?_eq_some_iff.mp hd').1
    have e : d = g xs[i] := by
      have := (List.getElem?_eq_some_iff.mp hd').2
      rw [List.getElem_map] at this
      exact this.symm
    subst e
    exact hs i hi s hI
  · intro s hI
    rw [List.length_map] at hI
    exact hd s hI
/-- .. over a range -/
theorem Wp.forR {x : Tg} {b : M Fl} {ok : M Bool} {n : Nat} {s : S} {K : Fl → S → Prop} (I : Nat → S → Prop) (h0 : I 0 s)
    (hs : ∀ i s, i < n → I i s → Wp ok s (fun k s1 => k = true ∧ Wp (tgStore x (.int (i : Nat))) s1 (fun _ s2 => Wp b s2 (fun f s3 => match f with | .next => I (i + 1) s3 | .brk => K .next s3 | .ret v => K (.ret v) s3))))
    (hd : ∀ s, I n s → Wp ok s (fun k s1 => k = true ∧ K .next s1)) : Wp (G.forL x b ok (rangeD 0 n)) s K := by
  refine Wp.forL I h0 ?_ ?_
  · intro i d s hd' hI
    obtain ⟨hi, rfl⟩ := rangeD_at hd'
    exact hs i s hi hI
  · intro s hI
    rw [range_len] at hI
    exact hd s hI
end G.Pl

set_option linter.all false
set_option maxRecDepth 100000
set_option maxHeartbeats 4000000
namespace G.Pl
open PySem
namespace Wp
end Wp
open scoped Wp
def d_digits : Def := { params := 2, slots := 5, body := [.asg (.var 2) (.lst [.tup []]), .for_ (.var 3) (.range1 (.var 1)) [.asg (.var 2) (.comp (.var 4) (.range1 (.bin .mul (.blt .len (.var 2)) (.var 0))) none (.bin .add (.sub (.var 2) (.bin .fdiv (.var 4) (.var 0))) (.tup [.bin .mod (.var 4) (.var 0)])))], .ret (.take 2)] }  -- 64: 0 _law_many, 1 _law_size, 2 _law_told, 3 _law_k, 4 _law_at
def d_worlds : Def := { params := 2, slots := 8, body := [.asg (.var 2) (.lst [.tup []]), .for_ (.var 3) (.range1 (.var 1)) [.asg (.var 4) (.lst []), .for_ (.var 5) (.range1 (.blt .len (.sub (.var 0) (.con (.int 0))))) [.mut (.var 4) .extend [.comp (.var 7) (.seq (.call 64 [.blt .len (.sub (.var 0) (.con (.int 1))), .var 3])) none (.tup [.var 5, .var 7])]], .asg (.var 2) (.comp (.var 6) (.range1 (.bin .mul (.blt .len (.var 2)) (.blt .len (.var 4)))) none (.bin .add (.sub (.var 2) (.bin .fdiv (.var 6) (.blt .len (.var 4)))) (.tup [.sub (.var 4) (.bin .mod (.var 6) (.blt .len (.var 4)))])))], .ret (.take 2)] }  -- 65: 0 _law_rule, 1 _law_size, 2 _law_told, 3 _law_k, 4 _law_points, 5 _law_mark, 6 _law_at, 7 _law_some
def d_figures : Def := { params := 1, slots := 2, body := [.ret (.tset (.comp (.var 1) (.seq (.call 65 [.var 0, .con (.int 3)])) none (.call 13 [.var 0, .var 1])))] }  -- 66: 0 _law_rule, 1 _law_world
def ptsTo (nw k j : Nat) : List Pt := (List.range j).flatMap fun (mk : Nat) => (digF nw k).map fun l => ((mk : Int), l)
end G.Pl

set_option linter.all false
set_option maxRecDepth 100000
set_option maxHeartbeats 4000000
namespace G.Pl
open PySem
namespace Wp
end Wp
open scoped Wp
def d_full_rule : Def := { params := 1, slots := 6, body := [.asg (.var 1) (.call 2 [.var 0, .con (.int 4)]), .ite (.cmp .eq (.var 1) (.con (.int 0))) [.ret (.call 31 [.var 0])] [], .ite (.cmp .lt (.var 1) (.con (.int 3))) [.ret (.call 33 [.var 0])] [], .asg (.tup [.var 2, .var 3]) (.call 10 [.var 0]), .asg (.var 4) (.call 11 [.var 0, .var 2, .call 12 [.var 0, .var 3], .tup []]), .ret (.tup [.sub (.var 4) (.con (.int 0)), .sub (.var 4) (.con (.int 1)), .blt .tuple (.comp (.var 5) (.seq (.call 66 [.var 4])) (some (.cmp .eq (.call 2 [.var 0, .con (.int 3)]) (.con (.int 0)))) (.var 5))])] }  -- 67: 0 _law_flow_here, 1 _law_form, 2 _law_marks, 3 _law_many, 4 _law_rule, 5 _law_one
/-- figures, sorted -/
def figsL (nm : Nat) (bk : List Int) : List D := sortD ((figsF nm bk).map wd)
theorem wd_dep {w : List Pt} : (wd w).dep ≤ 3 := by
  have := pts_dep w
  show D.depL (w.map ptD) + 1 ≤ 3
  omega
structure MadeU (P : Prog) : Prop extends MadeL P where
  h64 : P.df 64 = some d_digits
  h65 : P.df 65 = some d_worlds
  h66 : P.df 66 = some d_figures
  h67 : P.df 67 = some d_full_rule
end G.Pl

set_option linter.all false
set_option maxRecDepth 100000
set_option maxHeartbeats 4000000
namespace G.Pl
open PySem
namespace Wp
end Wp
open scoped Wp
def d_drawn_points : Def := { params := 3, slots := 5, body := [.asg (.var 3) (.lrng (.var 1)), .asg (.var 4) (.lst []), .while_ (.cmp .lt (.blt .len (.var 4)) (.var 2)) [.mut (.var 4) .append [.pop 3 (.call 2 [.var 0, .blt .len (.var 3)])]], .ret (.blt .tuple (.var 4))] }  -- 246: 0 _law_flow_here, 1 _law_many, 2 _law_size, 3 _law_left, 4 _law_told
def d_p_part : Def := { params := 3, slots := 8, body := [.asg (.var 3) (.lst []), .for_ (.tup [.var 4, .var 5]) (.enum (.var 2)) [.asg (.var 6) (.comp (.var 7) (.seq (.slice (.var 2) none (some (.var 4)))) none (.call 34 [.var 0, .var 1, .var 5, .var 7])), .mut (.var 3) .append [.tup [.sub (.sub (.var 1) (.var 5)) (.con (.int 0)), .blt .tuple (.var 6)]]], .ret (.blt .tuple (.var 3))] }  -- 61: 0 rule, 1 world, 2 points, 3 found, 4 k, 5 point, 6 ways, 7 ahead
theorem enumD_len : ∀ {l : List D} {k : Nat}, (enumD k l).length = l.length
  | [], _ => rfl
  | a :: r, k => by
    show (enumD (k + 1) r).length + 1 = _
    rw [enumD_len]
    rfl
end G.Pl

set_option linter.all false
set_option maxRecDepth 100000
set_option maxHeartbeats 4000000
namespace G.Pl
open PySem
namespace Wp
end Wp
open scoped Wp
def d_p_is_barred : Def := { params := 2, slots := 3, body := [.ite (.cmp .eq (.blt .len (.sub (.var 0) (.con (.int 2)))) (.con (.int 0))) [.ret (.con (.bl false))] [], .ret (.cmp .in_ (.blt .min1 (.comp (.var 2) (.seq (.glob 5)) none (.call 61 [.var 0, .var 1, .var 2]))) (.sub (.var 0) (.con (.int 2))))] }  -- 69: 0 rule, 1 three, 2 turn
def d_p_three_barred : Def := { params := 5, slots := 5, body := [.ret (.call 69 [.var 0, .call 61 [.var 0, .var 1, .tup [.var 2, .var 3, .var 4]]])] }  -- 70: 0 rule, 1 world, 2 i, 3 j, 4 k
def d_p_first_barred : Def := { params := 2, slots := 5, body := [.for_ (.var 2) (.range1 (.blt .len (.var 1))) [.for_ (.var 3) (.range2 (.bin .add (.var 2) (.con (.int 1))) (.blt .len (.var 1))) [.for_ (.var 4) (.range2 (.bin .add (.var 3) (.con (.int 1))) (.blt .len (.var 1))) [.ite (.call 70 [.var 0, .var 1, .var 2, .var 3, .var 4]) [.ret (.tup [.var 2, .var 3, .var 4])] []]]], .ret (.con .non)] }  -- 75: 0 rule, 1 world, 2 i, 3 j, 4 k
def d_first_barred : Def := { params := 3, slots := 6, body := [.for_ (.var 3) (.range1 (.blt .len (.var 2))) [.for_ (.var 4) (.range2 (.bin .add (.var 3) (.con (.int 1))) (.blt .len (.var 2))) [.for_ (.var 5) (.range2 (.bin .add (.var 4) (.con (.int 1))) (.blt .len (.var 2))) [.ite (.cmp .in_ (.call 7 [.var 1, .var 2, .tup [.var 3, .var 4, .var 5]]) (.var 0)) [.ret (.tup [.var 3, .var 4, .var 5])] []]]], .ret (.con .non)] }  -- 74: 0 _law_bad_here, 1 _law_rule, 2 _law_world_here, 3 _law_i, 4 _law_j, 5 _law_k
def d_drawn : Def := { params := 4, slots := 7, body := [.asg (.var 4) (.call 2 [.var 0, .con (.int 3)]), .ite (.cmp .eq (.var 4) (.con (.int 0))) [.ret (.call 19 [.var 0, .var 1, .var 3])] [], .asg (.var 5) (.call 72 [.var 0, .var 1, .var 2, .var 3]), .ite (.or [.cmp .eq (.var 4) (.con (.int 1)), .cmp .eq (.var 5) (.tup [])]) [.ret (.take 5)] [], .asg (.var 6) (.call 2 [.var 0, .blt .len (.var 5)]), .ret (.bin .add (.bin .add (.slice (.var 5) none (some (.var 6))) (.tup [.sub (.call 19 [.var 0, .var 1, .bin .add (.var 6) (.con (.int 1))]) (.var 6)])) (.slice (.var 5) (some (.bin .add (.var 6) (.con (.int 1)))) none))] }  -- 42: 0 _law_flow_here, 1 _law_rule, 2 _law_bad_here, 3 _law_size, 4 _law_form, 5 _law_world_here, 6 _law_at
/-- the least rising three that does -/
def trip3 (p : Nat → Nat → Nat → Bool) (n i j : Nat) : Option (Nat × Nat × Nat) := (List.range (n - (j + 1))).findSome? fun b => if p i j (j + 1 + b) then some (i, j, j + 1 + b) else none
def trip2 (p : Nat → Nat → Nat → Bool) (n i : Nat) : Option (Nat × Nat × Nat) := (List.range (n - (i + 1))).findSome? fun a => trip3 p n i (i + 1 + a)
def trip (p : Nat → Nat → Nat → Bool) (n : Nat) : Option (Nat × Nat × Nat) := (List.range n).findSome? (trip2 p n)
def tripD : Option (Nat × Nat × Nat) → D
  | none => .non
  | some (i, j, k) => .tup [.int (i : Nat), .int (j : Nat), .int (k : Nat)]
def tsB (bk : List Int) (ts : List (List Pt)) (w : List Pt) (i j k : Nat) : Bool := decide (partF bk w [i, j, k] ∈ ts)
def tripR (t : Nat × Nat × Nat) : RV := (false, tripD (some t))
end G.Pl

set_option linter.all false
set_option maxRecDepth 100000
set_option maxHeartbeats 4000000
namespace G.Pl
open PySem
namespace Wp
end Wp
open scoped Wp
theorem cut_hiN {α : Type} {xs : List α} {k : Nat} (h : k ≤ xs.length) : cut xs none (some (k : Int)) = xs.take k := by
  rw [cut_hi (by omega) (by omega), Int.toNat_natCast]
def d_law14 : Def := { params := 1, slots := 7, body := [.asg (.var 1) (.call 17 [.var 0]), .asg (.var 2) (.call 67 [.var 1]), .asg (.var 3) (.call 73 [.var 2]), .asg (.var 4) (.call 2 [.var 1, .con (.int 8)]), .ite (.cmp .eq (.call 2 [.var 1, .con (.int 8)]) (.con (.int 0))) [.asg (.var 4) (.call 2 [.var 1, .con (.int 12)])] [], .asg (.var 5) (.call 42 [.var 1, .var 2, .var 3, .var 4]), .asg (.var 6) (.call 74 [.var 3, .var 2, .var 5]), .ite (.not (.call 9 [.call 75 [.var 2, .var 5], .var 6])) [.ret (.con (.bl false))] [], .ite (.not (.call 9 [.call 75 [.var 2, .slice (.var 5) none (some (.neg (.con (.int 1))))], .call 74 [.var 3, .var 2, .slice (.var 5) none (some (.neg (.con (.int 1))))]])) [.ret (.con (.bl false))] [], .ret (.and [.cmp .is_ (.call 75 [.bin .add (.slice (.var 2) none (some (.con (.int 2)))) (.tup [.tup []]), .var 5]) (.con .non), .call 9 [.call 75 [.var 2, .var 5], .var 6]])] }  -- 354: 0 _law_script, 1 _law_flow_here, 2 _law_rule, 3 _law_bad_here, 4 _law_size, 5 _law_world_here, 6 _law_due
/-- without any bars -/
def RuleR.free (r : RuleR) : RuleR := { r with bars := [] }
theorem RuleR.Ok.free {r : RuleR} (h : r.Ok) : r.free.Ok := ⟨h.nmw, h.m1, h.m3, h.wnw, h.wl, h.bk, h.tm, h.dis, by simp [RuleR.free], by simp [RuleR.free], by simp [RuleR.free]⟩
@[scoped simp] theorem Wp.seenTr {o : Bool} {t : Option (Nat × Nat × Nat)} {K : D → S → Prop} {s : S} : Wp (G.seen (o, tripD t)) s K ↔ K (tripD t) s := by cases t <;> exact Wp.ret
structure MadeW0 (P : Prog) : Prop extends MadeU P where
  h17 : P.df 17 = some d_flow1
  h9 : P.df 9 = some d_alike
  h23 : P.df 23 = some d_p_back
  h24 : P.df 24 = some d_p_way_between
  h34 : P.df 34 = some d_p_way
  h61 : P.df 61 = some d_p_part
structure MadeW (P : Prog) : Prop extends MadeW0 P where
  h19 : P.df 19 = some d_any_world
structure MadeV (P : Prog) : Prop extends MadeW P where
  h71 : P.df 71 = some d_new_ways
  h72 : P.df 72 = some d_world
  h73 : P.df 73 = some d_bad
  h69 : P.df 69 = some d_p_is_barred
  h70 : P.df 70 = some d_p_three_barred
  hg5 : P.gl 5 = some (.tup (turnsL.map fun p => .tup (ptsD p)))
structure Made14 (P : Prog) : Prop extends MadeV P where
  h75 : P.df 75 = some d_p_first_barred
  h74 : P.df 74 = some d_first_barred
  h42 : P.df 42 = some d_drawn
  hlaw : P.df 354 = some d_law14
end G.Pl

set_option linter.all false
set_option maxRecDepth 100000
set_option maxHeartbeats 4000000
namespace G.Pl
open PySem
namespace Wp
end Wp
open scoped Wp
def d_p_all_orders : Def := { params := 1, slots := 6, body := [.asg (.var 1) (.lst [.tup []]), .for_ (.var 2) (.range1 (.var 0)) [.asg (.var 3) (.lst []), .for_ (.var 4) (.seq (.var 1)) [.for_ (.var 5) (.range1 (.bin .add (.var 2) (.con (.int 1)))) [.mut (.var 3) .append [.bin .add (.bin .add (.slice (.var 4) none (some (.var 5))) (.tup [.var 2])) (.slice (.var 4) (some (.var 5)) none)]]], .asg (.var 1) (.take 3)], .ret (.take 1)] }  -- 60: 0 many, 1 found, 2 k, 3 longer, 4 order, 5 at
def d_p_least_form : Def := { params := 2, slots := 3, body := [.ret (.blt .min1 (.comp (.var 2) (.seq (.call 60 [.blt .len (.var 1)])) none (.call 61 [.var 0, .var 1, .var 2])))] }  -- 63: 0 rule, 1 world, 2 order
def d_orders : Def := { params := 1, slots := 6, body := [.asg (.var 1) (.lst [.tup []]), .for_ (.var 2) (.range1 (.var 0)) [.asg (.var 3) (.lst []), .for_ (.var 4) (.seq (.var 1)) [.mut (.var 3) .extend [.comp (.var 5) (.range1 (.bin .add (.var 2) (.con (.int 1)))) none (.bin .add (.bin .add (.slice (.var 4) none (some (.var 5))) (.tup [.var 2])) (.slice (.var 4) (some (.var 5)) none))]], .asg (.var 1) (.take 3)], .ret (.take 1)] }  -- 117: 0 _law_many, 1 _law_told, 2 _law_k, 3 _law_longer, 4 _law_order, 5 _law_at
def d_least : Def := { params := 2, slots := 3, body := [.ret (.blt .min1 (.comp (.var 2) (.seq (.call 117 [.blt .len (.var 1)])) none (.call 7 [.var 0, .var 1, .var 2])))] }  -- 119: 0 _law_rule, 1 _law_world, 2 _law_order
/-! orders -/
def od (o : List Nat) : D := .tup (ptsD o)
section
variable {s : S}
@[scoped simp] theorem Wp.seenOd {o : Bool} {w : List Nat} {K : D → S → Prop} : Wp (G.seen (o, od w)) s K ↔ K (od w) s := Wp.ret
end
mutual
theorem beq_flat : ∀ (d : D), D.flat d = true → D.beq d d = true
  | .non, _ => rfl
  | .bl b, _ => by simp [D.beq]
  | .int i, _ => by simp [D.beq]
  | .str s, _ => by simp [D.beq]
  | .tup xs, h => by
    show D.beqL xs xs = true
    exact beq_flatL xs h
  | .lst xs, h => by
    show D.beqL xs xs = true
    exact beq_flatL xs h
  | .dic _, h => by cases h
  | .obj _, h => by cases h
  | .scr _, h => by cases h
  | .pin _, h => by cases h
theorem beq_flatL : ∀ (ds : List D), D.flatL ds = true → D.beqL ds ds = true
  | [], _ => rfl
  | d :: ds, h => by
    have h : (D.flat d && D.flatL ds) = true := h
    rw [Bool.and_eq_true] at h
    show (D.beq d d && D.beqL ds ds) = true
    rw [beq_flat d h.1, beq_flatL ds h.2]
    rfl
end
def insF (k : Nat) (o : List Nat) : List (List Nat) := (List.range (k + 1)).map fun a => o.take a ++ [k] ++ o.drop a
def ordF : Nat → List (List Nat)
  | 0 => [[]]
  | k + 1 => (ordF k).flatMap (insF k)
/-! least forms -/
def leastN (bk : List Int) (w : List Pt) : List Pt := leastW ((ordF w.length).map (partF bk w))
end G.Pl

set_option linter.all false
set_option maxRecDepth 100000
set_option maxHeartbeats 4000000
namespace G.Pl
open PySem
namespace Wp
end Wp
open scoped Wp
def d_other_rule : Def := { params := 1, slots := 5, body := [.asg (.var 1) (.lrng (.blt .len (.sub (.var 0) (.con (.int 1))))), .ite (.and [.cmp .eq (.comp (.tup [.var 2, .var 3]) (.seq (.sub (.var 0) (.con (.int 1)))) none (.var 3)) (.var 1), .cmp .gt (.blt .len (.var 1)) (.con (.int 1))]) [.asg (.var 1) (.bin .add (.lst [.con (.int 1), .con (.int 0)]) (.slice (.var 1) (some (.con (.int 2))) none))] [], .ret (.tup [.sub (.var 0) (.con (.int 0)), .blt .tuple (.comp (.var 4) (.range1 (.blt .len (.var 1))) none (.tup [.sub (.sub (.sub (.var 0) (.con (.int 1))) (.var 4)) (.con (.int 0)), .sub (.var 1) (.var 4)])), .tup []])] }  -- 158: 0 _law_rule, 1 _law_backs_here, 2 _law_name_here, 3 _law_there, 4 _law_k
/-- a comprehension over pairs -/
theorem Wp.comp2 {α : Type} {i j : Nat} (hij : i ≠ j) {e : M RV} {ok : M Bool} {xs : List α} {g h : α → D} {s : S} {K : RV → S → Prop} (f : α → D) (hi : s.l[i]? = some none) (hj : s.l[j]? = some none) (hl : xs.length < sizeMax)
    (hs : ∀ x ∈ xs, Wp e { s with l := (s.l.set i (some (false, g x))).set j (some (false, h x)) } (fun v s4 => v.2 = f x ∧ (s4.l.set i none).set j none = s.l ∧ s4.m = s.m))
    (hok : Wp ok s (fun k s1 => k = true ∧ s1 = s)) (hK : K (true, .lst (xs.map f)) s) : Wp (G.compL (.tup [.var i, .var j]) none e ok (xs.map fun x => .tup [g x, h x]) []) s K := by
  have hil : i < s.l.length := (List.getElem?_eq_some_iff.mp hi).1
  have hjl : j < s.l.length := (List.getElem?_eq_some_iff.mp hj).1
  refine Wp.compL (fun k acc s' => s' = s ∧ acc = (xs.take k).map f) ⟨rfl, by simp⟩ ?_ ?_
  · rintro k d acc s' hd ⟨rfl, rfl⟩
    have hk : k < xs.length := by simpa using (List.getElem?_eq_some_iff.mp hd).1
    have hd' : d = .tup [g xs[k], h xs[k]] := by
      have := (List.getElem?_eq_some_iff.mp hd).2
      rw [List.getElem_map] at this
      exact this.symm
    subst hd'
    have e2 : xs.take (k + 1) = xs.take k ++ [xs[k]] := List.take_succ_eq_append_getElem hk
    refine hok.mono ?_
    rintro b s1 ⟨rfl, rfl⟩
    refine ⟨rfl, ?_⟩
    simp only [tgStore, tgStoreL, Wp.bind, Wp.setS, Wp.ret]
    refine ⟨hil, by simpa using hjl, ?_⟩
    unfold testM
    refine Wp.ret.mpr ?_
    simp only [if_true]
    refine (hs xs[k] (List.getElem_mem _)).mono ?_
    rintro v s4 ⟨e1, e3, e4⟩
    refine ⟨by rw [List.length_map, List.length_take]; omega, ?_, ?_⟩
    · show S.mk ((s4.l.set i none).set j none) s4.m = s1
      rw [e3, e4]
    · rw [e2, List.map_append, e1]; rfl
  · rintro acc s' ⟨rfl, rfl⟩
    refine hok.mono ?_
    rintro b s1 ⟨rfl, rfl⟩
    rw [List.length_map, List.take_length]
    exact ⟨rfl, hK⟩
/-- the ways back told otherwise -/
def twinB (bk : List Int) : List Int := if bk = intsTo bk.length ∧ 1 < bk.length then [1, 0] ++ (intsTo bk.length).drop 2 else intsTo bk.length
theorem twinB_ok : ∀ bk ∈ BackSet, twinB bk ∈ BackSet ∧ (twinB bk).length = bk.length := by decide
def RuleR.twin (r : RuleR) : RuleR := { r with bk := twinB r.bk, bars := [] }
theorem RuleR.Ok.twin {r : RuleR} (h : r.Ok) : r.twin.Ok := by
  obtain ⟨q1, q2⟩ := twinB_ok _ h.bk
  exact ⟨h.nmw, h.m1, h.m3, h.wnw, h.wl.trans q2.symm, q1, by show r.nm.length * (twinB r.bk).length ≤ 6; rw [q2]; exact h.tm, h.dis, by simp [RuleR.twin], by simp [RuleR.twin], by simp [RuleR.twin]⟩
end G.Pl

set_option linter.all false
set_option maxRecDepth 100000
set_option maxHeartbeats 4000000
namespace G.Pl
open PySem
namespace Wp
end Wp
open scoped Wp
def d_law12 : Def := { params := 1, slots := 8, body := [.asg (.var 1) (.call 17 [.var 0]), .asg (.var 2) (.call 67 [.var 1]), .asg (.var 3) (.call 2 [.var 1, .con (.int 5)]), .ite (.cmp .eq (.call 2 [.var 1, .con (.int 8)]) (.con (.int 0))) [.asg (.var 3) (.call 2 [.var 1, .con (.int 7)])] [], .asg (.var 4) (.call 19 [.var 1, .var 2, .var 3]), .asg (.var 5) (.call 7 [.var 2, .var 4, .call 246 [.var 1, .var 3, .var 3]]), .asg (.var 6) (.call 119 [.var 2, .var 4]), .ite (.or [.not (.call 9 [.call 63 [.var 2, .var 4], .var 6]), .not (.call 9 [.call 63 [.var 2, .var 5], .var 6])]) [.ret (.con (.bl false))] [], .asg (.var 7) (.call 158 [.var 2]), .ite (.not (.call 9 [.call 63 [.var 7, .slice (.var 4) none (some (.con (.int 4)))], .call 119 [.var 7, .slice (.var 4) none (some (.con (.int 4)))]])) [.ret (.con (.bl false))] [], .ret (.and [.call 9 [.call 63 [.var 2, .var 6], .var 6], .call 9 [.call 63 [.var 2, .var 4], .var 6]])] }  -- 354: 0 _law_script, 1 _law_flow_here, 2 _law_rule, 3 _law_size, 4 _law_world, 5 _law_other, 6 _law_due, 7 _law_twin
theorem WOk.short {nw : Nat} {w : List Pt} (h : WOk nw w) : ∀ p ∈ w, p.2.length < w.length := fun p hp => by
  obtain ⟨i, hi, rfl⟩ := List.getElem_of_mem hp
  rw [h.len i hi]; exact hi
theorem wd_tame {w : List Pt} (h : ∀ p ∈ w, p.2.length < w.length) (hl : w.length ≤ 100000) : (wd w).dep ≤ 3 ∧ Tame (wd w) = true := by
  refine ⟨wd_dep, ?_⟩
  show (decide ((w.map ptD).length < 1000000) && TameL (w.map ptD)) = true
  rw [decide_eq_true (by rw [List.length_map]; omega), TameL_of fun d hd => by
    obtain ⟨p, hp, rfl⟩ := List.mem_map.mp hd
    have := h p hp
    show (decide ([D.int p.1, D.tup (p.2.map .int)].length < 1000000) && (true && (Tame (.tup (p.2.map .int)) && true))) = true
    have q : Tame (.tup (p.2.map .int)) = true := by
      show (decide ((p.2.map D.int).length < 1000000) && TameL (p.2.map .int)) = true
      rw [decide_eq_true (by rw [List.length_map]; omega), TameL_of fun d hd => by
        obtain ⟨x, _, rfl⟩ := List.mem_map.mp hd
        rfl]
      rfl
    rw [q]
    rfl]
  rfl
theorem cut_take {α : Type} {xs : List α} {k : Nat} (hk : k ≤ 1000) : cut xs none (some (k : Int)) = xs.take k := by
  by_cases h : k ≤ xs.length
  · exact cut_hiN h
  · rw [List.take_of_length_le (by omega)]
    unfold cut
    have e : HT.sIx xs.length xs.length (some (k : Int)) = xs.length := by
      unfold HT.sIx
      simp [show ¬ (k : Int) < 0 by omega]
      omega
    have e0 : HT.sIx xs.length 0 none = 0 := rfl
    rw [e, e0]
    simp
theorem WOk.take {nw : Nat} {w : List Pt} (h : WOk nw w) {k : Nat} : WOk nw (w.take k) := by
  refine ⟨fun i hi => ?_, fun i hi => ?_⟩
  · rw [List.getElem_take]; exact h.len i (by rw [List.length_take] at hi; omega)
  · rw [List.getElem_take]; exact h.wy i (by rw [List.length_take] at hi; omega)
structure Made12 (P : Prog) : Prop extends MadeW P where
  h60 : P.df 60 = some d_p_all_orders
  h63 : P.df 63 = some d_p_least_form
  h117 : P.df 117 = some d_orders
  h119 : P.df 119 = some d_least
  h158 : P.df 158 = some d_other_rule
  h246 : P.df 246 = some d_drawn_points
  hf : 2000 ≤ P.fuel
  hlaw : P.df 354 = some d_law12
end G.Pl

set_option linter.all false
set_option maxRecDepth 100000
set_option maxHeartbeats 4000000
namespace G.Pl
open PySem
namespace Wp
end Wp
open scoped Wp
def d_p_figures : Def := { params := 1, slots := 8, body := [.asg (.var 1) (.lst [.tup []]), .for_ (.var 2) (.range1 (.con (.int 3))) [.asg (.var 3) (.lst []), .for_ (.var 4) (.range1 (.blt .len (.sub (.var 0) (.con (.int 0))))) [.for_ (.var 5) (.seq (.call 62 [.blt .len (.sub (.var 0) (.con (.int 1))), .var 2])) [.mut (.var 3) .extend [.comp (.var 7) (.seq (.var 1)) none (.bin .add (.var 7) (.tup [.tup [.var 4, .var 5]]))]]], .asg (.var 1) (.take 3)], .asg (.var 6) (.dict []), .for_ (.var 7) (.seq (.var 1)) [.asg (.sub (.var 6) (.call 63 [.var 0, .var 7])) (.con (.bl true))], .ret (.blt .sorted (.var 6))] }  -- 68: 0 rule, 1 worlds, 2 k, 3 longer, 4 mark, 5 ways, 6 found, 7 world
def d_p_rows_of_ways : Def := { params := 2, slots := 7, body := [.asg (.var 2) (.lst [.tup []]), .for_ (.var 3) (.range1 (.var 1)) [.asg (.var 4) (.lst []), .for_ (.var 5) (.seq (.var 2)) [.mut (.var 4) .extend [.comp (.var 6) (.range1 (.var 0)) none (.bin .add (.var 5) (.tup [.var 6]))]], .asg (.var 2) (.take 4)], .ret (.take 2)] }  -- 62: 0 ways, 1 many, 2 found, 3 k, 4 longer, 5 row, 6 number
/-! rows of ways -/
def rowsF (m : Nat) : Nat → List (List Int)
  | 0 => [[]]
  | k + 1 => (rowsF m k).flatMap fun l => (intsTo m).map fun x => l ++ [x]
section
variable {s : S}
@[scoped simp] theorem Wp.seenId {o : Bool} {w : List Int} {K : D → S → Prop} : Wp (G.seen (o, intsD w)) s K ↔ K (intsD w) s := Wp.ret
end
/-! all worlds of three points, otherwise listed -/
def rowW (nm nw k : Nat) : List Pt := (List.range nm).flatMap fun (mk : Nat) => (rowsF nw k).map fun l => ((mk : Int), l)
def figW (nm nw : Nat) : Nat → List (List Pt)
  | 0 => [[]]
  | k + 1 => (rowW nm nw k).flatMap fun p => (figW nm nw k).map fun w => w ++ [p]
/-- a dict's keys are just what f tells of these worlds -/
structure KeysOf (f : List Pt → List Pt) (kvs : List (D × D)) (ws : List (List Pt)) : Prop where
  key : ∀ d ∈ kvs.map (·.1), IsWd d
  nd : (kvs.map (·.1)).Nodup
  len : kvs.length ≤ ws.length
  has : ∀ d, d ∈ kvs.map (·.1) ↔ ∃ w ∈ ws, d = wd (f w)
theorem KeysOf.nil {f : List Pt → List Pt} : KeysOf f [] [] := ⟨by simp, by simp, by simp, by simp⟩
theorem KeysOf.put {f : List Pt → List Pt} {kvs : List (D × D)} {ws : List (List Pt)} (h : KeysOf f kvs ws) {w : List Pt} {v : D} : KeysOf f (put kvs (wd (f w)) v) (ws ++ [w]) := by
  obtain ⟨p1, p2, p3⟩ := put_keys h.key h.nd (k := wd (f w)) (v := v) ⟨_, rfl⟩
  have := h.len
  refine ⟨fun d hd => ((p1 d).mp hd).elim (h.key d) (fun e => ⟨_, e⟩), p2, by rw [List.length_append]; simp; omega, fun d => ?_⟩
  rw [p1, h.has]
  constructor
  · rintro (⟨u, hu, rfl⟩ | rfl)
    · exact ⟨u, List.mem_append_left _ hu, rfl⟩
    · exact ⟨w, by simp, rfl⟩
  · rintro ⟨u, hu, rfl⟩
    rcases List.mem_append.mp hu with h | h
    · exact .inl ⟨u, h, rfl⟩
    · rw [List.mem_singleton] at h
      subst h
      exact .inr rfl
def d_law13 : Def := { params := 1, slots := 5, body := [.asg (.var 1) (.call 17 [.var 0]), .asg (.var 2) (.call 67 [.var 1]), .asg (.var 3) (.call 66 [.var 2]), .asg (.var 4) (.mem (.call 68 [.bin .add (.slice (.var 2) none (some (.con (.int 2)))) (.tup [.tup []])])), .ite (.not (.call 9 [.var 4, .var 3])) [.ret (.con (.bl false))] [], .mut (.var 4) .clear [], .mut (.var 4) .append [.con .non], .ret (.call 9 [.call 68 [.var 2], .var 3])] }  -- 354: 0 _law_script, 1 _law_flow_here, 2 _law_rule, 3 _law_due, 4 _law_found
structure Made13 (P : Prog) : Prop extends MadeW0 P where
  h60 : P.df 60 = some d_p_all_orders
  h62 : P.df 62 = some d_p_rows_of_ways
  h63 : P.df 63 = some d_p_least_form
  h68 : P.df 68 = some d_p_figures
  hlaw : P.df 354 = some d_law13
end G.Pl

set_option linter.all false
set_option maxRecDepth 100000
set_option maxHeartbeats 4000000
namespace G.Pl
open PySem
namespace Wp
end Wp
open scoped Wp
def d_p_goes_on : Def := { params := 3, slots := 6, body := [.asg (.var 3) (.bin .add (.var 1) (.tup [.var 2])), .asg (.var 4) (.bin .sub (.blt .len (.var 1)) (.con (.int 1))), .ret (.not (.blt .any (.comp (.var 5) (.range1 (.var 4)) none (.call 70 [.var 0, .var 3, .var 5, .var 4, .bin .add (.var 4) (.con (.int 1))]))))] }  -- 76: 0 rule, 1 base, 2 point, 3 world, 4 last, 5 i
def d_p_wishes : Def := { params := 2, slots := 9, body := [.asg (.var 2) (.lst []), .for_ (.var 3) (.range1 (.blt .len (.sub (.var 0) (.con (.int 0))))) [.asg (.var 4) (.lst [.tup []]), .for_ (.var 5) (.range1 (.blt .len (.var 1))) [.asg (.var 6) (.lst []), .for_ (.var 7) (.seq (.var 4)) [.for_ (.var 8) (.range1 (.blt .len (.sub (.var 0) (.con (.int 1))))) [.ite (.call 76 [.var 0, .slice (.var 1) none (some (.bin .add (.var 5) (.con (.int 1)))), .tup [.var 3, .bin .add (.var 7) (.tup [.var 8])]]) [.mut (.var 6) .append [.bin .add (.var 7) (.tup [.var 8])]] []]], .asg (.var 4) (.take 6)], .mut (.var 2) .extend [.comp (.var 7) (.seq (.var 4)) none (.tup [.var 3, .var 7])]], .ret (.take 2)] }  -- 77: 0 rule, 1 world, 2 found, 3 mark, 4 rows, 5 k, 6 longer, 7 row, 8 number
def d_wishes : Def := { params := 3, slots := 6, body := [.asg (.var 3) (.lst []), .for_ (.var 4) (.range1 (.blt .len (.sub (.var 0) (.con (.int 0))))) [.for_ (.var 5) (.seq (.call 64 [.blt .len (.sub (.var 0) (.con (.int 1))), .blt .len (.var 2)])) [.ite (.call 116 [.var 0, .var 1, .bin .add (.var 2) (.tup [.tup [.var 4, .var 5]]), .blt .len (.var 2)]) [.mut (.var 3) .append [.tup [.var 4, .var 5]]] []]], .ret (.take 3)] }  -- 157: 0 _law_rule, 1 _law_bad_here, 2 _law_world_here, 3 _law_told, 4 _law_mark, 5 _law_some
/-! rows told either way -/
/-! what may stand -/
def triW (ts : List (List Pt)) (w : List Pt) (mk : Int) (l : List Int) (i j : Nat) : Bool := decide (tri (ptAt w i).1 (ptAt w j).1 (wyAt w j i) mk (gd l i) (gd l j) ∈ ts)
/-- the point in which a row of ways stands over k points may stand -/
def mayB (ts : List (List Pt)) (w : List Pt) (mk : Int) (l : List Int) (k : Nat) : Bool := (List.range k).all fun j => (List.range j).all fun i => !triW ts w mk l i j
def stepB (ts : List (List Pt)) (w : List Pt) (mk : Int) (l : List Int) (k : Nat) : Bool := (List.range k).all fun i => !triW ts w mk l i k
def goodRows (ts : List (List Pt)) (w : List Pt) (nw : Nat) (mk : Int) (k : Nat) : List (List Int) := (rowsF nw k).filter fun l => mayB ts w mk l k
/-- the wishes over a world, in order -/
def wishF (ts : List (List Pt)) (w : List Pt) (nm nw : Nat) : List Pt := (List.range nm).flatMap fun (mk : Nat) => (goodRows ts w nw (mk : Int) w.length).map fun l => ((mk : Int), l)
/-! goes_on, wishes -/
structure Bars (r : RuleR) (bw : List (List Pt)) (ts : List (List Pt)) : Prop where
  eb : r.bars = bw.map wd
  fig : ∀ w ∈ bw, FigP r.nm.length r.bk w
  ts : bw.flatMap (orb r.bk) = ts
structure MadeB (P : Prog) : Prop where
  h23 : P.df 23 = some d_p_back
  h24 : P.df 24 = some d_p_way_between
  h34 : P.df 34 = some d_p_way
  h61 : P.df 61 = some d_p_part
  h69 : P.df 69 = some d_p_is_barred
  h70 : P.df 70 = some d_p_three_barred
  hg5 : P.gl 5 = some (.tup (turnsL.map fun p => .tup (ptsD p)))
end G.Pl

set_option linter.all false
set_option maxRecDepth 100000
set_option maxHeartbeats 4000000
namespace G.Pl
open PySem
namespace Wp
end Wp
open scoped Wp
def d_law15 : Def := { params := 1, slots := 9, body := [.asg (.var 1) (.call 17 [.var 0]), .asg (.var 2) (.call 67 [.var 1]), .asg (.var 3) (.call 73 [.var 2]), .asg (.var 4) (.call 2 [.var 1, .con (.int 4)]), .ite (.cmp .eq (.call 2 [.var 1, .con (.int 6)]) (.con (.int 0))) [.asg (.var 4) (.call 2 [.var 1, .sub (.lst [.con (.int 6), .con (.int 5)]) (.blt .int (.cmp .gt (.blt .len (.sub (.var 2) (.con (.int 1)))) (.con (.int 2))))])] [], .asg (.var 5) (.call 72 [.var 1, .var 2, .var 3, .var 4]), .asg (.var 6) (.call 157 [.var 2, .var 3, .var 5]), .asg (.var 7) (.mem (.call 77 [.var 2, .var 5])), .ite (.not (.call 9 [.var 7, .var 6])) [.ret (.con (.bl false))] [], .mut (.var 7) .append [.con .non], .asg (.sub (.var 7) (.con (.int 0))) (.con .non), .asg (.var 8) (.call 158 [.var 2]), .ite (.not (.call 9 [.call 77 [.var 8, .slice (.var 5) none (some (.con (.int 3)))], .call 157 [.var 8, .dict [], .slice (.var 5) none (some (.con (.int 3)))]])) [.ret (.con (.bl false))] [], .ite (.not (.call 9 [.call 77 [.var 2, .slice (.var 5) none (some (.neg (.con (.int 1))))], .call 157 [.var 2, .var 3, .slice (.var 5) none (some (.neg (.con (.int 1))))]])) [.ret (.con (.bl false))] [], .ret (.call 9 [.call 77 [.var 2, .var 5], .var 6])] }  -- 354: 0 _law_script, 1 _law_flow_here, 2 _law_rule, 3 _law_bad_here, 4 _law_size, 5 _law_world_here, 6 _law_due, 7 _law_found, 8 _law_twin
structure Made15 (P : Prog) : Prop extends MadeW0 P where
  h71 : P.df 71 = some d_new_ways
  h72 : P.df 72 = some d_world
  h73 : P.df 73 = some d_bad
  h69 : P.df 69 = some d_p_is_barred
  h70 : P.df 70 = some d_p_three_barred
  hg5 : P.gl 5 = some (.tup (turnsL.map fun p => .tup (ptsD p)))
  h76 : P.df 76 = some d_p_goes_on
  h77 : P.df 77 = some d_p_wishes
  h116 : P.df 116 = some d_last_may
  h157 : P.df 157 = some d_wishes
  h158 : P.df 158 = some d_other_rule
  hlaw : P.df 354 = some d_law15
theorem Made15.B {P : Prog} (M : Made15 P) : MadeB P := ⟨M.h23, M.h24, M.h34, M.h61, M.h69, M.h70, M.hg5⟩
end G.Pl

set_option linter.all false
set_option maxRecDepth 100000
set_option maxHeartbeats 4000000
namespace G.Pl
open PySem
namespace Wp
end Wp
open scoped Wp
def d_law11 : Def := { params := 1, slots := 9, body := [.asg (.var 1) (.call 17 [.var 0]), .asg (.var 2) (.call 67 [.var 1]), .asg (.var 3) (.call 2 [.var 1, .con (.int 9)]), .ite (.cmp .eq (.call 2 [.var 1, .con (.int 8)]) (.con (.int 0))) [.asg (.var 3) (.call 2 [.var 1, .con (.int 31)])] [], .asg (.var 4) (.call 19 [.var 1, .var 2, .var 3]), .asg (.var 5) (.call 246 [.var 1, .var 3, .call 2 [.var 1, .bin .add (.var 3) (.con (.int 1))]]), .asg (.var 6) (.call 61 [.var 2, .var 4, .var 5]), .ite (.not (.call 9 [.var 6, .call 7 [.var 2, .var 4, .var 5]])) [.ret (.con (.bl false))] [], .asg (.var 7) (.call 246 [.var 1, .blt .len (.var 5), .call 2 [.var 1, .bin .add (.blt .len (.var 5)) (.con (.int 1))]]), .ite (.not (.call 9 [.call 61 [.var 2, .var 6, .var 7], .call 7 [.var 2, .var 4, .comp (.var 8) (.seq (.var 7)) none (.sub (.var 5) (.var 8))]])) [.ret (.con (.bl false))] [], .ret (.and [.call 9 [.call 61 [.var 2, .var 4, .trng (.var 3)], .var 4], .call 9 [.call 61 [.var 2, .var 4, .var 5], .var 6]])] }  -- 354
structure Made11 (P : Prog) : Prop extends MadeW P where
  h246 : P.df 246 = some d_drawn_points
  hf : 2000 ≤ P.fuel
  hlaw : P.df 354 = some d_law11
end G.Pl

set_option linter.all false
set_option maxRecDepth 100000
set_option maxHeartbeats 4000000
namespace G.Pl
open PySem
namespace Wp
end Wp
open scoped Wp
def d_law16 : Def := { params := 1, slots := 8, body := [.asg (.var 1) (.call 17 [.var 0]), .asg (.var 2) (.call 67 [.var 1]), .asg (.var 3) (.call 2 [.var 1, .sub (.lst [.con (.int 6), .con (.int 5)]) (.blt .int (.cmp .gt (.blt .len (.sub (.var 2) (.con (.int 1)))) (.con (.int 2))))]), .asg (.var 4) (.call 19 [.var 1, .var 2, .var 3]), .ite (.cmp .eq (.call 2 [.var 1, .con (.int 2)]) (.con (.int 0))) [.asg (.var 4) (.call 72 [.var 1, .var 2, .call 73 [.var 2], .var 3])] [], .for_ (.var 5) (.range1 (.blt .len (.var 4))) [.asg (.var 6) (.call 77 [.var 2, .slice (.var 4) none (some (.var 5))]), .asg (.var 7) (.call 75 [.var 2, .slice (.var 4) none (some (.bin .add (.var 5) (.con (.int 1))))]), .ite (.cmp .ne (.cmp .in_ (.sub (.var 4) (.var 5)) (.var 6)) (.cmp .is_ (.var 7) (.con .non))) [.ret (.con (.bl false))] [], .ite (.cmp .isnot (.var 7) (.con .non)) [.ret (.and [.cmp .eq (.sub (.var 7) (.con (.int 2))) (.var 5), .cmp .isnot (.call 75 [.var 2, .var 4]) (.con .non)])] []], .ret (.cmp .is_ (.call 75 [.var 2, .var 4]) (.con .non))] }  -- 354: 0 _law_script, 1 _law_flow_here, 2 _law_rule, 3 _law_size, 4 _law_world_here, 5 _law_k, 6 _law_told, 7 _law_three
structure Made16 (P : Prog) : Prop extends MadeU P where
  h17 : P.df 17 = some d_flow1
  h23 : P.df 23 = some d_p_back
  h24 : P.df 24 = some d_p_way_between
  h34 : P.df 34 = some d_p_way
  h61 : P.df 61 = some d_p_part
  h19 : P.df 19 = some d_any_world
  h71 : P.df 71 = some d_new_ways
  h72 : P.df 72 = some d_world
  h73 : P.df 73 = some d_bad
  h69 : P.df 69 = some d_p_is_barred
  h70 : P.df 70 = some d_p_three_barred
  hg5 : P.gl 5 = some (.tup (turnsL.map fun p => .tup (ptsD p)))
  h75 : P.df 75 = some d_p_first_barred
  h76 : P.df 76 = some d_p_goes_on
  h77 : P.df 77 = some d_p_wishes
  hlaw : P.df 354 = some d_law16
theorem Made16.B {P : Prog} (M : Made16 P) : MadeB P := ⟨M.h23, M.h24, M.h34, M.h61, M.h69, M.h70, M.hg5⟩
end G.Pl

set_option linter.all false
set_option maxRecDepth 100000
set_option maxHeartbeats 4000000
namespace G.Pl
open PySem
namespace Wp
end Wp
open scoped Wp
/-! in any order nothing changes -/
def NoBar (bk : List Int) (ts : List (List Pt)) (w : List Pt) : Prop := ∀ i j k, i < w.length → j < w.length → k < w.length → i ≠ j → i ≠ k → j ≠ k → partF bk w [i, j, k] ∉ ts
/-! a point more -/
end G.Pl

set_option linter.all false
set_option maxRecDepth 100000
set_option maxHeartbeats 4000000
namespace G.Pl
open PySem
namespace Wp
end Wp
open scoped Wp
/-! wishes are told in order -/
def IsPt (d : D) : Prop := ∃ p : Pt, d = ptD p
/-- a point's ways in another order -/
def permW (o : List Nat) (q : Pt) : Pt := (q.1, o.map fun j => gd q.2 j)
end G.Pl

set_option linter.all false
set_option maxRecDepth 100000
set_option maxHeartbeats 4000000
namespace G.Pl
open PySem
namespace Wp
end Wp
open scoped Wp
def d_law17 : Def := { params := 1, slots := 14, body := [.asg (.var 1) (.call 17 [.var 0]), .asg (.var 2) (.call 67 [.var 1]), .asg (.var 3) (.call 2 [.var 1, .con (.int 8)]), .asg (.var 4) (.call 19 [.var 1, .var 2, .var 3]), .ite (.cmp .eq (.call 2 [.var 1, .con (.int 2)]) (.con (.int 0))) [.asg (.var 4) (.call 72 [.var 1, .var 2, .call 73 [.var 2], .var 3])] [], .asg (.var 3) (.blt .len (.var 4)), .asg (.var 5) (.call 61 [.var 2, .var 4, .call 246 [.var 1, .var 3, .var 3]]), .asg (.var 6) (.call 61 [.var 2, .var 4, .call 246 [.var 1, .var 3, .call 2 [.var 1, .bin .add (.var 3) (.con (.int 1))]]]), .ite (.cmp .ne (.cmp .is_ (.call 75 [.var 2, .var 4]) (.con .non)) (.cmp .is_ (.call 75 [.var 2, .var 5]) (.con .non))) [.ret (.con (.bl false))] [], .ite (.and [.cmp .isnot (.call 75 [.var 2, .var 6]) (.con .non), .cmp .is_ (.call 75 [.var 2, .var 4]) (.con .non)]) [.ret (.con (.bl false))] [], .asg (.var 7) (.slice (.var 4) none (some (.con (.int 3)))), .ite (.cmp .isnot (.call 75 [.var 2, .var 7]) (.con .non)) [.asg (.var 7) (.slice (.var 4) none (some (.con (.int 2))))] [], .asg (.var 8) (.call 246 [.var 1, .blt .len (.var 7), .blt .len (.var 7)]), .asg (.var 9) (.call 61 [.var 2, .var 7, .var 8]), .asg (.var 10) (.blt .sorted (.comp (.tup [.var 11, .var 12]) (.seq (.call 77 [.var 2, .var 7])) none (.tup [.var 11, .blt .tuple (.comp (.var 13) (.seq (.var 8)) none (.sub (.var 12) (.var 13)))]))), .ite (.not (.call 9 [.call 77 [.var 2, .var 9], .var 10])) [.ret (.con (.bl false))] [], .ret (.call 9 [.call 63 [.var 2, .var 9], .call 63 [.var 2, .var 7]])] }  -- 354: 0 _law_script, 1 _law_flow_here, 2 _law_rule, 3 _law_size, 4 _law_world_here, 5 _law_other, 6 _law_some, 7 _law_base, 8 _law_order, 9 _law_twin, 10 _law_due, 11 _law_mark, 12 _law_to, 13 _law_k
structure Made17 (P : Prog) : Prop extends MadeV P where
  h75 : P.df 75 = some d_p_first_barred
  h76 : P.df 76 = some d_p_goes_on
  h77 : P.df 77 = some d_p_wishes
  h60 : P.df 60 = some d_p_all_orders
  h63 : P.df 63 = some d_p_least_form
  h246 : P.df 246 = some d_drawn_points
  hf : 2000 ≤ P.fuel
  hlaw : P.df 354 = some d_law17
theorem Made17.B {P : Prog} (M : Made17 P) : MadeB P := ⟨M.h23, M.h24, M.h34, M.h61, M.h69, M.h70, M.hg5⟩
theorem MOk.take {nm : Int} {w : List Pt} (h : MOk nm w) {k : Nat} : MOk nm (w.take k) := fun p hp => h p (List.mem_of_mem_take hp)
end G.Pl

set_option linter.all false
set_option maxRecDepth 100000
set_option maxHeartbeats 4000000
namespace G.Pl
open PySem
namespace Wp
end Wp
open scoped Wp
def d_p_goes_with : Def := { params := 6, slots := 8, body := [.ite (.cmp .ne (.sub (.sub (.var 1) (.var 4)) (.con (.int 0))) (.sub (.sub (.var 2) (.var 5)) (.con (.int 0)))) [.ret (.con (.bl false))] [], .for_ (.tup [.var 6, .var 7]) (.seq (.var 3)) [.ite (.or [.cmp .eq (.var 7) (.var 5), .cmp .ne (.call 34 [.var 0, .var 1, .var 4, .var 6]) (.call 34 [.var 0, .var 2, .var 5, .var 7])]) [.ret (.con (.bl false))] []], .ret (.con (.bl true))] }  -- 121: 0 rule, 1 one, 2 other, 3 pairs, 4 point, 5 fellow, 6 ahead, 7 matched
def d_p_longer_by : Def := { params := 5, slots := 7, body := [.asg (.var 5) (.lst []), .for_ (.var 6) (.range1 (.blt .len (.var 2))) [.ite (.call 121 [.var 0, .var 1, .var 2, .var 3, .var 4, .var 6]) [.mut (.var 5) .append [.bin .add (.var 3) (.tup [.tup [.var 4, .var 6]])]] []], .ret (.take 5)] }  -- 122: 0 rule, 1 one, 2 other, 3 pairs, 4 point, 5 found, 6 fellow
def d_p_likenesses : Def := { params := 3, slots := 8, body := [.asg (.var 3) (.lst [.tup []]), .for_ (.var 4) (.range1 (.blt .len (.var 1))) [.asg (.var 5) (.lst []), .for_ (.var 6) (.seq (.var 3)) [.mut (.var 5) .extend [.call 122 [.var 0, .var 1, .var 2, .var 6, .var 4]]], .asg (.var 3) (.take 5)], .ret (.comp (.var 6) (.seq (.var 3)) none (.blt .tuple (.comp (.tup [.var 4, .var 7]) (.seq (.var 6)) none (.var 7))))] }  -- 123: 0 rule, 1 one, 2 other, 3 found, 4 point, 5 longer, 6 pairs, 7 fellow
/-! likenesses -/
/-- pairs of points: the ones in order, and their fellows -/
def prD (t : List Nat) (a : Nat) : D := .tup [.int (a : Nat), .int (t.getD a 0 : Nat)]
def prsD (t : List Nat) : D := .tup ((List.range t.length).map (prD t))
def goesB (bk : List Int) (one other : List Pt) (t : List Nat) (f : Nat) : Bool := decide ((ptAt one t.length).1 = (ptAt other f).1) && (List.range t.length).all fun a => !(decide (t.getD a 0 = f) || decide (betwF bk one t.length a ≠ betwF bk other f (t.getD a 0)))
def likeF (bk : List Int) (one other : List Pt) : Nat → List (List Nat)
  | 0 => [[]]
  | k + 1 => (likeF bk one other k).flatMap fun t => ((List.range other.length).filter (goesB bk one other t)).map fun f => t ++ [f]
section
variable {s : S}
@[scoped simp] theorem Wp.seenPr {o : Bool} {t : List Nat} {K : D → S → Prop} : Wp (G.seen (o, prsD t)) s K ↔ K (prsD t) s := Wp.ret
theorem Wp.stillT {i : Nat} {o : Bool} {t : List D} {p : D} {K : Bool → S → Prop} : Wp (G.still (.var i) (o, .tup t) p) s K ↔ (match s.l[i]? with | some (some v) => K (D.beq v.2 p) s | _ => False) := by
  show Wp (do let v ← G.getS i; M.ret (D.beq v.2 p)) s K ↔ _
  simp only [Wp.bind, Wp.getS, Wp.ret]
  try exact Iff.rfl
@[scoped simp] theorem Wp.stillPr {i : Nat} {o : Bool} {t : List Nat} {p : D} {K : Bool → S → Prop} : Wp (G.still (.var i) (o, prsD t) p) s K ↔ (match s.l[i]? with | some (some v) => K (D.beq v.2 p) s | _ => False) := by
  show Wp (do let v ← G.getS i; M.ret (D.beq v.2 p)) s K ↔ _
  simp only [Wp.bind, Wp.getS, Wp.ret]
  try exact Iff.rfl
end
theorem lst_seq {xs : List D} : D.seq (.lst xs) = some xs := rfl
theorem tup_seq {xs : List D} : D.seq (.tup xs) = some xs := rfl
end G.Pl

set_option linter.all false
set_option maxRecDepth 100000
set_option maxHeartbeats 4000000
namespace G.Pl
open PySem
namespace Wp
end Wp
open scoped Wp
/-! texts of worlds, plain -/
def S0 : Str := ⟨#[]⟩
def wAt (l : List Str) (x : Int) : Str := l.getD x.toNat S0
def ptT (ms ws : List Str) (p : Pt) : Str := Txt.join (Str.ofString " ") (wAt ms p.1 :: p.2.map fun x => wAt ws x)
def wT (ms ws : List Str) (w : List Pt) : Str := Txt.join (Str.ofString " ; ") (w.map (ptT ms ws))
theorem tl_sp : TL.tl (Str.ofString " ") = [32] := by decide +kernel
theorem tl_sc : TL.tl (Str.ofString " ; ") = [32, 59, 32] := by decide +kernel
theorem tl_join2 {y : Str} {parts : List Str} : TL.tl (Txt.join y parts) = TL.joinL (TL.tl y) (parts.map TL.tl) := by rw [TL.join_eq, TL.tl_join]
theorem join_lenZ {y : Str} {parts : List Str} : (Txt.join y parts).length ≤ (parts.map (·.length)).sum + parts.length * y.length := by
  rw [TL.join_eq]; exact StrLaws.join_length_le y parts
theorem joinL_mem {S : List Nat} {c : Nat} : ∀ {l : List (List Nat)}, c ∈ TL.joinL S l → c ∈ S ∨ ∃ p ∈ l, c ∈ p
  | [], h => nomatch h
  | [p], h => .inr ⟨p, by simp, h⟩
  | p :: q :: r, h => by
    have h : c ∈ p ++ (S ++ TL.joinL S (q :: r)) := h
    rcases List.mem_append.mp h with h | h
    · exact .inr ⟨p, by simp, h⟩
    · rcases List.mem_append.mp h with h | h
      · exact .inl h
      · rcases joinL_mem h with h | ⟨a, ha, h⟩
        · exact .inl h
        · exact .inr ⟨a, List.mem_cons_of_mem _ ha, h⟩
theorem joinL_first {S p : List Nat} : ∀ {r : List (List Nat)}, p.length ≤ (TL.joinL S (p :: r)).length
  | [] => Nat.le_refl _
  | q :: r => by
    show p.length ≤ (p ++ (S ++ TL.joinL S (q :: r))).length
    rw [List.length_append]; omega
theorem let_no {t : Str} (h : Lets t) {c : Nat} (hc : c < 97) : c ∉ TL.tl t := fun z => by
  have := (h c z).1
  omega
/-- " ; " begins nowhere in what has no ";" -/
theorem pre_no : ∀ {l : List Nat}, (∀ a b r, l = a :: b :: r → b ≠ 59) → TL.pre [32, 59, 32] l = false
  | [], _ => by simp [TL.pre]
  | [a], _ => by simp [TL.pre]
  | a :: b :: r, h => by
    have := h a b r rfl
    simp [TL.pre, this]
theorem free_sc : ∀ {p : List Nat}, 59 ∉ p → SX.free [32, 59, 32] p = true
  | [], _ => rfl
  | c :: r, h => by
    show (!(TL.pre [32, 59, 32] (c :: (r ++ [32, 59, 32]))) && SX.free [32, 59, 32] r) = true
    rw [Bool.and_eq_true, Bool.not_eq_true']
    refine ⟨pre_no fun a b q e => ?_, free_sc fun z => h (List.mem_cons_of_mem _ z)⟩
    cases r with
    | nil => cases e; decide
    | cons d r =>
      cases e
      intro z
      subst z
      exact h (by simp)
theorem spl_sc : ∀ {parts : List (List Nat)}, parts ≠ [] → (∀ p ∈ parts, 59 ∉ p) → TL.spl [32, 59, 32] 0 [] (TL.joinL [32, 59, 32] parts) = parts
  | [], h, _ => absurd rfl h
  | [p], _, hp => by
    show TL.spl [32, 59, 32] 0 [] p = [p]
    have h := hp p (by simp)
    rw [TL.spl_last fun i hi => pre_no fun a b r e z => ?_, List.nil_append]
    subst z
    exact h (List.mem_of_mem_drop (i := i) (by rw [e]; simp))
  | p :: q :: r, _, hp => by
    show TL.spl [32, 59, 32] 0 [] (p ++ ([32, 59, 32] ++ TL.joinL [32, 59, 32] (q :: r))) = p :: q :: r
    rw [SX.spl_free _ (by simp) (free_sc (hp p (by simp))), spl_sc (by simp) fun z hz => hp z (List.mem_cons_of_mem _ hz)]
theorem split_sc {parts : List Str} (hne : parts ≠ []) (hp : ∀ p ∈ parts, 59 ∉ TL.tl p) : Txt.split (Txt.join (Str.ofString " ; ") parts) (Str.ofString " ; ") = parts := by
  refine TL.map_tl_inj ?_
  rw [TL.split_spl _ _ (by rw [tl_sc]; simp) (TL.kind_ok (by decide +kernel)), tl_join2, tl_sc]
  refine spl_sc (fun e => hne (List.map_eq_nil_iff.mp e)) fun p h => ?_
  obtain ⟨s, hs, rfl⟩ := List.mem_map.mp h
  exact hp s hs
theorem split_sp {parts : List Str} (hne : parts ≠ []) (hp : ∀ p ∈ parts, 32 ∉ TL.tl p) : Txt.split (Txt.join (Str.ofString " ") parts) (Str.ofString " ") = parts :=
  TL.split_join (S := []) tl_sp (by decide +kernel) hne hp
/-- the words of a rule -/
structure Nms (r : RuleR) (ms ws : List Str) : Prop where
  m : r.nm = ms.map D.str
  w : r.wn = ws.map D.str
  mw : ∀ t ∈ ms, Word t
  ww : ∀ t ∈ ws, Word t
  md : ms.Nodup
  wd : ws.Nodup
theorem Words.strs : ∀ {ds : List D}, Words ds → ∃ ys : List Str, ds = ys.map D.str ∧ ∀ y ∈ ys, Word y
  | [], _ => ⟨[], rfl, fun y hy => nomatch hy⟩
  | d :: ds, h => by
    obtain ⟨t, rfl, ht⟩ := h d List.mem_cons_self
    obtain ⟨ys, rfl, hy⟩ := Words.strs (ds := ds) fun x hx => h x (List.mem_cons_of_mem _ hx)
    exact ⟨t :: ys, rfl, fun y z => by
      rcases List.mem_cons.mp z with rfl | z
      · exact ht
      · exact hy y z⟩
theorem nodup_of_map {α β : Type} {f : α → β} {l : List α} (h : (l.map f).Nodup) : l.Nodup := by
  unfold List.Nodup at h ⊢
  rw [List.pairwise_map] at h
  exact h.imp fun hne e => hne (by rw [e])
theorem RuleR.Ok.nms {r : RuleR} (h : r.Ok) : ∃ ms ws, Nms r ms ws := by
  obtain ⟨ms, em, hm⟩ := h.nmw.strs
  obtain ⟨ws, ew, hw⟩ := h.wnw.strs
  have hd := h.dis
  rw [em, ew] at hd
  have h2 := (List.nodup_append.mp hd).2.1
  obtain ⟨a, b, _⟩ := List.nodup_append.mp h2
  exact ⟨ms, ws, em, ew, hm, hw, nodup_of_map a, nodup_of_map b⟩
theorem find_nodup {ms : List Str} (h : ms.Nodup) {i : Nat} (hi : i < ms.length) : ms.findIdx? (fun a => a == ms[i]) = some i := by
  refine List.findIdx?_eq_some_iff_getElem.mpr ⟨hi, by simp, fun j hj => ?_⟩
  have hne : ms[j] ≠ ms[i] := fun e => by
    have hp := List.pairwise_iff_getElem.mp h j i (by omega) hi hj
    exact hp e
  simpa using hne
section
variable {r : RuleR} {ms ws : List Str}
/-- the words of a point -/
def ptW (ms ws : List Str) (p : Pt) : List Str := wAt ms p.1 :: p.2.map fun x => wAt ws x
structure PtIn (nm nw : Nat) (p : Pt) : Prop where
  m0 : 0 ≤ p.1
  m1 : p.1 < nm
  w : ∀ x ∈ p.2, 0 ≤ x ∧ x < (nw : Int)
theorem wAt_in {l : List Str} {x : Int} (h0 : 0 ≤ x) (h1 : x < l.length) : ∃ h : x.toNat < l.length, wAt l x = l[x.toNat] := by
  have h : x.toNat < l.length := by omega
  exact ⟨h, by simp [wAt, h]⟩
theorem ptW_word (h : Nms r ms ws) {p : Pt} (hp : PtIn ms.length ws.length p) : ∀ t ∈ ptW ms ws p, Word t := fun t ht => by
  rcases List.mem_cons.mp ht with rfl | ht
  · obtain ⟨hi, e⟩ := wAt_in hp.m0 hp.m1
    rw [e]; exact h.mw _ (List.getElem_mem hi)
  · obtain ⟨x, hx, rfl⟩ := List.mem_map.mp ht
    obtain ⟨x0, x1⟩ := hp.w x hx
    obtain ⟨hi, e⟩ := wAt_in x0 x1
    rw [e]; exact h.ww _ (List.getElem_mem hi)
theorem sum_le {l : List Nat} {b : Nat} (h : ∀ x ∈ l, x ≤ b) : l.sum ≤ l.length * b := by
  induction l with
  | nil => simp
  | cons a l ih =>
    have h1 := h a (by simp)
    have h2 := ih fun x hx => h x (List.mem_cons_of_mem _ hx)
    rw [List.sum_cons, List.length_cons, Nat.succ_mul]
    omega
theorem words_sum {l : List Str} (h : ∀ t ∈ l, Word t) : (l.map (·.length)).sum ≤ l.length * 8 := by
  have := sum_le (l := l.map (·.length)) (b := 8) fun x hx => by
    obtain ⟨t, ht, rfl⟩ := List.mem_map.mp hx
    exact (h t ht).l8
  rwa [List.length_map] at this
theorem ptT_len (h : Nms r ms ws) {p : Pt} (hp : PtIn ms.length ws.length p) : (ptT ms ws p).length ≤ 9 * (p.2.length + 1) := by
  have h1 := join_lenZ (y := Str.ofString " ") (parts := ptW ms ws p)
  have h2 := words_sum (ptW_word h hp)
  have h3 : (ptW ms ws p).length = p.2.length + 1 := by simp [ptW]
  have h4 : (Str.ofString " ").length = 1 := by decide +kernel
  rw [h3] at h2
  rw [h3, h4] at h1
  show (Txt.join (Str.ofString " ") (ptW ms ws p)).length ≤ _
  omega
theorem ptT_code (h : Nms r ms ws) {p : Pt} (hp : PtIn ms.length ws.length p) : ∀ c ∈ TL.tl (ptT ms ws p), c = 32 ∨ (97 ≤ c ∧ c ≤ 122) := fun c hc => by
  have hc : c ∈ TL.tl (Txt.join (Str.ofString " ") (ptW ms ws p)) := hc
  rw [tl_join2, tl_sp] at hc
  rcases joinL_mem hc with hc | ⟨q, hq, hc⟩
  · exact .inl (by simpa using hc)
  · obtain ⟨t, ht, rfl⟩ := List.mem_map.mp hq
    exact .inr ((ptW_word h hp t ht).ls c hc)
theorem ptT_split (h : Nms r ms ws) {p : Pt} (hp : PtIn ms.length ws.length p) : Txt.split (ptT ms ws p) (Str.ofString " ") = ptW ms ws p :=
  split_sp (by simp [ptW]) fun t ht => let_no (ptW_word h hp t ht).ls (by omega)
theorem ptT_pos (h : Nms r ms ws) {p : Pt} (hp : PtIn ms.length ws.length p) : 1 ≤ (ptT ms ws p).length := by
  rw [TL.len_tl]
  show 1 ≤ (TL.tl (Txt.join (Str.ofString " ") (ptW ms ws p))).length
  rw [tl_join2]
  have h1 := (ptW_word h hp (wAt ms p.1) (by simp [ptW])).l1
  rw [TL.len_tl] at h1
  exact Nat.le_trans h1 joinL_first
theorem wT_split (h : Nms r ms ws) {w : List Pt} (hne : w ≠ []) (hp : ∀ p ∈ w, PtIn ms.length ws.length p) : Txt.split (wT ms ws w) (Str.ofString " ; ") = w.map (ptT ms ws) :=
  split_sc (fun e => hne (List.map_eq_nil_iff.mp e)) fun t ht => by
    obtain ⟨p, hp2, rfl⟩ := List.mem_map.mp ht
    intro z
    have := ptT_code h (hp p hp2) 59 z
    omega
theorem wT_len (h : Nms r ms ws) {w : List Pt} (hp : ∀ p ∈ w, PtIn ms.length ws.length p ∧ p.2.length ≤ 100) (hl : w.length ≤ 100) : ((w.map (ptT ms ws)).map (·.length)).sum + (w.map (ptT ms ws)).length * (Str.ofString " ; ").length ≤ 100000 := by
  have h4 : (Str.ofString " ; ").length = 3 := by decide +kernel
  have h1 := sum_le (l := (w.map (ptT ms ws)).map (·.length)) (b := 909) fun x hx => by
    obtain ⟨t, ht, rfl⟩ := List.mem_map.mp hx
    obtain ⟨p, hp2, rfl⟩ := List.mem_map.mp ht
    have := ptT_len h (hp p hp2).1
    have := (hp p hp2).2
    omega
  rw [List.length_map, List.length_map] at h1
  rw [h4, List.length_map]
  omega
theorem wT_ok (h : Nms r ms ws) {w : List Pt} (hp : ∀ p ∈ w, PtIn ms.length ws.length p) : PyData.strOk (wT ms ws w) = true := by
  show ((wT ms ws w).cps.all (· < 0x110000)) = true
  rw [← Array.all_toList, List.all_eq_true]
  intro c hc
  have hc : c ∈ TL.tl (Txt.join (Str.ofString " ; ") (w.map (ptT ms ws))) := hc
  rw [tl_join2, tl_sc] at hc
  have : c ≤ 122 := by
    rcases joinL_mem hc with hc | ⟨q, hq, hc⟩
    · simp at hc; omega
    · obtain ⟨t, ht, rfl⟩ := List.mem_map.mp hq
      obtain ⟨p, hp2, rfl⟩ := List.mem_map.mp ht
      have := ptT_code h (hp p hp2) c hc
      omega
  exact decide_eq_true (by omega)
theorem wT_nil : wT ms ws [] = Str.ofString "" := by
  show Txt.join _ [] = _
  rw [TL.join_eq]; rfl
theorem wT_ne (h : Nms r ms ws) {w : List Pt} (hne : w ≠ []) (hp : ∀ p ∈ w, PtIn ms.length ws.length p) : wT ms ws w ≠ Str.ofString "" := fun e => by
  have e1 : (TL.tl (wT ms ws w)).length = 0 := by rw [e]; rfl
  cases w with
  | nil => exact hne rfl
  | cons p w =>
    have e1 : (TL.tl (Txt.join (Str.ofString " ; ") (ptT ms ws p :: w.map (ptT ms ws)))).length = 0 := e1
    rw [tl_join2] at e1
    have h1 := ptT_pos h (hp p (by simp))
    rw [TL.len_tl] at h1
    have h2 := joinL_first (S := TL.tl (Str.ofString " ; ")) (p := TL.tl (ptT ms ws p)) (r := (w.map (ptT ms ws)).map TL.tl)
    rw [List.map_cons] at e1
    omega
end
end G.Pl

set_option linter.all false
set_option maxRecDepth 100000
set_option maxHeartbeats 4000000
namespace G.Pl
open PySem
namespace Wp
end Wp
open scoped Wp
def d_p_show_point : Def := { params := 2, slots := 5, body := [.asg (.tup [.var 2, .var 3]) (.var 1), .ret (.bm1 .join (.con (.str " ")) (.bin .add (.lst [.sub (.sub (.var 0) (.con (.int 0))) (.var 2)]) (.comp (.var 4) (.seq (.var 3)) none (.sub (.sub (.sub (.var 0) (.con (.int 1))) (.var 4)) (.con (.int 0))))))] }  -- 36: 0 rule, 1 point, 2 mark, 3 ways, 4 way
def d_p_show_world : Def := { params := 2, slots := 3, body := [.ret (.bm1 .join (.con (.str " ; ")) (.comp (.var 2) (.seq (.var 1)) none (.call 36 [.var 0, .var 2])))] }  -- 40: 0 rule, 1 world, 2 point
def d_p_read_point : Def := { params := 4, slots := 9, body := [.asg (.var 4) (.bm1 .split (.var 1) (.con (.str " "))), .asg (.var 5) (.comp (.tup [.var 6, .var 7]) (.seq (.sub (.var 0) (.con (.int 1)))) none (.var 6)), .ite (.or [.cmp .notin (.sub (.var 4) (.con (.int 0))) (.sub (.var 0) (.con (.int 0))), .cmp .ne (.blt .len (.var 4)) (.bin .add (.var 2) (.con (.int 1)))]) [.dead] [], .ite (.not (.blt .all (.comp (.var 8) (.seq (.slice (.var 4) (some (.con (.int 1))) none)) none (.cmp .in_ (.var 8) (.var 5))))) [.dead] [], .ret (.tup [.bm1 .indexT (.sub (.var 0) (.con (.int 0))) (.sub (.var 4) (.con (.int 0))), .blt .tuple (.comp (.var 8) (.seq (.slice (.var 4) (some (.con (.int 1))) none)) none (.bm1 .index (.var 5) (.var 8)))])] }  -- 37: 0 rule, 1 text, 2 many, 3 row, 4 words, 5 names, 6 name, 7 there, 8 word
def d_p_read_points : Def := { params := 3, slots := 5, body := [.ite (.cmp .eq (.var 1) (.con (.str ""))) [.ret (.tup [])] [], .asg (.var 3) (.bm1 .split (.var 1) (.con (.str " ; "))), .ret (.blt .tuple (.comp (.var 4) (.range1 (.blt .len (.var 3))) none (.call 37 [.var 0, .sub (.var 3) (.var 4), .var 4, .var 2])))] }  -- 38: 0 rule, 1 text, 2 row, 3 points, 4 k
def d_p_read_world : Def := { params := 2, slots := 2, body := [.ite (.not (.isinst (.var 1) [.str])) [.dead] [], .ret (.call 38 [.var 0, .var 1, .con (.int 0)])] }  -- 41: 0 rule, 1 text
def d_world_text : Def := { params := 2, slots := 6, body := [.asg (.var 2) (.lst []), .for_ (.tup [.var 3, .var 4]) (.seq (.var 1)) [.mut (.var 2) .append [.bm1 .join (.con (.str " ")) (.bin .add (.lst [.sub (.sub (.var 0) (.con (.int 0))) (.var 3)]) (.comp (.var 5) (.seq (.var 4)) none (.sub (.sub (.sub (.var 0) (.con (.int 1))) (.var 5)) (.con (.int 0)))))]], .ret (.bm1 .join (.con (.str " ; ")) (.var 2))] }  -- 39: 0 _law_rule_here, 1 _law_world, 2 _law_points, 3 _law_mark, 4 _law_to, 5 _law_k
def d_holds7 : Def := { params := 2, slots := 3, body := [.asg (.var 2) (.call 39 [.var 0, .var 1]), .ret (.and [.call 9 [.call 40 [.var 0, .var 1], .var 2], .call 9 [.call 41 [.var 0, .var 2], .var 1]])] }  -- 35: 0 _law_rule_here, 1 _law_world, 2 _law_due
def d_drawn7 : Def := { params := 1, slots := 3, body := [.asg (.var 1) (.call 18 [.var 0]), .asg (.var 2) (.call 2 [.var 0, .con (.int 10)]), .ite (.cmp .eq (.call 2 [.var 0, .con (.int 8)]) (.con (.int 0))) [.asg (.var 2) (.call 2 [.var 0, .con (.int 25)])] [], .ret (.tup [.var 1, .call 19 [.var 0, .var 1, .var 2]])] }  -- 42: 0 _law_flow_here, 1 _law_rule_here, 2 _law_many
def d_law07 : Def := { params := 1, slots := 7, body := [.asg (.var 1) (.call 17 [.var 0]), .asg (.tup [.var 2, .var 3]) (.call 42 [.var 1]), .asg (.tup [.var 4, .var 5]) (.call 42 [.var 1]), .for_ (.var 6) (.range1 (.bin .add (.blt2 .min2 (.con (.int 4)) (.blt .len (.var 3))) (.con (.int 1)))) [.ite (.not (.call 35 [.var 2, .slice (.var 3) none (some (.var 6))])) [.ret (.con (.bl false))] []], .ite (.or [.not (.call 35 [.var 2, .var 3]), .not (.call 35 [.var 4, .var 5])]) [.ret (.con (.bl false))] [], .ite (.and [.cmp .eq (.blt .len (.sub (.var 4) (.con (.int 0)))) (.blt .len (.sub (.var 2) (.con (.int 0)))), .cmp .eq (.blt .len (.sub (.var 4) (.con (.int 1)))) (.blt .len (.sub (.var 2) (.con (.int 1)))), .not (.call 35 [.var 4, .var 3])]) [.ret (.con (.bl false))] [], .ret (.call 35 [.var 2, .var 3])] }  -- 354: 0 _law_script, 1 _law_flow_here, 2 _law_one, 3 _law_world, 4 _law_other, 5 _law_second, 6 _law_k
theorem join_strs {y : Str} {parts : List Str} (hl : (parts.map (·.length)).sum + parts.length * y.length ≤ sizeMax) {d : D} (hd : d.seq = some (parts.map D.str)) : bmeth .join (.str y) [d] = some (false, .str (Txt.join y parts)) := by
  show (d.seq.bind fun xs => (asStrs xs).bind fun ys => if (ys.map (·.length)).sum + ys.length * y.length ≤ sizeMax then some (((false, D.str (Txt.join y ys)) : RV)) else none) = _
  rw [hd, Option.bind_some, asStrs_of rfl, Option.bind_some, if_pos hl]
theorem split_strs {x y : Str} (hy : (y.length == 0) = false) (hl : x.length + 2 ≤ sizeMax) : bmeth .split (.str x) [.str y] = some (true, .lst ((Txt.split x y).map D.str)) := by
  show (if y.length == 0 then none else if x.length + 2 ≤ sizeMax then some (((true, texts (Txt.split x y)) : RV)) else none) = _
  rw [hy, if_neg Bool.false_ne_true, if_pos hl]
  rfl
section
variable {P : Prog} {n : Nat} {m : Mem} {r : RuleR} {ms ws : List Str}
theorem mark_at (h : Nms r ms ws) {x : Int} (x0 : 0 ≤ x) (x1 : x < ms.length) : L2.atI r.nm x = some (.str (wAt ms x)) := by
  obtain ⟨hi, e⟩ := wAt_in (l := ms) x0 x1
  obtain ⟨k, rfl⟩ : ∃ k : Nat, x = (k : Nat) := ⟨x.toNat, by omega⟩
  rw [h.m, e, atI_map (by simpa using hi)]
  rfl
theorem way_at (hr : r.Ok) (h : Nms r ms ws) {x : Int} (x0 : 0 ≤ x) (x1 : x < ws.length) : ∃ b : Int, L2.atI (r.ways.map wayD) x = some (.tup [.str (wAt ws x), .int b]) := by
  obtain ⟨hi, e⟩ := wAt_in (l := ws) x0 x1
  obtain ⟨k, rfl⟩ : ∃ k : Nat, x = (k : Nat) := ⟨x.toNat, by omega⟩
  have hk : k < ws.length := by omega
  have hwn : r.wn.length = ws.length := by rw [h.w, List.length_map]
  have hkw : k < r.ways.length := by rw [hr.wlen, ← hr.wl, hwn]; exact hk
  refine ⟨r.ways[k].2, ?_⟩
  rw [e, atI_map hkw]
  have e1 : r.ways[k].1 = r.wn[k]'(by omega) := by
    simp [RuleR.ways]
  have e2 : r.wn[k]'(by omega) = .str ws[k] := by simp [h.w]
  show some (D.tup [r.ways[k].1, .int r.ways[k].2]) = _
  rw [e1, e2]
  rfl
theorem p_show_point_ok (h36 : P.df 36 = some d_p_show_point) (hr : r.Ok) (h : Nms r ms ws) {p : Pt} (hp : PtIn ms.length ws.length p) (hl : p.2.length ≤ 100) {K : RV → Mem → Prop} (hK : K (false, .str (ptT ms ws p)) m) :
    Says (callN P (n + 1) 36) [(false, r.d), (false, ptD p)] m K := by
  refine says_fn h36 rfl ?_
  simp only [d_p_show_point]
  have e1 := mark_at h hp.m0 hp.m1
  have hj : bmeth .join (.str (Str.ofString " ")) [.lst (D.str (wAt ms p.1) :: p.2.map fun x => D.str (wAt ws x))] = some (false, .str (ptT ms ws p)) := by
    refine join_strs (parts := ptW ms ws p) ?_ (by simp [ptW, D.seq, List.map_map, Function.comp_def])
    have h2 := words_sum (ptW_word h hp)
    have h3 : (ptW ms ws p).length = p.2.length + 1 := by simp [ptW]
    have h4 : (Str.ofString " ").length = 1 := by decide +kernel
    rw [h3] at h2
    rw [h3, h4]
    show _ ≤ 16777216
    omega
  ((try unfold Rest); rw [Wp.step]; simp (maxSteps := 2000000) [ex, ev, evs, evIt, evO, evAnd, evOr, boolM, mutPl, E.isVar, E.isFld, again, tgStore, tgStoreL, testM, Tg.slots, Tg.slotsL])
  simp only [ptD]
  simp (maxSteps := 2000000) [ex, ev, evs, evIt, evO, evAnd, evOr, boolM, mutPl, E.isVar, E.isFld, again, tgStore, tgStoreL, testM, Tg.slots, Tg.slotsL]
  unfold Rest
  ((try unfold Rest); rw [Wp.step]; simp (maxSteps := 2000000) [ex, ev, evs, evIt, evO, evAnd, evOr, boolM, mutPl, E.isVar, E.isFld, again, tgStore, tgStoreL, testM, Tg.slots, Tg.slotsL, e1, tup_seq])
  have hfl : D.flat (.tup (p.2.map D.int)) = true := flatL_all fun d hd => by
    obtain ⟨i, _, rfl⟩ := List.mem_map.mp hd
    rfl
  refine ⟨rfl, ?_⟩
  refine Wp.compA (xs := p.2) (g := D.int) (fun x => D.str (wAt ws x)) rfl (by show _ < 16777216; omega) ?_ ?_ ?_
  · intro x hx
    obtain ⟨x0, x1⟩ := hp.w x hx
    obtain ⟨b, e2⟩ := way_at hr h x0 x1
    simp (maxSteps := 2000000) [ex, ev, evs, evIt, evO, evAnd, evOr, boolM, mutPl, E.isVar, E.isFld, again, tgStore, tgStoreL, testM, Tg.slots, Tg.slotsL, e2]
  · simp [Wp.stillT, beq_flat _ hfl]
  · have hz1 : 1 + p.2.length ≤ sizeMax := by show _ ≤ 16777216; omega
    simp (maxSteps := 2000000) [ex, ev, evs, evIt, evO, evAnd, evOr, boolM, mutPl, E.isVar, E.isFld, again, tgStore, tgStoreL, testM, Tg.slots, Tg.slotsL, hz1, hj]
    rw [gc_len rfl]
    exact hK
theorem p_show_world_ok (h36 : P.df 36 = some d_p_show_point) (h40 : P.df 40 = some d_p_show_world) (hr : r.Ok) (h : Nms r ms ws) {w : List Pt} (hp : ∀ p ∈ w, PtIn ms.length ws.length p ∧ p.2.length ≤ 100) (hl : w.length ≤ 100) {K : RV → Mem → Prop} (hK : K (false, .str (wT ms ws w)) m) :
    Says (callN P (n + 2) 40) [(false, r.d), (false, wd w)] m K := by
  refine says_fn h40 rfl ?_
  simp only [d_p_show_world, wd]
  have hj : bmeth .join (.str (Str.ofString " ; ")) [.lst (w.map fun p => D.str (ptT ms ws p))] = some (false, .str (wT ms ws w)) := by
    refine join_strs (parts := w.map (ptT ms ws)) ?_ (by simp [D.seq, List.map_map, Function.comp_def])
    have := wT_len h hp hl
    show _ ≤ 16777216
    omega
  ((try unfold Rest); rw [Wp.step]; simp (maxSteps := 2000000) [ex, ev, evs, evIt, evO, evAnd, evOr, boolM, mutPl, E.isVar, E.isFld, again, tgStore, tgStoreL, testM, Tg.slots, Tg.slotsL, tup_seq])
  refine ⟨rfl, ?_⟩
  refine Wp.compA (xs := w) (g := ptD) (fun p => D.str (ptT ms ws p)) rfl (by show _ < 16777216; omega) ?_ ?_ ?_
  · intro p hpw
    simp (maxSteps := 2000000) [ex, ev, evs, evIt, evO, evAnd, evOr, boolM, mutPl, E.isVar, E.isFld, again, tgStore, tgStoreL, testM, Tg.slots, Tg.slotsL]
    refine p_show_point_ok (n := n) h36 hr h (hp p hpw).1 (hp p hpw).2 ?_
    simp
  · simp [Wp.stillT, beq_flat _ (show D.flat (.tup (w.map ptD)) = true from wd_flat)]
  · simp (maxSteps := 2000000) [ex, ev, evs, evIt, evO, evAnd, evOr, boolM, mutPl, E.isVar, E.isFld, again, tgStore, tgStoreL, testM, Tg.slots, Tg.slotsL, hj]
    rw [gc_len rfl]
    exact hK
theorem world_text_ok (h39 : P.df 39 = some d_world_text) (hr : r.Ok) (h : Nms r ms ws) {w : List Pt} (hp : ∀ p ∈ w, PtIn ms.length ws.length p ∧ p.2.length ≤ 100) (hl : w.length ≤ 100) {K : RV → Mem → Prop} (hK : K (false, .str (wT ms ws w)) m) :
    Says (callN P (n + 1) 39) [(false, r.d), (false, wd w)] m K := by
  refine says_fn h39 rfl ?_
  simp only [d_world_text, wd]
  have hj : bmeth .join (.str (Str.ofString " ; ")) [.lst (w.map fun p => D.str (ptT ms ws p))] = some (false, .str (wT ms ws w)) := by
    refine join_strs (parts := w.map (ptT ms ws)) ?_ (by simp [D.seq, List.map_map, Function.comp_def])
    have := wT_len h hp hl
    show _ ≤ 16777216
    omega
  ((try unfold Rest); rw [Wp.step]; simp (maxSteps := 2000000) [ex, ev, evs, evIt, evO, evAnd, evOr, boolM, mutPl, E.isVar, E.isFld, again, tgStore, tgStoreL, testM, Tg.slots, Tg.slotsL])
  unfold Rest
  ((try unfold Rest); rw [Wp.step]; simp (maxSteps := 2000000) [ex, ev, evs, evIt, evO, evAnd, evOr, boolM, mutPl, E.isVar, E.isFld, again, tgStore, tgStoreL, testM, Tg.slots, Tg.slotsL, tup_seq])
  have hwf : D.beq (.tup (w.map ptD)) (.tup (w.map ptD)) = true := beq_flat _ (show D.flat (.tup (w.map ptD)) = true from wd_flat)
  refine Wp.forA (xs := w) (g := ptD) (fun i s => ∃ c3 c4, s = ⟨[some (false, r.d), some (false, .tup (w.map ptD)), some (true, .lst ((w.take i).map fun p => D.str (ptT ms ws p))), c3, c4, none], m⟩) ⟨none, none, rfl⟩ ?_ ?_
  · rintro i hi s ⟨c3, c4, rfl⟩
    have e0 : w.take (i + 1) = w.take i ++ [w[i]] := List.take_succ_eq_append_getElem hi
    have hpi := hp w[i] (List.getElem_mem hi)
    generalize w[i] = p at e0 hpi ⊢
    obtain ⟨hp1, hp2⟩ := hpi
    have hzl : (w.take i).length < 16777216 := by rw [List.length_take]; omega
    rw [e0]
    have e1 := mark_at h hp1.m0 hp1.m1
    have hfl : D.flat (.tup (p.2.map D.int)) = true := flatL_all fun d hd => by
      obtain ⟨i, _, rfl⟩ := List.mem_map.mp hd
      rfl
    have hjp : bmeth .join (.str (Str.ofString " ")) [.lst (D.str (wAt ms p.1) :: p.2.map fun x => D.str (wAt ws x))] = some (false, .str (ptT ms ws p)) := by
      refine join_strs (parts := ptW ms ws p) ?_ (by simp [ptW, D.seq, List.map_map, Function.comp_def])
      have h2 := words_sum (ptW_word h hp1)
      have h3 : (ptW ms ws p).length = p.2.length + 1 := by simp [ptW]
      have h4 : (Str.ofString " ").length = 1 := by decide +kernel
      rw [h3] at h2
      rw [h3, h4]
      show _ ≤ 16777216
      omega
    have hz1 : 1 + p.2.length ≤ sizeMax := by show _ ≤ 16777216; omega
    simp only [ptD]
    simp [Wp.stillT, hwf, tgStore, tgStoreL]
    ((try unfold Rest); rw [Wp.step]; simp (maxSteps := 2000000) [ex, ev, evs, evIt, evO, evAnd, evOr, boolM, mutPl, E.isVar, E.isFld, again, tgStore, tgStoreL, testM, Tg.slots, Tg.slotsL, e1, tup_seq])
    refine ⟨rfl, ?_⟩
    refine Wp.compA (xs := p.2) (g := D.int) (fun x => D.str (wAt ws x)) rfl (by show _ < 16777216; omega) ?_ ?_ ?_
    · intro x hx
      obtain ⟨x0, x1⟩ := hp1.w x hx
      obtain ⟨b, e2⟩ := way_at hr h x0 x1
      simp (maxSteps := 2000000) [ex, ev, evs, evIt, evO, evAnd, evOr, boolM, mutPl, E.isVar, E.isFld, again, tgStore, tgStoreL, testM, Tg.slots, Tg.slotsL, e2]
    · simp [Wp.stillT, beq_flat _ hfl]
    · simp (maxSteps := 2000000) [ex, ev, evs, evIt, evO, evAnd, evOr, boolM, mutPl, E.isVar, E.isFld, again, tgStore, tgStoreL, testM, Tg.slots, Tg.slotsL, hz1, hjp]
      have hmn : min i w.length < sizeMax := by show _ < 16777216; omega
      simp [hmn]
      unfold Rest
      simp
  · rintro s ⟨c3, c4, rfl⟩
    simp [Wp.stillT, hwf]
    unfold Rest
    ((try unfold Rest); rw [Wp.step]; simp (maxSteps := 2000000) [ex, ev, evs, evIt, evO, evAnd, evOr, boolM, mutPl, E.isVar, E.isFld, again, tgStore, tgStoreL, testM, Tg.slots, Tg.slotsL, hj])
    refine ⟨rfl, ?_⟩
    rw [gc_len rfl]
    exact hK
theorem isIn_strsT {s : Str} {l : List Str} (hs : PyData.strOk s = true) (hl : ∀ x ∈ l, PyData.strOk x = true) : isIn (.str s) (.tup (l.map D.str)) = some (decide (s ∈ l)) ∧ isIn (.str s) (.lst (l.map D.str)) = some (decide (s ∈ l)) := by
  have h1 : D.flatL (l.map D.str) = true := flatL_all fun d hd => by
    obtain ⟨y, hy, rfl⟩ := List.mem_map.mp hd
    exact hl y hy
  have h2 : D.depL (l.map D.str) ≤ 0 := by
    clear h1 hl
    induction l with
    | nil => exact Nat.le_refl _
    | cons a l ih =>
      show max (D.dep (.str a)) (D.depL (l.map D.str)) ≤ 0
      exact Nat.max_le.mpr ⟨Nat.le_refl _, ih⟩
  have h3 : ((l.map D.str).any fun z => D.eqv z (.str s)) = decide (s ∈ l) := by
    rw [Bool.eq_iff_iff, List.any_eq_true, decide_eq_true_iff]
    constructor
    · rintro ⟨d, hd, q⟩
      obtain ⟨y, hy, rfl⟩ := List.mem_map.mp hd
      have q : y = s := by simpa [D.eqv] using q
      rw [← q]; exact hy
    · intro h
      exact ⟨.str s, List.mem_map.mpr ⟨s, h, rfl⟩, by simp [D.eqv]⟩
  have h4 : (D.str s).flat = true ∧ D.flatL (l.map D.str) = true ∧ (D.str s).dep ≤ 60 ∧ D.depL (l.map D.str) ≤ 59 := ⟨hs, h1, Nat.zero_le _, by omega⟩
  constructor
  · show (if _ then some ((l.map D.str).any fun z => D.eqv z (.str s)) else none) = _
    rw [if_pos h4, h3]
  · show (if _ then some ((l.map D.str).any fun z => D.eqv z (.str s)) else none) = _
    rw [if_pos h4, h3]
theorem p_read_point_ok (h37 : P.df 37 = some d_p_read_point) (hr : r.Ok) (h : Nms r ms ws) {p : Pt} (hp : PtIn ms.length ws.length p) (hl : p.2.length ≤ 100) {row : Int} {K : RV → Mem → Prop} (hK : K (false, ptD p) m) :
    Says (callN P (n + 1) 37) [(false, r.d), (false, .str (ptT ms ws p)), (false, .int (p.2.length : Nat)), (false, .int row)] m K := by
  refine says_fn h37 rfl ?_
  simp only [d_p_read_point]
  have hlen := ptT_len h hp
  have hs : bmeth .split (.str (ptT ms ws p)) [.str (Str.ofString " ")] = some (true, .lst ((ptW ms ws p).map D.str)) := by
    rw [split_strs (by decide +kernel) (by show _ ≤ 16777216; omega), ptT_split h hp]
  have hwok := fun t ht => (ptW_word h hp t ht).ls.ok
  have hst : bmTy .split (.str (ptT ms ws p)) = true := rfl
  ((try unfold Rest); rw [Wp.step]; simp (maxSteps := 2000000) [ex, ev, evs, evIt, evO, evAnd, evOr, boolM, mutPl, E.isVar, E.isFld, again, tgStore, tgStoreL, testM, Tg.slots, Tg.slotsL, hs, hst])
  unfold Rest
  ((try unfold Rest); rw [Wp.step]; simp (maxSteps := 2000000) [ex, ev, evs, evIt, evO, evAnd, evOr, boolM, mutPl, E.isVar, E.isFld, again, tgStore, tgStoreL, testM, Tg.slots, Tg.slotsL, tup_seq])
  have hz : r.ways.map wayD = r.ways.map fun q => .tup [q.1, .int q.2] := rfl
  rw [hz]
  have hwl : r.ways.length ≤ 3 := by
    have := (back_len hr.bk).2
    rw [hr.wlen]; exact this
  have hnames : r.ways.map (fun q => q.1) = ws.map D.str := by
    show (r.wn.zip r.bk).map Prod.fst = _
    rw [List.map_fst_zip (by rw [hr.wl]; exact Nat.le_refl _), h.w]
  refine Wp.comp2 (i := 6) (j := 7) (by decide) (xs := r.ways) (g := fun q => q.1) (h := fun q => .int q.2) (fun q => q.1) rfl rfl (by show _ < 16777216; omega) ?_ ?_ ?_
  · intro q hq
    have : ∃ t, q.1 = .str t := by
      have hm : q.1 ∈ r.ways.map (fun q => q.1) := List.mem_map.mpr ⟨q, hq, rfl⟩
      rw [hnames] at hm
      obtain ⟨t, _, e⟩ := List.mem_map.mp hm
      exact ⟨t, e.symm⟩
    obtain ⟨t, e⟩ := this
    simp [e]
  · simp [still]
  · rw [hnames]
    have hmo : ∀ x ∈ ms, PyData.strOk x = true := fun x hx => (h.mw x hx).ls.ok
    have hwo : ∀ x ∈ ws, PyData.strOk x = true := fun x hx => (h.ww x hx).ls.ok
    obtain ⟨hi, e0⟩ := wAt_in (l := ms) hp.m0 hp.m1
    have ht0 : wAt ms p.1 ∈ ms := by rw [e0]; exact List.getElem_mem hi
    have hnin : compare .notin (.str (wAt ms p.1)) (.tup r.nm) = some false := by
      show (isIn _ _).map (!·) = _
      rw [h.m, (isIn_strsT (hmo _ ht0) hmo).1, decide_eq_true ht0]; rfl
    have hidx : bmeth .indexT (.tup r.nm) [.str (wAt ms p.1)] = some (false, .int p.1) := by
      show (asStrs r.nm).bind (fun ns => (ns.findIdx? fun a => a == wAt ms p.1).map fun j => (((false, D.int (j : Nat)) : RV))) = _
      rw [h.m, asStrs_of rfl, Option.bind_some, e0, find_nodup h.md hi]
      show some ((false, D.int (p.1.toNat : Nat)) : RV) = _
      rw [Int.toNat_of_nonneg hp.m0]
    have hin : ∀ x ∈ p.2, compare .in_ (.str (wAt ws x)) (.lst (ws.map D.str)) = some true := fun x hx => by
      obtain ⟨x0, x1⟩ := hp.w x hx
      obtain ⟨hi, e⟩ := wAt_in (l := ws) x0 x1
      have ht : wAt ws x ∈ ws := by rw [e]; exact List.getElem_mem hi
      show isIn (.str (wAt ws x)) (.lst (ws.map D.str)) = _
      rw [(isIn_strsT (hwo _ ht) hwo).2, decide_eq_true ht]
    have hid : ∀ x ∈ p.2, bmeth .index (.lst (ws.map D.str)) [.str (wAt ws x)] = some (false, .int x) := fun x hx => by
      obtain ⟨x0, x1⟩ := hp.w x hx
      obtain ⟨hi, e⟩ := wAt_in (l := ws) x0 x1
      show (asStrs (ws.map D.str)).bind (fun ns => (ns.findIdx? fun a => a == wAt ws x).map fun j => (((false, D.int (j : Nat)) : RV))) = _
      rw [asStrs_of rfl, Option.bind_some, e, find_nodup h.wd hi]
      show some ((false, D.int (x.toNat : Nat)) : RV) = _
      rw [Int.toNat_of_nonneg x0]
    have hcutp : cut ((ptW ms ws p).map D.str) (some 1) none = p.2.map fun x => D.str (wAt ws x) := by
      rw [cut_lo (by omega) (by simp [ptW]; omega)]
      simp [ptW, Function.comp_def]
    have hat0 : L2.atI ((ptW ms ws p).map D.str) 0 = some (.str (wAt ms p.1)) := by
      have := atI_map (f := D.str) (xs := ptW ms ws p) (i := 0) (by simp [ptW])
      simpa [ptW] using this
    have hpl : (ptW ms ws p).length = p.2.length + 1 := by simp [ptW]
    have hall : builtin .all [.lst (p.2.map fun _ => D.bl true)] = some (false, .bl true) := builtin_all_true (by
      intro d hd
      obtain ⟨_, _, e⟩ := List.mem_map.mp hd
      exact e.symm)
    generalize ptW ms ws p = W at hs hwok hcutp hat0 hpl ⊢
    simp
    unfold Rest
    ((try unfold Rest); rw [Wp.step]; simp (maxSteps := 2000000) [ex, ev, evs, evIt, evO, evAnd, evOr, boolM, mutPl, E.isVar, E.isFld, again, tgStore, tgStoreL, testM, Tg.slots, Tg.slotsL, hat0, hnin])
    rw [if_pos (by rw [hpl]; simp)]
    unfold Rest
    ((try unfold Rest); rw [Wp.step]; simp (maxSteps := 2000000) [ex, ev, evs, evIt, evO, evAnd, evOr, boolM, mutPl, E.isVar, E.isFld, again, tgStore, tgStoreL, testM, Tg.slots, Tg.slotsL, sl_lst, hcutp, lst_seq])
    refine Wp.compA (xs := p.2) (g := fun x => D.str (wAt ws x)) (fun _ => D.bl true) rfl (by show _ < 16777216; omega) ?_ ?_ ?_
    · intro x hx
      simp (maxSteps := 2000000) [ex, ev, evs, evIt, evO, evAnd, evOr, boolM, mutPl, E.isVar, E.isFld, again, tgStore, tgStoreL, testM, Tg.slots, Tg.slotsL, hin x hx]
    · simp [still]
    · simp (maxSteps := 2000000) [ex, ev, evs, evIt, evO, evAnd, evOr, boolM, mutPl, E.isVar, E.isFld, again, tgStore, tgStoreL, testM, Tg.slots, Tg.slotsL, hall]
      unfold Rest
      ((try unfold Rest); rw [Wp.step]; simp (maxSteps := 2000000) [ex, ev, evs, evIt, evO, evAnd, evOr, boolM, mutPl, E.isVar, E.isFld, again, tgStore, tgStoreL, testM, Tg.slots, Tg.slotsL, hat0, hidx, sl_lst, hcutp, lst_seq])
      refine ⟨rfl, ?_⟩
      refine Wp.compA (xs := p.2) (g := fun x => D.str (wAt ws x)) D.int rfl (by show _ < 16777216; omega) ?_ ?_ ?_
      · intro x hx
        simp (maxSteps := 2000000) [ex, ev, evs, evIt, evO, evAnd, evOr, boolM, mutPl, E.isVar, E.isFld, again, tgStore, tgStoreL, testM, Tg.slots, Tg.slotsL, hid x hx]
        try rfl
      · simp [still]
      · simp (maxSteps := 2000000) [ex, ev, evs, evIt, evO, evAnd, evOr, boolM, mutPl, E.isVar, E.isFld, again, tgStore, tgStoreL, testM, Tg.slots, Tg.slotsL]
        rw [gc_len rfl]
        exact hK
theorem p_read_points_ok (h37 : P.df 37 = some d_p_read_point) (h38 : P.df 38 = some d_p_read_points) (hr : r.Ok) (h : Nms r ms ws) {w : List Pt} (hw : ∀ i (hi : i < w.length), (w[i]).2.length = i) (hp : ∀ p ∈ w, PtIn ms.length ws.length p ∧ p.2.length ≤ 100) (hl : w.length ≤ 100) {row : Int} {K : RV → Mem → Prop} (hK : K (false, wd w) m) :
    Says (callN P (n + 2) 38) [(false, r.d), (false, .str (wT ms ws w)), (false, .int row)] m K := by
  refine says_fn h38 rfl ?_
  simp only [d_p_read_points]
  have hp1 : ∀ p ∈ w, PtIn ms.length ws.length p := fun p hp2 => (hp p hp2).1
  by_cases hne : w = []
  · subst hne
    rw [wT_nil]
    ((try unfold Rest); rw [Wp.step]; simp (maxSteps := 2000000) [ex, ev, evs, evIt, evO, evAnd, evOr, boolM, mutPl, E.isVar, E.isFld, again, tgStore, tgStoreL, testM, Tg.slots, Tg.slotsL])
    ((try unfold Rest); rw [Wp.step]; simp (maxSteps := 2000000) [ex, ev, evs, evIt, evO, evAnd, evOr, boolM, mutPl, E.isVar, E.isFld, again, tgStore, tgStoreL, testM, Tg.slots, Tg.slotsL])
    rw [gc_len rfl]
    exact hK
  · have h1 := wT_ne h hne hp1
    have h2 := wT_len h hp hl
    have h3 := join_lenZ (y := Str.ofString " ; ") (parts := w.map (ptT ms ws))
    have hlen : (wT ms ws w).length ≤ 100000 := Nat.le_trans h3 h2
    have hs : bmeth .split (.str (wT ms ws w)) [.str (Str.ofString " ; ")] = some (true, .lst (w.map fun p => D.str (ptT ms ws p))) := by
      rw [split_strs (by decide +kernel) (by show _ ≤ 16777216; omega), wT_split h hne hp1, List.map_map]
      rfl
    have hst : bmTy .split (.str (wT ms ws w)) = true := rfl
    generalize wT ms ws w = tx at h1 hs hst
    ((try unfold Rest); rw [Wp.step]; simp (maxSteps := 2000000) [ex, ev, evs, evIt, evO, evAnd, evOr, boolM, mutPl, E.isVar, E.isFld, again, tgStore, tgStoreL, testM, Tg.slots, Tg.slotsL, h1])
    unfold Rest
    ((try unfold Rest); rw [Wp.step]; simp (maxSteps := 2000000) [ex, ev, evs, evIt, evO, evAnd, evOr, boolM, mutPl, E.isVar, E.isFld, again, tgStore, tgStoreL, testM, Tg.slots, Tg.slotsL, hs, hst])
    unfold Rest
    ((try unfold Rest); rw [Wp.step]; simp (maxSteps := 2000000) [ex, ev, evs, evIt, evO, evAnd, evOr, boolM, mutPl, E.isVar, E.isFld, again, tgStore, tgStoreL, testM, Tg.slots, Tg.slotsL, show (w.length : Int) < 16777216 by omega, show -4611686018427387904 ≤ (w.length : Int) by omega])
    refine Wp.compR (n := w.length) (fun a => ptD (ptAt w a)) rfl (by show _ < 16777216; omega) ?_ ?_ ?_
    · intro a ha
      have e0 : L2.atI (w.map fun p => D.str (ptT ms ws p)) (a : Int) = some (.str (ptT ms ws w[a])) := atI_map ha
      have e1 : ptAt w a = w[a] := by simp [ptAt, ha]
      have hpa := hp w[a] (List.getElem_mem ha)
      simp (maxSteps := 2000000) [ex, ev, evs, evIt, evO, evAnd, evOr, boolM, mutPl, E.isVar, E.isFld, again, tgStore, tgStoreL, testM, Tg.slots, Tg.slotsL, e0]
      have q := fun K hK => p_read_point_ok (n := n) (m := m) h37 hr h hpa.1 hpa.2 (row := row) (K := K) hK
      rw [hw a ha] at q
      refine q _ ?_
      simp [e1]
    · simp [still]
    · have e2 : (List.range w.length).map (fun a => ptD (ptAt w a)) = w.map ptD := by
        refine List.ext_getElem (by simp) fun i h1 h2 => ?_
        simp at h1 h2
        simp [ptAt, h2]
      rw [e2]
      simp (maxSteps := 2000000) [ex, ev, evs, evIt, evO, evAnd, evOr, boolM, mutPl, E.isVar, E.isFld, again, tgStore, tgStoreL, testM, Tg.slots, Tg.slotsL]
      rw [gc_len rfl]
      exact hK
theorem p_read_world_ok (h37 : P.df 37 = some d_p_read_point) (h38 : P.df 38 = some d_p_read_points) (h41 : P.df 41 = some d_p_read_world) (hr : r.Ok) (h : Nms r ms ws) {w : List Pt} (hw : ∀ i (hi : i < w.length), (w[i]).2.length = i) (hp : ∀ p ∈ w, PtIn ms.length ws.length p ∧ p.2.length ≤ 100) (hl : w.length ≤ 100) {K : RV → Mem → Prop} (hK : K (false, wd w) m) :
    Says (callN P (n + 3) 41) [(false, r.d), (false, .str (wT ms ws w))] m K := by
  refine says_fn h41 rfl ?_
  simp only [d_p_read_world]
  ((try unfold Rest); rw [Wp.step]; simp (maxSteps := 2000000) [ex, ev, evs, evIt, evO, evAnd, evOr, boolM, mutPl, E.isVar, E.isFld, again, tgStore, tgStoreL, testM, Tg.slots, Tg.slotsL])
  unfold Rest
  ((try unfold Rest); rw [Wp.step]; simp (maxSteps := 2000000) [ex, ev, evs, evIt, evO, evAnd, evOr, boolM, mutPl, E.isVar, E.isFld, again, tgStore, tgStoreL, testM, Tg.slots, Tg.slotsL])
  refine p_read_points_ok (n := n) h37 h38 hr h hw hp hl ?_
  try simp
  rw [gc_len rfl]
  exact hK
theorem holds7_ok (h9 : P.df 9 = some d_alike) (h35 : P.df 35 = some d_holds7) (h36 : P.df 36 = some d_p_show_point) (h37 : P.df 37 = some d_p_read_point) (h38 : P.df 38 = some d_p_read_points) (h39 : P.df 39 = some d_world_text) (h40 : P.df 40 = some d_p_show_world) (h41 : P.df 41 = some d_p_read_world)
    (hr : r.Ok) {w : List Pt} (hw : WOk r.bk.length w) (hm : MOk r.nm.length w) (hl : w.length ≤ 100) {K : RV → Mem → Prop} (hK : K (false, .bl true) m) :
    Says (callN P (n + 6) 35) [(false, r.d), (false, wd w)] m K := by
  refine says_fn h35 rfl ?_
  simp only [d_holds7]
  obtain ⟨ms, ws, h⟩ := hr.nms
  have hml : ms.length = r.nm.length := by rw [h.m, List.length_map]
  have hwl : ws.length = r.bk.length := by rw [← hr.wl, h.w, List.length_map]
  have hp : ∀ p ∈ w, PtIn ms.length ws.length p ∧ p.2.length ≤ 100 := fun p hp => by
    obtain ⟨i, hi, rfl⟩ := List.getElem_of_mem hp
    have := hm w[i] hp
    refine ⟨⟨this.1, by rw [hml]; exact this.2, fun x hx => by rw [hwl]; exact hw.wy i hi x hx⟩, ?_⟩
    have := hw.len i hi
    omega
  have htok := wT_ok h (w := w) fun p q => (hp p q).1
  ((try unfold Rest); rw [Wp.step]; simp (maxSteps := 2000000) [ex, ev, evs, evIt, evO, evAnd, evOr, boolM, mutPl, E.isVar, E.isFld, again, tgStore, tgStoreL, testM, Tg.slots, Tg.slotsL])
  refine world_text_ok (n := n + 4) h39 hr h hp hl ?_
  unfold Rest
  ((try unfold Rest); rw [Wp.step]; simp (maxSteps := 2000000) [ex, ev, evs, evIt, evO, evAnd, evOr, boolM, mutPl, E.isVar, E.isFld, again, tgStore, tgStoreL, testM, Tg.slots, Tg.slotsL])
  refine p_show_world_ok (n := n + 3) h36 h40 hr h hp hl ?_
  try simp
  refine alike_refl h9 (n := n + 4) 0 (.str (wT ms ws w)) (Nat.le_refl _) htok ?_
  try simp
  refine p_read_world_ok (n := n + 2) h37 h38 h41 hr h hw.len hp hl ?_
  try simp
  obtain ⟨t1, t2⟩ := wd_tame hw.short (by omega)
  refine alike_refl h9 (n := n + 1) 3 _ t1 t2 ?_
  try simp
  rw [gc_len rfl]
  exact hK
end
theorem drawn7_ok {P : Prog} {n : Nat} (M : Made2 P) (h18 : P.df 18 = some d_rule1) (h19 : P.df 19 = some d_any_world) (h42 : P.df 42 = some d_drawn7) {f : Flow} {m : Mem} (ok : f.Ok) {K : RV → Mem → Prop}
    (hK : ∀ (r : RuleR) w f', r.Ok → WOk r.bk.length w → MOk r.nm.length w → w.length ≤ 24 → Flow.Ok f' → K (false, .tup [r.d, wd w]) (fl f' :: m)) :
    Says (callN P (n + 9) 42) [(false, .obj 0)] (fl f :: m) K := by
  refine says_fn h42 rfl ?_
  simp only [d_drawn7]
  ((try unfold Rest); rw [Wp.step]; simp (maxSteps := 2000000) [ex, ev, evs, evIt, evO, evAnd, evOr, boolM, mutPl, E.isVar, E.isFld, again, tgStore, tgStoreL, testM, Tg.slots, Tg.slotsL])
  refine rule1_ok (n := n) M h18 ok fun r f1 hr ok1 => ?_
  unfold Rest
  ((try unfold Rest); rw [Wp.step]; simp (maxSteps := 2000000) [ex, ev, evs, evIt, evO, evAnd, evOr, boolM, mutPl, E.isVar, E.isFld, again, tgStore, tgStoreL, testM, Tg.slots, Tg.slotsL])
  refine pickK M.h2 (by omega) (by omega) ok1 fun x f2 x0 x1 ok2 => ?_
  unfold Rest
  ((try unfold Rest); rw [Wp.step]; simp (maxSteps := 2000000) [ex, ev, evs, evIt, evO, evAnd, evOr, boolM, mutPl, E.isVar, E.isFld, again, tgStore, tgStoreL, testM, Tg.slots, Tg.slotsL])
  refine pickK M.h2 (by omega) (by omega) ok2 fun y f3 y0 y1 ok3 => ?_
  have fin : ∀ (z : Int) f4, 0 ≤ z → z ≤ 24 → Flow.Ok f4 → Wp (exs P (gam P (n + 8)) [.ret (.tup [.var 1, .call 19 [.var 0, .var 1, .var 2]])]) ⟨[some (false, .obj 0), some (false, r.d), some (false, .int z)], fl f4 :: m⟩ (fun f s => match f with
      | .ret v => K (gc (m.length + 1) v s.m).1 (gc (m.length + 1) v s.m).2
      | .next => K (gc (m.length + 1) (false, .non) s.m).1 (gc (m.length + 1) (false, .non) s.m).2
      | .brk => False) := by
    intro z f4 z0 z1 ok4
    ((try unfold Rest); rw [Wp.step]; simp (maxSteps := 2000000) [ex, ev, evs, evIt, evO, evAnd, evOr, boolM, mutPl, E.isVar, E.isFld, again, tgStore, tgStoreL, testM, Tg.slots, Tg.slotsL])
    refine any_world_ok (n := n + 6) M.h2 h19 ok4 hr z0 (by omega) fun w f5 hw hwl hwm ok5 => ?_
    try simp
    rw [gc_same (n := m.length + 1) (m := fl f5 :: m) rfl]
    exact hK r w f5 hr hw hwm (by omega) ok5
  by_cases hy : y = 0
  · simp [hy]
    ((try unfold Rest); rw [Wp.step]; simp (maxSteps := 2000000) [ex, ev, evs, evIt, evO, evAnd, evOr, boolM, mutPl, E.isVar, E.isFld, again, tgStore, tgStoreL, testM, Tg.slots, Tg.slotsL])
    refine pickK M.h2 (by omega) (by omega) ok3 fun z f4 z0 z1 ok4 => ?_
    try unfold Rest
    try simp
    try unfold Rest
    try simp
    exact fin z f4 z0 (by omega) ok4
  · simp [hy]
    unfold Rest
    try simp
    exact fin x f3 x0 (by omega) ok3
structure Made07 (P : Prog) : Prop extends Made2 P where
  h18 : P.df 18 = some d_rule1
  h17 : P.df 17 = some d_flow1
  h19 : P.df 19 = some d_any_world
  h42 : P.df 42 = some d_drawn7
  h9 : P.df 9 = some d_alike
  h35 : P.df 35 = some d_holds7
  h36 : P.df 36 = some d_p_show_point
  h37 : P.df 37 = some d_p_read_point
  h38 : P.df 38 = some d_p_read_points
  h39 : P.df 39 = some d_world_text
  h40 : P.df 40 = some d_p_show_world
  h41 : P.df 41 = some d_p_read_world
  hlaw : P.df 354 = some d_law07
theorem law07_ok {P : Prog} {n : Nat} (M : Made07 P) (ns : List Int) : Says (callN P (n + 12) 354) [(false, .scr ns)] [] (fun r _ => r = (false, .bl true)) := by
  refine says_fn M.hlaw rfl ?_
  simp only [d_law07]
  ((try unfold Rest); rw [Wp.step]; simp (maxSteps := 2000000) [ex, ev, evs, evIt, evO, evAnd, evOr, boolM, mutPl, E.isVar, E.isFld, again, tgStore, tgStoreL, testM, Tg.slots, Tg.slotsL])
  refine flow1_ok M.h17 fun f ok => ?_
  unfold Rest
  ((try unfold Rest); rw [Wp.step]; simp (maxSteps := 2000000) [ex, ev, evs, evIt, evO, evAnd, evOr, boolM, mutPl, E.isVar, E.isFld, again, tgStore, tgStoreL, testM, Tg.slots, Tg.slotsL])
  refine drawn7_ok (n := n + 2) M.toMade2 M.h18 M.h19 M.h42 ok fun r w f1 hr hw hm hl ok1 => ?_
  simp
  unfold Rest
  ((try unfold Rest); rw [Wp.step]; simp (maxSteps := 2000000) [ex, ev, evs, evIt, evO, evAnd, evOr, boolM, mutPl, E.isVar, E.isFld, again, tgStore, tgStoreL, testM, Tg.slots, Tg.slotsL])
  refine drawn7_ok (n := n + 2) M.toMade2 M.h18 M.h19 M.h42 ok1 fun r2 w2 f2 hr2 hw2 hm2 hl2 ok2 => ?_
  have holds := fun {m : Mem} {r : RuleR} {w : List Pt} {K : RV → Mem → Prop} (hr : r.Ok) (hw : WOk r.bk.length w) (hm : MOk r.nm.length w) (hl : w.length ≤ 100) (hK : K (false, .bl true) m) => holds7_ok (n := n + 5) M.h9 M.h35 M.h36 M.h37 M.h38 M.h39 M.h40 M.h41 hr hw hm hl hK
  simp
  unfold Rest
  ((try unfold Rest); rw [Wp.step]; simp (maxSteps := 2000000) [ex, ev, evs, evIt, evO, evAnd, evOr, boolM, mutPl, E.isVar, E.isFld, again, tgStore, tgStoreL, testM, Tg.slots, Tg.slotsL])
  have hmin : builtin .min2 [.int 4, .int (w.length : Nat)] = some (false, .int ((min w.length 4 : Nat) : Int)) := by
    show some ((false, D.int (if ((w.length : Nat) : Int) < 4 then ((w.length : Nat) : Int) else 4)) : RV) = _
    by_cases h4 : w.length < 4
    · rw [if_pos (by omega), Nat.min_eq_left (by omega)]
    · rw [if_neg (by omega), Nat.min_eq_right (by omega)]; rfl
  have hadd : addD (.int ((min w.length 4 : Nat) : Int)) (.int 1) = some (false, .int ((min w.length 4 + 1 : Nat) : Int)) := by
    show some ((false, D.int _) : RV) = _
    rw [Int.natCast_add]; rfl
  have hb4 : min w.length 4 + 1 ≤ 5 := by omega
  rw [hmin]
  rw [Wp.ofS]
  have hs1 : ∀ {s : S} {i : Int} {K : D → S → Prop}, Wp (G.seen (false, .int i)) s K ↔ K (.int i) s := Wp.ret
  rw [hs1, hadd, Wp.ofS]
  generalize min w.length 4 + 1 = b at hb4
  have hbr : ((b : Nat) : Int) < 16777216 ∧ -4611686018427387904 ≤ ((b : Nat) : Int) := ⟨by omega, by omega⟩
  simp (maxSteps := 2000000) [ex, ev, evs, evIt, evO, evAnd, evOr, boolM, mutPl, E.isVar, E.isFld, again, tgStore, tgStoreL, testM, Tg.slots, Tg.slotsL, hbr]
  refine Wp.forR (n := b) (fun i s => ∃ c6, s = ⟨[some (false, .scr ns), some (false, .obj 0), some (false, r.d), some (false, wd w), some (false, r2.d), some (false, wd w2), c6], [fl f2]⟩) ⟨none, rfl⟩ ?_ ?_
  · rintro i s hi ⟨c6, rfl⟩
    have hc : cut (w.map ptD) none (some (i : Int)) = (w.take i).map ptD := by rw [cut_take (by omega), List.map_take]
    have hsl : sliced (wd w) none (some (i : Int)) = some (false, wd (w.take i)) := by
      show sliced (.tup (w.map ptD)) _ _ = _
      rw [sl_tup, hc]; rfl
    simp [tgStore]
    ((try unfold Rest); rw [Wp.step]; simp (maxSteps := 2000000) [ex, ev, evs, evIt, evO, evAnd, evOr, boolM, mutPl, E.isVar, E.isFld, again, tgStore, tgStoreL, testM, Tg.slots, Tg.slotsL, hsl])
    refine holds hr hw.take hm.take (by rw [List.length_take]; omega) ?_
    simp
    try unfold Rest
    try simp
  · rintro s ⟨c6, rfl⟩
    simp
    unfold Rest
    ((try unfold Rest); rw [Wp.step]; simp (maxSteps := 2000000) [ex, ev, evs, evIt, evO, evAnd, evOr, boolM, mutPl, E.isVar, E.isFld, again, tgStore, tgStoreL, testM, Tg.slots, Tg.slotsL])
    refine holds hr hw hm (by omega) ?_
    simp
    refine holds hr2 hw2 hm2 (by omega) ?_
    simp
    try unfold Rest
    ((try unfold Rest); rw [Wp.step]; simp (maxSteps := 2000000) [ex, ev, evs, evIt, evO, evAnd, evOr, boolM, mutPl, E.isVar, E.isFld, again, tgStore, tgStoreL, testM, Tg.slots, Tg.slotsL])
    have fin : Rest P (gam P (n + 11)) [Sm.ret (E.call 35 [E.var 2, E.var 3])] ⟨[some (false, .scr ns), some (false, .obj 0), some (false, r.d), some (false, wd w), some (false, r2.d), some (false, wd w2), c6], [fl f2]⟩ (fun f s => match f with
        | .ret v => (gc 0 v s.m).1 = (false, .bl true)
        | .next => (gc 0 (false, .non) s.m).1 = (false, .bl true)
        | .brk => False) := by
      unfold Rest
      ((try unfold Rest); rw [Wp.step]; simp (maxSteps := 2000000) [ex, ev, evs, evIt, evO, evAnd, evOr, boolM, mutPl, E.isVar, E.isFld, again, tgStore, tgStoreL, testM, Tg.slots, Tg.slotsL])
      refine holds hr hw hm (by omega) ?_
      try simp
      try rfl
    by_cases h1 : (r2.nm.length : Int) = r.nm.length
    · rw [if_pos h1]
      by_cases h2 : (r2.ways.length : Int) = r.ways.length
      · rw [if_pos h2]
        have e2 : r2.bk.length = r.bk.length := by
          rw [hr2.wlen, hr.wlen] at h2
          omega
        refine holds hr2 (by rw [e2]; exact hw) (by rw [h1]; exact hm) (by omega) ?_
        simp
        exact fin
      · rw [if_neg h2]
        exact fin
    · rw [if_neg h1]
      exact fin
end G.Pl

set_option linter.all false
set_option maxRecDepth 100000
set_option maxHeartbeats 1000000
/-! How data stand in the abstract heap. -/
namespace G
open PySem PySem.Spec PyProof.Rows L2

/-- the law's names: class numbers to classes, field numbers to names -/
structure Nm where
  K : PySem.W.Frag
  cls : Nat → Addr
  fld : Nat → Str
  prog : Program
  w : World

abbrev XsT := List (NestedKey × Addr × Value)
/-- a dict whose keys are tuples, as it lies -/
def dctO (c : Nm) (a : Addr) (xs : XsT) : HO := .ext fun h => ∃ o es ep, h.get? a = some o ∧ o.ExactDict ∧ o.data = .dict es ep ∧ es.toList = xs.map (entryOfKey (nestedKind c.prog c.w))

/-- a list that stays for ever: known to the module, or locked -/
def Perm' (K : PySem.W.Frag) (H : Hp) (a : Addr) (vs : List V) : Prop := (∃ o, H a = some (.frz o (.lst vs))) ∨
  ∃ (o : Obj) (its : Array Value) (n : Nat), K.lookup a = some o ∧ o.cls = .type "list" ∧ o.dict = none ∧ o.data = .seq its n ∧ its.size ≤ sizeLine ∧ Vals vs its.toList

def keyOf : D → Option Key
  | .int i => some (.inl i)
  | .str s => some (.inr s)
  | _ => none

mutual
def keyN : D → NestedKey
  | .int i => .num i
  | .str s => .text s
  | .tup ds => .tup (keyNs ds)
  | _ => .none
def keyNs : List D → List NestedKey
  | [] => []
  | d :: ds => keyN d :: keyNs ds
end

/-- a tuple that bears no dict: known to the object, or to the module -/
def NTup (K : PySem.W.Frag) (H : Hp) (a : Addr) (vs : List V) : Prop := (∃ o : Obj, H a = some (.frz o (.tup vs)) ∧ o.dict = none) ∨
  ∃ (o : Obj) (its : Array Value) (n : Nat), K.lookup a = some o ∧ o.cls = .type "tuple" ∧ o.dict = none ∧ o.data = .seq its n ∧ its.size ≤ sizeLine ∧ Vals vs its.toList
theorem NTup.sq {K : PySem.W.Frag} {H : Hp} {a : Addr} {vs : List V} (h : NTup K H a vs) : SqT K H a vs := by
  rcases h with ⟨o, h, _⟩ | ⟨o, its, n, h1, h2, _, h4, h5, h6⟩
  · exact .inl (.inr ⟨o, h⟩)
  · exact .inr ⟨o, its, n, h1, h2, h4, h5, h6⟩
mutual
/-- d, never to change, stands as v -/
def FR (c : Nm) (fr : Addr → Prop) (mu : List Addr) (H : Hp) : D → V → Prop
  | .non, v => v = .non
  | .bl b, v => v = .bl b
  | .int i, v => v = .int i
  | .str s, v => v = .str s
  | .tup ds, v => ∃ a vs, v = .ref a ∧ NTup c.K H a vs ∧ FRs c fr mu H ds vs
  | .lst ds, v => ∃ a vs, v = .ref a ∧ (H a = some (.lst vs) ∧ fr a) ∧ FRs c fr mu H ds vs
  | .scr ns, v => ∃ a, v = .ref a ∧ Perm' c.K H a (ns.map V.int)
  | .dic kvs, v => ∃ a, v = .ref a ∧ fr a ∧ ((∃ ks : List (Key × V), Rd H a (.dK ks) ∧ FRk c fr mu H kvs ks) ∨
      (∃ xs : XsT, Rd H a (dctO c a xs) ∧ (kvs ≠ [] ∧ kvs.length ≤ sizeLine) ∧ (a == sysModules) = false ∧ (xs.map (·.1)).Nodup ∧ FRe c fr mu H kvs xs))
  | .obj k, v => ∃ a, v = .ref a ∧ mu[k]? = some a
  | .pin u, v => ∃ a o w, v = .ref a ∧ u = .frz o w ∧ H a = some u
def FRs (c : Nm) (fr : Addr → Prop) (mu : List Addr) (H : Hp) : List D → List V → Prop
  | [], vs => vs = []
  | d :: ds, vs => ∃ v vs', vs = v :: vs' ∧ FR c fr mu H d v ∧ FRs c fr mu H ds vs'
def FRk (c : Nm) (fr : Addr → Prop) (mu : List Addr) (H : Hp) : List (D × D) → List (Key × V) → Prop
  | [], ks => ks = []
  | (k, d) :: kvs, ks => ∃ q v ks', ks = (q, v) :: ks' ∧ keyOf k = some q ∧ FR c fr mu H d v ∧ FRk c fr mu H kvs ks'
def FRe (c : Nm) (fr : Addr → Prop) (mu : List Addr) (H : Hp) : List (D × D) → XsT → Prop
  | [], xs => xs = []
  | (k, d) :: kvs, xs => ∃ b v u xs', xs = (keyN k, b, u) :: xs' ∧ k.key = true ∧ FR c fr mu H k (.ref b) ∧ RelV v u ∧ FR c fr mu H d v ∧ FRe c fr mu H kvs xs'
end
/-- what a dict holds -/
def DcA (c : Nm) (fr : Addr → Prop) (mu : List Addr) (H : Hp) (a : Addr) (kvs : List (D × D)) : Prop :=
  (∃ ks : List (Key × V), Rd H a (.dK ks) ∧ FRk c fr mu H kvs ks) ∨ (∃ xs : XsT, Rd H a (dctO c a xs) ∧ (kvs ≠ [] ∧ kvs.length ≤ sizeLine) ∧ (a == sysModules) = false ∧ (xs.map (·.1)).Nodup ∧ FRe c fr mu H kvs xs)

/-- .. one's own -/
def DcO (c : Nm) (fr : Addr → Prop) (mu : List Addr) (H : Hp) (a : Addr) (kvs : List (D × D)) : Prop :=
  (∃ ks : List (Key × V), H a = some (.dK ks) ∧ FRk c fr mu H kvs ks) ∨ (∃ xs : XsT, H a = some (dctO c a xs) ∧ (kvs ≠ [] ∧ kvs.length ≤ sizeLine) ∧ (a == sysModules) = false ∧ (xs.map (·.1)).Nodup ∧ FRe c fr mu H kvs xs)

/-- what is told may be read: as FR, the thing itself perhaps its owner's -/
def RD (c : Nm) (fr : Addr → Prop) (mu : List Addr) (H : Hp) : D → V → Prop
  | .lst ds, v => ∃ a vs, v = .ref a ∧ H a = some (.lst vs) ∧ FRs c fr mu H ds vs
  | .dic kvs, v => ∃ a, v = .ref a ∧ DcA c fr mu H a kvs
  | d, v => FR c fr mu H d v
/-- a thing of its owner's -/
def OW (c : Nm) (fr : Addr → Prop) (mu : List Addr) (H : Hp) : D → V → Prop
  | .lst ds, v => ∃ a vs, v = .ref a ∧ H a = some (.lst vs) ∧ FRs c fr mu H ds vs
  | .dic kvs, v => ∃ a, v = .ref a ∧ DcO c fr mu H a kvs
  | d, v => FR c fr mu H d v
def Root (c : Nm) (fr : Addr → Prop) (mu : List Addr) (H : Hp) (r : V × RV) : Prop :=
  if r.2.1 = true then OW c fr mu H r.2.2 r.1 else FR c fr mu H r.2.2 r.1

/-- how often a is owned there -/
def own1 (r : V × RV) (a : Addr) : Nat := match r with
  | (.ref b, (true, .lst _)) => if a = b then 1 else 0
  | (.ref b, (true, .dic _)) => if a = b then 1 else 0
  | _ => 0
def ownT : List (V × RV) → Addr → Nat
  | [], _ => 0
  | r :: T, a => own1 r a + ownT T a
def ownS : L2.St → List (Option RV) → Addr → Nat
  | some v :: σ, some x :: l, a => own1 (v, x) a + ownS σ l a
  | _ :: σ, _ :: l, a => ownS σ l a
  | _, _, _ => 0

/-- how the memory's things lie: an address each, and values -/
abbrev Ms := List (Addr × List V)
def mu (ms : Ms) : List Addr := ms.map (·.1)
def zipF : List (Nat × RV) → List V → List (V × RV)
  | (_, x) :: fs, v :: vs => (v, x) :: zipF fs vs
  | _, _ => []
def MemOk (c : Nm) (fr : Addr → Prop) (m : List Addr) (H : Hp) : MO → Addr × List V → Prop
  | .ins k fs, (a, vs) => vs.length = fs.length ∧ (∃ dx, H a = some (.ins (c.cls k) dx ((fs.map fun p => c.fld p.1).zip vs))) ∧ ∀ r ∈ zipF fs vs, Root c fr m H r
  | .lst ds, (a, vs) => H a = some (.lst vs) ∧ FRs c fr m H ds vs
def MemsOk (c : Nm) (fr : Addr → Prop) (m : List Addr) (H : Hp) : Mem → Ms → Prop
  | [], ms => ms = []
  | o :: os, ms => ∃ x ms', ms = x :: ms' ∧ MemOk c fr m H o x ∧ MemsOk c fr m H os ms'
def ownM : Mem → Ms → Addr → Nat
  | .ins _ fs :: os, (b, vs) :: ms, a => (if a = b then 1 else 0) + ownT (zipF fs vs) a + ownM os ms a
  | .lst _ :: os, (b, _) :: ms, a => (if a = b then 1 else 0) + ownM os ms a
  | _, _, _ => 0

/-- the state within a def, its locals σ, the heap H; T: what is held besides -/
structure SIg (c : Nm) (fr : Addr → Prop) (ms : Ms) (σ : L2.St) (l : List (Option RV)) (T : List (V × RV)) (m : Mem) (H : Hp) : Prop where
  len : σ.length = l.length
  slots : ∀ (i : Nat) (x : RV), l[i]? = some (some x) → ∃ v, σ[i]? = some (some v) ∧ Root c fr (mu ms) H (v, x)
  temps : ∀ r ∈ T, Root c fr (mu ms) H r
  mem : MemsOk c fr (mu ms) H m ms
  one : ∀ a, ownS σ l a + ownT T a + ownM m ms a ≤ 1
  nof : ∀ a, fr a → ownS σ l a + ownT T a + ownM m ms a = 0
  frt : ∀ a, fr a → H a ≠ none
def SI (c : Nm) (σ : L2.St) (l : List (Option RV)) (T : List (V × RV)) (m : Mem) (H : Hp) : Prop := ∃ fr ms, SIg c fr ms σ l T m H

/-! ### reading -/
section
variable {c : Nm} {fr fr' : Addr → Prop} {m : List Addr} {H H' : Hp}
theorem FR.rd : ∀ {d : D} {v : V}, FR c fr m H d v → RD c fr m H d v
  | .non, _, h => h
  | .bl _, _, h => h
  | .int _, _, h => h
  | .str _, _, h => h
  | .tup _, _, h => h
  | .lst ds, v, h => by
    simp only [FR] at h
    obtain ⟨a, vs, e, q, r⟩ := h
    exact ⟨a, vs, e, q.1, r⟩
  | .dic kvs, v, h => by
    simp only [FR] at h
    obtain ⟨a, e, _, q⟩ := h
    exact ⟨a, e, q⟩
  | .obj _, _, h => h
  | .scr _, _, h => h
  | .pin _, _, h => h
theorem DcO.rd {a : Addr} {kvs : List (D × D)} (h : DcO c fr m H a kvs) : DcA c fr m H a kvs := by
  rcases h with ⟨ks, q, r⟩ | ⟨xs, q, h⟩
  · exact .inl ⟨ks, .inl q, r⟩
  · exact .inr ⟨xs, .inl q, h⟩
theorem OW.rd : ∀ {d : D} {v : V}, OW c fr m H d v → RD c fr m H d v
  | .non, _, h => h
  | .bl _, _, h => h
  | .int _, _, h => h
  | .str _, _, h => h
  | .tup _, _, h => h
  | .lst ds, v, h => h
  | .dic kvs, v, h => by
    obtain ⟨a, e, q⟩ := h
    exact ⟨a, e, q.rd⟩
  | .obj _, _, h => h
  | .scr _, _, h => h
  | .pin _, _, h => h
theorem Root.rd {r : V × RV} (h : Root c fr m H r) : RD c fr m H r.2.2 r.1 := by
  unfold Root at h
  split at h
  · exact h.rd
  · exact h.rd

/-- what is needed of a change of the heap that FR stands -/
structure Still (c : Nm) (fr : Addr → Prop) (H H' : Hp) : Prop where
  tup : ∀ a xs, H a = some (.tup xs) → H' a = some (.tup xs)
  frz : ∀ a o u, H a = some (.frz o u) → H' a = some (.frz o u)
  fz : ∀ a, fr a → H' a = H a ∨ ∃ o u, H a = some u ∧ (∀ xs, u ≠ .lst xs) ∧ (∀ ob w, u ≠ .frz ob w) ∧ H' a = some (.frz o u)
theorem Still.nTup (s : Still c fr H H') {a : Addr} {vs : List V} (h : NTup c.K H a vs) : NTup c.K H' a vs := by
  rcases h with ⟨o, h, d⟩ | h
  · exact .inl ⟨o, s.frz _ _ _ h, d⟩
  · exact .inr h
theorem Still.perm (s : Still c fr H H') {a : Addr} {vs : List V} (h : Perm' c.K H a vs) : Perm' c.K H' a vs := by
  rcases h with ⟨o, h⟩ | h
  · exact .inl ⟨o, s.frz _ _ _ h⟩
  · exact .inr h
theorem Still.rd (s : Still c fr H H') {a : Addr} (f : fr a) {u : HO} (h : Rd H a u) : Rd H' a u := by
  rcases s.fz a f with e | ⟨o, u', e1, e2, e3, e4⟩
  · unfold Rd
    rw [e]
    exact h
  · rcases h with h | ⟨o', h⟩
    · rw [e1] at h
      cases h
      exact .inr ⟨o, e4⟩
    · rw [e1] at h
      cases h
      exact absurd rfl (e3 _ _)
theorem Still.lst (s : Still c fr H H') {a : Addr} (f : fr a) {xs : List V} (h : H a = some (.lst xs)) : H' a = some (.lst xs) := by
  rcases s.fz a f with e | ⟨o, u', e1, e2, e3, e4⟩
  · rw [e]; exact h
  · rw [e1] at h
    cases h
    exact absurd rfl (e2 _)
mutual
theorem FR.still (s : Still c fr H H') (hf : ∀ a, fr a → fr' a) : ∀ (d : D) {v : V}, FR c fr m H d v → FR c fr' m H' d v
  | .non, _, h => h
  | .bl _, _, h => h
  | .int _, _, h => h
  | .str _, _, h => h
  | .tup ds, v, h => by
    simp only [FR] at h ⊢
    obtain ⟨a, vs, e, q, r⟩ := h
    exact ⟨a, vs, e, s.nTup q, FRs.still s hf ds r⟩
  | .lst ds, v, h => by
    simp only [FR] at h ⊢
    obtain ⟨a, vs, e, q, r⟩ := h
    exact ⟨a, vs, e, ⟨s.lst q.2 q.1, hf a q.2⟩, FRs.still s hf ds r⟩
  | .scr ns, v, h => by
    simp only [FR] at h ⊢
    obtain ⟨a, e, q⟩ := h
    exact ⟨a, e, s.perm q⟩
  | .dic kvs, v, h => by
    simp only [FR] at h ⊢
    obtain ⟨a, e, f, q⟩ := h
    refine ⟨a, e, hf a f, ?_⟩
    rcases q with ⟨ks, q, r⟩ | ⟨xs, q, h1, h2, h3, r⟩
    · exact .inl ⟨ks, s.rd f q, FRk.still s hf kvs r⟩
    · exact .inr ⟨xs, s.rd f q, h1, h2, h3, FRe.still s hf kvs r⟩
  | .obj _, _, h => h
  | .pin _, _, h => by
    simp only [FR] at h ⊢
    obtain ⟨a, o, w, e, rfl, q⟩ := h
    exact ⟨a, o, w, e, rfl, s.frz _ _ _ q⟩
theorem FRs.still (s : Still c fr H H') (hf : ∀ a, fr a → fr' a) : ∀ (ds : List D) {vs : List V}, FRs c fr m H ds vs → FRs c fr' m H' ds vs
  | [], _, h => h
  | d :: ds, vs, h => by
    simp only [FRs] at h ⊢
    obtain ⟨v, vs', e, r, q⟩ := h
    exact ⟨v, vs', e, FR.still s hf d r, FRs.still s hf ds q⟩
theorem FRk.still (s : Still c fr H H') (hf : ∀ a, fr a → fr' a) : ∀ (kvs : List (D × D)) {ks : List (Key × V)}, FRk c fr m H kvs ks → FRk c fr' m H' kvs ks
  | [], _, h => h
  | (k, d) :: kvs, ks, h => by
    simp only [FRk] at h ⊢
    obtain ⟨q, v, ks', e, hk, r, z⟩ := h
    exact ⟨q, v, ks', e, hk, FR.still s hf d r, FRk.still s hf kvs z⟩
theorem FRe.still (s : Still c fr H H') (hf : ∀ a, fr a → fr' a) : ∀ (kvs : List (D × D)) {xs : XsT}, FRe c fr m H kvs xs → FRe c fr' m H' kvs xs
  | [], _, h => h
  | (k, d) :: kvs, ks, h => by
    simp only [FRe] at h ⊢
    obtain ⟨b, v, u, xs', e, hk, r1, rv, r, z⟩ := h
    exact ⟨b, v, u, xs', e, hk, FR.still s hf k r1, rv, FR.still s hf d r, FRe.still s hf kvs z⟩
end
end
end G

set_option linter.all false
set_option maxRecDepth 100000
set_option maxHeartbeats 1000000
namespace G
open PySem PySem.Spec PyProof.Rows L2
section
variable {c : Nm} {fr fr' : Addr → Prop} {m : List Addr} {H H' : Hp} {ms : Ms} {σ : L2.St} {l : List (Option RV)} {T : List (V × RV)} {M : Mem}

/-- at x only a thing that changes stands, or nothing -/
def Free (fr : Addr → Prop) (H : Hp) (x : Addr) : Prop := ¬ fr x ∧ (∀ xs, H x ≠ some (.tup xs)) ∧ ∀ o u, H x ≠ some (.frz o u)
theorem Free.still (h : Free fr H x) {o : HO} : Still c fr H (upd H x o) where
  tup := fun a xs e => by
    have hne : a ≠ x := by rintro rfl; exact h.2.1 xs e
    rw [upd_ne hne]; exact e
  frz := fun a o u e => by
    have hne : a ≠ x := by rintro rfl; exact h.2.2 o u e
    rw [upd_ne hne]; exact e
  fz := fun a f => .inl (upd_ne (by rintro rfl; exact h.1 f))
theorem own1_ref {v : V} {x : RV} {a : Addr} (h : own1 (v, x) a ≠ 0) : v = .ref a ∧ x.1 = true := by
  obtain ⟨o, d⟩ := x
  unfold own1 at h
  split at h
  · rename_i e
    cases e
    split at h
    · rename_i e; subst e; exact ⟨rfl, rfl⟩
    · exact absurd rfl h
  · rename_i e
    cases e
    split at h
    · rename_i e; subst e; exact ⟨rfl, rfl⟩
    · exact absurd rfl h
  · exact absurd rfl h
theorem own1_false {v : V} {d : D} {a : Addr} : own1 (v, (false, d)) a = 0 := by
  by_cases h : own1 (v, (false, d)) a = 0
  · exact h
  · have := (own1_ref h).2
    cases this
theorem OW.still (s : Still c fr H H') (hf : ∀ a, fr a → fr' a) {d : D} {v : V} (h : OW c fr m H d v) (hx : ∀ a, own1 (v, (true, d)) a ≠ 0 → H' a = H a) : OW c fr' m H' d v := by
  cases d with
  | lst ds =>
    obtain ⟨a, vs, e, q, r⟩ := h
    subst e
    exact ⟨a, vs, rfl, (hx a (by simp [own1])).trans q, FRs.still s hf ds r⟩
  | dic kvs =>
    obtain ⟨a, e, q⟩ := h
    subst e
    refine ⟨a, rfl, ?_⟩
    rcases q with ⟨ks, q, r⟩ | ⟨xs, q, h1, h2, h3, r⟩
    · exact .inl ⟨ks, (hx a (by simp [own1])).trans q, FRk.still s hf kvs r⟩
    · exact .inr ⟨xs, (hx a (by simp [own1])).trans q, h1, h2, h3, FRe.still s hf kvs r⟩
  | _ => exact FR.still s hf _ h
theorem Root.still (s : Still c fr H H') (hf : ∀ a, fr a → fr' a) {r : V × RV} (h : Root c fr m H r) (hx : ∀ a, own1 r a ≠ 0 → H' a = H a) : Root c fr' m H' r := by
  obtain ⟨v, o, d⟩ := r
  cases o with
  | true =>
    have h : OW c fr m H d v := h
    show OW c fr' m H' d v
    exact h.still s hf hx
  | false =>
    have h : FR c fr m H d v := h
    show FR c fr' m H' d v
    exact FR.still s hf _ h
theorem Root.tracked {r : V × RV} (h : Root c fr m H r) {a : Addr} (hx : own1 r a ≠ 0) : ∃ o, H a = some o ∧ (∀ xs, o ≠ .tup xs) ∧ ∀ ob u, o ≠ .frz ob u := by
  obtain ⟨v, o, d⟩ := r
  obtain ⟨e1, e2⟩ := own1_ref hx
  have e2 : o = true := e2
  subst e1 e2
  have h : OW c fr m H d (.ref a) := h
  cases d with
  | lst ds =>
    obtain ⟨b, vs, e, q, r⟩ := h
    cases e
    exact ⟨_, q, by simp, by simp⟩
  | dic kvs =>
    obtain ⟨b, e, q⟩ := h
    cases e
    rcases q with ⟨ks, q, r⟩ | ⟨xs, q, h1, h2, h3, r⟩
    · exact ⟨_, q, by simp, by simp⟩
    · exact ⟨_, q, by simp [dctO], by simp [dctO]⟩
  | _ => exact absurd rfl hx

/-! counts -/
theorem ownT_le {T : List (V × RV)} {r : V × RV} (h : r ∈ T) (a : Addr) : own1 r a ≤ ownT T a := by
  induction T with
  | nil => cases h
  | cons x T ih =>
    rcases List.mem_cons.mp h with rfl | h
    · simp only [ownT]; omega
    · have := ih h; simp only [ownT]; omega
theorem ownS_at : ∀ {σ : L2.St} {l : List (Option RV)} {i : Nat} {v : V} {x : RV}, σ[i]? = some (some v) → l[i]? = some (some x) → ∀ a, own1 (v, x) a ≤ ownS σ l a
  | [], _, _, _, _, h, _, _ => by simp at h
  | _ :: _, [], _, _, _, _, h, _ => by simp at h
  | s :: σ, y :: l, 0, v, x, h1, h2, a => by
    simp at h1 h2; subst h1 h2
    simp only [ownS]; omega
  | s :: σ, y :: l, i + 1, v, x, h1, h2, a => by
    have := ownS_at (σ := σ) (l := l) (i := i) (by simpa using h1) (by simpa using h2) a
    cases s <;> cases y <;> simp only [ownS] <;> omega
/-- a slot is set -/
theorem ownS_set : ∀ {σ : L2.St} {l : List (Option RV)} {i : Nat} {v : V} {x : RV} (a : Addr), ownS (σ.set i (some v)) (l.set i (some x)) a ≤ ownS σ l a + own1 (v, x) a
  | [], _, _, _, _, _ => by simp [ownS]
  | _ :: _, [], _, _, _, _ => by simp [ownS]
  | s :: σ, y :: l, 0, v, x, a => by
    simp only [List.set_cons_zero, ownS]
    cases s <;> cases y <;> simp only [ownS] <;> omega
  | s :: σ, y :: l, i + 1, v, x, a => by
    have := ownS_set (σ := σ) (l := l) (i := i) (v := v) (x := x) a
    simp only [List.set_cons_succ]
    cases s <;> cases y <;> simp only [ownS] <;> omega
/-- a slot's thing is another -/
theorem ownS_put : ∀ {σ : L2.St} {l : List (Option RV)} {i : Nat} {v : V} {x y : RV}, σ[i]? = some (some v) → l[i]? = some (some x) → ∀ a, ownS σ (l.set i (some y)) a + own1 (v, x) a = ownS σ l a + own1 (v, y) a
  | [], _, _, _, _, _, h, _, _ => by simp at h
  | _ :: _, [], _, _, _, _, _, h, _ => by simp at h
  | s :: σ, z :: l, 0, v, x, y, h1, h2, a => by
    simp at h1 h2; subst h1 h2
    simp only [List.set_cons_zero, ownS]; omega
  | s :: σ, z :: l, i + 1, v, x, y, h1, h2, a => by
    have := ownS_put (σ := σ) (l := l) (i := i) (y := y) (by simpa using h1) (by simpa using h2) a
    simp only [List.set_cons_succ]
    cases s <;> cases z <;> simp only [ownS] <;> omega
/-- a slot is forgotten -/
theorem ownS_del : ∀ {σ : L2.St} {l : List (Option RV)} {i : Nat} (a : Addr), ownS σ (l.set i none) a ≤ ownS σ l a
  | [], _, _, _ => by simp [ownS]
  | _ :: _, [], _, _ => by simp [ownS]
  | s :: σ, y :: l, 0, a => by
    simp only [List.set_cons_zero]
    cases s <;> cases y <;> simp only [ownS] <;> omega
  | s :: σ, y :: l, i + 1, a => by
    have := ownS_del (σ := σ) (l := l) (i := i) a
    simp only [List.set_cons_succ]
    cases s <;> cases y <;> simp only [ownS] <;> omega
theorem ownS_take : ∀ {σ : L2.St} {l : List (Option RV)} {i : Nat} {v : V} {x : RV}, σ[i]? = some (some v) → l[i]? = some (some x) → ∀ a, ownS σ (l.set i none) a + own1 (v, x) a = ownS σ l a
  | [], _, _, _, _, h, _, _ => by simp at h
  | _ :: _, [], _, _, _, _, h, _ => by simp at h
  | s :: σ, z :: l, 0, v, x, h1, h2, a => by
    simp at h1 h2; subst h1 h2
    simp only [List.set_cons_zero, ownS]; omega
  | s :: σ, z :: l, i + 1, v, x, h1, h2, a => by
    have := ownS_take (σ := σ) (l := l) (i := i) (by simpa using h1) (by simpa using h2) a
    simp only [List.set_cons_succ]
    cases s <;> cases z <;> simp only [ownS] <;> omega
theorem ownS_free : ∀ {σ : L2.St} {l : List (Option RV)} {a : Addr}, ownS σ l a ≠ 0 → ∃ (i : Nat) (v : V) (x : RV), σ[i]? = some (some v) ∧ l[i]? = some (some x) ∧ own1 (v, x) a ≠ 0
  | [], _, _, h => by simp [ownS] at h
  | _ :: _, [], _, h => by simp [ownS] at h
  | s :: σ, y :: l, a, h => by
    have rest : ownS σ l a ≠ 0 → ∃ (i : Nat) (v : V) (x : RV), (s :: σ)[i]? = some (some v) ∧ (y :: l)[i]? = some (some x) ∧ own1 (v, x) a ≠ 0 := fun h => by
      obtain ⟨i, v, x, h1, h2, h3⟩ := ownS_free h
      exact ⟨i + 1, v, x, by simpa using h1, by simpa using h2, h3⟩
    cases s with
    | none => cases y <;> exact rest (by simpa only [ownS] using h)
    | some v =>
      cases y with
      | none => exact rest (by simpa only [ownS] using h)
      | some x =>
        by_cases h1 : own1 (v, x) a = 0
        · refine rest ?_
          simp only [ownS] at h
          omega
        · exact ⟨0, v, x, rfl, rfl, h1⟩
theorem ownT_free : ∀ {T : List (V × RV)} {a : Addr}, ownT T a ≠ 0 → ∃ r ∈ T, own1 r a ≠ 0
  | [], _, h => by simp [ownT] at h
  | r :: T, a, h => by
    by_cases h1 : own1 r a = 0
    · obtain ⟨r', h2, h3⟩ := ownT_free (T := T) (a := a) (by simp only [ownT] at h; omega)
      exact ⟨r', List.mem_cons_of_mem _ h2, h3⟩
    · exact ⟨r, List.mem_cons_self, h1⟩

/-! the memory -/
theorem MemOk.still (s : Still c fr H H') (hf : ∀ a, fr a → fr' a) {o : MO} {x : Addr × List V} (h : MemOk c fr m H o x) (hx : ∀ a, ownM [o] [x] a ≠ 0 → H' a = H a) : MemOk c fr' m H' o x := by
  obtain ⟨a, vs⟩ := x
  cases o with
  | ins k fs =>
    obtain ⟨h1, ⟨dx, h2⟩, h3⟩ := h
    refine ⟨h1, ⟨dx, (hx a (by simp [ownM])).trans h2⟩, fun r hr => (h3 r hr).still s hf fun b hb => hx b ?_⟩
    have := ownT_le hr b
    simp only [ownM]
    omega
  | lst ds =>
    obtain ⟨h1, h2⟩ := h
    exact ⟨(hx a (by simp [ownM])).trans h1, FRs.still s hf ds h2⟩
theorem ownM_cons {o : MO} {x : Addr × List V} {os : Mem} {ms : Ms} {a : Addr} : ownM (o :: os) (x :: ms) a = ownM [o] [x] a + ownM os ms a := by
  obtain ⟨b, vs⟩ := x
  cases o <;> simp only [ownM] <;> omega
theorem MemsOk.still (s : Still c fr H H') (hf : ∀ a, fr a → fr' a) : ∀ {M : Mem} {ms : Ms}, MemsOk c fr m H M ms → (∀ a, ownM M ms a ≠ 0 → H' a = H a) → MemsOk c fr' m H' M ms
  | [], _, h, _ => h
  | o :: os, ms, h, hx => by
    obtain ⟨x, ms', e, h1, h2⟩ := h
    subst e
    exact ⟨x, ms', rfl, h1.still s hf fun a ha => hx a (by rw [ownM_cons]; omega), MemsOk.still s hf h2 fun a ha => hx a (by rw [ownM_cons]; omega)⟩
theorem MemOk.tracked {o : MO} {x : Addr × List V} (h : MemOk c fr m H o x) {a : Addr} (ha : ownM [o] [x] a ≠ 0) : ∃ o, H a = some o ∧ (∀ xs, o ≠ .tup xs) ∧ ∀ ob u, o ≠ .frz ob u := by
  obtain ⟨b, vs⟩ := x
  cases o with
  | ins k fs =>
    obtain ⟨h1, ⟨dx, h2⟩, h3⟩ := h
    by_cases e : a = b
    · subst e
      exact ⟨_, h2, by simp, by simp⟩
    · obtain ⟨r, hr, h4⟩ := ownT_free (T := zipF fs vs) (a := a) (by simp only [ownM, if_neg e] at ha; omega)
      exact (h3 r hr).tracked h4
  | lst ds =>
    obtain ⟨h1, h2⟩ := h
    by_cases e : a = b
    · subst e
      exact ⟨_, h1, by simp, by simp⟩
    · simp only [ownM, if_neg e] at ha
      exact absurd rfl ha
theorem MemsOk.tracked : ∀ {M : Mem} {ms : Ms}, MemsOk c fr m H M ms → ∀ {a : Addr}, ownM M ms a ≠ 0 → ∃ o, H a = some o ∧ (∀ xs, o ≠ .tup xs) ∧ ∀ ob u, o ≠ .frz ob u
  | [], ms, h, a, ha => by
    have h : ms = [] := h
    subst h
    exact absurd rfl ha
  | o :: os, ms, h, a, ha => by
    obtain ⟨x, ms', e, h1, h2⟩ := h
    subst e
    rw [ownM_cons] at ha
    by_cases z : ownM [o] [x] a = 0
    · exact h2.tracked (by omega)
    · exact h1.tracked z

/-- all that is owned is there -/
theorem SIg.tracked (s : SIg c fr ms σ l T M H) {a : Addr} (ha : ownS σ l a + ownT T a + ownM M ms a ≠ 0) : ∃ o, H a = some o ∧ (∀ xs, o ≠ .tup xs) ∧ ∀ ob u, o ≠ .frz ob u := by
  by_cases h1 : ownS σ l a = 0
  · by_cases h2 : ownT T a = 0
    · exact s.mem.tracked (by omega)
    · obtain ⟨r, hr, h3⟩ := ownT_free h2
      exact (s.temps r hr).tracked h3
  · obtain ⟨i, v, x, e1, e2, h3⟩ := ownS_free h1
    obtain ⟨v', e1', h4⟩ := s.slots i x e2
    rw [e1] at e1'
    cases e1'
    exact h4.tracked h3
theorem SIg.fresh (s : SIg c fr ms σ l T M H) {p : Addr} (hp : H p = none) : ownS σ l p + ownT T p + ownM M ms p = 0 ∧ ¬ fr p := by
  refine ⟨?_, fun f => s.frt p f hp⟩
  by_cases h : ownS σ l p + ownT T p + ownM M ms p = 0
  · exact h
  · obtain ⟨o, e, _⟩ := s.tracked h
    rw [hp] at e; cases e
theorem SIg.free_new (s : SIg c fr ms σ l T M H) {p : Addr} (hp : H p = none) : Free fr H p :=
  ⟨(s.fresh hp).2, fun xs e => (by rw [hp] at e; cases e), fun o u e => (by rw [hp] at e; cases e)⟩
/-- a thing that is owned once is changed: all else stands -/
theorem SIg.free_own (s : SIg c fr ms σ l T M H) {a : Addr} (ha : ownS σ l a + ownT T a + ownM M ms a ≠ 0) : Free fr H a := by
  obtain ⟨o, e, h1, h2⟩ := s.tracked ha
  refine ⟨fun f => ha (s.nof a f), fun xs q => ?_, fun ob u q => ?_⟩
  · rw [e] at q; cases q; exact h1 xs rfl
  · rw [e] at q; cases q; exact h2 ob u rfl
/-- a new thing is laid -/
theorem SIg.laid (s : SIg c fr ms σ l T M H) {p : Addr} (hp : H p = none) (o : HO) : SIg c fr ms σ l T M (upd H p o) := by
  have st : Still c fr H (upd H p o) := (s.free_new hp).still
  have z := s.fresh hp
  have ne : ∀ a, ownS σ l a + ownT T a + ownM M ms a ≠ 0 → upd H p o a = H a := fun a ha => upd_ne fun e => ha (e ▸ z.1)
  refine ⟨s.len, fun i x e => ?_, fun r hr => (s.temps r hr).still st (fun _ f => f) fun a ha => ne a ?_, s.mem.still st (fun _ f => f) fun a ha => ne a (by omega), s.one, s.nof, fun a f => ?_⟩
  · obtain ⟨v, e1, h⟩ := s.slots i x e
    refine ⟨v, e1, h.still st (fun _ f => f) fun a ha => ne a ?_⟩
    have := ownS_at e1 e a
    omega
  · have := ownT_le hr a
    omega
  · by_cases e : a = p
    · subst e; rw [upd_same]; simp
    · rw [upd_ne e]; exact s.frt a f
/-- a dict that never changes is locked -/
theorem lock_still {p : Addr} {o : Obj} {u : HO} (hp : H p = some u) (h1 : ∀ xs, u ≠ .lst xs) (h2 : ∀ ob w, u ≠ .frz ob w) (h3 : ∀ xs, u ≠ .tup xs) : Still c fr H (upd H p (.frz o u)) := by
  refine ⟨fun a xs e => ?_, fun a ob w e => ?_, fun a f => ?_⟩
  · have hne : a ≠ p := by rintro rfl; rw [hp] at e; cases e; exact h3 _ rfl
    rw [upd_ne hne]; exact e
  · have hne : a ≠ p := by rintro rfl; rw [hp] at e; cases e; exact h2 _ _ rfl
    rw [upd_ne hne]; exact e
  · by_cases e : a = p
    · subst e
      exact .inr ⟨o, u, hp, h1, h2, upd_same⟩
    · exact .inl (upd_ne e)
theorem SIg.lock (s : SIg c fr ms σ l T M H) {p : Addr} {o : Obj} {u : HO} (hp : H p = some u) (f : fr p) (h1 : ∀ xs, u ≠ .lst xs) (h2 : ∀ ob w, u ≠ .frz ob w) (h3 : ∀ xs, u ≠ .tup xs) : SIg c fr ms σ l T M (upd H p (.frz o u)) := by
  have st : Still c fr H (upd H p (.frz o u)) := lock_still hp h1 h2 h3
  have z := s.nof p f
  have ne : ∀ a, ownS σ l a + ownT T a + ownM M ms a ≠ 0 → upd H p (.frz o u) a = H a := fun a ha => upd_ne fun e => ha (e ▸ z)
  refine ⟨s.len, fun i x e => ?_, fun r hr => (s.temps r hr).still st (fun _ f => f) fun a ha => ne a ?_, s.mem.still st (fun _ f => f) fun a ha => ne a (by omega), s.one, s.nof, fun a f => ?_⟩
  · obtain ⟨v, e1, h⟩ := s.slots i x e
    refine ⟨v, e1, h.still st (fun _ f => f) fun a ha => ne a ?_⟩
    have := ownS_at e1 e a
    omega
  · have := ownT_le hr a
    omega
  · by_cases e : a = p
    · subst e; rw [upd_same]; simp
    · rw [upd_ne e]; exact s.frt a f
theorem SIg.push (s : SIg c fr ms σ l T M H) {v : V} {d : D} (h : FR c fr (mu ms) H d v) : SIg c fr ms σ l ((v, (false, d)) :: T) M H := by
  refine ⟨s.len, s.slots, fun r hr => ?_, s.mem, fun a => ?_, fun a f => ?_, s.frt⟩
  · rcases List.mem_cons.mp hr with rfl | hr
    · exact h
    · exact s.temps r hr
  · have := s.one a
    simp only [ownT, own1_false]; omega
  · have := s.nof a f
    simp only [ownT, own1_false]; omega
/-- .. the new thing is held, as one's own -/
theorem SIg.pushNew (s : SIg c fr ms σ l T M H) {p : Addr} (hp : H p = none) {o : HO} {x : RV} (h : Root c fr (mu ms) (upd H p o) (.ref p, x)) : SIg c fr ms σ l ((.ref p, x) :: T) M (upd H p o) := by
  have z := s.fresh hp
  have s' := s.laid hp o
  refine ⟨s'.len, s'.slots, fun r hr => ?_, s'.mem, fun a => ?_, fun a f => ?_, s'.frt⟩
  · rcases List.mem_cons.mp hr with rfl | hr
    · exact h
    · exact s'.temps r hr
  · have h1 := s'.one a
    simp only [ownT]
    by_cases e : own1 (V.ref p, x) a = 0
    · omega
    · have e' := (own1_ref e).1
      cases e'
      have : own1 (V.ref p, x) p ≤ 1 := by
        obtain ⟨o', d⟩ := x
        unfold own1
        split <;> (try split) <;> omega
      omega
  · have h1 := s'.nof a f
    simp only [ownT]
    by_cases e : own1 (V.ref p, x) a = 0
    · omega
    · have e' := (own1_ref e).1
      cases e'
      exact absurd f z.2
theorem SIg.pop {r : V × RV} (s : SIg c fr ms σ l (r :: T) M H) : SIg c fr ms σ l T M H :=
  ⟨s.len, s.slots, fun q hq => s.temps q (List.mem_cons_of_mem _ hq), s.mem, fun a => by have := s.one a; simp only [ownT] at this; omega, fun a f => by have := s.nof a f; simp only [ownT] at this; omega, s.frt⟩
theorem SIg.popn : ∀ {T' : List (V × RV)} , SIg c fr ms σ l (T' ++ T) M H → SIg c fr ms σ l T M H
  | [], s => s
  | _ :: T', s => SIg.popn (T' := T') s.pop
theorem SI.pop {r : V × RV} (s : SI c σ l (r :: T) M H) : SI c σ l T M H := let ⟨fr, ms, s⟩ := s; ⟨fr, ms, s.pop⟩
/-- the one held goes into a slot -/
theorem SIg.set {v : V} {x : RV} {i : Nat} (s : SIg c fr ms σ l ((v, x) :: T) M H) : SIg c fr ms (σ.set i (some v)) (l.set i (some x)) T M H := by
  have hr := s.temps _ List.mem_cons_self
  refine ⟨by simpa using s.len, fun j y e => ?_, fun q hq => s.temps q (List.mem_cons_of_mem _ hq), s.mem, fun a => ?_, fun a f => ?_, s.frt⟩
  · by_cases hj : i = j
    · subst hj
      have hi : i < l.length := by
        have := (List.getElem?_eq_some_iff.mp e).1
        simpa using this
      rw [List.getElem?_set_self hi] at e
      cases e
      exact ⟨v, List.getElem?_set_self (by rw [s.len]; exact hi), hr⟩
    · rw [List.getElem?_set_ne hj] at e
      obtain ⟨w, e1, h⟩ := s.slots j y e
      exact ⟨w, by rw [List.getElem?_set_ne hj]; exact e1, h⟩
  · have h1 := s.one a
    have h2 := ownS_set (σ := σ) (l := l) (i := i) (v := v) (x := x) a
    simp only [ownT] at h1
    omega
  · have h1 := s.nof a f
    have h2 := ownS_set (σ := σ) (l := l) (i := i) (v := v) (x := x) a
    simp only [ownT] at h1
    omega
/-- a slot is forgotten -/
theorem SIg.del {i : Nat} (s : SIg c fr ms σ l T M H) : SIg c fr ms σ (l.set i none) T M H := by
  refine ⟨by simpa using s.len, fun j y e => ?_, s.temps, s.mem, fun a => ?_, fun a f => ?_, s.frt⟩
  · by_cases hj : i = j
    · subst hj
      have hi : i < l.length := by
        have := (List.getElem?_eq_some_iff.mp e).1
        simpa using this
      rw [List.getElem?_set_self hi] at e
      cases e
    · rw [List.getElem?_set_ne hj] at e
      exact s.slots j y e
  · have h1 := s.one a
    have h2 := ownS_del (σ := σ) (l := l) (i := i) a
    omega
  · have h1 := s.nof a f
    have h2 := ownS_del (σ := σ) (l := l) (i := i) a
    omega
/-- a slot's thing is taken out of it -/
theorem SIg.take {i : Nat} {v : V} {x : RV} (s : SIg c fr ms σ l T M H) (e1 : σ[i]? = some (some v)) (e2 : l[i]? = some (some x)) : SIg c fr ms σ (l.set i none) ((v, x) :: T) M H := by
  have s' := s.del (i := i)
  refine ⟨s'.len, s'.slots, fun q hq => ?_, s.mem, fun a => ?_, fun a f => ?_, s.frt⟩
  · rcases List.mem_cons.mp hq with rfl | hq
    · obtain ⟨w, e1', h⟩ := s.slots i x e2
      rw [e1] at e1'; cases e1'
      exact h
    · exact s.temps q hq
  · have h1 := s.one a
    have h2 := ownS_take e1 e2 a
    simp only [ownT]
    omega
  · have h1 := s.nof a f
    have h2 := ownS_take e1 e2 a
    simp only [ownT]
    omega
/-- one's own thing becomes one that never changes -/
theorem OW.frozen {d : D} {v : V} (h : OW c fr m H d v) : FR c (fun a => fr a ∨ own1 (v, (true, d)) a ≠ 0) m H d v := by
  have st : Still c fr H H := ⟨fun _ _ e => e, fun _ _ _ e => e, fun _ _ => .inl rfl⟩
  cases d with
  | lst ds =>
    obtain ⟨a, vs, e, q, r⟩ := h
    subst e
    simp only [FR]
    exact ⟨a, vs, rfl, ⟨q, .inr (by simp [own1])⟩, FRs.still st (fun _ f => .inl f) ds r⟩
  | dic kvs =>
    obtain ⟨a, e, q⟩ := h
    subst e
    simp only [FR]
    refine ⟨a, rfl, .inr (by simp [own1]), ?_⟩
    rcases q with ⟨ks, q, r⟩ | ⟨xs, q, h1, h2, h3, r⟩
    · exact .inl ⟨ks, .inl q, FRk.still st (fun _ f => .inl f) kvs r⟩
    · exact .inr ⟨xs, .inl q, h1, h2, h3, FRe.still st (fun _ f => .inl f) kvs r⟩
  | _ => exact FR.still st (fun _ f => .inl f) _ h
theorem SIg.freeze1' {v : V} {x : RV} (s : SIg c fr ms σ l ((v, x) :: T) M H) : ∃ fr', (∀ a, fr a → fr' a) ∧ SIg c fr' ms σ l ((v, (false, x.2)) :: T) M H := by
  obtain ⟨o, d⟩ := x
  have st : Still c fr H H := ⟨fun _ _ e => e, fun _ _ _ e => e, fun _ _ => .inl rfl⟩
  cases o with
  | false => exact ⟨fr, fun _ f => f, s⟩
  | true =>
    have hr : OW c fr (mu ms) H d v := s.temps _ List.mem_cons_self
    have p := s.pop
    refine ⟨fun a => fr a ∨ own1 (v, (true, d)) a ≠ 0, fun _ f => .inl f, ⟨p.len, fun i x e => ?_, fun q hq => ?_, p.mem.still st (fun _ f => .inl f) fun _ _ => rfl, fun a => ?_, fun a f => ?_, fun a f => ?_⟩⟩
    · obtain ⟨w, e1, h⟩ := p.slots i x e
      exact ⟨w, e1, h.still st (fun _ f => .inl f) fun _ _ => rfl⟩
    · rcases List.mem_cons.mp hq with rfl | hq
      · exact hr.frozen
      · exact (p.temps q hq).still st (fun _ f => .inl f) fun _ _ => rfl
    · have h1 := s.one a
      simp only [ownT, own1_false] at h1 ⊢
      omega
    · have h1 := s.one a
      simp only [ownT, own1_false] at h1 ⊢
      rcases f with f | f
      · have h2 := s.nof a f
        simp only [ownT] at h2
        omega
      · omega
    · rcases f with f | f
      · exact s.frt a f
      · have h2 : Root c fr (mu ms) H (v, (true, d)) := hr
        obtain ⟨o, e, _⟩ := h2.tracked f
        rw [e]; simp
theorem SIg.freeze1 {v : V} {x : RV} (s : SIg c fr ms σ l ((v, x) :: T) M H) : SI c σ l ((v, (false, x.2)) :: T) M H := let ⟨fr', _, s⟩ := s.freeze1'; ⟨fr', ms, s⟩
theorem Still.refl : Still c fr H H := ⟨fun _ _ e => e, fun _ _ _ e => e, fun _ _ => .inl rfl⟩
end
end G

set_option linter.all false
set_option maxRecDepth 100000
set_option maxHeartbeats 1000000
namespace G
open PySem PySem.Spec PyProof.Rows L2

/-- an exception, as it is handed on -/
def atomV : D → Option V
  | .non => some .non
  | .bl b => some (.bl b)
  | .int i => some (.int i)
  | .str s => some (.str s)
  | _ => none
def XRel (c : Nm) (x : Exc) (cls : Value) (d : Option Addr) (H : Hp) : Prop :=
  cls = .ref (c.cls x.cls) ∧ (if x.fs = [] then d = none else ∃ a vs, d = some a ∧ x.fs.map (fun p => atomV p.2) = vs.map some ∧ H a = some (.xd ((x.fs.map fun p => c.fld p.1).zip vs)))

/-- x, from s, ends in K; an exception in X -/
def Run {α : Type} (x : M α) (s : S) (K : α → S → Prop) (X : Exc → S → Prop) : Prop := match x s with
  | some (.ok a, s') => K a s'
  | some (.exn e, s') => X e s'
  | none => False
section
variable {α β : Type} {s : S} {X X' : Exc → S → Prop}
theorem Run.bind {x : M α} {f : α → M β} {K : β → S → Prop} : Run (x >>= f) s K X ↔ Run x s (fun a s' => Run (f a) s' K X) X := by
  show Run (M.bind x f) s K X ↔ _
  unfold Run M.bind
  cases h : x s with
  | none => exact Iff.rfl
  | some r =>
    obtain ⟨r, s'⟩ := r
    cases r <;> exact Iff.rfl
theorem Run.ret {a : α} {K : α → S → Prop} : Run (M.ret a) s K X ↔ K a s := Iff.rfl
theorem Run.pure {a : α} {K : α → S → Prop} : Run (pure a) s K X ↔ K a s := Iff.rfl
theorem Run.stuck {K : α → S → Prop} : Run (M.stuck) s K X ↔ False := Iff.rfl
theorem Run.mono {x : M α} {K K' : α → S → Prop} (h : Run x s K X) (hK : ∀ a s', K a s' → K' a s') (hX : ∀ e s', X e s' → X' e s') : Run x s K' X' := by
  unfold Run at h ⊢
  cases e : x s with
  | none => rw [e] at h; exact h
  | some r =>
    obtain ⟨r, s'⟩ := r
    rw [e] at h
    cases r with
    | ok a => exact hK a s' h
    | exn a => exact hX a s' h
theorem Run.of {o : Option α} {K : α → S → Prop} : Run (M.of o) s K X ↔ ∃ a, o = some a ∧ K a s := by
  cases o with
  | none => exact ⟨fun h => False.elim h, fun ⟨a, e, _⟩ => nomatch e⟩
  | some a => exact ⟨fun h => ⟨a, rfl, h⟩, fun ⟨b, e, h⟩ => by cases e; exact h⟩
theorem Run.getS {i : Nat} {K : RV → S → Prop} : Run (getS i) s K X ↔ ∃ v, s.l[i]? = some (some v) ∧ K v s := by
  unfold Run G.getS
  constructor
  · intro h
    split at h
    · rename_i e
      split at e
      · rename_i e2
        cases e
        exact ⟨_, e2, h⟩
      · cases e
    · rename_i e
      split at e <;> cases e
    · exact h.elim
  · rintro ⟨v, e, h⟩
    rw [e]
    exact h
theorem Run.setS {i : Nat} {v : RV} {K : Unit → S → Prop} : Run (setS i v) s K X ↔ i < s.l.length ∧ K () { s with l := s.l.set i (some v) } := by
  unfold Run G.setS
  by_cases h : i < s.l.length
  · simp only [if_pos h]; exact ⟨fun q => ⟨h, q⟩, fun q => q.2⟩
  · simp only [if_neg h]; exact ⟨fun q => q.elim, fun q => absurd q.1 h⟩
theorem Run.delS {i : Nat} {K : Unit → S → Prop} : Run (delS i) s K X ↔ K () { s with l := s.l.set i none } := Iff.rfl
theorem Run.memAt {k : Nat} {K : MO → S → Prop} : Run (memAt k) s K X ↔ ∃ o, s.m[k]? = some o ∧ K o s := by
  unfold Run G.memAt
  cases h : s.m[k]? with
  | none => exact ⟨fun h => False.elim h, fun ⟨o, e, _⟩ => nomatch e⟩
  | some o => exact ⟨fun q => ⟨o, rfl, q⟩, fun ⟨o', e, q⟩ => by cases e; exact q⟩
theorem Run.setMem {k : Nat} {o : MO} {K : Unit → S → Prop} : Run (setMem k o) s K X ↔ k < s.m.length ∧ K () { s with m := s.m.set k o } := by
  unfold Run G.setMem
  by_cases h : k < s.m.length
  · simp only [if_pos h]; exact ⟨fun q => ⟨h, q⟩, fun q => q.2⟩
  · simp only [if_neg h]; exact ⟨fun q => q.elim, fun q => absurd q.1 h⟩
end

/-- the heap has only grown -/
def Ext (H H' : Hp) : Prop := ∀ b o, H b = some o → H' b = some o
theorem Ext.refl {H : Hp} : Ext H H := fun _ _ e => e
theorem Ext.trans {H H1 H2 : Hp} (a : Ext H H1) (b : Ext H1 H2) : Ext H H2 := fun c o e => b c o (a c o e)
theorem Ext.new {H : Hp} {p : Addr} {o : HO} (h : H p = none) : Ext H (upd H p o) := fun b u e => by
  rw [upd_ne (ne_of_none e h)]; exact e

/-- how a value is told: as a root that is held, or to be looked at -/
def Aft (c : Nm) (b : Bool) (σ : L2.St) (l : List (Option RV)) (T : List (V × RV)) (m : Mem) (r : RV) (v : V) (H : Hp) : Prop :=
  if b = true then ∃ fr ms, SIg c fr ms σ l T m H ∧ RD c fr (mu ms) H r.2 v else SI c σ l ((v, r) :: T) m H
def ExP (c : Nm) (W : WX) (σ : L2.St) (T : List (V × RV)) (x : Exc) (s : S) : Prop :=
  ∀ cls d H', XRel c x cls d H' → SI c σ s.l T s.m H' → W cls d σ H'
/-- what an expression does, as a reading -/
def tM (c : Nm) (W : WX) (b k : Bool) (x : M RV) : TE := fun σ H Q => ∃ l T m, SI c σ l T m H ∧
  Run x ⟨l, m⟩ (fun r s' => ∀ v H', Aft c b σ s'.l T s'.m r v H' → (k = true → Ext H H') → Q v H') (ExP c W σ T)
theorem ExP.pop {c : Nm} {W : WX} {σ : L2.St} {T : List (V × RV)} {r : V × RV} {x : Exc} {s : S} (h : ExP c W σ T x s) : ExP c W σ (r :: T) x s := fun cls d H' q si => h cls d H' q si.pop
theorem Aft.look {c : Nm} {b : Bool} {σ : L2.St} {l : List (Option RV)} {T : List (V × RV)} {m : Mem} {r : RV} {v : V} {H : Hp} (h : Aft c b σ l T m r v H) : ∃ fr ms, SIg c fr ms σ l T m H ∧ RD c fr (mu ms) H r.2 v := by
  unfold Aft at h
  split at h
  · exact h
  · obtain ⟨fr, ms, s⟩ := h
    exact ⟨fr, ms, s.pop, (s.temps _ List.mem_cons_self).rd⟩
theorem Aft.of {c : Nm} {b : Bool} {σ : L2.St} {l : List (Option RV)} {T : List (V × RV)} {m : Mem} {r : RV} {v : V} {H : Hp} (h : SI c σ l ((v, r) :: T) m H) : Aft c b σ l T m r v H := by
  cases b with
  | false => exact h
  | true => exact Aft.look (b := false) h
/-- a flat thing -/
theorem Aft.atom {c : Nm} {b : Bool} {σ : L2.St} {l : List (Option RV)} {T : List (V × RV)} {m : Mem} {d : D} {v : V} {H : Hp} (s : SI c σ l T m H) (h : ∀ fr mu, FR c fr mu H d v) : Aft c b σ l T m (false, d) v H := by
  obtain ⟨fr, ms, s⟩ := s
  exact .of ⟨fr, ms, s.push (h fr (mu ms))⟩

section
variable {X : Cx} {e : Expr} {t t' : TE}
theorem PEimp (h : PE X e t) (hi : ∀ σ H Q, t' σ H Q → t σ H Q) : PE X e t' := ⟨fun pins s σ H Q I q => h.run pins s σ H Q I (hi σ H Q q)⟩
variable {c : Nm} {W : WX} {b k : Bool}
theorem x_con_int {i : Int} {j : Nat} {pos : Pos} : PE X (.Constant (.int i) j pos) (tM c W b k (M.ret (false, .int i))) :=
  PEimp pe_int fun σ H Q ⟨l, T, m, s, h⟩ => h _ _ (Aft.atom s fun _ _ => by simp only [FR]) fun _ => Ext.refl
theorem x_con_bl {i : Bool} {j : Nat} {pos : Pos} : PE X (.Constant (.bool i) j pos) (tM c W b k (M.ret (false, .bl i))) :=
  PEimp pe_bl fun σ H Q ⟨l, T, m, s, h⟩ => h _ _ (Aft.atom s fun _ _ => by simp only [FR]) fun _ => Ext.refl
theorem x_con_non {j : Nat} {pos : Pos} : PE X (.Constant .none j pos) (tM c W b k (M.ret (false, .non))) :=
  PEimp pe_non fun σ H Q ⟨l, T, m, s, h⟩ => h _ _ (Aft.atom s fun _ _ => by simp only [FR]) fun _ => Ext.refl
theorem x_con_str {i : Str} {j : Nat} {pos : Pos} : PE X (.Constant (.str i) j pos) (tM c W b k (M.ret (false, .str i))) :=
  PEimp pe_str fun σ H Q ⟨l, T, m, s, h⟩ => h _ _ (Aft.atom s fun _ _ => by simp only [FR]) fun _ => Ext.refl

/-- a name, looked at -/
theorem x_var_look {i : Nat} {x : Str} {pos : Pos} (hN : X.N[i]? = some x) (hv : Vis X.env.scope x) (h1 : (x == ("__debug__" : Str)) = false) (h2 : (x == ("__classdict__" : Str)) = false) :
    PE X (.Name x pos) (tM c W true k (do let v ← getS i; M.ret (false, v.2))) :=
  PEimp (pe_var hN hv h1 h2) fun σ H Q ⟨l, T, m, s, h⟩ => by
    obtain ⟨fr, ms, s⟩ := s
    rw [Run.bind, Run.getS] at h
    obtain ⟨x, e, h⟩ := h
    obtain ⟨v, e1, r⟩ := s.slots i x e
    exact ⟨v, e1, h v H ⟨fr, ms, s, r.rd⟩ fun _ => Ext.refl⟩
/-- .. as a value -/
theorem x_var {i : Nat} {x : Str} {pos : Pos} (hN : X.N[i]? = some x) (hv : Vis X.env.scope x) (h1 : (x == ("__debug__" : Str)) = false) (h2 : (x == ("__classdict__" : Str)) = false) :
    PE X (.Name x pos) (tM c W false k (varM i)) :=
  PEimp (pe_var hN hv h1 h2) fun σ H Q ⟨l, T, m, s, h⟩ => by
    obtain ⟨fr, ms, s⟩ := s
    unfold varM at h
    rw [Run.bind, Run.getS] at h
    obtain ⟨x, e, h⟩ := h
    obtain ⟨v, e1, r⟩ := s.slots i x e
    refine ⟨v, e1, ?_⟩
    obtain ⟨o, d⟩ := x
    cases o with
    | false =>
      simp only [Bool.false_eq_true, if_false] at h
      refine h v H ?_ fun _ => Ext.refl
      exact ⟨fr, ms, s.push r⟩
    | true =>
      simp only [if_true] at h
      have hi : i < l.length := (List.getElem?_eq_some_iff.mp e).1
      rw [Run.bind, Run.setS] at h
      refine h.2 v H ?_ fun _ => Ext.refl
      -- taken out, frozen, put back
      obtain ⟨fr', ms', s'⟩ := (s.take e1 e).freeze1
      have hF : FR c fr' (mu ms') H d v := s'.temps _ List.mem_cons_self
      have s2 := (s'.push hF).set (i := i)
      refine ⟨fr', ms', ?_⟩
      have q1 : σ.set i (some v) = σ := by
        apply List.ext_getElem?
        intro j
        by_cases hj : i = j
        · subst hj
          rw [List.getElem?_set_self (by rw [s.len]; exact hi), e1]
        · rw [List.getElem?_set_ne hj]
      have q2 : (l.set i none).set i (some (false, d)) = l.set i (some (false, d)) := by simp
      rw [q1, q2] at s2
      exact s2
theorem x_take {i : Nat} {x : Str} {pos : Pos} (hN : X.N[i]? = some x) (hv : Vis X.env.scope x) (h1 : (x == ("__debug__" : Str)) = false) (h2 : (x == ("__classdict__" : Str)) = false) :
    PE X (.Name x pos) (tM c W b k (takeM i)) :=
  PEimp (pe_var hN hv h1 h2) fun σ H Q ⟨l, T, m, s, h⟩ => by
    obtain ⟨fr, ms, s⟩ := s
    unfold takeM at h
    rw [Run.bind, Run.getS] at h
    obtain ⟨x, e, h⟩ := h
    obtain ⟨v, e1, r⟩ := s.slots i x e
    rw [Run.bind, Run.delS] at h
    exact ⟨v, e1, h v H (.of ⟨fr, ms, s.take e1 e⟩) fun _ => Ext.refl⟩

/-- two in a row: the first is held -/
theorem two {r : R2} {ta tb : TE} {op : Operator} {a b' : Expr} {pos : Pos} (ho : OpR X (binaryOp op) r) (ha : PE X a ta) (hb : PE X b' tb) (h : ∀ σ H Q, t' σ H Q → ta σ H fun x H1 => tb σ H1 fun y H2 => r x y H2 Q) : PE X (.BinOp a op b' pos) t' :=
  PEimp (pe_op ho ha hb) h
end
end G

set_option linter.all false
set_option maxRecDepth 100000
set_option maxHeartbeats 1000000
namespace G
open PySem PySem.Spec PyProof.Rows L2
section
variable {c : Nm} {fr fr' : Addr → Prop} {m : List Addr} {H H' : Hp} {ms : Ms} {σ : L2.St} {l : List (Option RV)} {T : List (V × RV)} {M : Mem}
mutual
theorem FR.dp : ∀ (d : D) (v : V), FR c fr m H d v → d.flat = true → Dp c.K H v d.py
  | .non, v, h, _ => by simp only [FR] at h; subst h; exact .non
  | .bl b, v, h, _ => by simp only [FR] at h; subst h; exact .bl b
  | .int i, v, h, _ => by simp only [FR] at h; subst h; exact .int i
  | .str s, v, h, _ => by simp only [FR] at h; subst h; exact .str s
  | .tup ds, v, h, f => by
    simp only [FR] at h
    simp only [D.flat] at f
    obtain ⟨a, vs, e, q, r⟩ := h
    subst e
    exact .tup q.sq (FRs.dp ds vs r f)
  | .lst ds, v, h, f => by
    simp only [FR] at h
    simp only [D.flat] at f
    obtain ⟨a, vs, e, q, r⟩ := h
    subst e
    exact .lst (SqL.of q.1) (FRs.dp ds vs r f)
  | .dic _, _, _, f => by simp [D.flat] at f
  | .obj _, _, _, f => by simp [D.flat] at f
  | .scr _, _, _, f => by simp [D.flat] at f
  | .pin _, _, _, f => by simp [D.flat] at f
theorem FRs.dp : ∀ (ds : List D) (vs : List V), FRs c fr m H ds vs → D.flatL ds = true → DpAll c.K H vs (D.pyL ds)
  | [], vs, h, _ => by
    simp only [FRs] at h
    subst h
    exact .nil
  | d :: ds, vs, h, f => by
    simp only [FRs] at h
    simp only [D.flatL, Bool.and_eq_true] at f
    obtain ⟨v, vs', e, r, q⟩ := h
    subst e
    exact .cons (FR.dp d v r f.1) (FRs.dp ds vs' q f.2)
end
theorem RD.dp {d : D} {v : V} (h : RD c fr m H d v) (f : d.flat = true) : Dp c.K H v d.py := by
  cases d with
  | lst ds =>
    obtain ⟨a, vs, e, q, r⟩ := h
    subst e
    simp only [D.flat] at f
    exact .lst (SqL.of q) (FRs.dp ds vs r f)
  | dic _ => simp [D.flat] at f
  | _ => exact FR.dp (fr := fr) (m := m) _ _ h f
mutual
theorem flat_lay : ∀ (d : D), d.flat = true → d.py.canLay0 = true
  | .non, _ => rfl
  | .bl _, _ => rfl
  | .int _, _ => rfl
  | .str s, h => by simpa [D.py, PyData.canLay0, D.flat] using h
  | .tup ds, h => by
    simp only [D.py, PyData.canLay0]
    exact flatL_lay ds (by simpa [D.flat] using h)
  | .lst ds, h => by
    simp only [D.py, PyData.canLay0]
    exact flatL_lay ds (by simpa [D.flat] using h)
  | .dic _, h => by simp [D.flat] at h
  | .obj _, h => by simp [D.flat] at h
  | .scr _, h => by simp [D.flat] at h
  | .pin _, h => by simp [D.flat] at h
theorem flatL_lay : ∀ (ds : List D), D.flatL ds = true → PyData.canLayAll0 (D.pyL ds) = true
  | [], _ => rfl
  | d :: ds, h => by
    simp only [D.flatL, Bool.and_eq_true] at h
    simp only [D.pyL, PyData.canLayAll0, flat_lay d h.1, flatL_lay ds h.2, Bool.and_true]
end
mutual
theorem dep_py : ∀ (d : D), d.flat = true → d.py.depth = d.dep
  | .non, _ => rfl
  | .bl _, _ => rfl
  | .int _, _ => rfl
  | .str s, h => rfl
  | .tup ds, h => by
    simp only [D.py, PyData.depth, D.dep]
    rw [depL_py ds (by simpa [D.flat] using h)]
  | .lst ds, h => by
    simp only [D.py, PyData.depth, D.dep]
    rw [depL_py ds (by simpa [D.flat] using h)]
  | .dic _, h => by simp [D.flat] at h
  | .obj _, h => by simp [D.flat] at h
  | .scr _, h => by simp [D.flat] at h
  | .pin _, h => by simp [D.flat] at h
theorem depL_py : ∀ (ds : List D), D.flatL ds = true → PyData.depthAll (D.pyL ds) = D.depL ds
  | [], _ => rfl
  | d :: ds, h => by
    simp only [D.flatL, Bool.and_eq_true] at h
    simp only [D.pyL, PyData.depthAll, D.depL, dep_py d h.1, depL_py ds h.2]
end
theorem flat_shaped {d : D} (f : d.flat = true) (h : d.dep ≤ 60) : SeqAt.shaped d.py = true := by
  unfold SeqAt.shaped
  rw [flat_lay d f, dep_py d f]
  simp
  omega
mutual
theorem eqv_py : ∀ (x y : D), x.flat = true → y.flat = true → D.eqv x y = PyData.eqv x.py y.py
  | .non, y, _, h => by cases y <;> simp [D.eqv, D.py, PyData.eqv, D.flat] at h ⊢
  | .bl a, y, _, h => by cases y <;> simp [D.eqv, D.py, PyData.eqv, D.flat] at h ⊢
  | .int a, y, _, h => by cases y <;> simp [D.eqv, D.py, PyData.eqv, D.flat] at h ⊢
  | .str a, y, _, h => by
    cases y with
    | str b =>
      simp only [D.eqv, D.py, PyData.eqv]
      by_cases e : a = b
      · subst e; simp
      · rw [decide_eq_false e]; exact (beq_eq_false_iff_ne.mpr e).symm
    | _ => simp [D.eqv, D.py, PyData.eqv, D.flat] at h ⊢
  | .tup xs, y, hx, h => by
    cases y with
    | tup ys =>
      simp only [D.eqv, D.py, PyData.eqv]
      exact eqvL_py xs ys (by simpa [D.flat] using hx) (by simpa [D.flat] using h)
    | _ => simp [D.eqv, D.py, PyData.eqv, D.flat] at h ⊢
  | .lst xs, y, hx, h => by
    cases y with
    | lst ys =>
      simp only [D.eqv, D.py, PyData.eqv]
      exact eqvL_py xs ys (by simpa [D.flat] using hx) (by simpa [D.flat] using h)
    | _ => simp [D.eqv, D.py, PyData.eqv, D.flat] at h ⊢
  | .dic _, _, h, _ => by simp [D.flat] at h
  | .obj _, _, h, _ => by simp [D.flat] at h
  | .scr _, _, h, _ => by simp [D.flat] at h
  | .pin _, _, h, _ => by simp [D.flat] at h
theorem eqvL_py : ∀ (xs ys : List D), D.flatL xs = true → D.flatL ys = true → D.eqvL xs ys = PyData.eqvAll (D.pyL xs) (D.pyL ys)
  | [], [], _, _ => rfl
  | [], _ :: _, _, _ => rfl
  | _ :: _, [], _, _ => rfl
  | x :: xs, y :: ys, h1, h2 => by
    simp only [D.flatL, Bool.and_eq_true] at h1 h2
    simp only [D.eqvL, D.pyL, PyData.eqvAll, eqv_py x y h1.1 h2.1, eqvL_py xs ys h1.2 h2.2]
end

/-! lists of things -/
theorem FRs.length : ∀ {ds : List D} {vs : List V}, FRs c fr m H ds vs → vs.length = ds.length
  | [], vs, h => by simp only [FRs] at h; subst h; rfl
  | d :: ds, vs, h => by
    simp only [FRs] at h
    obtain ⟨v, vs', e, r, q⟩ := h
    subst e
    simp [FRs.length q]
theorem FRs.get : ∀ {ds : List D} {vs : List V} {i : Nat} {d : D}, FRs c fr m H ds vs → ds[i]? = some d → ∃ v, vs[i]? = some v ∧ FR c fr m H d v
  | [], _, _, _, _, e => by simp at e
  | x :: ds, vs, 0, d, h, e => by
    simp only [FRs] at h
    obtain ⟨v, vs', e', r, q⟩ := h
    subst e'
    simp at e; subst e
    exact ⟨v, rfl, r⟩
  | x :: ds, vs, i + 1, d, h, e => by
    simp only [FRs] at h
    obtain ⟨v, vs', e', r, q⟩ := h
    subst e'
    obtain ⟨w, h1, h2⟩ := FRs.get (i := i) q (by simpa using e)
    exact ⟨w, by simpa using h1, h2⟩
theorem FRs.append : ∀ {ds es : List D} {vs ws : List V}, FRs c fr m H ds vs → FRs c fr m H es ws → FRs c fr m H (ds ++ es) (vs ++ ws)
  | [], _, vs, _, h, h' => by simp only [FRs] at h; subst h; exact h'
  | d :: ds, es, vs, ws, h, h' => by
    simp only [FRs] at h
    obtain ⟨v, vs', e, r, q⟩ := h
    subst e
    simp only [List.cons_append, FRs]
    exact ⟨v, vs' ++ ws, rfl, r, FRs.append q h'⟩
theorem FRs.nil : FRs c fr m H [] [] := by simp only [FRs]
theorem FRs.cons {d : D} {v : V} {ds : List D} {vs : List V} (h : FR c fr m H d v) (h' : FRs c fr m H ds vs) : FRs c fr m H (d :: ds) (v :: vs) := by
  simp only [FRs]; exact ⟨v, vs, rfl, h, h'⟩
theorem FRs.drop : ∀ {ds : List D} {vs : List V} (n : Nat), FRs c fr m H ds vs → FRs c fr m H (ds.drop n) (vs.drop n)
  | _, _, 0, h => h
  | [], vs, n + 1, h => by simp only [FRs] at h; subst h; exact FRs.nil
  | d :: ds, vs, n + 1, h => by
    simp only [FRs] at h
    obtain ⟨v, vs', e, r, q⟩ := h
    subst e
    exact FRs.drop n q
theorem FRs.take : ∀ {ds : List D} {vs : List V} (n : Nat), FRs c fr m H ds vs → FRs c fr m H (ds.take n) (vs.take n)
  | _, _, 0, h => FRs.nil
  | [], vs, n + 1, h => by simp only [FRs] at h; subst h; exact FRs.nil
  | d :: ds, vs, n + 1, h => by
    simp only [FRs] at h
    obtain ⟨v, vs', e, r, q⟩ := h
    subst e
    exact FRs.cons r (FRs.take n q)
theorem FRs.set : ∀ {ds : List D} {vs : List V} {i : Nat} {d : D} {v : V}, FRs c fr m H ds vs → FR c fr m H d v → FRs c fr m H (ds.set i d) (vs.set i v)
  | [], vs, _, _, _, h, _ => by simp only [FRs] at h; subst h; exact FRs.nil
  | x :: ds, vs, 0, d, w, h, h' => by
    simp only [FRs] at h
    obtain ⟨v, vs', e, r, q⟩ := h
    subst e
    exact FRs.cons h' q
  | x :: ds, vs, i + 1, d, w, h, h' => by
    simp only [FRs] at h
    obtain ⟨v, vs', e, r, q⟩ := h
    subst e
    exact FRs.cons r (FRs.set q h')
theorem FRs.eraseIdx : ∀ {ds : List D} {vs : List V} {i : Nat}, FRs c fr m H ds vs → FRs c fr m H (ds.eraseIdx i) (vs.eraseIdx i)
  | [], vs, _, h => by simp only [FRs] at h; subst h; exact FRs.nil
  | x :: ds, vs, 0, h => by
    simp only [FRs] at h
    obtain ⟨v, vs', e, r, q⟩ := h
    subst e
    exact q
  | x :: ds, vs, i + 1, h => by
    simp only [FRs] at h
    obtain ⟨v, vs', e, r, q⟩ := h
    subst e
    exact FRs.cons r (FRs.eraseIdx q)
theorem FRs.reverse {ds : List D} {vs : List V} (h : FRs c fr m H ds vs) : FRs c fr m H ds.reverse vs.reverse := by
  induction ds generalizing vs with
  | nil => simp only [FRs] at h; subst h; exact FRs.nil
  | cons d ds ih =>
    simp only [FRs] at h
    obtain ⟨v, vs', e, r, q⟩ := h
    subst e
    rw [List.reverse_cons, List.reverse_cons]
    exact FRs.append (ih q) (FRs.cons r FRs.nil)
theorem FRs.rep {ds : List D} {vs : List V} (n : Nat) (h : FRs c fr m H ds vs) : FRs c fr m H (List.replicate n ds).flatten (List.replicate n vs).flatten := by
  induction n with
  | zero => exact FRs.nil
  | succ n ih =>
    rw [List.replicate_succ, List.replicate_succ, List.flatten_cons, List.flatten_cons]
    exact FRs.append h ih
theorem FRs.cut {ds : List D} {vs : List V} {lo hi : Option Int} (h : FRs c fr m H ds vs) : FRs c fr m H (cut ds lo hi) (cutV vs lo hi) := by
  unfold G.cut cutV
  rw [h.length]
  exact FRs.take _ (FRs.drop _ h)
theorem FRs.at {ds : List D} {vs : List V} {i : Int} {d : D} (h : FRs c fr m H ds vs) (e : atI ds i = some d) : ∃ v, atI vs i = some v ∧ FR c fr m H d v := by
  unfold atI at e ⊢
  rw [h.length]
  cases q : ixN ds.length i with
  | none => rw [q] at e; cases e
  | some k =>
    rw [q] at e
    exact h.get (by simpa using e)

/-- the second of those held is let go -/
theorem SIg.drop2 {r q : V × RV} (s : SIg c fr ms σ l (r :: q :: T) M H) : SIg c fr ms σ l (r :: T) M H := by
  refine ⟨s.len, s.slots, fun z hz => s.temps z ?_, s.mem, fun a => by have := s.one a; simp only [ownT] at this ⊢; omega, fun a f => by have := s.nof a f; simp only [ownT] at this ⊢; omega, s.frt⟩
  rcases List.mem_cons.mp hz with rfl | hz
  · exact List.mem_cons_self
  · exact List.mem_cons_of_mem _ (List.mem_cons_of_mem _ hz)
theorem SI.drop2 {r q : V × RV} (s : SI c σ l (r :: q :: T) M H) : SI c σ l (r :: T) M H := let ⟨fr, ms, s⟩ := s; ⟨fr, ms, s.drop2⟩
theorem Aft.drop2 {b : Bool} {q : V × RV} {r : RV} {v : V} (h : Aft c b σ l (q :: T) M r v H) : Aft c b σ l T M r v H := by
  unfold Aft at h ⊢
  split at h
  · rename_i hb
    rw [if_pos hb]
    obtain ⟨fr, ms, s, z⟩ := h
    exact ⟨fr, ms, s.pop, z⟩
  · rename_i hb
    rw [if_neg hb]
    exact SI.drop2 h

theorem MemsOk.get : ∀ {M : Mem} {ms : Ms} {k : Nat} {o : MO}, MemsOk c fr m H M ms → M[k]? = some o → ∃ x, ms[k]? = some x ∧ MemOk c fr m H o x
  | [], _, _, _, _, e => by simp at e
  | o' :: os, ms, 0, o, h, e => by
    obtain ⟨x, ms', e', h1, h2⟩ := h
    subst e'
    simp at e; subst e
    exact ⟨x, rfl, h1⟩
  | o' :: os, ms, k + 1, o, h, e => by
    obtain ⟨x, ms', e', h1, h2⟩ := h
    subst e'
    obtain ⟨y, h3, h4⟩ := MemsOk.get (k := k) h2 (by simpa using e)
    exact ⟨y, by simpa using h3, h4⟩
/-- a list of the memory is seen as what it holds -/
theorem Run.seen {u : RV} {s : S} {K : D → S → Prop} {X : Exc → S → Prop} {v : V} (h : Run (seen u) s K X) (si : SIg c fr ms σ l T s.m H) (r : RD c fr (mu ms) H u.2 v) : ∃ d, K d s ∧ RD c fr (mu ms) H d v ∧ (∀ k, d ≠ .obj k) := by
  obtain ⟨o, d⟩ := u
  cases d with
  | obj k =>
    have h : Run (G.memAt k >>= fun o => match o with
      | MO.lst xs => M.ret (D.lst xs)
      | _ => M.stuck) s K X := h
    rw [Run.bind, Run.memAt] at h
    obtain ⟨o, e, h⟩ := h
    cases o with
    | ins _ _ => exact h.elim
    | lst xs =>
      obtain ⟨x, h1, h2⟩ := si.mem.get e
      obtain ⟨a, vs⟩ := x
      obtain ⟨h3, h4⟩ := h2
      have r : FR c fr (mu ms) H (.obj k) v := r
      simp only [FR] at r
      obtain ⟨b, e1, e2⟩ := r
      have : b = a := by
        unfold mu at e2
        rw [List.getElem?_map, h1] at e2
        simpa using e2.symm
      subst this
      exact ⟨_, h, ⟨b, vs, e1, h3, h4⟩, by simp⟩
  | _ => exact ⟨_, h, r, by simp⟩
end
end G

set_option linter.all false
set_option maxRecDepth 100000
set_option maxHeartbeats 1000000
namespace G
open PySem PySem.Spec PyProof.Rows L2
/-! makers of tuples, told by the object made -/
section
variable {X : Cx} {pins : List (Addr × Obj)} {σ : L2.St} {H : Hp} {s : Shared}
/-- a new tuple, laid -/
theorem laidT {t' : Nat} {xs : List V} {us : List Value} (I : L2.Inv X pins σ H s) (r : Vals xs us) (z : xs.length ≤ sizeLine) :
    L2.Inv X pins σ (upd H s.heap.objs.size (.frz { cls := .type "tuple", data := .seq us.toArray } (.tup xs))) { s with heap := s.heap.push { cls := .type "tuple", data := .seq us.toArray }, toks := t' } :=
  I.laid (t' := t') (fun b u e => Heap.get?_push_of_some _ e) (Nat.le_refl _) ⟨Heap.get?_push_size _ rfl, z, us, r, ⟨_, Heap.get?_push_size _ rfl, rfl, _, rfl⟩⟩
end
/-- a display -/
def tTupN (t : TA) : TE := fun σ H Q => t σ H fun xs H1 => xs.length ≤ sizeLine ∧ ∀ (p : Addr) (o : Obj), H1 p = none → o.dict = none → Q (.ref p) (upd H1 p (.frz o (.tup xs)))
theorem pe_tupN {X : Cx} {es : List Expr} {t : TA} {pos : Pos} {x1} (h : PA X es t) : PE X (.Tuple es x1 pos) (tTupN t) := by
  refine ⟨fun pins s σ H Q I hq => ?_⟩
  refine wpAny_Tuple_spliced (thn (h.run pos pins s σ H _ I hq) fun us s1 ⟨xs, H1, I1, r, z, q⟩ => ⟨by rw [← r.length]; exact z, ?_⟩)
  have hf : H1 s1.heap.objs.size = none := I1.hok.fresh (Nat.le_refl _)
  exact ⟨.ref s1.heap.objs.size, _, laidT (t' := s1.toks) I1 r z, rfl, q _ _ hf rfl⟩
section
variable {X : Cx}
/-- t + u -/
def rCatN (K : PySem.W.Frag) : R2 := fun x y H Q => ∃ a b xs ys, x = .ref a ∧ y = .ref b ∧ SqT K H a xs ∧ SqT K H b ys ∧ xs.length + ys.length ≤ sizeLine ∧
  (xs = [] → Q (.ref b) H) ∧ (xs ≠ [] → ys = [] → Q (.ref a) H) ∧ (xs ≠ [] → ys ≠ [] → ∀ (p : Addr) (o : Obj), H p = none → o.dict = none → Q (.ref p) (upd H p (.frz o (.tup (xs ++ ys)))))
theorem op_catN : OpR X (binaryOp .Add) (rCatN X.K) := by
  intro pins s σ H x y v u Q I rx ry h
  obtain ⟨a, b, xs, ys, rfl, rfl, ha, hb, hz, q0, q1, q2⟩ := h
  cases rx
  cases ry
  obtain ⟨its, r1, p1, _⟩ := I.tuple ha
  obtain ⟨its2, r2, p2, _⟩ := I.tuple hb
  by_cases hx : xs = []
  · subst hx
    cases r1
    exact cat_tup0 p1 p2 ⟨.ref b, H, I, rfl, q0 rfl⟩
  · refine HT.cat_tup p1 p2 (fun z => hx (r1.nil_iff.mp z)) (fun z => ⟨.ref a, H, I, rfl, q1 hx (r2.nil_iff.mp z)⟩) (fun z => ?_) (by rw [← r1.length, ← r2.length]; exact hz)
    exact ⟨.ref s.heap.objs.size, _, laidT (t' := s.toks) I (r1.append r2) (by rw [List.length_append]; exact hz), rfl, q2 hx (fun w => z (r2.nil_iff.mpr w)) _ _ (I.hok.fresh (Nat.le_refl _)) rfl⟩
/-- t[lo:hi] -/
def rSlN (K : PySem.W.Frag) : V → Option Int → Option Int → Hp → VK → Prop := fun x lo hi H Q => ∃ a xs, x = .ref a ∧ SqT K H a xs ∧
  (HT.sIx xs.length 0 lo = 0 ∧ HT.sIx xs.length xs.length hi = xs.length → Q (.ref a) H) ∧ (¬ (HT.sIx xs.length 0 lo = 0 ∧ HT.sIx xs.length xs.length hi = xs.length) → ∀ (p : Addr) (o : Obj), H p = none → o.dict = none → Q (.ref p) (upd H p (.frz o (.tup (cutV xs lo hi)))))
theorem sl_tupN : SlR X (rSlN X.K) := by
  intro pins s σ H x v vl vu lo hi sl Q I rx hs pl pu h
  obtain ⟨a, xs, rfl, hx, q1, q2⟩ := h
  cases rx
  obtain ⟨its, r, ht, hz⟩ := I.tuple hx
  have hlen : its.toArray.size = xs.length := by rw [List.size_toArray]; exact r.length.symm
  refine ⟨"tuple", _, PyProof.Rows.slot_tuple_getitem.lookup, ht.typeIs, ?_⟩
  by_cases hw : HT.sIx xs.length 0 lo = 0 ∧ HT.sIx xs.length xs.length hi = xs.length
  · exact getItem_tuple_whole ht hs pl pu (by rw [hlen]; exact hw) ⟨.ref a, H, I, rfl, q1 hw⟩
  · refine HT.getItem_tuple_cut ht hs pl pu (by rw [hlen]; exact hw) ?_ (by rw [hlen]; exact hz)
    rw [hlen]
    exact ⟨.ref s.heap.objs.size, _, laidT (t' := s.toks) I ((r.drop (HT.sIx xs.length 0 lo)).take (HT.sIx xs.length xs.length hi - HT.sIx xs.length 0 lo)) (Nat.le_trans (cutV_length xs lo hi) hz), rfl, q2 hw _ _ (I.hok.fresh (Nat.le_refl _)) rfl⟩
/-- tuple(x) -/
theorem call_tupleN : CallR X (.type "tuple") (fun xs H Q => ∃ p ys, xs = [.ref p] ∧ ((SqL X.K H p ys ∧ ∀ (l : Addr) (o : Obj), H l = none → o.dict = none → Q (.ref l) (upd H l (.frz o (.tup ys)))) ∨ (SqT X.K H p ys ∧ Q (.ref p) H))) := by
  intro pins s σ H xs us Q I r h
  obtain ⟨p, ys, rfl, h⟩ := h
  obtain ⟨u, rfl, rx⟩ := vals1 r
  cases rx
  rcases h with ⟨hq, q⟩ | ⟨hq, q⟩
  · obtain ⟨its, r', pl, hz⟩ := I.list hq
    have hlen := r'.length
    refine call_tuple_list pl.isList (fun h' kp => ?_) (by simp only [List.size_toArray] <;> omega)
    have I1 : L2.Inv X pins σ H { s with heap := h' } := I.kept (t' := s.toks) kp
    exact ⟨.ref h'.objs.size, _, laidT (t' := s.toks) I1 r' hz, rfl, q _ _ (I1.hok.fresh (Nat.le_refl _)) rfl⟩
  · obtain ⟨its, r', pl, hz⟩ := I.tuple hq
    exact call_tuple_same pl ⟨.ref p, H, I, rfl, q⟩
end
section
variable {X : Cx} {e : Expr} {te : L2.St → Hp → (Int → Int → Hp → Prop) → Prop}
def tTupRgN (te : L2.St → Hp → (Int → Int → Hp → Prop) → Prop) : TE := fun σ H Q => te σ H fun a b H1 => RgOk a b ∧ ∀ (q : Addr) (o : Obj), H1 q = none → o.dict = none → Q (.ref q) (upd H1 q (.frz o (.tup (rgV a b))))
theorem pe_tupRgN {p pos : Pos} (hc : X.calm = true) (hg : Gl X "tuple") (hm : X.mg "tuple" = none) (he : PRg X e te) (na : starEach [e] X.env = (false, eval e X.env) :: starEach [] X.env := by rfl) : PE X (.Call (.Name "tuple" p) [e] [] pos) (tTupRgN te) := by
  refine ⟨fun pins s σ H Q I h => ?_⟩
  refine Call_ (ld_blt I hg hm boot_tuple (PyProof.Rows.callWith_type1 (args_cons (thn (he pins s σ H _ I h) fun x s1 ⟨r, a, b, t, u, v, H1, ex, hr, I1, ok, q⟩ => args_nil ?_) na) na))
  subst ex
  obtain ⟨b1, b2, b3, b4, b5⟩ := ok
  refine call_tuple_range (n := (b - a).toNat) (I1.ok.hd hc) hr (small_one b1 b2 b3 b4) (rangeSize_nat a b) b5 fun h' tk acc hk hi => ?_
  have I2 : L2.Inv X pins σ H1 { s1 with heap := h', toks := tk } := I1.kept hk
  have hz : (rgV a b).length ≤ sizeLine := by rw [rgV_length, sizeLine_eq]; omega
  have I3 := laidT (t' := tk) I2 (us := acc.toList) (vals_rg hi) hz
  rw [Array.toArray_toList] at I3
  exact ⟨.ref h'.objs.size, _, I3, rfl, q _ _ (I2.hok.fresh (Nat.le_refl _)) rfl⟩
end
/-- a tuple without a dict stands at T -/
def PlainT (h : Heap) (T : Addr) : Prop := ∃ o : Obj, h.get? T = some o ∧ o.dict = none
section
variable {prog : Program} {w : World} {A : Around} {I : Addr} {fp wr : List Addr} {n : Nat} {Pt : Nat → Array Value → Prop} {St : Nat → Heap → Prop} {Mid : Nat → Addr → Heap → Prop}
theorem _root_.PySem.WalksT.plain (W : WalksT prog w A I fp wr n Pt St Mid)
    (item : ∀ i (s : Shared) (Q : Option Value → Shared → Prop) (E : Value → Shared → Prop), i < n → St i s.heap →
      (∀ T vals h' tk, Pt i vals → s.heap.objs.size ≤ T → h'.IsTuple T vals → (Mid i T h' ∧ PlainT h' T) → (∀ b o, b ∉ wr → s.heap.get? b = some o → h'.get? b = some o) → Q (some (.ref T)) { s with heap := h', toks := tk }) →
      wpAny (model prog w) A (pyNext (.ref I)) Q E s) : WalksT prog w A I fp wr n Pt St (fun i T h => Mid i T h ∧ PlainT h T) where
  sub := W.sub
  frame := W.frame
  item := item
  go := fun elts k pos i T s Q E hm hQ => W.go elts k pos i T s Q E hm.1 hQ
  apart := fun i T h hm => W.apart i T h hm.1
  done := W.done
  self := W.self
end
section
variable {prog : Program} {w : World} {A : Around} {z TI TO i1 i2 it : Addr} {fp fp1 fp2 : List Addr} {n n1 n2 : Nat} {P P1 P2 : Nat → Value → Prop} {St St1 St2 : Nat → Heap → Prop}
theorem _root_.PySem.WalksT.enumN (D : Draws prog w A.in1 it fp n P St) (e : Addr) (hei : e ≠ it) (hef : e ∉ fp) (hif : it ∈ fp) :
    WalksT prog w A e (e :: fp) [e, it] n (fun i vals => ∃ t x, P i x ∧ vals = #[.int i t, x]) (fun i h => (∃ old, IsEnum h e it i old) ∧ St i h)
      (fun i T h => ((∃ x, IsEnumOut h e it ((i : Int) + 1) x T) ∧ St (i + 1) h ∧ T ≠ e ∧ T ≠ it) ∧ PlainT h T) := by
  refine (WalksT.enumerateD D e hei hef hif).plain fun i s Q E hi hst hQ => ?_
  obtain ⟨⟨old, he⟩, hs⟩ := hst
  refine wpAny_pyNext_enum_itemD D he hs hi hei hef fun x h' tk hP ho hs' hT hsz hk => ?_
  have helt : e < s.heap.objs.size := Heap.lt_size he
  have hilt : it < s.heap.objs.size := by obtain ⟨_, y⟩ := D.live _ _ hs; exact Heap.lt_size y
  exact hQ s.heap.objs.size #[.int i tk, x] h' (tk + 1) ⟨_, _, hP, rfl⟩ (Nat.le_refl _) ⟨_, hT, rfl, _, rfl⟩
    ⟨⟨⟨_, ho⟩, hs', Nat.ne_of_gt helt, Nat.ne_of_gt hilt⟩, _, hT, rfl⟩
    fun b o hb y => hk b o (fun e' => hb (by simp [e'])) (fun e' => hb (by simp [e'])) y
theorem _root_.PySem.WalksT.zipN (S : ZipSep2 z TI TO i1 i2 fp1 fp2) (D1 : Draws prog w A.in1 i1 fp1 n1 P1 St1) (D2 : Draws prog w A.in1 i2 fp2 n2 P2 St2) :
    WalksT prog w A z (z :: TI :: TO :: (fp1 ++ fp2)) [z, TO, i1, i2] (min n1 n2) (fun i vals => ∃ x1 x2, P1 i x1 ∧ P2 i x2 ∧ vals = #[x1, x2])
      (fun i h => IsZip h z TI TO .none ∧ IsTupOf2 h TI (.ref i1) (.ref i2) ∧ (∃ a1 a2, IsTupOf2 h TO a1 a2) ∧ St1 i h ∧ St2 i h)
      (fun i T h => (IsZip h z TI TO (rawInt T) ∧ IsTupOf2 h TI (.ref i1) (.ref i2) ∧ (∃ a1 a2, IsTupOf2 h TO a1 a2) ∧ St1 (i + 1) h ∧ St2 (i + 1) h ∧ T ≠ z ∧ T ≠ TO ∧ T ≠ i1 ∧ T ≠ i2) ∧ PlainT h T) := by
  refine (WalksT.zipD2 S D1 D2).plain fun i s Q E hi hst hQ => ?_
  obtain ⟨hz, hTI, ⟨a1, a2, hTO⟩, st1, st2⟩ := hst
  have hi1 : i < n1 := by omega
  have hi2 : i < n2 := by omega
  refine wpAny_pyNext_zipD2_item S D1 D2 hz hTI hTO st1 st2 hi1 hi2 fun x1 x2 h' tk y1 y2 b1 b2 d1 d2 b5 b6 hk => ?_
  have lt : ∀ {c o}, s.heap.get? c = some o → s.heap.objs.size ≠ c := fun e => Nat.ne_of_gt (Heap.lt_size e)
  have l1 : s.heap.objs.size ≠ i1 := by obtain ⟨_, e⟩ := D1.live _ _ st1; exact lt e
  have l2 : s.heap.objs.size ≠ i2 := by obtain ⟨_, e⟩ := D2.live _ _ st2; exact lt e
  exact hQ s.heap.objs.size #[x1, x2] h' tk ⟨x1, x2, y1, y2, rfl⟩ (Nat.le_refl _) ⟨_, b5, rfl, _, rfl⟩
    ⟨⟨b1, hk _ _ S.TIz S.TITO S.TIi1 S.TIi2 hTI, ⟨_, _, b2⟩, d1, d2, lt hz, lt hTO, l1, l2⟩, _, b5, rfl⟩
    fun c o hc e => hk c o (fun x => hc (by simp [x])) (fun x => hc (by simp [x])) (fun x => hc (by simp [x])) (fun x => hc (by simp [x])) e
end
end G

set_option linter.all false
set_option maxRecDepth 100000
set_option maxHeartbeats 1000000
namespace G
open PySem PySem.Spec PyProof.Rows L2
section
variable {c : Nm} {fr fr' : Addr → Prop} {m : List Addr} {H H' : Hp} {ms : Ms} {σ : L2.St} {l : List (Option RV)} {T : List (V × RV)} {mm : Mem} {W : WX}
theorem line : sizeMax = sizeLine := by rw [sizeLine_eq]; rfl

/-- what an operation upon two values owes: from values as data, its result as data -/
def Ok2 (c : Nm) (f : D → D → Option RV) (r : R2) : Prop :=
  ∀ fr ms σ l T mm H p q v w rv (Q : VK), SIg c fr ms σ l T mm H → RD c fr (mu ms) H p v → RD c fr (mu ms) H q w → f p q = some rv → (∀ z H', SI c σ l ((z, rv) :: T) mm H' → Ext H H' → Q z H') → r v w H Q

/-- a name is read once more -/
theorem again_var {i : Nat} {u : RV} {s : S} {K : RV → S → Prop} {X : Exc → S → Prop} (h : Run (again (.var i) u) s K X) : ∃ x, s.l[i]? = some (some x) ∧ K (false, x.2) s := by
  have h : Run (G.getS i >>= fun v => M.ret (false, v.2)) s K X := h
  rw [Run.bind, Run.getS] at h
  obtain ⟨x, e, h⟩ := h
  exact ⟨x, e, h⟩
theorem again_not {e : E} {u : RV} (h1 : e.isVar = false) : again e u = M.ret u := by
  cases e <;> first | rfl | cases h1

/-- the first thing is a name or is held, the second looked at: then the operation -/
theorem t_two {X : Cx} {ta tb : TE} {e1 e2 : E} {A B : M RV} {f : D → D → Option RV} {r : R2} {b k k1 k2 : Bool} {F : D → D → M RV}
    (hF : ∀ p q, F p q = M.of (f p q)) (ok : Ok2 c f r) (hA : e1.isVar = true → ∃ i, e1 = .var i ∧ A = (do let v ← getS i; M.ret (false, v.2)))
    (ha : ∀ σ H Q, tM c W e1.isVar k1 A σ H Q → ta σ H Q) (hb : ∀ σ H Q, tM c W true k2 B σ H Q → tb σ H Q) (hk : k = true → k1 = true ∧ k2 = true)
    (hi : ∀ i σ H Q, e1 = .var i → ta σ H Q → ∃ v, σ[i]? = some (some v) ∧ Q v H) (hi' : ∀ i σ H Q v, e1 = .var i → σ[i]? = some (some v) → Q v H → ta σ H Q) :
    ∀ σ H Q, tM c W b k (do
      let u ← A
      let v ← B
      let u ← again e1 u
      let p ← seen u
      let q ← seen v
      F p q) σ H Q → ta σ H fun x H1 => tb σ H1 fun y H2 => r x y H2 Q := by
  rintro σ H Q ⟨l, T, m, s, h⟩
  cases hv : e1.isVar with
  | true =>
    obtain ⟨i, rfl, eA⟩ := hA hv
    subst eA
    rw [Run.bind, Run.bind, Run.getS] at h
    obtain ⟨x0, e0, h⟩ := h
    rw [Run.ret] at h
    obtain ⟨fr, ms, s⟩ := s
    obtain ⟨v0, q0, _⟩ := s.slots i x0 e0
    refine hi' i σ H _ v0 rfl q0 (hb σ H _ ⟨l, T, m, ⟨fr, ms, s⟩, ?_⟩)
    rw [Run.bind] at h
    refine Run.mono h (fun w s' h => ?_) (fun _ _ z => z)
    intro y H2 aft hext
    obtain ⟨fr', ms', s2, ry⟩ := aft.look
    rw [Run.bind] at h
    obtain ⟨x1, q1, h⟩ := again_var h
    obtain ⟨v1, q2, rx⟩ := s2.slots i x1 q1
    rw [q0] at q2
    cases q2
    rw [Run.bind] at h
    obtain ⟨p, h, rp, _⟩ := Run.seen h s2 rx.rd
    rw [Run.bind] at h
    obtain ⟨q, h, rq, _⟩ := Run.seen h s2 ry
    rw [hF, Run.of] at h
    obtain ⟨rv, er, h⟩ := h
    refine ok fr' ms' σ s'.l T s'.m H2 p q v0 y rv Q s2 rp rq er fun z H' si ex => h z H' (.of si) fun hk' => Ext.trans (hext (hk hk').2) ex
  | false =>
    refine ha σ H _ ⟨l, T, m, s, ?_⟩
    rw [Run.bind] at h
    refine Run.mono h (fun u s1 h => ?_) (fun _ _ z => z)
    intro x H1 aft1 ext1
    have si1 : SI c σ s1.l ((x, u) :: T) s1.m H1 := by
      rw [hv] at aft1
      exact aft1
    refine hb σ H1 _ ⟨s1.l, (x, u) :: T, s1.m, si1, ?_⟩
    rw [Run.bind] at h
    refine Run.mono h (fun w s' h => ?_) (fun _ _ z => z.pop)
    intro y H2 aft hext
    obtain ⟨fr', ms', s2, ry⟩ := aft.look
    rw [again_not hv] at h
    rw [Run.bind, Run.ret, Run.bind] at h
    obtain ⟨p, h, rp, _⟩ := Run.seen h s2 (s2.temps _ List.mem_cons_self).rd
    rw [Run.bind] at h
    obtain ⟨q, h, rq, _⟩ := Run.seen h s2 ry
    rw [hF, Run.of] at h
    obtain ⟨rv, er, h⟩ := h
    refine ok fr' ms' σ s'.l ((x, u) :: T) s'.m H2 p q x y rv Q s2 rp rq er fun z H' si ex => h z H' (.of si.drop2) fun hk' => Ext.trans (ext1 (hk hk').1) (Ext.trans (hext (hk hk').2) ex)

/-! what the operations owe -/
theorem RD.int {i : Int} {v : V} (h : RD c fr m H (.int i) v) : v = .int i := by
  have h : FR c fr m H (.int i) v := h
  simpa only [FR] using h
theorem RD.bl {i : Bool} {v : V} (h : RD c fr m H (.bl i) v) : v = .bl i := by
  have h : FR c fr m H (.bl i) v := h
  simpa only [FR] using h
theorem RD.str {i : Str} {v : V} (h : RD c fr m H (.str i) v) : v = .str i := by
  have h : FR c fr m H (.str i) v := h
  simpa only [FR] using h
theorem RD.non {v : V} (h : RD c fr m H .non v) : v = .non := by
  have h : FR c fr m H .non v := h
  simpa only [FR] using h
theorem RD.tupN {ds : List D} {v : V} (h : RD c fr m H (.tup ds) v) : ∃ a vs, v = .ref a ∧ NTup c.K H a vs ∧ FRs c fr m H ds vs := by
  have h : FR c fr m H (.tup ds) v := h
  simpa only [FR] using h
theorem RD.tup {ds : List D} {v : V} (h : RD c fr m H (.tup ds) v) : ∃ a vs, v = .ref a ∧ SqT c.K H a vs ∧ FRs c fr m H ds vs :=
  let ⟨a, vs, e, q, r⟩ := h.tupN
  ⟨a, vs, e, q.sq, r⟩
theorem RD.lst {ds : List D} {v : V} (h : RD c fr m H (.lst ds) v) : ∃ a vs, v = .ref a ∧ H a = some (.lst vs) ∧ FRs c fr m H ds vs := h
theorem SIg.atom (s : SIg c fr ms σ l T mm H) {d : D} {v : V} (h : ∀ fr mu, FR c fr mu H d v) : SI c σ l ((v, (false, d)) :: T) mm H := ⟨fr, ms, s.push (h _ _)⟩
theorem SIg.aint (s : SIg c fr ms σ l T mm H) (i : Int) : SI c σ l ((V.int i, (false, D.int i)) :: T) mm H := s.atom fun _ _ => by simp only [FR]
theorem SIg.abl (s : SIg c fr ms σ l T mm H) (i : Bool) : SI c σ l ((V.bl i, (false, D.bl i)) :: T) mm H := s.atom fun _ _ => by simp only [FR]
theorem SIg.astr (s : SIg c fr ms σ l T mm H) (i : Str) : SI c σ l ((V.str i, (false, D.str i)) :: T) mm H := s.atom fun _ _ => by simp only [FR]
theorem SIg.anon (s : SIg c fr ms σ l T mm H) : SI c σ l ((V.non, (false, D.non)) :: T) mm H := s.atom fun _ _ => by simp only [FR]
theorem SIg.newL (s : SIg c fr ms σ l T mm H) {ds : List D} {vs : List V} (h : FRs c fr (mu ms) H ds vs) {p : Addr} (hp : H p = none) : SI c σ l ((V.ref p, (true, D.lst ds)) :: T) mm (upd H p (.lst vs)) := by
  refine ⟨fr, ms, s.pushNew hp ?_⟩
  exact ⟨p, vs, rfl, upd_same, FRs.still (s.free_new hp).still (fun _ f => f) ds h⟩
theorem SIg.newT (s : SIg c fr ms σ l T mm H) {ds : List D} {vs : List V} (h : FRs c fr (mu ms) H ds vs) {p : Addr} (hp : H p = none) {o : Obj} (ho : o.dict = none) : SI c σ l ((V.ref p, (false, D.tup ds)) :: T) mm (upd H p (.frz o (.tup vs))) := by
  refine ⟨fr, ms, s.pushNew hp ?_⟩
  show FR c fr (mu ms) _ (.tup ds) _
  simp only [FR]
  exact ⟨p, vs, rfl, .inl ⟨o, upd_same, ho⟩, FRs.still (s.free_new hp).still (fun _ f => f) ds h⟩
theorem SIg.oldT (s : SIg c fr ms σ l T mm H) {ds : List D} {vs : List V} {a : Addr} (q : NTup c.K H a vs) (h : FRs c fr (mu ms) H ds vs) : SI c σ l ((V.ref a, (false, D.tup ds)) :: T) mm H := by
  refine ⟨fr, ms, s.push ?_⟩
  simp only [FR]
  exact ⟨a, vs, rfl, q, h⟩
end

section
variable {c : Nm} {X : Cx}
theorem mulBits {i j : Int} (h : i.natAbs < 2 ^ 64 ∨ j.natAbs < 2 ^ 64) : CMul i j := by
  rcases h with h | h
  · exact .inl (by omega)
  · exact .inr (by omega)

def rAddAll (K : PySem.W.Frag) : R2 := fun x y H Q => (rI0 fun i j => .int (i + j)) x y H Q ∨ ((∃ i j, x = .str i ∧ y = .str j ∧ i.length + j.length ≤ sizeLine ∧ Q (.str (i ++ j)) H) ∨ (rCat x y H Q ∨ rCatN K x y H Q))
theorem op_addAll : OpR X (binaryOp .Add) (rAddAll X.K) := OpR.or op_add (OpR.or op_add_str (OpR.or op_cat op_catN))
theorem some_if {α : Type} {p : Prop} [Decidable p] {a b : α} (h : (if p then some a else none) = some b) : p ∧ a = b := by
  split at h
  · rename_i hp; exact ⟨hp, Option.some.inj h⟩
  · cases h
theorem ok_add : Ok2 c (binop .add) (rAddAll c.K) := by
  intro fr ms σ l T mm H p q v w rv Q s rp rq e h
  have e : addD p q = some rv := e
  cases p with
  | int i =>
    cases q with
    | int j =>
      cases e
      rw [rp.int, rq.int]
      exact .inl ⟨_, _, rfl, rfl, h _ _ (s.aint _) Ext.refl⟩
    | _ => cases e
  | str i =>
    cases q with
    | str j =>
      obtain ⟨hz, e⟩ := some_if e
      subst e
      rw [rp.str, rq.str]
      exact .inr (.inl ⟨_, _, rfl, rfl, by rw [← line]; exact hz, h _ _ (s.astr _) Ext.refl⟩)
    | _ => cases e
  | tup xs =>
    cases q with
    | tup ys =>
      obtain ⟨hz, e⟩ := some_if e
      subst e
      obtain ⟨a, vs, rfl, q1, r1⟩ := rp.tupN
      obtain ⟨b, ws, rfl, q2, r2⟩ := rq.tupN
      refine .inr (.inr (.inr ⟨a, b, vs, ws, rfl, rfl, q1.sq, q2.sq, by rw [r1.length, r2.length, ← line]; exact hz, fun e1 => ?_, fun _ e2 => ?_, fun _ _ p o np ho => ?_⟩))
      · have : xs = [] := List.eq_nil_of_length_eq_zero (by rw [← r1.length, e1]; rfl)
        subst this
        exact h _ _ (s.oldT q2 r2) Ext.refl
      · have : ys = [] := List.eq_nil_of_length_eq_zero (by rw [← r2.length, e2]; rfl)
        subst this
        rw [List.append_nil] at h
        exact h _ _ (s.oldT q1 r1) Ext.refl
      · exact h _ _ (s.newT (FRs.append r1 r2) np ho) (Ext.new np)
    | _ => cases e
  | lst xs =>
    cases q with
    | lst ys =>
      obtain ⟨hz, e⟩ := some_if e
      subst e
      obtain ⟨a, vs, rfl, q1, r1⟩ := rp.lst
      obtain ⟨b, ws, rfl, q2, r2⟩ := rq.lst
      exact .inr (.inr (.inl ⟨a, b, vs, ws, rfl, rfl, q1, q2, by rw [r1.length, r2.length, ← line]; exact hz, fun p np => h _ _ (s.newL (FRs.append r1 r2) np) (Ext.new np)⟩))
    | _ => cases e
  | _ => cases e
theorem ok_sub : Ok2 c (binop .sub) (rI0 fun i j => .int (i - j)) := by
  intro fr ms σ l T mm H p q v w rv Q s rp rq e h
  have e : subD p q = some rv := e
  cases p <;> cases q <;> first | cases e | skip
  rw [rp.int, rq.int]
  exact ⟨_, _, rfl, rfl, h _ _ (s.aint _) Ext.refl⟩
theorem ok_fdiv : Ok2 c (binop .fdiv) (rI CDiv fun i j => .int (i / j)) := by
  intro fr ms σ l T mm H p q v w rv Q s rp rq e h
  have e : fdivD p q = some rv := e
  cases p <;> cases q <;> first | cases e | skip
  obtain ⟨hz, e⟩ := some_if e
  subst e
  rw [rp.int, rq.int]
  exact ⟨_, _, rfl, rfl, hz, h _ _ (s.aint _) Ext.refl⟩
theorem ok_mod : Ok2 c (binop .mod) (rI (fun _ j => 0 < j) fun i j => .int (i % j)) := by
  intro fr ms σ l T mm H p q v w rv Q s rp rq e h
  have e : modD p q = some rv := e
  cases p <;> cases q <;> first | cases e | skip
  obtain ⟨hz, e⟩ := some_if e
  subst e
  rw [rp.int, rq.int]
  exact ⟨_, _, rfl, rfl, hz, h _ _ (s.aint _) Ext.refl⟩
theorem ok_pow : Ok2 c (binop .pow) (rI CPow fun i j => .int (i ^ j.toNat)) := by
  intro fr ms σ l T mm H p q v w rv Q s rp rq e h
  have e : powD p q = some rv := e
  cases p <;> cases q <;> first | cases e | skip
  obtain ⟨hz, e⟩ := some_if e
  subst e
  rw [rp.int, rq.int]
  exact ⟨_, _, rfl, rfl, hz, h _ _ (s.aint _) Ext.refl⟩
theorem foldl_flat (n : Nat) (a : Array Nat) : (List.replicate n a).foldl (· ++ ·) #[] = ((List.replicate n a.toList).flatten).toArray := by
  have gen : ∀ (k : Nat) (b : Array Nat), (List.replicate k a).foldl (· ++ ·) b = b ++ ((List.replicate k a.toList).flatten).toArray := by
    intro k
    induction k with
    | zero => intro b; simp
    | succ k ih =>
      intro b
      rw [List.replicate_succ, List.foldl_cons, ih, List.replicate_succ, List.flatten_cons]
      apply Array.ext'
      simp
  rw [gen]; simp
/-- a text times a number -/
theorem op_mulS : OpR X (binaryOp .Mult) (fun x y H Q => ∃ a n, x = .str a ∧ y = .int n ∧ 0 ≤ n ∧ n < 2 ^ 63 ∧ a.length * n.toNat ≤ sizeLine ∧ Q (.str (strTimes a n.toNat)) H) := by
  intro pins s σ H x y v u Q I rx ry h
  obtain ⟨a, n, rfl, rfl, h0, h1, hz, h⟩ := h
  obtain ⟨t, rfl⟩ := rx
  obtain ⟨t', rfl⟩ := ry
  refine P.mul_str ?_ (fun hn1 hn2 => ?_) (fun _ _ => ?_) ?_
  · rw [decide_eq_false (by omega), decide_eq_false (by omega)]; rfl
  · have hs : (sizeLine : Nat) < 2 ^ 24 + 1 := by rw [sizeLine_eq]; decide
    have hn : 0 < n := by omega
    have e : ((a.length * n.toNat : Nat) : Int) = (a.length : Int) * n := by
      rw [Int.natCast_mul, Int.toNat_of_nonneg h0]
    have : (a.length : Int) ≤ (2 ^ 63 - 1) / n := by
      rw [Int.le_ediv_iff_mul_le hn, ← e]
      omega
    omega
  · simpa [Builtin.Str.tooLong] using hz
  · split
    · rename_i hn
      have : n = 0 := by omega
      subst this
      exact ⟨by decide, ⟨.str _, H, I.tok _, ⟨_, rfl⟩, by simpa [strTimes, Str.empty] using h⟩⟩
    · split
      · rename_i hn hq
        refine ⟨.str _, H, I, ⟨_, rfl⟩, ?_⟩
        have : strTimes a n.toNat = a := by
          simp only [Bool.or_eq_true, beq_iff_eq] at hq
          rcases hq with hq | hq
          · subst hq
            simp [strTimes]
          · have ha : a = Str.empty := by
              have : a.cps = #[] := Array.eq_empty_of_size_eq_zero hq
              cases a; simp_all [Str.empty]
            subst ha
            simp [strTimes, Str.empty]
        rw [← this]; exact h
      · refine ⟨?_, ⟨.str _, H, I.tok _, ⟨_, rfl⟩, ?_⟩⟩
        · rw [foldl_flat]
          show ((List.replicate n.toNat a.cps.toList).flatten).toArray.size ≤ sizeLine
          have e : ((List.replicate n.toNat a.cps.toList).flatten).toArray.size = a.length * n.toNat := by
            simp [Str.length, Nat.mul_comm]
          rw [e]; exact hz
        · rw [foldl_flat]; exact h
theorem ok_mul : Ok2 c (binop .mul) (fun x y H Q => (rI CMul fun i j => .int (i * j)) x y H Q ∨ (rRep x y H Q ∨ (∃ a n, x = .str a ∧ y = .int n ∧ 0 ≤ n ∧ n < 2 ^ 63 ∧ a.length * n.toNat ≤ sizeLine ∧ Q (.str (strTimes a n.toNat)) H))) := by
  intro fr ms σ l T mm H p q v w rv Q s rp rq e h
  have e : mulD p q = some rv := e
  cases p with
  | int i =>
    cases q with
    | int j =>
      obtain ⟨hz, e⟩ := some_if e
      subst e
      rw [rp.int, rq.int]
      exact .inl ⟨_, _, rfl, rfl, mulBits hz, h _ _ (s.aint _) Ext.refl⟩
    | _ => cases e
  | lst xs =>
    cases q with
    | int j =>
      obtain ⟨⟨h1, h2, hz⟩, e⟩ := some_if e
      subst e
      obtain ⟨a, vs, rfl, q1, r1⟩ := rp.lst
      rw [rq.int]
      exact .inr (.inl ⟨a, j, vs, rfl, rfl, q1, h1, h2, by rw [r1.length, ← line]; exact hz, fun p np => h _ _ (s.newL (FRs.rep _ r1) np) (Ext.new np)⟩)
    | _ => cases e
  | str a =>
    cases q with
    | int j =>
      obtain ⟨⟨h1, h2, hz⟩, e⟩ := some_if e
      subst e
      rw [rp.str, rq.int]
      exact .inr (.inr ⟨_, _, rfl, rfl, h1, h2, by rw [← line]; exact hz, h _ _ (s.astr _) Ext.refl⟩)
    | _ => cases e
  | _ => cases e
end
end G

set_option linter.all false
set_option maxRecDepth 100000
set_option maxHeartbeats 1000000
namespace G
open PySem PySem.Spec PyProof.Rows L2
section
variable {c : Nm} {fr fr' : Addr → Prop} {m : List Addr} {H H' : Hp} {ms : Ms} {σ : L2.St} {l : List (Option RV)} {T : List (V × RV)} {mm : Mem} {W : WX} {X : Cx}
abbrev cmpR (f : D → D → Option Bool) : D → D → Option RV := fun p q => (f p q).map fun r => (false, .bl r)
theorem some_map {α β : Type} {o : Option α} {g : α → β} {b : β} (h : o.map g = some b) : ∃ a, o = some a ∧ g a = b := by
  cases o with
  | none => cases h
  | some a => exact ⟨a, rfl, Option.some.inj h⟩
theorem F_cmp {cm : Cm} (p q : D) : (do let r ← M.of (compare cm p q); M.ret ((false, D.bl r) : RV)) = M.of (cmpR (compare cm) p q) := by
  show M.bind (M.of (compare cm p q)) _ = _
  unfold cmpR
  cases compare cm p q <;> rfl
/-! ints -/
theorem ok_lt : Ok2 c (cmpR (compare .lt)) (rI0 fun i j => .bl (decide (i < j))) := by
  intro fr ms σ l T mm H p q v w rv Q s rp rq e h
  replace e := some_map e
  obtain ⟨b, e, rfl⟩ := e
  have e : ltD p q = some b := e
  cases p <;> cases q <;> first | cases e | skip
  rw [rp.int, rq.int]
  exact ⟨_, _, rfl, rfl, h _ _ (s.abl _) Ext.refl⟩
theorem ok_gt : Ok2 c (cmpR (compare .gt)) (rI0 fun i j => .bl (decide (j < i))) := by
  intro fr ms σ l T mm H p q v w rv Q s rp rq e h
  replace e := some_map e
  obtain ⟨b, e, rfl⟩ := e
  have e : ltD q p = some b := e
  cases p <;> cases q <;> first | cases e | skip
  rw [rp.int, rq.int]
  exact ⟨_, _, rfl, rfl, h _ _ (s.abl _) Ext.refl⟩
theorem ok_ge : Ok2 c (cmpR (compare .ge)) (rI0 fun i j => .bl (decide (j ≤ i))) := by
  intro fr ms σ l T mm H p q v w rv Q s rp rq e h
  replace e := some_map e
  obtain ⟨b, e, rfl⟩ := e
  cases p <;> cases q <;> first | cases e | skip
  rw [rp.int, rq.int]
  exact ⟨_, _, rfl, rfl, h _ _ (s.abl _) Ext.refl⟩
/-! == -/
def rEqA (K : PySem.W.Frag) : R2 := fun x y H Q => (∃ a b : Str, x = .str a ∧ y = .str b ∧ Q (.bl (decide (a = b))) H) ∨ rEqD K x y H Q
def rNeA (K : PySem.W.Frag) : R2 := fun x y H Q => (∃ a b : Str, x = .str a ∧ y = .str b ∧ Q (.bl (!decide (a = b))) H) ∨ rNeD K x y H Q
theorem dec_str2 {a b : Str} : decide (V.str a = V.str b) = decide (a = b) := by
  by_cases e : a = b
  · subst e; simp
  · rw [decide_eq_false e, decide_eq_false fun h => e (V.str.inj h)]
theorem op_eqA (hu : X.A.units + 64 < cLine) : OpR X (compareOp .Eq) (rEqA X.K) := by
  refine OpR.or (fun pins s σ H x y v u Q I rx ry h => ?_) (op_eqD hu)
  obtain ⟨a, b, rfl, rfl, q⟩ := h
  exact op_eq pins s σ H _ _ v u Q I rx ry ⟨rfl, by rw [dec_str2]; exact q⟩
theorem op_neA (hu : X.A.units + 64 < cLine) : OpR X (compareOp .NotEq) (rNeA X.K) := by
  refine OpR.or (fun pins s σ H x y v u Q I rx ry h => ?_) (op_neD hu)
  obtain ⟨a, b, rfl, rfl, q⟩ := h
  exact op_ne pins s σ H _ _ v u Q I rx ry ⟨rfl, by rw [dec_str2]; exact q⟩
theorem eqD_cases {p q : D} {b : Bool} (e : eqD p q = some b) : (∃ x y, p = .str x ∧ q = .str y ∧ b = decide (x = y)) ∨ (p.flat = true ∧ q.flat = true ∧ p.dep ≤ 60 ∧ q.dep ≤ 60 ∧ b = D.eqv p q) := by
  unfold eqD at e
  split at e
  · cases e; exact .inl ⟨_, _, rfl, rfl, rfl⟩
  · obtain ⟨⟨h1, h2, h3, h4⟩, e⟩ := some_if e
    exact .inr ⟨h1, h2, h3, h4, e.symm⟩
theorem ok_eq : Ok2 c (cmpR (compare .eq)) (rEqA c.K) := by
  intro fr ms σ l T mm H p q v w rv Q s rp rq e h
  replace e := some_map e
  obtain ⟨b, e, rfl⟩ := e
  rcases eqD_cases e with ⟨x, y, rfl, rfl, rfl⟩ | ⟨h1, h2, h3, h4, rfl⟩
  · exact .inl ⟨x, y, rp.str, rq.str, h _ _ (s.abl _) Ext.refl⟩
  · exact .inr ⟨_, _, rp.dp h1, rq.dp h2, flat_shaped h1 h3, flat_shaped h2 h4, by rw [← eqv_py _ _ h1 h2]; exact h _ _ (s.abl _) Ext.refl⟩
theorem ok_ne : Ok2 c (cmpR (compare .ne)) (rNeA c.K) := by
  intro fr ms σ l T mm H p q v w rv Q s rp rq e h
  replace e := some_map e
  obtain ⟨b, e, rfl⟩ := e
  replace e := some_map e
  obtain ⟨b, e, rfl⟩ := e
  rcases eqD_cases e with ⟨x, y, rfl, rfl, rfl⟩ | ⟨h1, h2, h3, h4, rfl⟩
  · exact .inl ⟨x, y, rp.str, rq.str, h _ _ (s.abl _) Ext.refl⟩
  · exact .inr ⟨_, _, rp.dp h1, rq.dp h2, flat_shaped h1 h3, flat_shaped h2 h4, by rw [← eqv_py _ _ h1 h2]; exact h _ _ (s.abl _) Ext.refl⟩
/-! is -/
def rIsA : R2 := fun x y H Q => (y = .non ∧ Q (.bl (decide (x = .non))) H) ∨ ∃ a b, x = .bl a ∧ y = .bl b ∧ Q (.bl (decide (a = b))) H
def rIsNA : R2 := fun x y H Q => (y = .non ∧ Q (.bl (!decide (x = .non))) H) ∨ ∃ a b, x = .bl a ∧ y = .bl b ∧ Q (.bl (!decide (a = b))) H
theorem op_isA : OpR X (compareOp .Is) rIsA := OpR.or op_isN op_is_bl
theorem op_isNA : OpR X (compareOp .IsNot) rIsNA := OpR.or op_notN op_isnot_bl
theorem RD.isNon {d : D} {v : V} (h : RD c fr m H d v) : decide (v = .non) = d.isNon := by
  cases d with
  | non => rw [h.non]; rfl
  | bl b => rw [h.bl]; rfl
  | int b => rw [h.int]; rfl
  | str b => rw [h.str]; rfl
  | tup ds => obtain ⟨a, vs, rfl, _⟩ := h.tup; rfl
  | lst ds => obtain ⟨a, vs, rfl, _⟩ := h.lst; rfl
  | dic kvs => obtain ⟨a, rfl, _⟩ := h; rfl
  | obj k =>
    have h : FR c fr m H (.obj k) v := h
    simp only [FR] at h
    obtain ⟨a, rfl, _⟩ := h; rfl
  | scr k =>
    have h : FR c fr m H (.scr k) v := h
    simp only [FR] at h
    obtain ⟨a, rfl, _⟩ := h; rfl
  | pin k =>
    have h : FR c fr m H (.pin k) v := h
    simp only [FR] at h
    obtain ⟨a, o, w, rfl, _⟩ := h; rfl
theorem isD_cases {p q : D} {b : Bool} (e : isD p q = some b) : (q = .non ∧ b = p.isNon) ∨ ∃ x y, p = .bl x ∧ q = .bl y ∧ b = decide (x = y) := by
  unfold isD at e
  split at e
  · cases e; exact .inl ⟨rfl, rfl⟩
  · cases e; exact .inr ⟨_, _, rfl, rfl, rfl⟩
  · cases e
theorem ok_is : Ok2 c (cmpR (compare .is_)) rIsA := by
  intro fr ms σ l T mm H p q v w rv Q s rp rq e h
  replace e := some_map e
  obtain ⟨b, e, rfl⟩ := e
  rcases isD_cases e with ⟨rfl, rfl⟩ | ⟨x, y, rfl, rfl, rfl⟩
  · exact .inl ⟨rq.non, by rw [rp.isNon]; exact h _ _ (s.abl _) Ext.refl⟩
  · exact .inr ⟨x, y, rp.bl, rq.bl, h _ _ (s.abl _) Ext.refl⟩
theorem ok_isnot : Ok2 c (cmpR (compare .isnot)) rIsNA := by
  intro fr ms σ l T mm H p q v w rv Q s rp rq e h
  replace e := some_map e
  obtain ⟨b, e, rfl⟩ := e
  replace e := some_map e
  obtain ⟨b, e, rfl⟩ := e
  rcases isD_cases e with ⟨rfl, rfl⟩ | ⟨x, y, rfl, rfl, rfl⟩
  · exact .inl ⟨rq.non, by rw [rp.isNon]; exact h _ _ (s.abl _) Ext.refl⟩
  · exact .inr ⟨x, y, rp.bl, rq.bl, h _ _ (s.abl _) Ext.refl⟩
/-! dicts: the keys as HandS has them, and nested ones -/
theorem FRk.length : ∀ {kvs : List (D × D)} {ks : List (Key × V)}, FRk c fr m H kvs ks → ks.length = kvs.length
  | [], ks, h => by simp only [FRk] at h; subst h; rfl
  | (k, d) :: kvs, ks, h => by
    simp only [FRk] at h
    obtain ⟨q, v, ks', rfl, _, _, z⟩ := h
    simp [FRk.length z]
theorem FRe.length : ∀ {kvs : List (D × D)} {ks : XsT}, FRe c fr m H kvs ks → ks.length = kvs.length
  | [], ks, h => by simp only [FRe] at h; subst h; rfl
  | (k, d) :: kvs, ks, h => by
    simp only [FRe] at h
    obtain ⟨b, v, u, xs', rfl, _, _, _, _, z⟩ := h
    simp [FRe.length z]
theorem keyOf_some {k : D} {q : Key} (h : keyOf k = some q) : (∃ i, k = .int i ∧ q = .inl i) ∨ ∃ x, k = .str x ∧ q = .inr x := by
  cases k <;> simp [keyOf] at h
  · exact .inl ⟨_, rfl, h.symm⟩
  · exact .inr ⟨_, rfl, h.symm⟩
theorem keyOf_inj {k j : D} {q p : Key} (h : keyOf k = some q) (h' : keyOf j = some p) : D.beq k j = decide (q = p) := by
  rcases keyOf_some h with ⟨i, rfl, rfl⟩ | ⟨x, rfl, rfl⟩ <;> rcases keyOf_some h' with ⟨j', rfl, rfl⟩ | ⟨y, rfl, rfl⟩
  · rw [key_ll]; rfl
  · rw [key_lr]; rfl
  · rw [key_rl]; rfl
  · rw [key_rr]; rfl
theorem FRk.look : ∀ {kvs : List (D × D)} {ks : List (Key × V)} {k : D} {q : Key}, FRk c fr m H kvs ks → keyOf k = some q →
    (∀ d, look kvs k = some d → ∃ v, valV ks q = some v ∧ FR c fr m H d v) ∧ (look kvs k = none → valV ks q = none)
  | [], ks, k, q, h, hk => by
    simp only [FRk] at h; subst h
    exact ⟨fun d e => (by cases e), fun _ => rfl⟩
  | (j, d) :: kvs, ks, k, q, h, hk => by
    simp only [FRk] at h
    obtain ⟨p, v, ks', rfl, hp, r, z⟩ := h
    obtain ⟨h1, h2⟩ := FRk.look z hk
    have e := keyOf_inj hp hk
    unfold G.look
    rw [List.find?_cons]
    by_cases hq : p = q
    · have e2 : D.beq j k = true := by rw [e]; exact decide_eq_true hq
      simp only [e2]
      refine ⟨fun d' e' => ?_, fun e' => (by cases e')⟩
      cases e'
      exact ⟨v, valV_pos hq, r⟩
    · have e2 : D.beq j k = false := by rw [e]; exact decide_eq_false hq
      simp only [e2]
      rw [valV_neg (p := (p, v)) hq]
      exact ⟨h1, h2⟩
end
end G

set_option linter.all false
set_option maxRecDepth 100000
set_option maxHeartbeats 1000000
namespace G
open PySem PySem.Spec PyProof.Rows L2

/-! ### nested keys -/
mutual
/-- a nested key stands as v -/
inductive KeyAt (K : PySem.W.Frag) (H : Hp) : NestedKey → V → Prop
  | num (i : Int) : KeyAt K H (.num i) (.int i)
  | text (x : Str) : KeyAt K H (.text x) (.str x)
  | tup {a : Addr} {vs : List V} {ks : List NestedKey} : SqT K H a vs → KeysAt K H ks vs → KeyAt K H (.tup ks) (.ref a)
inductive KeysAt (K : PySem.W.Frag) (H : Hp) : List NestedKey → List V → Prop
  | nil : KeysAt K H [] []
  | cons {k : NestedKey} {v : V} {ks : List NestedKey} {vs : List V} : KeyAt K H k v → KeysAt K H ks vs → KeysAt K H (k :: ks) (v :: vs)
end
section
variable {c : Nm} {fr fr' : Addr → Prop} {m : List Addr} {H H' : Hp} {ms : Ms} {σ : L2.St} {l : List (Option RV)} {T : List (V × RV)} {mm : Mem} {W : WX} {X : Cx} {pins : List (Addr × Obj)} {s : Shared}
mutual
theorem KeyAt.is (I : Inv X pins σ H s) : ∀ (k : NestedKey) (v : V) (u : Value), KeyAt X.K H k v → RelV v u → NestedIs s.heap k u
  | .none, _, _, h, _ => by cases h
  | .num i, _, _, h, r => by cases h; obtain ⟨t, rfl⟩ := r; exact .int i t
  | .text x, _, _, h, r => by cases h; obtain ⟨t, rfl⟩ := r; exact .text x t
  | .tup ks, _, _, h, r => by
    cases h with
    | @tup a vs _ q z =>
      cases r
      obtain ⟨its, rv, ⟨o, ho, hc, n, hd⟩, _⟩ := I.tuple q
      refine .tup ho hc hd ?_
      rw [List.toList_toArray]
      exact KeysAt.are I ks vs its z rv
theorem KeysAt.are (I : Inv X pins σ H s) : ∀ (ks : List NestedKey) (vs : List V) (us : List Value), KeysAt X.K H ks vs → Vals vs us → NestedAll s.heap ks us
  | [], _, _, h, r => by cases h; cases r; exact .nil
  | k :: ks, _, _, h, r => by
    cases h with
    | cons h1 h2 =>
      cases r with
      | cons r1 r2 => exact .cons (KeyAt.is I k _ _ h1 r1) (KeysAt.are I ks _ _ h2 r2)
end
mutual
theorem FR.keyAt : ∀ (d : D) (v : V), d.keyp = true → FR c fr m H d v → KeyAt c.K H (keyN d) v
  | .int i, v, _, h => by simp only [FR] at h; subst h; exact .num i
  | .str s, v, _, h => by simp only [FR] at h; subst h; exact .text s
  | .tup ds, v, k, h => by
    simp only [FR] at h
    simp only [D.keyp] at k
    obtain ⟨a, vs, rfl, q, r⟩ := h
    exact .tup q.sq (FRs.keysAt ds vs k r)
  | .non, _, k, _ => by cases k
  | .bl _, _, k, _ => by cases k
  | .lst _, _, k, _ => by cases k
  | .dic _, _, k, _ => by cases k
  | .obj _, _, k, _ => by cases k
  | .scr _, _, k, _ => by cases k
  | .pin _, _, k, _ => by cases k
theorem FRs.keysAt : ∀ (ds : List D) (vs : List V), D.keypL ds = true → FRs c fr m H ds vs → KeysAt c.K H (keyNs ds) vs
  | [], vs, _, h => by simp only [FRs] at h; subst h; exact .nil
  | d :: ds, vs, k, h => by
    simp only [FRs] at h
    simp only [D.keypL, Bool.and_eq_true] at k
    obtain ⟨v, vs', rfl, r, q⟩ := h
    exact .cons (FR.keyAt d v k.1 r) (FRs.keysAt ds vs' k.2 q)
end
mutual
theorem keyN_dep : ∀ (d : D), d.keyp = true → (keyN d).depth = d.dep
  | .int _, _ => rfl
  | .str _, _ => rfl
  | .tup ds, h => by
    simp only [keyN, NestedKey.depth, D.dep]
    rw [keyNs_dep ds (by simpa [D.keyp] using h)]
  | .non, k => by cases k
  | .bl _, k => by cases k
  | .lst _, k => by cases k
  | .dic _, k => by cases k
  | .obj _, k => by cases k
  | .scr _, k => by cases k
  | .pin _, k => by cases k
theorem keyNs_dep : ∀ (ds : List D), D.keypL ds = true → NestedKey.depthAll (keyNs ds) = D.depL ds
  | [], _ => rfl
  | d :: ds, h => by
    simp only [D.keypL, Bool.and_eq_true] at h
    simp only [keyNs, NestedKey.depthAll, D.depL, keyN_dep d h.1, keyNs_dep ds h.2]
end
mutual
theorem keyN_beq : ∀ (x y : D), x.keyp = true → y.keyp = true → D.beq x y = decide (keyN x = keyN y)
  | .int i, y, _, h => by
    cases y with
    | int j => simp only [D.beq, keyN]; by_cases e : i = j <;> simp [e]
    | str _ => simp [D.beq, keyN]
    | tup _ => simp [D.beq, keyN]
    | _ => cases h
  | .str i, y, _, h => by
    cases y with
    | int j => simp [D.beq, keyN]
    | str _ => simp [D.beq, keyN]
    | tup _ => simp [D.beq, keyN]
    | _ => cases h
  | .tup xs, y, hx, h => by
    cases y with
    | int j => simp [D.beq, keyN]
    | str _ => simp [D.beq, keyN]
    | tup ys =>
      simp only [D.beq, keyN, NestedKey.tup.injEq]
      exact keyNs_beq xs ys (by simpa [D.keyp] using hx) (by simpa [D.keyp] using h)
    | _ => cases h
  | .non, _, k, _ => by cases k
  | .bl _, _, k, _ => by cases k
  | .lst _, _, k, _ => by cases k
  | .dic _, _, k, _ => by cases k
  | .obj _, _, k, _ => by cases k
  | .scr _, _, k, _ => by cases k
  | .pin _, _, k, _ => by cases k
theorem keyNs_beq : ∀ (xs ys : List D), D.keypL xs = true → D.keypL ys = true → D.beqL xs ys = decide (keyNs xs = keyNs ys)
  | [], [], _, _ => by simp [D.beqL, keyNs]
  | [], _ :: _, _, _ => by simp [D.beqL, keyNs]
  | _ :: _, [], _, _ => by simp [D.beqL, keyNs]
  | x :: xs, y :: ys, h1, h2 => by
    simp only [D.keypL, Bool.and_eq_true] at h1 h2
    simp only [D.beqL, keyNs, List.cons.injEq, keyN_beq x y h1.1 h2.1, keyNs_beq xs ys h1.2 h2.2]
    by_cases e1 : keyN x = keyN y <;> by_cases e2 : keyNs xs = keyNs ys <;> simp [e1, e2]
end
/-- the keys of a nested dict, as they stand -/
def XsAt (K : PySem.W.Frag) (H : Hp) (xs : XsT) : Prop := (xs.map (·.1)).Nodup ∧ ∀ x ∈ xs, KeyAt K H x.1 (.ref x.2.1) ∧ x.1.depth ≤ 8
theorem FRe.xsAt : ∀ {kvs : List (D × D)} {xs : XsT}, FRe c fr m H kvs xs → ∀ x ∈ xs, KeyAt c.K H x.1 (.ref x.2.1) ∧ x.1.depth ≤ 8
  | [], xs, h, x, hx => by simp only [FRe] at h; subst h; cases hx
  | (k, d) :: kvs, xs, h, x, hx => by
    simp only [FRe] at h
    obtain ⟨b, v, u, xs', rfl, hk, r1, rv, r, z⟩ := h
    rcases List.mem_cons.mp hx with rfl | hx
    · unfold D.key at hk
      simp only [Bool.and_eq_true, decide_eq_true_eq] at hk
      exact ⟨FR.keyAt k _ hk.1 r1, by rw [keyN_dep k hk.1]; exact hk.2⟩
    · exact FRe.xsAt z x hx
theorem XsAt.dict {xs : XsT} {a : Addr} (I : Inv X pins σ H s) (hp : X.prog = c.prog) (hw : X.w = c.w) (e : Rd H a (dctO c a xs)) (h : XsAt X.K H xs) : s.heap.DictOfH (nestedKind X.prog X.w) a xs := by
  obtain ⟨⟨o, es, ep, h1, h2, h3, h4⟩, _⟩ := e.ok I.hok
  refine ⟨o, es, ep, h1, h2, h3, by rw [hp, hw]; exact h4, fun x hx => ?_, h.1⟩
  obtain ⟨k1, k2⟩ := h.2 x hx
  exact ⟨KeyAt.is I _ _ _ k1 rfl, k2⟩
theorem FRe.look : ∀ {kvs : List (D × D)} {xs : XsT} {k : D}, FRe c fr m H kvs xs → k.key = true →
    (∀ d, look kvs k = some d → ∃ b u v, atKey xs (keyN k) = some (b, u) ∧ RelV v u ∧ FR c fr m H d v) ∧ (look kvs k = none → atKey xs (keyN k) = none)
  | [], xs, k, h, hk => by
    simp only [FRe] at h; subst h
    exact ⟨fun d e => (by cases e), fun _ => rfl⟩
  | (j, d) :: kvs, xs, k, h, hk => by
    simp only [FRe] at h
    obtain ⟨b, v, u, xs', rfl, hj, r1, rv, r, z⟩ := h
    obtain ⟨h1, h2⟩ := FRe.look z hk
    unfold D.key at hj hk
    simp only [Bool.and_eq_true, decide_eq_true_eq] at hj hk
    have e := keyN_beq j k hj.1 hk.1
    unfold G.look
    rw [List.find?_cons]
    by_cases hq : keyN j = keyN k
    · have e2 : D.beq j k = true := by rw [e]; exact decide_eq_true hq
      simp only [e2]
      refine ⟨fun d' e' => ?_, fun e' => (by cases e')⟩
      cases e'
      exact ⟨b, u, v, by simp [atKey, List.find?_cons, hq], rv, r⟩
    · have e2 : D.beq j k = false := by rw [e]; exact decide_eq_false hq
      simp only [e2]
      have e3 : ∀ k', keyN k = k' → atKey ((keyN j, b, u) :: xs') k' = atKey xs' k' := fun k' hk' => by
        subst hk'
        simp [atKey, List.find?_cons, hq]
      rw [e3 _ rfl]
      exact ⟨h1, h2⟩
/-- a dict, asked for a key: o is what it has there -/
def DGetA (c : Nm) (K : PySem.W.Frag) (H : Hp) (a : Addr) (y : V) (o : Option V) : Prop := DGet H a y o ∨
  (∃ xs k b, Rd H a (dctO c a xs) ∧ (a == sysModules) = false ∧ XsAt K H xs ∧ y = .ref b ∧ KeyAt K H k y ∧ k.depth ≤ 8 ∧ ((∃ b' u v, atKey xs k = some (b', u) ∧ RelV v u ∧ o = some v) ∨ (atKey xs k = none ∧ o = none))) ∨
  ∃ k b, Rd H a (.dK []) ∧ y = .ref b ∧ KeyAt K H k y ∧ k.depth ≤ 8 ∧ o = none
theorem key_parts {k : D} (h : k.key = true) : k.keyp = true ∧ k.dep ≤ 8 := by
  unfold D.key at h
  simpa using h
theorem keyOf_of {k : D} (h : k.key = true) (ht : k.isTup = false) : ∃ q, keyOf k = some q := by
  cases k <;> first | cases h | cases ht | skip
  · exact ⟨_, rfl⟩
  · exact ⟨_, rfl⟩
theorem keyOf_rd {k : D} {q : Key} {v : V} (h : keyOf k = some q) (r : RD c fr m H k v) : v = kV q := by
  rcases keyOf_some h with ⟨i, rfl, rfl⟩ | ⟨x, rfl, rfl⟩
  · exact r.int
  · exact r.str
theorem fits_cases {kvs : List (D × D)} {k : D} (h : fits kvs k = true) : k.key = true ∧ ∀ p ∈ kvs, p.1.isTup = k.isTup := by
  unfold fits at h
  simpa using h
theorem FRk.notTup : ∀ {kvs : List (D × D)} {ks : List (Key × V)}, FRk c fr m H kvs ks → ∀ p ∈ kvs, p.1.isTup = false
  | [], _, _, p, hp => by cases hp
  | (j, d) :: kvs, ks, h, p, hp => by
    simp only [FRk] at h
    obtain ⟨q, v, ks', rfl, hq, r, z⟩ := h
    rcases List.mem_cons.mp hp with rfl | hp
    · rcases keyOf_some hq with ⟨i, rfl, _⟩ | ⟨x, rfl, _⟩ <;> rfl
    · exact FRk.notTup z p hp
theorem FRe.isTup : ∀ {kvs : List (D × D)} {xs : XsT}, FRe c fr m H kvs xs → ∀ p ∈ kvs, p.1.isTup = true
  | [], _, _, p, hp => by cases hp
  | (j, d) :: kvs, ks, h, p, hp => by
    simp only [FRe] at h
    obtain ⟨b, v, u, xs', rfl, hk, r1, rv, r, z⟩ := h
    rcases List.mem_cons.mp hp with rfl | hp
    · cases j with
      | tup _ => rfl
      | int _ => simp only [FR] at r1; cases r1
      | str _ => simp only [FR] at r1; cases r1
      | _ => cases hk
    · exact FRe.isTup z p hp
theorem DGet.k' {H : Hp} {a : Addr} {kvs : List (Key × V)} {k : Key} (e : Rd H a (.dK kvs)) : DGet H a (kV k) (valV kvs k) := .inl ⟨kvs, k, e, rfl, rfl⟩
/-- a dict as data, asked -/
theorem dget_ok {kvs : List (D × D)} {k : D} {a : Addr} {y : V} (hd : DcA c fr m H a kvs) (hf : fits kvs k = true) (ry : RD c fr m H k y) :
    (∀ d, look kvs k = some d → ∃ v, DGetA c c.K H a y (some v) ∧ FR c fr m H d v) ∧ (look kvs k = none → DGetA c c.K H a y none) := by
  obtain ⟨hk, hall⟩ := fits_cases hf
  obtain ⟨hkp, hkd⟩ := key_parts hk
  rcases hd with ⟨ks, e, r⟩ | ⟨xs, e, hz, hs, hn, r⟩
  · by_cases ht : k.isTup = true
    · -- a tuple in a dict of numbers and texts: it is empty
      have hnil : kvs = [] := by
        cases kvs with
        | nil => rfl
        | cons p kvs =>
          have h1 := hall p List.mem_cons_self
          have h2 := r.notTup p List.mem_cons_self
          rw [h1, ht] at h2; cases h2
      subst hnil
      have hks : ks = [] := by simpa only [FRk] using r
      subst hks
      refine ⟨fun d q => (by cases q), fun _ => ?_⟩
      cases k with
      | tup ds =>
        have rk : FR c fr m H (.tup ds) y := ry
        have ka := FR.keyAt _ _ hkp rk
        simp only [FR] at rk
        obtain ⟨b, vs, rfl, _⟩ := rk
        exact .inr (.inr ⟨_, b, e, rfl, ka, by rw [keyN_dep _ hkp]; exact hkd, rfl⟩)
      | _ => cases ht
    · have ht : k.isTup = false := by simpa using ht
      obtain ⟨q, hq⟩ := keyOf_of hk ht
      have hy := keyOf_rd hq ry
      subst hy
      obtain ⟨h1, h2⟩ := r.look hq
      refine ⟨fun d hd => ?_, fun hn => ?_⟩
      · obtain ⟨v, e1, r1⟩ := h1 d hd
        exact ⟨v, .inl (by rw [← e1]; exact (DGet.k' e)), r1⟩
      · exact .inl (by rw [← h2 hn]; exact (DGet.k' e))
  · have hat : XsAt c.K H xs := ⟨hn, r.xsAt⟩
    cases kvs with
    | nil => exact absurd rfl hz.1
    | cons p kvs =>
      have ht : k.isTup = true := by
        rw [← hall p List.mem_cons_self]
        exact r.isTup p List.mem_cons_self
      cases k with
      | tup ds =>
        have rk : FR c fr m H (.tup ds) y := ry
        have ka := FR.keyAt _ _ hkp rk
        simp only [FR] at rk
        obtain ⟨b, vs, rfl, _⟩ := rk
        obtain ⟨h1, h2⟩ := r.look hk
        have kd : (keyN (.tup ds)).depth ≤ 8 := by rw [keyN_dep _ hkp]; exact hkd
        refine ⟨fun d hd => ?_, fun hn => ?_⟩
        · obtain ⟨b', u, v, e1, rv, r1⟩ := h1 d hd
          exact ⟨v, .inr (.inl ⟨xs, _, b, e, hs, hat, rfl, ka, kd, .inl ⟨b', u, v, e1, rv, rfl⟩⟩), r1⟩
        · exact .inr (.inl ⟨xs, _, b, e, hs, hat, rfl, ka, kd, .inr ⟨h2 hn, rfl⟩⟩)
      | _ => cases ht
end
end G

set_option linter.all false
set_option maxRecDepth 100000
set_option maxHeartbeats 1000000
namespace G
open PySem PySem.Spec PyProof.Rows L2
section
variable {c : Nm} {fr fr' : Addr → Prop} {m : List Addr} {H H' : Hp} {ms : Ms} {σ : L2.St} {l : List (Option RV)} {T : List (V × RV)} {mm : Mem} {W : WX} {X : Cx} {pins : List (Addr × Obj)} {s : Shared} {a : Addr} {y v : V} {o : Option V} {u : Value} {E : Value → Shared → Prop}
/-- the law's names are the context's -/
structure Same' (c : Nm) (X : Cx) : Prop where
  prog : X.prog = c.prog
  w : X.w = c.w
  K : X.K = c.K
theorem XsAt.dict' {xs : XsT} (sm : Same' c X) (I : Inv X pins σ H s) (e : Rd H a (dctO c a xs)) (h : XsAt X.K H xs) : s.heap.DictOfH (nestedKind X.prog X.w) a xs := h.dict I sm.prog sm.w e
theorem key_is {k : NestedKey} {b : Addr} (I : Inv X pins σ H s) (h : KeyAt X.K H k (.ref b)) (hd : k.depth ≤ 8) : (nestedKind X.prog X.w).is s.heap k b := ⟨KeyAt.is I _ _ _ h rfl, hd⟩
/-- the empty dict is one of nested keys -/
theorem dk_nil (I : Inv X pins σ H s) (e : Rd H a (.dK [])) : (a == sysModules) = false ∧ s.heap.DictOfH (nestedKind X.prog X.w) a [] := by
  obtain ⟨z, hd, vs, rel, o, es, ep, h1, h2, h3, h4, h5, h6⟩ := dk_rd I.hok e
  cases rel
  refine ⟨hd, o, es, ep, h1, h2, h3, ?_, fun x hx => (by cases hx), List.nodup_nil⟩
  cases hes : es.toList with
  | nil => rfl
  | cons x xs =>
    rw [hes] at h5
    cases h5
theorem da_getItem (sm : Same' c X) {A : Around} {Q : Value → Shared → Prop} (hu : A.units + 60 < cLine) (I : Inv X pins σ H s) (g : DGetA c X.K H a y (some v)) (ry : RelV y u) (h : ∀ w' s', Inv X pins σ H s' → RelV v w' → Q w' s') :
    wpAny (model X.prog X.w) A (getItem (.ref a) u) Q E s := by
  have hr : (nestedKind X.prog X.w).room A.in1 := by show A.units + 1 + 8 < cLine; omega
  rcases g with g | ⟨xs, k, b, e, hs, hx, ey, hk, hd, q⟩ | ⟨k, b, e, ey, hk, hd, q⟩
  · exact d_getItem (by omega) I g ry h
  · subst ey
    cases (show u = Value.ref b from ry)
    rcases q with ⟨b', u', v', e1, rv, e2⟩ | ⟨_, e2⟩
    · cases e2
      refine wpAny_getItem_heap (p := (b', u')) hr (key_is I hk hd) (hx.dict' sm I e) e1 ?_
      exact h u' _ (I.tok _) rv
    · cases e2
  · cases q
theorem da_in (sm : Same' c X) {A : Around} {Q : Value → Shared → Prop} (hu : A.units + 60 < cLine) (I : Inv X pins σ H s) (g : DGetA c X.K H a y o) (ry : RelV y u) (h : ∀ s', Inv X pins σ H s' → Q (.bool o.isSome) s') :
    wpAny (model X.prog X.w) A (compareOp .In u (.ref a)) Q E s := by
  have hr : (nestedKind X.prog X.w).room A.in1 := by show A.units + 1 + 8 < cLine; omega
  rcases g with g | ⟨xs, k, b, e, hs, hx, ey, hk, hd, q⟩ | ⟨k, b, e, ey, hk, hd, q⟩
  · exact d_in (by omega) I g ry h
  · subst ey
    cases (show u = Value.ref b from ry)
    refine wpAny_in_heap hr (key_is I hk hd) hs (hx.dict' sm I e) ?_
    rcases q with ⟨b', u', v', e1, rv, e2⟩ | ⟨e1, e2⟩
    · rw [e1]
      subst e2
      exact h _ (I.tok _)
    · rw [e1]
      subst e2
      exact h _ (I.tok _)
  · subst ey
    cases (show u = Value.ref b from ry)
    obtain ⟨hs, hx⟩ := dk_nil I e
    refine wpAny_in_heap hr (key_is I hk hd) hs hx ?_
    subst q
    exact h _ (I.tok _)
theorem da_notIn (sm : Same' c X) {A : Around} {Q : Value → Shared → Prop} (hu : A.units + 60 < cLine) (I : Inv X pins σ H s) (g : DGetA c X.K H a y o) (ry : RelV y u) (h : ∀ s', Inv X pins σ H s' → Q (.bool (!o.isSome)) s') :
    wpAny (model X.prog X.w) A (compareOp .NotIn u (.ref a)) Q E s := by
  have hr : (nestedKind X.prog X.w).room A.in1 := by show A.units + 1 + 8 < cLine; omega
  rcases g with g | ⟨xs, k, b, e, hs, hx, ey, hk, hd, q⟩ | ⟨k, b, e, ey, hk, hd, q⟩
  · exact d_notIn (by omega) I g ry h
  · subst ey
    cases (show u = Value.ref b from ry)
    refine wpAny_notIn_heap hr (key_is I hk hd) hs (hx.dict' sm I e) ?_
    rcases q with ⟨b', u', v', e1, rv, e2⟩ | ⟨e1, e2⟩
    · rw [e1]
      subst e2
      exact h _ (I.tok _)
    · rw [e1]
      subst e2
      exact h _ (I.tok _)
  · subst ey
    cases (show u = Value.ref b from ry)
    obtain ⟨hs, hx⟩ := dk_nil I e
    refine wpAny_notIn_heap hr (key_is I hk hd) hs hx ?_
    subst q
    exact h _ (I.tok _)
/-- the dict behind d[y] = v -/
def DPutA (c : Nm) (K : PySem.W.Frag) (H : Hp) (a : Addr) (y v : V) (H' : Hp) : Prop := (∃ kvs k, H a = some (.dK kvs) ∧ y = kV k ∧ kvs.length < sizeLine ∧ H' = upd H a (.dK (putK kvs k v))) ∨
  ∃ xs k b u, (H a = some (dctO c a xs) ∧ (a == sysModules) = false ∨ (H a = some (.dK []) ∧ xs = [])) ∧ XsAt K H xs ∧ y = .ref b ∧ KeyAt K H k y ∧ k.depth ≤ 8 ∧ xs.length < sizeLine ∧ H' = upd H a (dctO c a (storedH xs k b u)) ∧ RelV v u
/-- d[y] = v; the value as it is stored is told by the caller's own -/
theorem da_setItem (sm : Same' c X) {A : Around} {Q : Unit → Shared → Prop} {r : Value} (hu : A.units + 60 < cLine) (I : Inv X pins σ H s) (ry : RelV y u) (rv : RelV v r)
    (g : (∃ kvs k, H a = some (.dK kvs) ∧ y = kV k ∧ kvs.length < sizeLine ∧ ∀ s', Inv X pins σ (upd H a (.dK (putK kvs k v))) s' → Q () s') ∨
      ∃ xs k b, (H a = some (dctO c a xs) ∨ (H a = some (.dK []) ∧ xs = [])) ∧ XsAt X.K H xs ∧ y = .ref b ∧ KeyAt X.K H k y ∧ k.depth ≤ 8 ∧ xs.length < sizeLine ∧
        ∀ s' u', RelV v u' → Inv X pins σ (upd H a (dctO c a (storedH xs k b u'))) s' → Q () s') :
    wpAny (model X.prog X.w) A (setItem (.ref a) u r) Q E s := by
  have hr : (nestedKind X.prog X.w).room A.in1 := by show A.units + 1 + 8 < cLine; omega
  rcases g with ⟨kvs, k, e, ey, hz, h⟩ | ⟨xs, k, b, e, hx, ey, hk, hd, hz, h⟩
  · subst ey
    exact d_setItem (by omega) I (DPut.k e hz) ry rv h
  · subst ey
    cases (show u = Value.ref b from ry)
    have hm : s.heap.DictOfH (nestedKind X.prog X.w) a xs := by
      rcases e with e | ⟨e, rfl⟩
      · exact hx.dict' sm I (.inl e)
      · exact (dk_nil I (.inl e)).2
    have mu : Mut (H a) := by
      rcases e with e | ⟨e, _⟩
      · rw [e]; trivial
      · rw [e]; trivial
    refine wpAny_setItem_heap (hsz := by omega) hr (key_is I hk hd) hm fun h' hm' hs => ?_
    refine h _ r rv ?_
    have hm2 := hm'
    obtain ⟨o, es, ep, h1, h2, h3, h4, _, _⟩ := hm'
    refine I.write (x := a) (e := a) (t' := _) mu (.inl rfl) (fun q ob hq z => (hs.2 q hq).trans z) ⟨o, h1⟩ ?_
    refine ⟨⟨o, es, ep, h1, h2, h3, by rw [← sm.prog, ← sm.w]; exact h4⟩, ⟨o, h1⟩, ?_⟩
    rintro g1 g2 ⟨o', es', ep', q1, q2⟩ k'
    exact ⟨o', es', ep', k' _ q1, q2⟩

/-! a subscript of whatever -/
def rIxD (c : Nm) (K : PySem.W.Frag) : R2 := fun x y H Q => ∃ a v, x = .ref a ∧ DGetA c K H a y (some v) ∧ Q v H
theorem dgetA_there (sm : Same' c X) (I : Inv X pins σ H s) (g : DGetA c X.K H a y o) : s.TypeIs (.ref a) "dict" := by
  rcases g with (⟨kvs, k, e, _⟩ | ⟨kvs, k, b, e, _⟩) | ⟨xs, k, b, e, hs, hx, _⟩ | ⟨k, b, e, _⟩
  · obtain ⟨z, hd, vs, rel, dd⟩ := dk_rd I.hok e
    exact dd.typeIs
  · obtain ⟨z, hd, vs, rel, dd⟩ := dt_rd I.hok e
    exact dd.typeIs
  · exact (hx.dict' sm I e).typeIs
  · exact (dk_nil I e).2.typeIs
theorem ix_dict (sm : Same' c X) (hu : X.A.units + 60 < cLine) : IxR X (rIxD c X.K) := by
  intro value slice pins s σ H x y v u Q I rx ry h hs
  obtain ⟨a, z, rfl, g, q⟩ := h
  cases rx
  have ht := dgetA_there sm I g
  refine tail_any (ops := [Value.ref a, u]) ht PySem.F.slot_dict_getitem.lookup (da_getItem sm hu I g ry fun w' s' I' r' => ⟨z, H, I', r', q⟩) ?_
  exact hs
def rIxAll (c : Nm) (K : PySem.W.Frag) : R2 := fun x y H Q => rIxL K x y H Q ∨ (rIxT K x y H Q ∨ (rIxS x y H Q ∨ rIxD c K x y H Q))
theorem ix_all (sm : Same' c X) (hu : X.A.units + 60 < cLine) : IxR X (rIxAll c X.K) := IxR.or ix_list (IxR.or ix_tup (IxR.or ix_str (ix_dict sm hu)))
/-- as Ok2, of a thing within: its result is no new one -/
theorem ok_ix : Ok2 c (fun p q => (subscript p q).map fun d => (false, d)) (rIxAll c c.K) := by
  intro fr ms σ l T mm H p q v w rv Q s rp rq e h
  replace e := some_map e
  obtain ⟨d, e, rfl⟩ := e
  unfold subscript at e
  split at e
  · -- a tuple
    obtain ⟨a, vs, rfl, q1, r1⟩ := rp.tup
    rw [rq.int]
    obtain ⟨z, e1, r2⟩ := r1.at e
    exact .inr (.inl ⟨a, vs, _, z, rfl, rfl, q1, e1, h _ _ ⟨fr, ms, s.push r2⟩ Ext.refl⟩)
  · obtain ⟨a, vs, rfl, q1, r1⟩ := rp.lst
    rw [rq.int]
    obtain ⟨z, e1, r2⟩ := r1.at e
    exact .inl ⟨a, vs, _, z, rfl, rfl, SqL.of q1, e1, h _ _ ⟨fr, ms, s.push r2⟩ Ext.refl⟩
  · split at e
    · rename_i hz
      replace e := some_map e
      obtain ⟨ch, e, rfl⟩ := e
      rw [rp.str, rq.int]
      exact .inr (.inr (.inl ⟨_, _, ch, rfl, rfl, by rw [← line]; exact hz, e, h _ _ (s.astr _) Ext.refl⟩))
    · cases e
  · split at e
    · rename_i hf
      obtain ⟨a, rfl, hd⟩ := rp
      obtain ⟨h1, _⟩ := dget_ok hd hf rq
      obtain ⟨z, g, r⟩ := h1 d e
      exact .inr (.inr (.inr ⟨a, z, rfl, g, h _ _ ⟨fr, ms, s.push r⟩ Ext.refl⟩))
    · cases e
  · cases e
/-! in, not in -/
def rInT' (K : PySem.W.Frag) : R2 := fun x y H Q => ∃ d ds, Dp K H x d ∧ Dp K H y (.tuple ds) ∧ SeqAt.shaped d = true ∧ SeqAt.shaped (.tuple ds) = true ∧ Q (.bl (ds.any fun z => PyData.eqv z d)) H
def rNotInT' (K : PySem.W.Frag) : R2 := fun x y H Q => ∃ d ds, Dp K H x d ∧ Dp K H y (.tuple ds) ∧ SeqAt.shaped d = true ∧ SeqAt.shaped (.tuple ds) = true ∧ Q (.bl (!ds.any fun z => PyData.eqv z d)) H
theorem op_inT' (hu : X.A.units + 65 < cLine) : OpR X (compareOp .In) (rInT' X.K) := by
  intro pins s σ H x y v u Q I rx ry h
  obtain ⟨d, ds, hd, he, sd, se, q⟩ := h
  obtain ⟨as, r1⟩ := Dp.reads I d x v hd rx
  obtain ⟨bs, r2⟩ := Dp.reads I (.tuple ds) y u he ry
  refine SeqAt.in_tuple_reads r2 r1 (SeqAt.canLay_of_shaped se) (SeqAt.canLay_of_shaped sd) ?_ ⟨.bl _, H, I, rfl, q⟩
  have h1 := SeqAt.depth_of_shaped sd
  have h2 : min (PyData.depthAll ds) d.depth ≤ d.depth := Nat.min_le_right _ _
  omega
theorem op_notInT' (hu : X.A.units + 65 < cLine) : OpR X (compareOp .NotIn) (rNotInT' X.K) := by
  intro pins s σ H x y v u Q I rx ry h
  obtain ⟨d, ds, hd, he, sd, se, q⟩ := h
  obtain ⟨as, r1⟩ := Dp.reads I d x v hd rx
  obtain ⟨bs, r2⟩ := Dp.reads I (.tuple ds) y u he ry
  refine SeqAt.notIn_tuple_reads r2 r1 (SeqAt.canLay_of_shaped se) (SeqAt.canLay_of_shaped sd) ?_ ⟨.bl _, H, I, rfl, q⟩
  have h1 := SeqAt.depth_of_shaped sd
  have h2 : min (PyData.depthAll ds) d.depth ≤ d.depth := Nat.min_le_right _ _
  omega
def rInDc (c : Nm) (K : PySem.W.Frag) : R2 := fun x y H Q => ∃ a o, y = .ref a ∧ DGetA c K H a x o ∧ Q (.bl o.isSome) H
def rNotInDc (c : Nm) (K : PySem.W.Frag) : R2 := fun x y H Q => ∃ a o, y = .ref a ∧ DGetA c K H a x o ∧ Q (.bl (!o.isSome)) H
theorem op_inDc (sm : Same' c X) (hu : X.A.units + 65 < cLine) : OpR X (compareOp .In) (rInDc c X.K) := by
  intro pins s σ H x y v u Q I rx ry h
  obtain ⟨a, o, rfl, g, q⟩ := h
  cases ry
  exact da_in sm (by omega) I g rx fun s' I' => ⟨.bl _, H, I', rfl, q⟩
theorem op_notInDc (sm : Same' c X) (hu : X.A.units + 65 < cLine) : OpR X (compareOp .NotIn) (rNotInDc c X.K) := by
  intro pins s σ H x y v u Q I rx ry h
  obtain ⟨a, o, rfl, g, q⟩ := h
  cases ry
  exact da_notIn sm (by omega) I g rx fun s' I' => ⟨.bl _, H, I', rfl, q⟩
def rInStr : R2 := fun x y H Q => ∃ i j, x = .str i ∧ y = .str j ∧ Q (.bl (!(Builtin.Str.occurrences j i 0 j.length 1).isEmpty)) H
def rNotInStr : R2 := fun x y H Q => ∃ i j, x = .str i ∧ y = .str j ∧ Q (.bl (!(!(Builtin.Str.occurrences j i 0 j.length 1).isEmpty))) H
def rInAll (c : Nm) (K : PySem.W.Frag) : R2 := fun x y H Q => rInD K x y H Q ∨ (rInT' K x y H Q ∨ (rInDc c K x y H Q ∨ rInStr x y H Q))
def rNotInAll (c : Nm) (K : PySem.W.Frag) : R2 := fun x y H Q => rNotInD K x y H Q ∨ (rNotInT' K x y H Q ∨ (rNotInDc c K x y H Q ∨ rNotInStr x y H Q))
theorem op_inAll (sm : Same' c X) (hu : X.A.units + 65 < cLine) : OpR X (compareOp .In) (rInAll c X.K) := OpR.or (op_inD hu) (OpR.or (op_inT' hu) (OpR.or (op_inDc sm hu) op_in_str))
theorem op_notInAll (sm : Same' c X) (hu : X.A.units + 65 < cLine) : OpR X (compareOp .NotIn) (rNotInAll c X.K) := OpR.or (op_notInD hu) (OpR.or (op_notInT' hu) (OpR.or (op_notInDc sm hu) op_notin_str))
theorem any_py {x : D} (hx : x.flat = true) : ∀ (ys : List D), D.flatL ys = true → ((D.pyL ys).any fun z => PyData.eqv z x.py) = ys.any fun z => D.eqv z x
  | [], _ => rfl
  | y :: ys, h => by
    simp only [D.flatL, Bool.and_eq_true] at h
    simp only [D.pyL, List.any_cons, any_py hx ys h.2, eqv_py y x h.1 hx]
theorem in_parts {x y : D} {b : Bool} (e : isIn x y = some b) : (∃ ys, (y = .tup ys ∨ y = .lst ys) ∧ x.flat = true ∧ D.flatL ys = true ∧ x.dep ≤ 60 ∧ D.depL ys ≤ 59 ∧ b = ys.any fun z => D.eqv z x) ∨ (∃ kvs, y = .dic kvs ∧ fits kvs x = true ∧ b = (look kvs x).isSome) ∨
    ∃ z s, x = .str z ∧ y = .str s ∧ b = !(Builtin.Str.occurrences s z 0 s.length 1).isEmpty := by
  unfold isIn at e
  split at e
  · obtain ⟨⟨h1, h2, h3, h4⟩, e⟩ := some_if e
    exact .inl ⟨_, .inl rfl, h1, h2, h3, h4, e.symm⟩
  · obtain ⟨⟨h1, h2, h3, h4⟩, e⟩ := some_if e
    exact .inl ⟨_, .inr rfl, h1, h2, h3, h4, e.symm⟩
  · split at e
    · rename_i hf
      cases e
      exact .inr (.inl ⟨_, rfl, hf, rfl⟩)
    · cases e
  · split at e
    · cases e
      exact .inr (.inr ⟨_, _, rfl, rfl, rfl⟩)
    · cases e
  · cases e
theorem look_isSome {kvs : List (D × D)} {k : D} {a : Addr} {y : V} (hd : DcA c fr m H a kvs) (hf : fits kvs k = true) (ry : RD c fr m H k y) : ∃ o, DGetA c c.K H a y o ∧ o.isSome = (look kvs k).isSome := by
  obtain ⟨h1, h2⟩ := dget_ok hd hf ry
  cases e : look kvs k with
  | none => exact ⟨none, h2 e, rfl⟩
  | some d =>
    obtain ⟨v, g, _⟩ := h1 d e
    exact ⟨some v, g, rfl⟩
theorem ok_in : Ok2 c (cmpR (compare .in_)) (rInAll c c.K) := by
  intro fr ms σ l T mm H p q v w rv Q s rp rq e h
  replace e := some_map e
  obtain ⟨b, e, rfl⟩ := e
  rcases in_parts e with ⟨ys, hy, h1, h2, h3, h4, rfl⟩ | ⟨kvs, rfl, hf, rfl⟩ | ⟨z, t, rfl, rfl, rfl⟩
  · rcases hy with rfl | rfl
    · have f : (D.tup ys).flat = true := by simpa [D.flat] using h2
      refine .inr (.inl ⟨_, _, rp.dp h1, rq.dp f, flat_shaped h1 h3, flat_shaped f (by simp only [D.dep]; omega), ?_⟩)
      rw [any_py h1 ys h2]
      exact h _ _ (s.abl _) Ext.refl
    · have f : (D.lst ys).flat = true := by simpa [D.flat] using h2
      refine .inl ⟨_, _, rp.dp h1, rq.dp f, flat_shaped h1 h3, flat_shaped f (by simp only [D.dep]; omega), ?_⟩
      rw [any_py h1 ys h2]
      exact h _ _ (s.abl _) Ext.refl
  · obtain ⟨a, rfl, hd⟩ := rq
    obtain ⟨o, g, ho⟩ := look_isSome hd hf rp
    refine .inr (.inr (.inl ⟨a, o, rfl, g, ?_⟩))
    rw [ho]
    exact h _ _ (s.abl _) Ext.refl
  · exact .inr (.inr (.inr ⟨z, t, rp.str, rq.str, h _ _ (s.abl _) Ext.refl⟩))
theorem ok_notin : Ok2 c (cmpR (compare .notin)) (rNotInAll c c.K) := by
  intro fr ms σ l T mm H p q v w rv Q s rp rq e h
  replace e := some_map e
  obtain ⟨b, e, rfl⟩ := e
  replace e := some_map e
  obtain ⟨b, e, rfl⟩ := e
  rcases in_parts e with ⟨ys, hy, h1, h2, h3, h4, rfl⟩ | ⟨kvs, rfl, hf, rfl⟩ | ⟨z, t, rfl, rfl, rfl⟩
  · rcases hy with rfl | rfl
    · have f : (D.tup ys).flat = true := by simpa [D.flat] using h2
      refine .inr (.inl ⟨_, _, rp.dp h1, rq.dp f, flat_shaped h1 h3, flat_shaped f (by simp only [D.dep]; omega), ?_⟩)
      rw [any_py h1 ys h2]
      exact h _ _ (s.abl _) Ext.refl
    · have f : (D.lst ys).flat = true := by simpa [D.flat] using h2
      refine .inl ⟨_, _, rp.dp h1, rq.dp f, flat_shaped h1 h3, flat_shaped f (by simp only [D.dep]; omega), ?_⟩
      rw [any_py h1 ys h2]
      exact h _ _ (s.abl _) Ext.refl
  · obtain ⟨a, rfl, hd⟩ := rq
    obtain ⟨o, g, ho⟩ := look_isSome hd hf rp
    refine .inr (.inr (.inl ⟨a, o, rfl, g, ?_⟩))
    rw [ho]
    exact h _ _ (s.abl _) Ext.refl
  · exact .inr (.inr (.inr ⟨z, t, rp.str, rq.str, h _ _ (s.abl _) Ext.refl⟩))
end
end G

set_option linter.all false
set_option maxRecDepth 100000
set_option maxHeartbeats 1000000
namespace G
open PySem PySem.Spec PyProof.Rows L2
section
variable {c : Nm} {fr fr' : Addr → Prop} {m : List Addr} {H H' : Hp} {ms : Ms} {σ : L2.St} {l : List (Option RV)} {T : List (V × RV)} {mm : Mem} {W : WX} {X : Cx} {b k : Bool}
/-- several in a row, held the last one on top -/
def stack (vs : List V) (rs : List RV) (T : List (V × RV)) : List (V × RV) := (vs.zip rs).reverse ++ T
/-- what an argument list does -/
def tMs (c : Nm) (W : WX) (k : Bool) (x : M (List RV)) : TA := fun σ H Q => ∃ l T m, SI c σ l T m H ∧
  Run x ⟨l, m⟩ (fun rs s' => ∀ vs H', vs.length = rs.length → SI c σ s'.l (stack vs rs T) s'.m H' → (k = true → Ext H H') → Q vs H') (ExP c W σ T)
structure PAg (X : Cx) (es : List Expr) (t : TA) : Prop where
  run : PA X es t
theorem PAimp {es : List Expr} {t t' : TA} (h : PA X es t) (hi : ∀ σ H Q, t' σ H Q → t σ H Q) : PA X es t' := ⟨fun pos pins s σ H Q I q => h.run pos pins s σ H Q I (hi σ H Q q)⟩
theorem x_nil : PA X [] (tMs c W k (M.ret [])) := PAimp pa_nil fun σ H Q ⟨l, T, m, s, h⟩ => h [] H rfl s fun _ => Ext.refl
theorem stack_cons {v : V} {vs : List V} {r : RV} {rs : List RV} (h : vs.length = rs.length) : stack (v :: vs) (r :: rs) T = stack vs rs ((v, r) :: T) := by
  unfold stack
  simp
theorem x_cons {e : Expr} {es : List Expr} {A : M RV} {B : M (List RV)} {k1 k2 : Bool} (ha : PE X e (tM c W false k1 A)) (hb : PA X es (tMs c W k2 B)) (hk : k = true → k1 = true ∧ k2 = true)
    (hs : starEach (e :: es) X.env = (false, eval e X.env) :: starEach es X.env) : PA X (e :: es) (tMs c W k (do
      let v ← A
      let vs ← B
      M.ret (v :: vs))) := by
  refine PAimp (pa_cons ha hb hs) ?_
  rintro σ H Q ⟨l, T, m, s, h⟩
  refine ⟨l, T, m, s, ?_⟩
  rw [Run.bind] at h
  refine Run.mono h (fun r s1 h => ?_) (fun _ _ z => z)
  intro v H1 aft e1
  refine ⟨s1.l, (v, r) :: T, s1.m, aft, ?_⟩
  rw [Run.bind] at h
  refine Run.mono h (fun rs s2 h => ?_) (fun _ _ z => z.pop)
  intro vs H2 hl si e2
  refine h (v :: vs) H2 (by simp [hl]) ?_ fun hk' => Ext.trans (e1 (hk hk').1) (e2 (hk hk').2)
  rw [stack_cons hl]
  exact si

/-- those held: as frozen things -/
theorem SIg.freezeAll : ∀ {vs : List V} {rs : List RV} {fr : Addr → Prop} {T : List (V × RV)}, vs.length = rs.length → SIg c fr ms σ l (stack vs rs T) mm H → ∃ fr', (∀ a, fr a → fr' a) ∧ SIg c fr' ms σ l T mm H ∧ FRs c fr' (mu ms) H (rs.map (·.2)) vs
  | [], [], fr, T, _, s => ⟨fr, fun _ f => f, s, FRs.nil⟩
  | v :: vs, r :: rs, fr, T, h, s => by
    have h : vs.length = rs.length := by simpa using h
    rw [stack_cons h] at s
    obtain ⟨fr1, f1, s1, r1⟩ := SIg.freezeAll (vs := vs) (rs := rs) h s
    obtain ⟨fr2, f2, s2⟩ := s1.freeze1'
    exact ⟨fr2, fun a f => f2 a (f1 a f), s2.pop, FRs.cons (s2.temps _ List.mem_cons_self) (FRs.still Still.refl f2 _ r1)⟩
  | [], _ :: _, _, _, h, _ => by cases h
  | _ :: _, [], _, _, h, _ => by cases h
theorem Aft.mk {r : RV} {v : V} (h : SI c σ l ((v, r) :: T) mm H) : Aft c b σ l T mm r v H := .of h
/-- (e, ..) -/
theorem x_tup {es : List Expr} {x1 : Nat} {pos : Pos} {B : M (List RV)} (hb : PA X es (tMs c W k B)) (hz : es.length ≤ sizeMax) (hl : ∀ s K X', Run B s K X' → Run B s (fun rs s' => rs.length = es.length ∧ K rs s') X') : PE X (.Tuple es x1 pos) (tM c W b k (do
    let vs ← B
    M.ret (false, .tup (vs.map (·.2))))) := by
  refine PEimp (pe_tupN hb) ?_
  rintro σ H Q ⟨l, T, m, s, h⟩
  refine ⟨l, T, m, s, ?_⟩
  rw [Run.bind] at h
  refine Run.mono (hl _ _ _ h) (fun rs s1 h => ?_) (fun _ _ z => z)
  obtain ⟨hn, h⟩ := h
  intro vs H1 hv si e1
  obtain ⟨fr, ms, si⟩ := si
  obtain ⟨fr', _, s2, r2⟩ := si.freezeAll hv
  refine ⟨by rw [hv, hn, ← line]; exact hz, fun p o np ho => ?_⟩
  exact h _ _ (.of (s2.newT r2 np ho)) fun hk => Ext.trans (e1 hk) (Ext.new np)
theorem x_lst {es : List Expr} {pos : Pos} {B : M (List RV)} (hb : PA X es (tMs c W k B)) (hz : es.length ≤ sizeMax) (hl : ∀ s K X', Run B s K X' → Run B s (fun rs s' => rs.length = es.length ∧ K rs s') X') : PE X (.List es pos) (tM c W b k (do
    let vs ← B
    M.ret (true, .lst (vs.map (·.2))))) := by
  refine PEimp (pe_lst hb) ?_
  rintro σ H Q ⟨l, T, m, s, h⟩
  refine ⟨l, T, m, s, ?_⟩
  rw [Run.bind] at h
  refine Run.mono (hl _ _ _ h) (fun rs s1 h => ?_) (fun _ _ z => z)
  obtain ⟨hn, h⟩ := h
  intro vs H1 hv si e1
  obtain ⟨fr, ms, si⟩ := si
  obtain ⟨fr', _, s2, r2⟩ := si.freezeAll hv
  refine ⟨by rw [hv, hn, ← line]; exact hz, fun p np => ?_⟩
  exact h _ _ (.of (s2.newL r2 np)) fun hk => Ext.trans (e1 hk) (Ext.new np)
/-! a thing more in the memory -/
theorem MemsOk.snoc : ∀ {M : Mem} {ms : Ms} {o : MO} {x : Addr × List V}, MemsOk c fr m H M ms → MemOk c fr m H o x → MemsOk c fr m H (M ++ [o]) (ms ++ [x])
  | [], ms, o, x, h, h' => by
    have h : ms = [] := h
    subst h
    exact ⟨x, [], rfl, h', rfl⟩
  | o' :: os, ms, o, x, h, h' => by
    obtain ⟨y, ms', rfl, h1, h2⟩ := h
    exact ⟨y, ms' ++ [x], rfl, h1, h2.snoc h'⟩
theorem ownM_snoc : ∀ {M : Mem} {ms : Ms} {o : MO} {x : Addr × List V} (a : Addr), MemsOk c fr m H M ms → ownM (M ++ [o]) (ms ++ [x]) a = ownM M ms a + ownM [o] [x] a
  | [], ms, o, x, a, h => by
    have h : ms = [] := h
    subst h
    simp [ownM]
  | o' :: os, ms, o, x, a, h => by
    obtain ⟨y, ms', rfl, h1, h2⟩ := h
    rw [List.cons_append, List.cons_append, ownM_cons, ownM_cons (o := o') (os := os), ownM_snoc a h2]
    omega
theorem MemsOk.length : ∀ {M : Mem} {ms : Ms}, MemsOk c fr m H M ms → ms.length = M.length
  | [], ms, h => by
    have h : ms = [] := h
    subst h; rfl
  | o :: os, ms, h => by
    obtain ⟨x, ms', rfl, h1, h2⟩ := h
    simp [h2.length]
/-! more objects known: FR stands -/
mutual
theorem FR.grow {m' : List Addr} (hm : ∀ (k : Nat) a, m[k]? = some a → m'[k]? = some a) : ∀ (d : D) {v : V}, FR c fr m H d v → FR c fr m' H d v
  | .non, _, h => h
  | .bl _, _, h => h
  | .int _, _, h => h
  | .str _, _, h => h
  | .scr _, _, h => h
  | .pin _, _, h => h
  | .tup ds, v, h => by
    simp only [FR] at h ⊢
    obtain ⟨a, vs, e, q, r⟩ := h
    exact ⟨a, vs, e, q, FRs.grow hm ds r⟩
  | .lst ds, v, h => by
    simp only [FR] at h ⊢
    obtain ⟨a, vs, e, q, r⟩ := h
    exact ⟨a, vs, e, q, FRs.grow hm ds r⟩
  | .dic kvs, v, h => by
    simp only [FR] at h ⊢
    obtain ⟨a, e, f, q⟩ := h
    refine ⟨a, e, f, ?_⟩
    rcases q with ⟨ks, q, r⟩ | ⟨xs, q, h1, h2, h3, r⟩
    · exact .inl ⟨ks, q, FRk.grow hm kvs r⟩
    · exact .inr ⟨xs, q, h1, h2, h3, FRe.grow hm kvs r⟩
  | .obj k, v, h => by
    simp only [FR] at h ⊢
    obtain ⟨a, e, q⟩ := h
    exact ⟨a, e, hm k a q⟩
theorem FRs.grow {m' : List Addr} (hm : ∀ (k : Nat) a, m[k]? = some a → m'[k]? = some a) : ∀ (ds : List D) {vs : List V}, FRs c fr m H ds vs → FRs c fr m' H ds vs
  | [], _, h => h
  | d :: ds, vs, h => by
    simp only [FRs] at h ⊢
    obtain ⟨v, vs', e, r, q⟩ := h
    exact ⟨v, vs', e, FR.grow hm d r, FRs.grow hm ds q⟩
theorem FRk.grow {m' : List Addr} (hm : ∀ (k : Nat) a, m[k]? = some a → m'[k]? = some a) : ∀ (kvs : List (D × D)) {ks : List (Key × V)}, FRk c fr m H kvs ks → FRk c fr m' H kvs ks
  | [], _, h => h
  | (k, d) :: kvs, ks, h => by
    simp only [FRk] at h ⊢
    obtain ⟨q, v, ks', e, hk, r, z⟩ := h
    exact ⟨q, v, ks', e, hk, FR.grow hm d r, FRk.grow hm kvs z⟩
theorem FRe.grow {m' : List Addr} (hm : ∀ (k : Nat) a, m[k]? = some a → m'[k]? = some a) : ∀ (kvs : List (D × D)) {xs : XsT}, FRe c fr m H kvs xs → FRe c fr m' H kvs xs
  | [], _, h => h
  | (k, d) :: kvs, ks, h => by
    simp only [FRe] at h ⊢
    obtain ⟨b, v, u, xs', e, hk, r1, rv, r, z⟩ := h
    exact ⟨b, v, u, xs', e, hk, FR.grow hm k r1, rv, FR.grow hm d r, FRe.grow hm kvs z⟩
end
theorem OW.grow {m' : List Addr} (hm : ∀ (k : Nat) a, m[k]? = some a → m'[k]? = some a) {d : D} {v : V} (h : OW c fr m H d v) : OW c fr m' H d v := by
  cases d with
  | lst ds => obtain ⟨a, vs, e, q, r⟩ := h; exact ⟨a, vs, e, q, FRs.grow hm ds r⟩
  | dic kvs =>
    obtain ⟨a, e, q⟩ := h
    refine ⟨a, e, ?_⟩
    rcases q with ⟨ks, q, r⟩ | ⟨xs, q, h1, h2, h3, r⟩
    · exact .inl ⟨ks, q, FRk.grow hm kvs r⟩
    · exact .inr ⟨xs, q, h1, h2, h3, FRe.grow hm kvs r⟩
  | _ => exact FR.grow hm _ h
theorem Root.grow {m' : List Addr} (hm : ∀ (k : Nat) a, m[k]? = some a → m'[k]? = some a) {r : V × RV} (h : Root c fr m H r) : Root c fr m' H r := by
  unfold Root at h ⊢
  split
  · rename_i e; rw [if_pos e] at h; exact h.grow hm
  · rename_i e; rw [if_neg e] at h; exact FR.grow hm _ h
theorem MemOk.grow {m' : List Addr} (hm : ∀ (k : Nat) a, m[k]? = some a → m'[k]? = some a) {o : MO} {x : Addr × List V} (h : MemOk c fr m H o x) : MemOk c fr m' H o x := by
  obtain ⟨a, vs⟩ := x
  cases o with
  | ins k fs =>
    obtain ⟨h1, h2, h3⟩ := h
    exact ⟨h1, h2, fun r hr => (h3 r hr).grow hm⟩
  | lst ds =>
    obtain ⟨h1, h2⟩ := h
    exact ⟨h1, FRs.grow hm ds h2⟩
theorem MemsOk.grow {m' : List Addr} (hm : ∀ (k : Nat) a, m[k]? = some a → m'[k]? = some a) : ∀ {M : Mem} {ms : Ms}, MemsOk c fr m H M ms → MemsOk c fr m' H M ms
  | [], _, h => h
  | o :: os, ms, h => by
    obtain ⟨x, ms', rfl, h1, h2⟩ := h
    exact ⟨x, ms', rfl, h1.grow hm, h2.grow hm⟩
theorem mu_snoc {ms : Ms} {x : Addr × List V} : ∀ (k : Nat) a, (mu ms)[k]? = some a → (mu (ms ++ [x]))[k]? = some a := fun k a h => by
  unfold mu at h ⊢
  rw [List.map_append, List.getElem?_append_left (List.getElem?_eq_some_iff.mp h).1]
  exact h
/-- a new object stands at p: it is the memory's -/
theorem SIg.memNew (s : SIg c fr ms σ l T mm H) {p : Addr} (hp : H p = none) {ho : HO} {o : MO} {vs : List V} (hn : ∀ xs, ho ≠ .tup xs) (hn' : ∀ ob u, ho ≠ .frz ob u) (h1 : ∀ a, ownM [o] [(p, vs)] a = if a = p then 1 else 0) (h : MemOk c fr (mu ms) (upd H p ho) o (p, vs)) :
    SI c σ l ((.ref p, (false, .obj mm.length)) :: T) (mm ++ [o]) (upd H p ho) := by
  have s' := s.laid hp ho
  have z := s.fresh hp
  have g := mu_snoc (ms := ms) (x := (p, vs))
  have sI : SIg c fr (ms ++ [(p, vs)]) σ l T (mm ++ [o]) (upd H p ho) := by
    refine ⟨s'.len, fun i x e => ?_, fun r hr => (s'.temps r hr).grow g, MemsOk.snoc (s'.mem.grow g) (h.grow g), fun a => ?_, fun a f => ?_, s'.frt⟩
    · obtain ⟨v, e1, h⟩ := s'.slots i x e
      exact ⟨v, e1, h.grow g⟩
    · rw [ownM_snoc a s'.mem, h1]
      have := s'.one a
      by_cases e : a = p
      · subst e; rw [if_pos rfl]; omega
      · rw [if_neg e]; omega
    · rw [ownM_snoc a s'.mem, h1]
      have := s'.nof a f
      by_cases e : a = p
      · subst e; exact absurd f z.2
      · rw [if_neg e]; omega
  refine ⟨fr, _, sI.push ?_⟩
  simp only [FR]
  refine ⟨p, rfl, ?_⟩
  unfold mu
  rw [List.map_append, List.getElem?_append_right (by rw [List.length_map, s.mem.length]; exact Nat.le_refl _), List.length_map, s.mem.length]
  simp
theorem x_newl {es : List Expr} {pos : Pos} {B : M (List RV)} (hb : PA X es (tMs c W k B)) (hz : es.length ≤ sizeMax) (hl : ∀ s K X', Run B s K X' → Run B s (fun rs s' => rs.length = es.length ∧ K rs s') X') : PE X (.List es pos) (tM c W b k (do
    let vs ← B
    newM (vs.map (·.2)))) := by
  refine PEimp (pe_lst hb) ?_
  rintro σ H Q ⟨l, T, m, s, h⟩
  refine ⟨l, T, m, s, ?_⟩
  rw [Run.bind] at h
  refine Run.mono (hl _ _ _ h) (fun rs s1 h => ?_) (fun _ _ z => z)
  obtain ⟨hn, h⟩ := h
  intro vs H1 hv si e1
  obtain ⟨fr, ms, si⟩ := si
  obtain ⟨fr', _, s2, r2⟩ := si.freezeAll hv
  refine ⟨by rw [hv, hn, ← line]; exact hz, fun p np => ?_⟩
  refine h _ _ (.of (s2.memNew np (by simp) (by simp) (fun a => ?_) ⟨upd_same, FRs.still (s2.free_new np).still (fun _ f => f) _ r2⟩)) fun hk => Ext.trans (e1 hk) (Ext.new np)
  simp [ownM]
end
end G

set_option linter.all false
set_option maxRecDepth 100000
set_option maxHeartbeats 1000000
namespace G
open PySem PySem.Spec PyProof.Rows L2
section
variable {c : Nm} {σ : L2.St} {H H' : Hp} {l : List (Option RV)} {T : List (V × RV)} {mm : Mem} {W : WX} {X : Cx} {b k k1 k2 : Bool}
/-- a test as a reading -/
def tT (c : Nm) (W : WX) (x : M Bool) : TT := fun σ H Q => ∃ l T m, SI c σ l T m H ∧
  Run x ⟨l, m⟩ (fun t s' => ∀ H', SI c σ s'.l T s'.m H' → Q t H') (ExP c W σ T)
def truthM (x : M RV) : M Bool := do
  let u ← x
  M.of u.2.truth
theorem PTimp {e : Expr} {t t' : TT} (h : PT X e t) (hi : ∀ σ H Q, t' σ H Q → t σ H Q) : PT X e t' := ⟨fun pins s σ H Q I q => h.run pins s σ H Q I (hi σ H Q q)⟩
theorem PWimp {e : Expr} {t t' : TT} (h : PW X e t) (hi : ∀ σ H Q, t' σ H Q → t σ H Q) : PW X e t' := ⟨fun w pins s σ H Q I q => h.run w pins s σ H Q I (hi σ H Q q)⟩
theorem truth_bl {d : D} {t : Bool} (h : d.truth = some t) : d = .bl t := by
  cases d <;> simp [D.truth] at h
  rw [h]
theorem Aft.bl {r : RV} {v : V} {t : Bool} (h : Aft c b σ l T mm r v H) (e : r.2 = .bl t) : v = .bl t ∧ SI c σ l T mm H := by
  obtain ⟨fr, ms, s, q⟩ := h.look
  rw [e] at q
  exact ⟨q.bl, fr, ms, s⟩
theorem tT_of {A : M RV} : ∀ σ H Q, tT c W (truthM A) σ H Q → tM c W true k A σ H (fun x H1 => ∃ t, x = .bl t ∧ Q t H1) := by
  rintro σ H Q ⟨l, T, m, s, h⟩
  refine ⟨l, T, m, s, ?_⟩
  unfold truthM at h
  rw [Run.bind] at h
  refine Run.mono h (fun r s1 h => ?_) (fun _ _ z => z)
  rw [Run.of] at h
  obtain ⟨t, e, h⟩ := h
  intro v H1 aft _
  obtain ⟨e1, si⟩ := aft.bl (truth_bl e)
  exact ⟨t, e1, h H1 si⟩
/-- an expression whose truth is asked plainly -/
theorem x_test {e : Expr} {A : M RV} (h : PE X e (tM c W true k A)) (he : ∀ whole, isTrue e X.env whole = (do let v ← whole; standAt e.pos; holding [v] (truthy v))) : PT X e (tT c W (truthM A)) :=
  PTimp (pt_val h he) tT_of
theorem x_and1 {e : Expr} {x : M Bool} {pos : Pos} (h : PT X e (tT c W x)) : PW X (.BoolOp .And [e] pos) (tT c W x) := pw_and1 h
theorem x_or1 {e : Expr} {x : M Bool} {pos : Pos} (h : PT X e (tT c W x)) : PW X (.BoolOp .Or [e] pos) (tT c W x) := pw_or1 h
theorem x_and {e e2 : Expr} {es : List Expr} {x y : M Bool} {pos : Pos} (h : PT X e (tT c W x)) (h2 : PW X (.BoolOp .And (e2 :: es) pos) (tT c W y)) : PW X (.BoolOp .And (e :: e2 :: es) pos) (tT c W (do
    let t ← x
    if t then y else M.ret false)) := by
  refine PWimp (pw_and h h2) ?_
  rintro σ H Q ⟨l, T, m, s, h⟩
  refine ⟨l, T, m, s, ?_⟩
  rw [Run.bind] at h
  refine Run.mono h (fun t s1 h => ?_) (fun _ _ z => z)
  intro H1 si
  cases t with
  | true => exact ⟨_, _, _, si, h⟩
  | false => exact h H1 si
theorem x_or {e e2 : Expr} {es : List Expr} {x y : M Bool} {pos : Pos} (h : PT X e (tT c W x)) (h2 : PW X (.BoolOp .Or (e2 :: es) pos) (tT c W y)) : PW X (.BoolOp .Or (e :: e2 :: es) pos) (tT c W (do
    let t ← x
    if t then M.ret true else y)) := by
  refine PWimp (pw_or h h2) ?_
  rintro σ H Q ⟨l, T, m, s, h⟩
  refine ⟨l, T, m, s, ?_⟩
  rw [Run.bind] at h
  refine Run.mono h (fun t s1 h => ?_) (fun _ _ z => z)
  intro H1 si
  cases t with
  | true => exact h H1 si
  | false => exact ⟨_, _, _, si, h⟩
theorem x_notT {e : Expr} {x : M Bool} {pos : Pos} (h : PT X e (tT c W x)) : PT X (.UnaryOp .Not e pos) (tT c W (do
    let t ← x
    M.ret (!t))) := by
  refine PTimp (pt_not h) ?_
  rintro σ H Q ⟨l, T, m, s, h⟩
  refine ⟨l, T, m, s, ?_⟩
  rw [Run.bind] at h
  exact Run.mono h (fun t s1 h => h) (fun _ _ z => z)
/-! as values -/
theorem x_andV {e e2 : Expr} {es : List Expr} {A B : M RV} {pos : Pos} (h : PE X e (tM c W true k1 A)) (h2 : PE X (.BoolOp .And (e2 :: es) pos) (tM c W b k2 B)) : PE X (.BoolOp .And (e :: e2 :: es) pos) (tM c W b false (do
    let u ← A
    let t ← M.of u.2.truth
    if t then B else M.ret (false, .bl false))) := by
  refine PEimp (pe_and h h2) ?_
  rintro σ H Q ⟨l, T, m, s, h⟩
  refine ⟨l, T, m, s, ?_⟩
  rw [Run.bind] at h
  refine Run.mono h (fun r s1 h => ?_) (fun _ _ z => z)
  rw [Run.bind, Run.of] at h
  obtain ⟨t, e, h⟩ := h
  intro v H1 aft _
  obtain ⟨e1, si⟩ := aft.bl (truth_bl e)
  refine ⟨t, e1, ?_⟩
  cases t with
  | true => exact ⟨_, _, _, si, Run.mono h (fun r s2 h => fun v H2 aft _ => h v H2 aft (fun z => by cases z)) (fun _ _ z => z)⟩
  | false => exact h _ _ (Aft.atom si fun _ _ => by simp only [FR]) (fun z => by cases z)
theorem x_orV {e e2 : Expr} {es : List Expr} {A B : M RV} {pos : Pos} (h : PE X e (tM c W true k1 A)) (h2 : PE X (.BoolOp .Or (e2 :: es) pos) (tM c W b k2 B)) : PE X (.BoolOp .Or (e :: e2 :: es) pos) (tM c W b false (do
    let u ← A
    let t ← M.of u.2.truth
    if t then M.ret (false, .bl true) else B)) := by
  refine PEimp (pe_or h h2) ?_
  rintro σ H Q ⟨l, T, m, s, h⟩
  refine ⟨l, T, m, s, ?_⟩
  rw [Run.bind] at h
  refine Run.mono h (fun r s1 h => ?_) (fun _ _ z => z)
  rw [Run.bind, Run.of] at h
  obtain ⟨t, e, h⟩ := h
  intro v H1 aft _
  obtain ⟨e1, si⟩ := aft.bl (truth_bl e)
  refine ⟨t, e1, ?_⟩
  cases t with
  | false => exact ⟨_, _, _, si, Run.mono h (fun r s2 h => fun v H2 aft _ => h v H2 aft (fun z => by cases z)) (fun _ _ z => z)⟩
  | true => exact h _ _ (Aft.atom si fun _ _ => by simp only [FR]) (fun z => by cases z)
theorem x_notV {e : Expr} {A : M RV} {pos : Pos} (h : PE X e (tM c W true k1 A)) (hk : k = true → k1 = true) : PE X (.UnaryOp .Not e pos) (tM c W b k (do
    let u ← A
    let t ← M.of u.2.truth
    M.ret (false, .bl (!t)))) := by
  refine PEimp (pe_not h) ?_
  rintro σ H Q ⟨l, T, m, s, h⟩
  refine ⟨l, T, m, s, ?_⟩
  rw [Run.bind] at h
  refine Run.mono h (fun r s1 h => ?_) (fun _ _ z => z)
  rw [Run.bind, Run.of] at h
  obtain ⟨t, e, h⟩ := h
  intro v H1 aft ex
  obtain ⟨e1, si⟩ := aft.bl (truth_bl e)
  exact ⟨t, e1, h _ _ (Aft.atom si fun _ _ => by simp only [FR]) fun z => ex (hk z)⟩
theorem x_neg {e : Expr} {A : M RV} {pos : Pos} (h : PE X e (tM c W true k1 A)) (hk : k = true → k1 = true) : PE X (.UnaryOp .USub e pos) (tM c W b k (do
    let u ← A
    M.of (negD u.2))) := by
  refine PEimp (pe_un un_neg h) ?_
  rintro σ H Q ⟨l, T, m, s, h⟩
  refine ⟨l, T, m, s, ?_⟩
  rw [Run.bind] at h
  refine Run.mono h (fun r s1 h => ?_) (fun _ _ z => z)
  rw [Run.of] at h
  obtain ⟨t, e, h⟩ := h
  intro v H1 aft ex
  obtain ⟨fr, ms, si, rd⟩ := aft.look
  obtain ⟨o, d⟩ := r
  cases d <;> first | cases e | skip
  have rd := RD.int rd
  exact ⟨_, rd, h _ _ (.of (si.aint _)) fun z => ex (hk z)⟩
theorem x_ite {ce e1 e2 : Expr} {x : M Bool} {A B : M RV} {pos : Pos} (h : PT X ce (tT c W x)) (h1 : PE X e1 (tM c W b k1 A)) (h2 : PE X e2 (tM c W b k2 B)) : PE X (.IfExp ce e1 e2 pos) (tM c W b false (do
    let t ← x
    if t then A else B)) := by
  refine PEimp (pe_ifExp h h1 h2) ?_
  rintro σ H Q ⟨l, T, m, s, h⟩
  refine ⟨l, T, m, s, ?_⟩
  rw [Run.bind] at h
  refine Run.mono h (fun t s1 h => ?_) (fun _ _ z => z)
  intro H1 si
  cases t with
  | true => exact ⟨_, _, _, si, Run.mono h (fun r s2 h => fun v H2 aft _ => h v H2 aft (fun z => by cases z)) (fun _ _ z => z)⟩
  | false => exact ⟨_, _, _, si, Run.mono h (fun r s2 h => fun v H2 aft _ => h v H2 aft (fun z => by cases z)) (fun _ _ z => z)⟩
end
end G

set_option linter.all false
set_option maxRecDepth 100000
set_option maxHeartbeats 1000000
namespace G
open PySem PySem.Spec PyProof.Rows L2
section
variable {c : Nm} {fr fr' : Addr → Prop} {m : List Addr} {H H' : Hp} {ms : Ms} {σ : L2.St} {l : List (Option RV)} {T : List (V × RV)} {mm : Mem} {W : WX} {X : Cx} {b k : Bool}
/-- the slots as things held -/
def slotsL : L2.St → List (Option RV) → List (V × RV)
  | some v :: σ, some x :: l => (v, x) :: slotsL σ l
  | _ :: σ, _ :: l => slotsL σ l
  | _, _ => []
theorem own_slotsL : ∀ (σ : L2.St) (l : List (Option RV)) (a : Addr), ownT (slotsL σ l) a = ownS σ l a
  | [], l, a => by cases l <;> simp [slotsL, ownT, ownS]
  | s :: σ, [], a => by cases s <;> simp [slotsL, ownT, ownS]
  | s :: σ, x :: l, a => by
    have := own_slotsL σ l a
    cases s <;> cases x <;> simp [slotsL, ownT, ownS, this]
theorem mem_slotsL : ∀ {σ : L2.St} {l : List (Option RV)} {r : V × RV}, r ∈ slotsL σ l → ∃ i : Nat, σ[i]? = some (some r.1) ∧ l[i]? = some (some r.2)
  | [], l, r, h => by cases l <;> simp [slotsL] at h
  | s :: σ, [], r, h => by cases s <;> simp [slotsL] at h
  | s :: σ, x :: l, r, h => by
    have rest : r ∈ slotsL σ l → ∃ i : Nat, (s :: σ)[i]? = some (some r.1) ∧ (x :: l)[i]? = some (some r.2) := fun h => by
      obtain ⟨i, h1, h2⟩ := mem_slotsL h
      exact ⟨i + 1, by simpa using h1, by simpa using h2⟩
    cases s with
    | none => cases x <;> exact rest (by simpa [slotsL] using h)
    | some v =>
      cases x with
      | none => exact rest (by simpa [slotsL] using h)
      | some x =>
        simp only [slotsL, List.mem_cons] at h
        rcases h with rfl | h
        · exact ⟨0, rfl, rfl⟩
        · exact rest h
theorem slotsL_mem : ∀ {σ : L2.St} {l : List (Option RV)} {i : Nat} {v : V} {x : RV}, σ[i]? = some (some v) → l[i]? = some (some x) → (v, x) ∈ slotsL σ l
  | [], l, i, v, x, h, _ => by simp at h
  | s :: σ, [], i, v, x, _, h => by simp at h
  | s :: σ, y :: l, 0, v, x, h1, h2 => by
    simp at h1 h2; subst h1 h2
    simp [slotsL]
  | s :: σ, y :: l, i + 1, v, x, h1, h2 => by
    have := slotsL_mem (σ := σ) (l := l) (i := i) (by simpa using h1) (by simpa using h2)
    cases s <;> cases y <;> simp [slotsL, this]
theorem ownT_append : ∀ (T U : List (V × RV)) (a : Addr), ownT (T ++ U) a = ownT T a + ownT U a
  | [], U, a => by simp [ownT]
  | r :: T, U, a => by
    simp only [List.cons_append, ownT, ownT_append T U a]
    omega
/-- what the slots' form is -/
structure Form (σ : L2.St) (l : List (Option RV)) : Prop where
  len : σ.length = l.length
  has : ∀ (i : Nat) (x : RV), l[i]? = some (some x) → ∃ v, σ[i]? = some (some v)
theorem SIg.form (s : SIg c fr ms σ l T mm H) : Form σ l := ⟨s.len, fun i x e => let ⟨v, h, _⟩ := s.slots i x e; ⟨v, h⟩⟩
theorem SIg.out (s : SIg c fr ms σ l T mm H) : SIg c fr ms [] [] (T ++ slotsL σ l) mm H := by
  refine ⟨rfl, fun i x e => (by simp at e), fun r hr => ?_, s.mem, fun a => ?_, fun a f => ?_, s.frt⟩
  · rcases List.mem_append.mp hr with hr | hr
    · exact s.temps r hr
    · obtain ⟨i, h1, h2⟩ := mem_slotsL hr
      obtain ⟨v, h3, h4⟩ := s.slots i _ h2
      rw [h1] at h3
      cases h3
      exact h4
  · have := s.one a
    rw [ownT_append, own_slotsL]
    simp only [ownS]
    omega
  · have := s.nof a f
    rw [ownT_append, own_slotsL]
    simp only [ownS]
    omega
theorem SIg.back (s : SIg c fr ms [] [] (T ++ slotsL σ l) mm H) (f : Form σ l) : SIg c fr ms σ l T mm H := by
  refine ⟨f.len, fun i x e => ?_, fun r hr => s.temps r (List.mem_append_left _ hr), s.mem, fun a => ?_, fun a h => ?_, s.frt⟩
  · obtain ⟨v, h⟩ := f.has i x e
    exact ⟨v, h, s.temps _ (List.mem_append_right _ (slotsL_mem h e))⟩
  · have := s.one a
    rw [ownT_append, own_slotsL] at this
    simp only [ownS] at this
    omega
  · have := s.nof a h
    rw [ownT_append, own_slotsL] at this
    simp only [ownS] at this
    omega
theorem SI.out (s : SI c σ l T mm H) : SI c [] [] (T ++ slotsL σ l) mm H := let ⟨fr, ms, s⟩ := s; ⟨fr, ms, s.out⟩
theorem SI.back (s : SI c [] [] (T ++ slotsL σ l) mm H) (f : Form σ l) : SI c σ l T mm H := let ⟨fr, ms, s⟩ := s; ⟨fr, ms, s.back f⟩
theorem SI.form (s : SI c σ l T mm H) : Form σ l := let ⟨_, _, s⟩ := s; s.form
/-- the slots are let go -/
theorem SI.bare (s : SI c σ l T mm H) : SI c [] [] T mm H := by
  obtain ⟨fr, ms, s⟩ := s
  exact ⟨fr, ms, rfl, fun i x e => (by simp at e), s.temps, s.mem, fun a => by have := s.one a; simp only [ownS]; omega, fun a f => by have := s.nof a f; simp only [ownS]; omega, s.frt⟩

/-! ### objects below a number -/
mutual
theorem FR.under : ∀ (d : D) {v : V}, FR c fr m H d v → d.under m.length = true
  | .non, _, _ => rfl
  | .bl _, _, _ => rfl
  | .int _, _, _ => rfl
  | .str _, _, _ => rfl
  | .scr _, _, _ => rfl
  | .pin _, _, _ => rfl
  | .tup ds, v, h => by
    simp only [FR] at h
    obtain ⟨a, vs, e, q, r⟩ := h
    simp only [D.under]
    exact FRs.under ds r
  | .lst ds, v, h => by
    simp only [FR] at h
    obtain ⟨a, vs, e, q, r⟩ := h
    simp only [D.under]
    exact FRs.under ds r
  | .dic kvs, v, h => by
    simp only [FR] at h
    obtain ⟨a, e, f, q⟩ := h
    simp only [D.under]
    rcases q with ⟨ks, q, r⟩ | ⟨xs, q, h1, h2, h3, r⟩
    · exact FRk.under kvs r
    · exact FRe.under kvs r
  | .obj k, v, h => by
    simp only [FR] at h
    obtain ⟨a, e, q⟩ := h
    simp only [D.under, decide_eq_true_eq]
    exact (List.getElem?_eq_some_iff.mp q).1
theorem FRs.under : ∀ (ds : List D) {vs : List V}, FRs c fr m H ds vs → D.underL m.length ds = true
  | [], _, _ => rfl
  | d :: ds, vs, h => by
    simp only [FRs] at h
    obtain ⟨v, vs', e, r, q⟩ := h
    simp only [D.underL, FR.under d r, FRs.under ds q, Bool.and_true]
theorem FRk.under : ∀ (kvs : List (D × D)) {ks : List (Key × V)}, FRk c fr m H kvs ks → D.underP m.length kvs = true
  | [], _, _ => rfl
  | (k, d) :: kvs, ks, h => by
    simp only [FRk] at h
    obtain ⟨q, v, ks', e, hk, r, z⟩ := h
    simp only [D.underP, FR.under d r, FRk.under kvs z, Bool.and_true]
theorem FRe.under : ∀ (kvs : List (D × D)) {xs : XsT}, FRe c fr m H kvs xs → D.underP m.length kvs = true
  | [], _, _ => rfl
  | (k, d) :: kvs, ks, h => by
    simp only [FRe] at h
    obtain ⟨b, v, u, xs', e, hk, r1, rv, r, z⟩ := h
    simp only [D.underP, FR.under d r, FRe.under kvs z, Bool.and_true]
end
mutual
theorem key_under (n : Nat) : ∀ (d : D), d.keyp = true → d.under n = true
  | .int _, _ => rfl
  | .str _, _ => rfl
  | .tup ds, h => by
    simp only [D.under]
    exact keyL_under n ds (by simpa [D.keyp] using h)
  | .non, k => by cases k
  | .bl _, k => by cases k
  | .lst _, k => by cases k
  | .dic _, k => by cases k
  | .obj _, k => by cases k
  | .scr _, k => by cases k
  | .pin _, k => by cases k
theorem keyL_under (n : Nat) : ∀ (ds : List D), D.keypL ds = true → D.underL n ds = true
  | [], _ => rfl
  | d :: ds, h => by
    simp only [D.keypL, Bool.and_eq_true] at h
    simp only [D.underL, key_under n d h.1, keyL_under n ds h.2, Bool.and_true]
end
mutual
theorem FR.shrink {n : Nat} : ∀ (d : D) {v : V}, FR c fr m H d v → d.under n = true → FR c fr (m.take n) H d v
  | .non, _, h, _ => h
  | .bl _, _, h, _ => h
  | .int _, _, h, _ => h
  | .str _, _, h, _ => h
  | .scr _, _, h, _ => h
  | .pin _, _, h, _ => h
  | .tup ds, v, h, u => by
    simp only [FR] at h ⊢
    simp only [D.under] at u
    obtain ⟨a, vs, e, q, r⟩ := h
    exact ⟨a, vs, e, q, FRs.shrink ds r u⟩
  | .lst ds, v, h, u => by
    simp only [FR] at h ⊢
    simp only [D.under] at u
    obtain ⟨a, vs, e, q, r⟩ := h
    exact ⟨a, vs, e, q, FRs.shrink ds r u⟩
  | .dic kvs, v, h, u => by
    simp only [FR] at h ⊢
    simp only [D.under] at u
    obtain ⟨a, e, f, q⟩ := h
    refine ⟨a, e, f, ?_⟩
    rcases q with ⟨ks, q, r⟩ | ⟨xs, q, h1, h2, h3, r⟩
    · exact .inl ⟨ks, q, FRk.shrink kvs r u⟩
    · exact .inr ⟨xs, q, h1, h2, h3, FRe.shrink kvs r u⟩
  | .obj k, v, h, u => by
    simp only [FR] at h ⊢
    simp only [D.under, decide_eq_true_eq] at u
    obtain ⟨a, e, q⟩ := h
    exact ⟨a, e, by rw [List.getElem?_take_of_lt u]; exact q⟩
theorem FRs.shrink {n : Nat} : ∀ (ds : List D) {vs : List V}, FRs c fr m H ds vs → D.underL n ds = true → FRs c fr (m.take n) H ds vs
  | [], _, h, _ => h
  | d :: ds, vs, h, u => by
    simp only [FRs] at h ⊢
    simp only [D.underL, Bool.and_eq_true] at u
    obtain ⟨v, vs', e, r, q⟩ := h
    exact ⟨v, vs', e, FR.shrink d r u.1, FRs.shrink ds q u.2⟩
theorem FRk.shrink {n : Nat} : ∀ (kvs : List (D × D)) {ks : List (Key × V)}, FRk c fr m H kvs ks → D.underP n kvs = true → FRk c fr (m.take n) H kvs ks
  | [], _, h, _ => h
  | (k, d) :: kvs, ks, h, u => by
    simp only [FRk] at h ⊢
    simp only [D.underP, Bool.and_eq_true] at u
    obtain ⟨q, v, ks', e, hk, r, z⟩ := h
    exact ⟨q, v, ks', e, hk, FR.shrink d r u.1, FRk.shrink kvs z u.2⟩
theorem FRe.shrink {n : Nat} : ∀ (kvs : List (D × D)) {xs : XsT}, FRe c fr m H kvs xs → D.underP n kvs = true → FRe c fr (m.take n) H kvs xs
  | [], _, h, _ => h
  | (k, d) :: kvs, ks, h, u => by
    simp only [FRe] at h ⊢
    simp only [D.underP, Bool.and_eq_true] at u
    obtain ⟨b, v, w, xs', e, hk, r1, rv, r, z⟩ := h
    exact ⟨b, v, w, xs', e, hk, FR.shrink k r1 (key_under n k (key_parts hk).1), rv, FR.shrink d r u.1, FRe.shrink kvs z u.2⟩
end
theorem OW.under {d : D} {v : V} (h : OW c fr m H d v) : d.under m.length = true := by
  have := FR.under d h.frozen
  exact this
theorem OW.shrink {n : Nat} {d : D} {v : V} (h : OW c fr m H d v) (u : d.under n = true) : OW c fr (m.take n) H d v := by
  cases d with
  | lst ds => obtain ⟨a, vs, e, q, r⟩ := h; exact ⟨a, vs, e, q, FRs.shrink ds r (by simpa [D.under] using u)⟩
  | dic kvs =>
    obtain ⟨a, e, q⟩ := h
    refine ⟨a, e, ?_⟩
    rcases q with ⟨ks, q, r⟩ | ⟨xs, q, h1, h2, h3, r⟩
    · exact .inl ⟨ks, q, FRk.shrink kvs r (by simpa [D.under] using u)⟩
    · exact .inr ⟨xs, q, h1, h2, h3, FRe.shrink kvs r (by simpa [D.under] using u)⟩
  | _ => exact FR.shrink _ h u
theorem Root.under {r : V × RV} (h : Root c fr m H r) : r.2.2.under m.length = true := by
  unfold Root at h
  split at h
  · exact h.under
  · exact FR.under _ h
theorem Root.shrink {n : Nat} {r : V × RV} (h : Root c fr m H r) (u : r.2.2.under n = true) : Root c fr (m.take n) H r := by
  unfold Root at h ⊢
  split
  · rename_i e; rw [if_pos e] at h; exact h.shrink u
  · rename_i e; rw [if_neg e] at h; exact FR.shrink _ h u
def MO.under (n : Nat) : MO → Bool
  | .ins _ fs => fs.all fun p => p.2.2.under n
  | .lst xs => D.underL n xs
theorem zipF_under {n : Nat} : ∀ {fs : List (Nat × RV)} {vs : List V} {r : V × RV}, r ∈ zipF fs vs → (fs.all fun p => p.2.2.under n) = true → r.2.2.under n = true
  | [], vs, r, h, _ => by cases vs <;> cases h
  | (f, x) :: fs, [], r, h, _ => by cases h
  | (f, x) :: fs, v :: vs, r, h, u => by
    simp only [List.all_cons, Bool.and_eq_true] at u
    simp only [zipF, List.mem_cons] at h
    rcases h with rfl | h
    · exact u.1
    · exact zipF_under h u.2
theorem MemOk.shrink {n : Nat} {o : MO} {x : Addr × List V} (h : MemOk c fr m H o x) (u : o.under n = true) : MemOk c fr (m.take n) H o x := by
  obtain ⟨a, vs⟩ := x
  cases o with
  | ins q fs =>
    obtain ⟨h1, h2, h3⟩ := h
    exact ⟨h1, h2, fun r hr => (h3 r hr).shrink (zipF_under hr u)⟩
  | lst ds =>
    obtain ⟨h1, h2⟩ := h
    exact ⟨h1, FRs.shrink ds h2 u⟩
theorem MemsOk.shrink {n : Nat} : ∀ {M : Mem} {ms : Ms}, MemsOk c fr m H M ms → (M.all fun o => o.under n) = true → MemsOk c fr (m.take n) H M ms
  | [], _, h, _ => h
  | o :: os, ms, h, u => by
    simp only [List.all_cons, Bool.and_eq_true] at u
    obtain ⟨x, ms', rfl, h1, h2⟩ := h
    exact ⟨x, ms', rfl, h1.shrink u.1, h2.shrink u.2⟩
theorem MemsOk.take : ∀ {M : Mem} {ms : Ms} (n : Nat), MemsOk c fr m H M ms → MemsOk c fr m H (M.take n) (ms.take n)
  | _, _, 0, _ => rfl
  | [], ms, n + 1, h => by
    have h : ms = [] := h
    subst h; rfl
  | o :: os, ms, n + 1, h => by
    obtain ⟨x, ms', rfl, h1, h2⟩ := h
    exact ⟨x, ms'.take n, rfl, h1, h2.take n⟩
theorem ownM_take : ∀ {M : Mem} {ms : Ms} (n : Nat) (a : Addr), MemsOk c fr m H M ms → ownM (M.take n) (ms.take n) a ≤ ownM M ms a
  | M, ms, 0, a, _ => by simp [ownM]
  | [], ms, n + 1, a, h => by
    have h : ms = [] := h
    subst h; simp [ownM]
  | o :: os, ms, n + 1, a, h => by
    obtain ⟨x, ms', rfl, h1, h2⟩ := h
    have := ownM_take n a h2
    rw [List.take_succ_cons, List.take_succ_cons, ownM_cons, ownM_cons (o := o) (os := os)]
    omega
/-- the memory's end is let go -/
theorem SIg.cutM (s : SIg c fr ms [] [] T mm H) (n : Nat) (hT : ∀ r ∈ T, r.2.2.under n = true) (hM : ((mm.take n).all fun o => o.under n) = true) : SIg c fr (ms.take n) [] [] T (mm.take n) H := by
  have hmu : mu (ms.take n) = (mu ms).take n := by unfold mu; rw [List.map_take]
  refine ⟨rfl, fun i x e => (by simp at e), fun r hr => ?_, ?_, fun a => ?_, fun a f => ?_, s.frt⟩
  · rw [hmu]; exact (s.temps r hr).shrink (hT r hr)
  · rw [hmu]; exact (s.mem.take n).shrink hM
  · have := s.one a
    have := ownM_take n a s.mem
    omega
  · have := s.nof a f
    have := ownM_take n a s.mem
    omega
theorem SI.under (s : SI c σ l T mm H) : ∀ r ∈ T, r.2.2.under mm.length = true := by
  obtain ⟨fr, ms, s⟩ := s
  intro r hr
  have := (s.temps r hr).under
  rwa [mu, List.length_map, s.mem.length] at this
theorem gc_ok {n : Nat} {v : V} {r : RV} (s : SI c [] [] ((v, r) :: T) mm H) (hT : ∀ r ∈ T, r.2.2.under n = true) : SI c [] [] ((v, (gc n r mm).1) :: T) (gc n r mm).2 H := by
  unfold gc
  split
  · rename_i h
    simp only [Bool.and_eq_true] at h
    obtain ⟨fr, ms, s⟩ := s
    refine ⟨fr, _, s.cutM n (fun q hq => ?_) ?_⟩
    · rcases List.mem_cons.mp hq with rfl | hq
      · exact h.1
      · exact hT q hq
    · rw [← h.2]
      congr 1
  · exact s
end
end G

set_option linter.all false
set_option maxRecDepth 100000
set_option maxHeartbeats 1000000
namespace G
open PySem PySem.Spec PyProof.Rows L2
section
variable {c : Nm} {fr fr' : Addr → Prop} {H H' : Hp} {ms : Ms} {σ : L2.St} {l : List (Option RV)} {T U : List (V × RV)} {mm : Mem} {W : WX} {X : Cx} {b k : Bool}
/-- what a call of F promises -/
def spC (c : Nm) (F : Call) : Sp := fun vs H Q E => ∃ rs T m, vs.length = rs.length ∧ SI c [] [] (stack vs rs T) m H ∧ match F rs m with
  | some (.ok r, m') => ∀ v H', SI c [] [] ((v, r) :: T) m' H' → Q v H'
  | some (.exn x, m') => ∀ cls d H', XRel c x cls d H' → SI c [] [] T m' H' → E cls d H'
  | none => False
theorem stack_append {vs : List V} {rs : List RV} : stack vs rs T ++ U = stack vs rs (T ++ U) := by
  unfold stack
  rw [List.append_assoc]
theorem Run.callM {F : Call} {rs : List RV} {s : S} {K : RV → S → Prop} {X : Exc → S → Prop} (h : Run (callM F rs) s K X) : match F rs s.m with
  | some (.ok r, m') => K r { s with m := m' }
  | some (.exn x, m') => X x { s with m := m' }
  | none => False := by
  unfold Run G.callM at h
  cases e : F rs s.m with
  | none => rw [e] at h; exact h
  | some q =>
    obtain ⟨q, m'⟩ := q
    rw [e] at h
    cases q <;> exact h
/-- from the caller's state to the promise -/
theorem spC_of {F : Call} {vs : List V} {rs : List RV} {s1 : S} {Q : VK} (hv : vs.length = rs.length) (si : SI c σ s1.l (stack vs rs T) s1.m H)
    (h : Run (callM F rs) s1 (fun r s' => ∀ v H', Aft c b σ s'.l T s'.m r v H' → Q v H') (ExP c W σ T)) : spC c F vs H Q (WE W σ) := by
  have f := si.form
  refine ⟨rs, T ++ slotsL σ s1.l, s1.m, hv, by rw [← stack_append]; exact si.out, ?_⟩
  have h := Run.callM h
  cases e : F rs s1.m with
  | none => rw [e] at h; exact h
  | some q =>
    obtain ⟨q, m'⟩ := q
    rw [e] at h
    cases q with
    | ok r => exact fun v H' s' => h v H' (.of (SI.back (T := (v, r) :: T) s' f))
    | exn x => exact fun cls d H' q s' => h cls d H' q (SI.back s' f)
variable {kk : Nat} {f C : Addr} {fd : FuncData} {ps : List Str} {x mn : Str} {p pos apos : Pos} {e o : Expr} {es : List Expr} {F : Call}
theorem x_call (G : FnOk X.prog X.w X.K X.mg X.base (L2.CX X.prog X.w) kk f fd ps (spC c F)) (hr : Room kk X.A) (hg : Gl X x) (hm : X.mg x = some (.ref f)) (hk : PySem.W.keepIn X.K (.ref f) = true) (hb : Binds X.K fd ps []) (tk : Takes X W)
    {B : M (List RV)} {k1 : Bool} (ha : PA X (e :: es) (tMs c W k1 B)) (hdb : (x == ("__debug__" : Str)) = false) (he : starEach (e :: es) X.env = (false, eval e X.env) :: starEach es X.env) (hpl : (backTo pos (starEach es X.env)).any (·.1) = false) :
    PE X (.Call (.Name x p) (e :: es) [] pos) (tM c W b false (do
      let vs ← B
      callM F vs)) := by
  refine PEimp (pe_callS G hr hg hm hk hb (fun σ => passAt tk σ) ha hdb he hpl) ?_
  rintro σ H Q ⟨l, T, m, s, h⟩
  refine ⟨l, T, m, s, ?_⟩
  rw [Run.bind] at h
  refine Run.mono h (fun rs s1 h => ?_) (fun _ _ z => z)
  intro vs H1 hv si _
  exact spC_of (b := b) hv si (Run.mono h (fun r s' h => fun v H' aft => h v H' aft fun z => nomatch z) (fun _ _ z => z))
theorem pe_callS0 {CX : CXT} {sp : Sp} {E : L2.St → XK} (F : FnOk X.prog X.w X.K X.mg X.base CX kk f fd ps sp) (hr : Room kk X.A) (hg : Gl X x) (hm : X.mg x = some (.ref f)) (hk : PySem.W.keepIn X.K (.ref f) = true) (hb : Binds X.K fd ps []) (hx : ∀ σ, PassesAt CX X σ (E σ))
    (hdb : (x == ("__debug__" : Str)) = false) : PE X (.Call (.Name x p) [] [] pos) (fun σ H Q => sp [] H Q (E σ)) := by
  refine ⟨fun pins s σ H Q I h => ?_⟩
  refine wpAny_Call_Name_kw (ld_glob I hg hm ?_ hdb)
  exact PySem.W.callWith_K0 I.kIn hk (run_fnS (us := []) F hr hb (hx σ) I .nil h)
theorem x_call0 (G : FnOk X.prog X.w X.K X.mg X.base (L2.CX X.prog X.w) kk f fd ps (spC c F)) (hr : Room kk X.A) (hg : Gl X x) (hm : X.mg x = some (.ref f)) (hk : PySem.W.keepIn X.K (.ref f) = true) (hb : Binds X.K fd ps []) (tk : Takes X W)
    (hdb : (x == ("__debug__" : Str)) = false) : PE X (.Call (.Name x p) [] [] pos) (tM c W b false (do
      let vs ← (M.ret [] : M (List RV))
      callM F vs)) := by
  refine PEimp (pe_callS0 G hr hg hm hk hb (fun σ => passAt tk σ) hdb) ?_
  rintro σ H Q ⟨l, T, m, s, h⟩
  rw [Run.bind, Run.ret] at h
  exact spC_of (b := b) (vs := []) (rs := []) rfl s (Run.mono h (fun r s' h => fun v H' aft => h v H' aft fun z => nomatch z) (fun _ _ z => z))
/-! methods -/
/-- what is known of a method that may be meant -/
structure MOk (c : Nm) (X : Cx) (kk : Nat) (mn : Str) (C : Addr) (F : Call) : Prop where
  cl : Cls X.K C
  ok : ∃ f fd ps, Meth X.K C mn f ∧ FnOk X.prog X.w X.K X.mg X.base (L2.CX X.prog X.w) kk f fd ps (spC c F) ∧ Binds X.K fd ps []
/-- what a method call does, as data; the method by the class of the object -/
def methM (P : Prog) (Γ : Gam) (A : M RV) (B : M (List RV)) (mm : Nat) : M RV := do
  let u ← A
  match u.2 with
  | .obj k => do
    let o ← memAt k
    match o with
    | .ins c _ => match P.mth c mm with
      | some f => do
        let vs ← B
        callM (Γ.fn f) (u :: vs)
      | none => M.stuck
    | _ => M.stuck
  | _ => M.stuck
/-! classes -/
end
end G

set_option linter.all false
set_option maxRecDepth 100000
set_option maxHeartbeats 1000000
namespace G
open PySem PySem.Spec PyProof.Rows L2
section
variable {c : Nm} {fr fr' : Addr → Prop} {H H' : Hp} {ms : Ms} {σ : L2.St} {l : List (Option RV)} {T U : List (V × RV)} {mm : Mem} {W : WX} {X : Cx} {b k : Bool}
variable {kk : Nat} {f C : Addr} {fd : FuncData} {ps : List Str} {x mn : Str} {p pos apos : Pos} {e o : Expr} {es : List Expr} {F : Call}
theorem SIg.reorder (s : SIg c fr ms σ l T mm H) (h : ∀ r ∈ U, r ∈ T) (ho : ∀ a, ownT U a ≤ ownT T a) : SIg c fr ms σ l U mm H :=
  ⟨s.len, s.slots, fun r hr => s.temps r (h r hr), s.mem, fun a => by have := s.one a; have := ho a; omega, fun a f => by have := s.nof a f; have := ho a; omega, s.frt⟩
theorem mem_stack {vs : List V} {rs : List RV} {r : V × RV} : r ∈ stack vs rs T ↔ r ∈ vs.zip rs ∨ r ∈ T := by
  unfold stack
  simp
theorem ownT_reverse (T : List (V × RV)) (a : Addr) : ownT T.reverse a = ownT T a := by
  induction T with
  | nil => rfl
  | cons r T ih =>
    rw [List.reverse_cons, ownT_append, ih]
    simp only [ownT]
    omega
theorem ownT_stack {vs : List V} {rs : List RV} (a : Addr) : ownT (stack vs rs T) a = ownT (vs.zip rs) a + ownT T a := by
  unfold stack
  rw [ownT_append, ownT_reverse]
theorem FR.obj_root {m : List Addr} {v : V} {j : Nat} {o : Bool} (h : Root c fr m H (v, (o, .obj j))) : FR c fr m H (.obj j) v := by
  unfold Root at h
  split at h <;> exact h
/-! ### fields -/
end
end G

set_option linter.all false
set_option maxRecDepth 100000
set_option maxHeartbeats 1000000
namespace G
open PySem PySem.Spec PyProof.Rows L2
section
variable {c : Nm} {fr fr' : Addr → Prop} {m : List Addr} {H H' : Hp} {ms : Ms} {σ : L2.St} {l : List (Option RV)} {T U : List (V × RV)} {mm : Mem} {W : WX} {X : Cx} {b k : Bool}
/-- the values of the fields behind a store -/
def vput : List (Nat × RV) → Nat → List V → V → List V
  | [], _, _, w => [w]
  | p :: fs, f, v :: vs, w => if p.1 = f then w :: vs else v :: vput fs f vs w
  | _ :: _, _, [], w => [w]
/-- one of the memory's things is another -/
theorem MemsOk.set : ∀ {M : Mem} {ms : Ms} {j : Nat} {o : MO} {x : Addr × List V}, MemsOk c fr m H M ms → MemOk c fr m H o x → MemsOk c fr m H (M.set j o) (ms.set j x)
  | [], ms, j, o, x, h, _ => by
    have h : ms = [] := h
    subst h; rfl
  | o' :: os, ms, 0, o, x, h, h' => by
    obtain ⟨y, ms', rfl, h1, h2⟩ := h
    exact ⟨x, ms', rfl, h', h2⟩
  | o' :: os, ms, j + 1, o, x, h, h' => by
    obtain ⟨y, ms', rfl, h1, h2⟩ := h
    exact ⟨y, ms'.set j x, rfl, h1, h2.set h'⟩
theorem ownM_set : ∀ {M : Mem} {ms : Ms} {j : Nat} {o o' : MO} {x x' : Addr × List V} (a : Addr), M[j]? = some o → ms[j]? = some x → ownM (M.set j o') (ms.set j x') a + ownM [o] [x] a = ownM M ms a + ownM [o'] [x'] a
  | [], _, _, _, _, _, _, _, h, _ => by simp at h
  | _ :: _, [], _, _, _, _, _, _, _, h => by simp at h
  | o1 :: os, y :: ms, 0, o, o', x, x', a, h1, h2 => by
    simp at h1 h2; subst h1 h2
    rw [List.set_cons_zero, List.set_cons_zero, ownM_cons, ownM_cons (o := o1) (os := os)]
    omega
  | o1 :: os, y :: ms, j + 1, o, o', x, x', a, h1, h2 => by
    have := ownM_set (M := os) (ms := ms) (j := j) (o' := o') (x' := x') a (by simpa using h1) (by simpa using h2)
    rw [List.set_cons_succ, List.set_cons_succ, ownM_cons, ownM_cons (o := o1) (os := os)]
    omega
theorem ownM_at {M : Mem} {ms : Ms} {j : Nat} {o : MO} {x : Addr × List V} (h1 : M[j]? = some o) (h2 : ms[j]? = some x) (a : Addr) : ownM [o] [x] a ≤ ownM M ms a := by
  -- split at j
  have gen : ∀ {M : Mem} {ms : Ms} {j : Nat}, M[j]? = some o → ms[j]? = some x → ownM [o] [x] a ≤ ownM M ms a := by
    intro M
    induction M with
    | nil => intro ms j h _; simp at h
    | cons o1 os ih =>
      intro ms j h h'
      cases ms with
      | nil => simp at h'
      | cons y ms =>
        rw [ownM_cons (o := o1) (os := os)]
        cases j with
        | zero => simp at h h'; subst h h'; omega
        | succ j =>
          have := ih (ms := ms) (j := j) (by simpa using h) (by simpa using h')
          omega
  exact gen h1 h2
theorem mu_set {ms : Ms} {j : Nat} {a : Addr} {vs vs' : List V} (h : ms[j]? = some (a, vs)) : mu (ms.set j (a, vs')) = mu ms := by
  unfold mu
  rw [List.map_set]
  apply List.ext_getElem?
  intro i
  by_cases hi : j = i
  · subst hi
    rw [List.getElem?_set_self (by rw [List.length_map]; exact (List.getElem?_eq_some_iff.mp h).1), List.getElem?_map, h]
    rfl
  · rw [List.getElem?_set_ne hi]
/-- a thing of the memory at a is written; w is what goes in (taken from what is held) -/
theorem SIg.memWrite {j : Nat} {o o' : MO} {a : Addr} {vs vs' : List V} {r : V × RV} {ho : HO} (s : SIg c fr ms σ l (r :: T) mm H) (h1 : mm[j]? = some o) (h2 : ms[j]? = some (a, vs)) (ha : 0 < ownM [o] [(a, vs)] a)
    (hn : MemOk c fr (mu ms) (upd H a ho) o' (a, vs')) (hc : ∀ q, ownM [o'] [(a, vs')] q ≤ ownM [o] [(a, vs)] q + own1 r q) :
    SIg c fr (ms.set j (a, vs')) σ l T (mm.set j o') (upd H a ho) := by
  have hmu := mu_set (vs' := vs') h2
  have le := ownM_at h1 h2
  have pos : ownS σ l a + ownT (r :: T) a + ownM mm ms a ≠ 0 := by have := le a; omega
  have fre := s.free_own pos
  have st : Still c fr H (upd H a ho) := fre.still
  have one := s.one
  have ne : ∀ q, (ownS σ l q ≠ 0 ∨ ownT T q ≠ 0) → upd H a ho q = H q := fun q hq => upd_ne fun e => by
    subst e
    have h3 : ownS σ l q + (own1 r q + ownT T q) + ownM mm ms q ≤ 1 := one q
    have h4 := le q
    omega
  refine ⟨s.len, fun i x e => ?_, fun q hq => ?_, ?_, fun q => ?_, fun q f => ?_, fun q f => ?_⟩
  · obtain ⟨v, e1, h⟩ := s.slots i x e
    rw [hmu]
    exact ⟨v, e1, h.still st (fun _ f => f) fun q hq => ne q (.inl (by have := ownS_at e1 e q; omega))⟩
  · rw [hmu]
    exact (s.temps q (List.mem_cons_of_mem _ hq)).still st (fun _ f => f) fun z hz => ne z (.inr (by have := ownT_le hq z; omega))
  · rw [hmu]
    -- all others are kept; then the one
    have others : ∀ {M : Mem} {ns : Ms} {j : Nat}, MemsOk c fr (mu ms) H M ns → M[j]? = some o → ns[j]? = some (a, vs) → (ownM M ns a ≤ 1) → MemsOk c fr (mu ms) (upd H a ho) (M.set j o') (ns.set j (a, vs')) := by
      intro M
      induction M with
      | nil => intro ns j _ h _ _; simp at h
      | cons o1 os ih =>
        intro ns j hM h h' hle
        obtain ⟨y, ns', rfl, q1, q2⟩ := hM
        rw [ownM_cons] at hle
        cases j with
        | zero =>
          simp at h h'
          subst h h'
          refine ⟨_, ns', rfl, hn, q2.still st (fun _ f => f) fun z hz => upd_ne fun e => ?_⟩
          subst e; omega
        | succ j =>
          have h : os[j]? = some o := by simpa using h
          have h' : ns'[j]? = some (a, vs) := by simpa using h'
          have l2 := ownM_at h h' a
          refine ⟨y, ns'.set j (a, vs'), rfl, q1.still st (fun _ f => f) fun z hz => upd_ne fun e => ?_, ih q2 h h' (by omega)⟩
          subst e; omega
    exact others s.mem h1 h2 (by have := one a; omega)
  · have e1 := ownM_set (o' := o') (x' := (a, vs')) q h1 h2
    have e2 := hc q
    have e3 := one q
    simp only [ownT] at e3
    omega
  · have e1 := ownM_set (o' := o') (x' := (a, vs')) q h1 h2
    have e2 := hc q
    have e3 := s.nof q f
    simp only [ownT] at e3
    omega
  · by_cases e : q = a
    · subst e; rw [upd_same]; simp
    · rw [upd_ne e]; exact s.frt q f
end
end G

set_option linter.all false
set_option maxRecDepth 100000
set_option maxHeartbeats 1000000
namespace G
open PySem PySem.Spec PyProof.Rows L2
section
variable {c : Nm} {fr fr' : Addr → Prop} {m : List Addr} {H H' : Hp} {ms : Ms} {σ σ' : L2.St} {l : List (Option RV)} {T U : List (V × RV)} {mm : Mem} {W : WX} {X : Cx} {b k : Bool}
/-- the slots besides wr are as they were -/
def Kept (wr : List Nat) (σ σ' : L2.St) : Prop := ∀ i, i ∉ wr → σ'[i]? = σ[i]?
theorem Kept.refl {wr : List Nat} : Kept wr σ σ := fun _ _ => rfl
theorem Kept.trans {wr : List Nat} {σ1 σ2 σ3 : L2.St} (a : Kept wr σ1 σ2) (b : Kept wr σ2 σ3) : Kept wr σ1 σ3 := fun i hi => (b i hi).trans (a i hi)
theorem Kept.mono {wr wr' : List Nat} (a : Kept wr σ σ') (h : ∀ i ∈ wr, i ∈ wr') : Kept wr' σ σ' := fun i hi => a i fun z => hi (h i z)
theorem Kept.set {wr : List Nat} {i : Nat} {v : Option V} (h : i ∈ wr) : Kept wr σ (σ.set i v) := fun j hj => List.getElem?_set_ne (by rintro rfl; exact hj h)
/-- how an exception leaves a statement -/
def ExS (c : Nm) (W : WX) (wr : List Nat) (σ : L2.St) (T : List (V × RV)) (x : Exc) (s : S) : Prop :=
  ∀ cls d σ' H', XRel c x cls d H' → SI c σ' s.l T s.m H' → Kept wr σ σ' → W cls d σ' H'
theorem ExS.exp {wr : List Nat} {x : Exc} {s : S} (h : ExS c W wr σ T x s) : ExP c W σ T x s := fun cls d H' q si => h cls d σ H' q si Kept.refl
theorem ExS.on {wr : List Nat} {x : Exc} {s : S} (h : ExS c W wr σ T x s) (k : Kept wr σ σ') : ExS c W wr σ' T x s := fun cls d σ2 H' q si k2 => h cls d σ2 H' q si (k.trans k2)
theorem ExS.pop {wr : List Nat} {x : Exc} {s : S} {r : V × RV} (h : ExS c W wr σ T x s) : ExS c W wr σ (r :: T) x s := fun cls d σ2 H' q si k2 => h cls d σ2 H' q si.pop k2
/-- a store of what is held -/
def tG (c : Nm) (W : WX) (wr : List Nat) (x : RV → M Unit) : TG := fun v σ H K => ∃ r l T m, SI c σ l ((v, r) :: T) m H ∧
  Run (x r) ⟨l, m⟩ (fun _ s' => ∀ σ' H', SI c σ' s'.l T s'.m H' → Kept wr σ σ' → K σ' H') (ExS c W wr σ T)
theorem PGimp {e : Expr} {t t' : TG} (h : PG X e t) (hi : ∀ v σ H K, t' v σ H K → t v σ H K) : PG X e t' := ⟨fun pins s σ H v u Q I r q => h.run pins s σ H v u Q I r (hi v σ H Q q)⟩
theorem SI.set {v : V} {x : RV} {i : Nat} (s : SI c σ l ((v, x) :: T) mm H) : SI c (σ.set i (some v)) (l.set i (some x)) T mm H := let ⟨fr, ms, s⟩ := s; ⟨fr, ms, s.set⟩
theorem g_var {i : Nat} {x : Str} {pos : Pos} {wr : List Nat} (hN : X.N.Nodup) (hi : X.N[i]? = some x) (hx : Loc X.env.scope x) (hf : X.fn x = true ∨ X.env.scope.names.lookup x = some .local) (hw : i ∈ wr) :
    PG X (.Name x pos) (tG c W wr fun r => setS i r) :=
  PGimp (pg_name hN hi hx hf) fun v σ H K ⟨r, l, T, m, s, h⟩ => by
    rw [Run.setS] at h
    exact h.2 _ _ s.set (Kept.set hw)
/-- several -/
def tGs (c : Nm) (W : WX) (wr : List Nat) (x : List D → M Unit) : TGs := fun vs σ H K => ∃ ds l T m, SI c σ l ((vs.zip (ds.map fun d => ((false, d) : RV))) ++ T) m H ∧ vs.length = ds.length ∧
  Run (x ds) ⟨l, m⟩ (fun _ s' => ∀ σ' H', SI c σ' s'.l T s'.m H' → Kept wr σ σ' → K σ' H') (ExS c W wr σ T)
theorem PGsimp {e : List Expr} {t t' : TGs} (h : PGs X e t) (hi : ∀ v σ H K, t' v σ H K → t v σ H K) : PGs X e t' := ⟨fun pins s σ H v u Q I r q => h.run pins s σ H v u Q I r (hi v σ H Q q)⟩
theorem g_nil {wr : List Nat} {x : List D → M Unit} (hx : x [] = M.ret ()) (hx' : ∀ d ds, x (d :: ds) = M.stuck) : PGs X [] (tGs c W wr x) :=
  PGsimp pgs_nil fun vs σ H K ⟨ds, l, T, m, s, hl, h⟩ => by
    cases ds with
    | nil =>
      have : vs = [] := List.eq_nil_of_length_eq_zero hl
      subst this
      rw [hx] at h
      exact ⟨rfl, h _ _ s Kept.refl⟩
    | cons d ds => rw [hx'] at h; exact h.elim
theorem g_cons {e : Expr} {es : List Expr} {wr : List Nat} {A : RV → M Unit} {B : List D → M Unit} {x : List D → M Unit} (h1 : PG X e (tG c W wr A)) (h2 : PGs X es (tGs c W wr B)) (hx : x [] = M.stuck) (hx' : ∀ d ds, x (d :: ds) = (do
    A (false, d)
    B ds)) (hs : (assignEach (e :: es) X.env).map (·.2) = assign e X.env :: (assignEach es X.env).map (·.2)) : PGs X (e :: es) (tGs c W wr x) :=
  PGsimp (pgs_cons h1 h2 hs) fun vs σ H K ⟨ds, l, T, m, s, hl, h⟩ => by
    cases ds with
    | nil => rw [hx] at h; exact h.elim
    | cons d ds =>
      cases vs with
      | nil => cases hl
      | cons v vs =>
        rw [hx', Run.bind] at h
        refine ⟨v, vs, rfl, ⟨(false, d), l, (vs.zip (ds.map fun d => ((false, d) : RV))) ++ T, m, s, ?_⟩⟩
        have hl : vs.length = ds.length := by simpa using hl
        refine Run.mono h (fun _ s1 h => ?_) (fun x s1 z => fun cls d' σ2 H2 q si k => ?_)
        · intro σ1 H1 si k1
          exact ⟨ds, s1.l, T, s1.m, si, hl, Run.mono h (fun _ s2 h => fun σ2 H2 si2 k2 => h σ2 H2 si2 (k1.trans k2)) (fun _ _ z => z.on k1)⟩
        · refine z cls d' σ2 H2 q ?_ k
          obtain ⟨fr, ms, si⟩ := si
          exact ⟨fr, ms, si.popn⟩
theorem FRs.roots {ds : List D} {vs : List V} (s : SIg c fr ms σ l T mm H) (h : FRs c fr (mu ms) H ds vs) : SIg c fr ms σ l ((vs.zip (ds.map fun d => ((false, d) : RV))) ++ T) mm H := by
  induction ds generalizing vs with
  | nil => simp only [FRs] at h; subst h; exact s
  | cons d ds ih =>
    simp only [FRs] at h
    obtain ⟨v, vs', rfl, r, q⟩ := h
    exact (ih q).push r
theorem g_tup {es : List Expr} {kk : Nat} {pos : Pos} {wr : List Nat} {B : List D → M Unit} {x : RV → M Unit} (sm : Same' c X) (hc : X.calm = true) (h : PGs X es (tGs c W wr B)) (hx : ∀ o ds, x (o, .tup ds) = B ds)
    (hB : ∀ ds s K X', Run (B ds) s K X' → ds.length = es.length) (hT : ∀ r s K X', Run (x r) s K X' → ∃ ds, r.2 = .tup ds)
    (hn : (assignEach es X.env).length = es.length) (hst : (assignEach es X.env).findIdx? (·.1) = none) : PG X (.Tuple es kk pos) (tG c W wr x) :=
  PGimp (pg_tup hc h hn hst) fun v σ H K ⟨r, l, T, m, s, hr⟩ => by
    obtain ⟨ds, e⟩ := hT _ _ _ _ hr
    obtain ⟨o, d⟩ := r
    have e : d = .tup ds := e
    subst e
    rw [hx] at hr
    have hlen := hB _ _ _ _ hr
    obtain ⟨fr, ms, s⟩ := s
    have rd : RD c fr (mu ms) H (.tup ds) v := (s.temps _ List.mem_cons_self).rd
    obtain ⟨a, vs, e1, q, rs⟩ := rd.tup
    refine ⟨a, vs, e1, by rw [sm.K]; exact q, by rw [rs.length]; exact hlen, ds, l, T, m, ⟨fr, ms, FRs.roots s.pop rs⟩, rs.length, hr⟩
end
end G

set_option linter.all false
set_option maxRecDepth 100000
set_option maxHeartbeats 1000000
namespace G
open PySem PySem.Spec PyProof.Rows L2
section
variable {c : Nm} {fr fr' : Addr → Prop} {m : List Addr} {H H' : Hp} {ms : Ms} {σ σ' : L2.St} {l : List (Option RV)} {T U : List (V × RV)} {mm : Mem} {W : WX} {X : Cx} {b k : Bool}
def isBox : D → Bool
  | .lst _ => true
  | .dic _ => true
  | _ => false
theorem own1_box {a : Addr} {d : D} (h : isBox d = true) (q : Addr) : own1 (.ref a, (true, d)) q = if q = a then 1 else 0 := by
  cases d <;> simp [isBox] at h <;> rfl
/-- a slot's own thing is written -/
theorem SIg.slotWrite {i : Nat} {a : Addr} {d d' : D} {ho : HO} (s : SIg c fr ms σ l T mm H) (e1 : σ[i]? = some (some (.ref a))) (e2 : l[i]? = some (some (true, d))) (hd : isBox d = true) (hd' : isBox d' = true)
    (hn : OW c fr (mu ms) (upd H a ho) d' (.ref a)) : SIg c fr ms σ (l.set i (some (true, d'))) T mm (upd H a ho) := by
  have o1 := own1_box (a := a) hd
  have o2 := own1_box (a := a) hd'
  have le := ownS_at e1 e2
  have put := fun q => ownS_put (y := (true, d')) e1 e2 q
  have la := le a
  rw [o1, if_pos rfl] at la
  have one := s.one
  have fre := s.free_own (a := a) (by omega)
  have st : Still c fr H (upd H a ho) := fre.still
  have ne : ∀ q, (ownS σ l q + ownT T q + ownM mm ms q - own1 (.ref a, (true, d)) q ≠ 0) → upd H a ho q = H q := fun q hq => upd_ne fun e => by
    subst e
    have h3 := one q
    rw [o1, if_pos rfl] at hq
    omega
  have hi : i < l.length := (List.getElem?_eq_some_iff.mp e2).1
  refine ⟨by simpa using s.len, fun j x e => ?_, fun q hq => ?_, ?_, fun q => ?_, fun q f => ?_, fun q f => ?_⟩
  · by_cases hj : i = j
    · subst hj
      rw [List.getElem?_set_self hi] at e
      cases e
      exact ⟨_, e1, hn⟩
    · rw [List.getElem?_set_ne hj] at e
      obtain ⟨v, h1, h2⟩ := s.slots j x e
      refine ⟨v, h1, h2.still st (fun _ f => f) fun q hq => upd_ne fun z => ?_⟩
      subst z
      -- two slots own q
      have tk := ownS_take e1 e2 q
      have e' : (l.set i none)[j]? = some (some x) := by rw [List.getElem?_set_ne hj]; exact e
      have l2 := ownS_at h1 e' q
      have h3 := one q
      rw [o1, if_pos rfl] at tk
      omega
  · refine (s.temps q hq).still st (fun _ f => f) fun z hz => ne z ?_
    have l2 := ownT_le hq z
    have l3 := le z
    omega
  · refine s.mem.still st (fun _ f => f) fun z hz => ne z ?_
    have l3 := le z
    omega
  · have p := put q
    rw [o1, o2] at p
    have h3 := one q
    omega
  · have p := put q
    rw [o1, o2] at p
    have h3 := s.nof q f
    omega
  · by_cases e : q = a
    · subst e; rw [upd_same]; simp
    · rw [upd_ne e]; exact s.frt q f
/-- a list of the memory is written -/
theorem SIg.memList {j : Nat} {xs ys : List D} {a : Addr} {vs vs' : List V} (s : SIg c fr ms σ l T mm H) (h1 : mm[j]? = some (.lst xs)) (h2 : ms[j]? = some (a, vs)) (hn : FRs c fr (mu ms) (upd H a (.lst vs')) ys vs') :
    SIg c fr (ms.set j (a, vs')) σ l T (mm.set j (.lst ys)) (upd H a (.lst vs')) := by
  have s' : SIg c fr ms σ l ((V.non, (false, D.non)) :: T) mm H := s.push (by simp only [FR])
  refine s'.memWrite h1 h2 (by simp [ownM]) ⟨upd_same, hn⟩ fun q => ?_
  simp [ownM]

/-- a change of a list, by values and as data -/
def ChL (c : Nm) (f : List D → D → Option (RV × D)) (r : V → List V → Hp → VK → Prop) : Prop :=
  ∀ fr mu H xs ds rv d' a vs ws (Q : VK), H a = some (.lst vs) → FRs c fr mu H xs vs → FRs c fr mu H ds ws → f ds (.lst xs) = some (rv, d') →
    ∃ ys vs' z, d' = .lst ys ∧ FRs c fr mu H ys vs' ∧ rv.1 = false ∧ FR c fr mu H rv.2 z ∧ (Q z (upd H a (.lst vs')) → r (.ref a) ws H Q)
theorem slot_change {f : List D → D → Option (RV × D)} {r : V → List V → Hp → VK → Prop} (ok : ChL c f r) {i : Nat} {ds : List D} {ws : List V} {s : S} {v : V} {Q : VK} {K : RV → S → Prop} {XE : Exc → S → Prop}
    (si : SIg c fr ms σ s.l T s.m H) (e1 : σ[i]? = some (some v)) (hw : FRs c fr (mu ms) H ds ws) (hl : ∀ d, s.l[i]? = some (some (true, d)) → (∃ xs, d = .lst xs) ∨ ∃ j, d = .obj j) (h : Run (slotCh i (f ds)) s K XE)
    (hK : ∀ rv s' z H', K rv s' → SI c σ s'.l ((z, rv) :: T) s'.m H' → Q z H') : r v ws H Q ∧ ∃ a vs, v = .ref a ∧ H a = some (.lst vs) := by
  unfold slotCh at h
  rw [Run.bind, Run.getS] at h
  obtain ⟨x, e2, h⟩ := h
  obtain ⟨v', e1', rt⟩ := si.slots i x e2
  rw [e1] at e1'
  cases e1'
  obtain ⟨o, d⟩ := x
  -- a list of the memory
  have memcase : ∀ j, d = .obj j → Run (memCh j (f ds)) s K XE → r v ws H Q ∧ ∃ a vs, v = .ref a ∧ H a = some (.lst vs) := fun j ed h => by
    subst ed
    have rO := FR.obj_root rt
    unfold memCh at h
    rw [Run.bind, Run.memAt] at h
    obtain ⟨mo, em, h⟩ := h
    cases mo with
    | ins _ _ => exact h.elim
    | lst xs =>
      obtain ⟨⟨a, vs⟩, h1, h2⟩ := si.mem.get em
      obtain ⟨h3, h4⟩ := h2
      simp only [FR] at rO
      obtain ⟨b', eb, eb2⟩ := rO
      have : b' = a := by
        unfold mu at eb2
        rw [List.getElem?_map, h1] at eb2
        simpa using eb2.symm
      subst this
      subst eb
      simp only at h
      cases ef : f ds (.lst xs) with
      | none => rw [ef] at h; exact h.elim
      | some q =>
        obtain ⟨rv, d'⟩ := q
        obtain ⟨ys, vs', z, ed, hys, ho, hz, hr⟩ := ok fr (mu ms) H xs ds rv d' b' vs ws Q h3 h4 hw ef
        subst ed
        rw [ef] at h
        simp only at h
        rw [Run.bind, Run.setMem] at h
        refine ⟨hr (hK _ _ _ _ h.2 ?_), b', vs, rfl, h3⟩
        have pos : ownS σ s.l b' + ownT T b' + ownM s.m ms b' ≠ 0 := by
          have := ownM_at em h1 b'
          simp [ownM] at this
          omega
        have st : Still c fr H (upd H b' (.lst vs')) := (si.free_own pos).still
        have s2 := si.memList (ys := ys) (vs' := vs') em h1 (FRs.still st (fun _ f => f) _ hys)
        obtain ⟨o', dz⟩ := rv
        have ho : o' = false := ho
        subst ho
        refine ⟨fr, _, s2.push ?_⟩
        rw [mu_set h1]
        exact FR.still st (fun _ f => f) _ hz
  cases o with
  | true =>
    rcases hl _ e2 with ⟨xs, rfl⟩ | ⟨j, rfl⟩
    case inr => exact memcase j rfl h
    have rt : OW c fr (mu ms) H (.lst xs) v := rt
    obtain ⟨a, vs, rfl, h3, h4⟩ := rt
    simp only at h
    cases ef : f ds (.lst xs) with
    | none => rw [ef] at h; exact h.elim
    | some q =>
      obtain ⟨rv, d'⟩ := q
      obtain ⟨ys, vs', z, ed, hys, ho, hz, hr⟩ := ok fr (mu ms) H xs ds rv d' a vs ws Q h3 h4 hw ef
      subst ed
      rw [ef] at h
      simp only at h
      rw [Run.bind, Run.setS] at h
      refine ⟨hr (hK _ _ _ _ h.2 ?_), a, vs, rfl, h3⟩
      have le := ownS_at e1 e2 a
      have pos : ownS σ s.l a + ownT T a + ownM s.m ms a ≠ 0 := by
        simp [own1] at le
        omega
      have st : Still c fr H (upd H a (.lst vs')) := (si.free_own pos).still
      have s2 := si.slotWrite (d' := .lst ys) (ho := .lst vs') e1 e2 rfl rfl ⟨a, vs', rfl, upd_same, FRs.still st (fun _ f => f) _ hys⟩
      obtain ⟨o', dz⟩ := rv
      have ho : o' = false := ho
      subst ho
      exact ⟨fr, _, s2.push (FR.still st (fun _ f => f) _ hz)⟩
  | false =>
    cases d with
    | obj j => exact memcase j rfl h
    | _ => exact h.elim
theorem ch_append : ChL c (fun vs d => change .append d vs) rAppend := by
  intro fr mu H xs ds rv d' a vs ws Q h1 h2 h3 e
  match ds, e with
  | [x], e =>
    obtain ⟨hz, e⟩ := some_if e
    cases e
    simp only [FRs] at h3
    obtain ⟨w, ws', rfl, hx, rfl⟩ := h3
    exact ⟨_, _, .non, rfl, FRs.append h2 (FRs.cons hx FRs.nil), rfl, by simp only [FR], fun q => ⟨a, vs, w, rfl, rfl, h1, by rw [h2.length, ← line]; exact hz, q⟩⟩
  | [], e => cases e
  | _ :: _ :: _, e => cases e
theorem ch_extend : ChL c (fun vs d => change .extend d vs) rExtend := by
  intro fr mu H xs ds rv d' a vs ws Q h1 h2 h3 e
  match ds, e with
  | [.lst ys], e =>
    obtain ⟨hz, e⟩ := some_if e
    cases e
    simp only [FRs] at h3
    obtain ⟨w, ws', rfl, hx, rfl⟩ := h3
    simp only [FR] at hx
    obtain ⟨a2, vs2, rfl, q2, r2⟩ := hx
    exact ⟨_, _, .non, rfl, FRs.append h2 r2, rfl, by simp only [FR], fun q => ⟨a, a2, vs, vs2, rfl, rfl, h1, q2.1, by rw [h2.length, r2.length, ← line]; exact hz, q⟩⟩
  | [], e => cases e
  | x :: _ :: _, e => cases x <;> cases e
  | [.non], e => cases e
  | [.bl _], e => cases e
  | [.int _], e => cases e
  | [.str _], e => cases e
  | [.tup _], e => cases e
  | [.dic _], e => cases e
  | [.obj _], e => cases e
  | [.scr _], e => cases e
  | [.pin _], e => cases e
theorem ch_clear : ChL c (fun vs d => change .clear d vs) rClear := by
  intro fr mu H xs ds rv d' a vs ws Q h1 h2 h3 e
  match ds, e with
  | [], e =>
    cases e
    simp only [FRs] at h3
    subst h3
    exact ⟨_, _, .non, rfl, FRs.nil, rfl, by simp only [FR], fun q => ⟨a, vs, rfl, rfl, h1, q⟩⟩
  | _ :: _, e => cases e
theorem ch_popAt : ChL c (fun vs d => change .popAt d vs) rPopAt := by
  intro fr mu H xs ds rv d' a vs ws Q h1 h2 h3 e
  match ds, e with
  | [.int i], e =>
    have e : (if -(2 ^ 63) ≤ i ∧ i < 2 ^ 63 then (placeOf xs.length i).bind fun k => (xs[k]?).map fun x => (((false, x) : RV), D.lst (xs.eraseIdx k)) else none) = some (rv, d') := e
    by_cases hz : -(2 ^ 63) ≤ i ∧ i < 2 ^ 63
    · rw [if_pos hz] at e
      cases hk : placeOf xs.length i with
      | none => rw [hk] at e; cases e
      | some k =>
        rw [hk, Option.bind_some] at e
        cases hx : xs[k]? with
        | none => rw [hx] at e; cases e
        | some x =>
          rw [hx, Option.map_some] at e
          cases e
          obtain ⟨q1, q2, q3, q4⟩ := ixN_seq hk
          obtain ⟨v, hv, fv⟩ := h2.get hx
          simp only [FRs, FR] at h3
          obtain ⟨w, ws', rfl, rfl, rfl⟩ := h3
          exact ⟨_, _, v, rfl, h2.eraseIdx, rfl, fv, fun q => ⟨a, vs, i, k, v, rfl, rfl, h1, hz.1, hz.2, by rw [h2.length]; exact q1, hv, q⟩⟩
    · rw [if_neg hz] at e; cases e
  | [], e => cases e
  | x :: _ :: _, e => cases x <;> cases e
  | [.non], e => cases e
  | [.bl _], e => cases e
  | [.str _], e => cases e
  | [.lst _], e => cases e
  | [.tup _], e => cases e
  | [.dic _], e => cases e
  | [.obj _], e => cases e
  | [.scr _], e => cases e
  | [.pin _], e => cases e
end
end G

set_option linter.all false
set_option maxRecDepth 100000
set_option maxHeartbeats 1000000
namespace G
open PySem PySem.Spec PyProof.Rows L2
section
variable {c : Nm} {fr fr' : Addr → Prop} {m : List Addr} {H H' : Hp} {ms : Ms} {σ σ' : L2.St} {l : List (Option RV)} {T U : List (V × RV)} {mm : Mem} {W : WX} {X : Cx} {b k : Bool}
theorem Run.listS {i : Nat} {s : S} {v : V} {K : Unit → S → Prop} {XE : Exc → S → Prop} (si : SIg c fr ms σ s.l T s.m H) (h : Run (listS i) s K XE) : (∃ a vs, σ[i]? = some (some (.ref a)) ∧ H a = some (.lst vs)) ∧ K () s := by
  unfold G.listS at h
  rw [Run.bind, Run.getS] at h
  obtain ⟨x, e2, h⟩ := h
  obtain ⟨v, e1, rt⟩ := si.slots i x e2
  obtain ⟨o, d⟩ := x
  have memcase : ∀ j, d = .obj j → Run (G.memAt j >>= fun o => match o with
      | MO.lst _ => M.ret ()
      | _ => M.stuck) s K XE → (∃ a vs, σ[i]? = some (some (.ref a)) ∧ H a = some (.lst vs)) ∧ K () s := fun j ed hm => by
    clear h
    subst ed
    have rO := FR.obj_root rt
    rw [Run.bind, Run.memAt] at hm
    obtain ⟨mo, em, h⟩ := hm
    cases mo with
    | ins _ _ => exact h.elim
    | lst xs =>
      obtain ⟨⟨a, vs⟩, h1, h2⟩ := si.mem.get em
      obtain ⟨h3, h4⟩ := h2
      simp only [FR] at rO
      obtain ⟨b', eb, eb2⟩ := rO
      have : b' = a := by
        unfold mu at eb2
        rw [List.getElem?_map, h1] at eb2
        simpa using eb2.symm
      subst this
      subst eb
      exact ⟨⟨b', vs, e1, h3⟩, h⟩
  cases o with
  | true =>
    cases d with
    | lst xs =>
      have rt : OW c fr (mu ms) H (.lst xs) v := rt
      obtain ⟨a, vs, rfl, h3, h4⟩ := rt
      exact ⟨⟨a, vs, e1, h3⟩, h⟩
    | obj j => exact memcase j rfl h
    | _ => exact h.elim
  | false =>
    cases d with
    | obj j => exact memcase j rfl h
    | _ => exact h.elim
theorem tyList {K : PySem.W.Frag} {a : Addr} {vs : List V} (h : H a = some (.lst vs)) : tyV K "list" (.ref a) H := Or.inl ⟨rfl, vs, SqL.of h⟩
/-- what a method that changes a name's list does -/
theorem t_mut {f : List D → D → Option (RV × D)} {r : V → List V → Hp → VK → Prop} (ok : ChL c f r) {i : Nat} {B : M (List RV)} {t : TA} {k2 : Bool} (hf : ∀ ds d rv d', f ds d = some (rv, d') → ∃ xs, d = .lst xs) (hb : ∀ σ H Q, tMs c W k2 B σ H Q → t σ H Q) :
    ∀ σ H Q, tM c W b false (do
      G.listS i
      let vs ← B
      slotCh i (f (vs.map (·.2)))) σ H Q → ∃ v, σ[i]? = some (some v) ∧ tyV X.K "list" v H ∧ t σ H fun ws H2 => r v ws H2 Q := by
  rintro σ H Q ⟨l, T, m, s, h⟩
  obtain ⟨fr, ms, s⟩ := s
  rw [Run.bind] at h
  obtain ⟨⟨a, vs0, e1, h0⟩, h⟩ := Run.listS (v := .non) s h
  refine ⟨.ref a, e1, tyList h0, hb σ H _ ⟨l, T, m, ⟨fr, ms, s⟩, ?_⟩⟩
  rw [Run.bind] at h
  refine Run.mono h (fun rs s1 h => ?_) (fun _ _ z => z)
  intro ws H2 hv si _
  obtain ⟨fr, ms, si⟩ := si
  obtain ⟨fr', _, s2, rw2⟩ := si.freezeAll hv
  refine (slot_change ok s2 e1 rw2 (fun d e => ?_) h (Q := Q) fun rv s' z H' hK si => hK z H' (.of si) fun z => nomatch z).1
  -- an own thing that is no list: the change fails
  unfold slotCh at h
  rw [Run.bind, Run.getS] at h
  obtain ⟨x, e2, h⟩ := h
  rw [e] at e2
  cases e2
  have h' : ∀ d, Run (match f (rs.map (·.2)) d with
      | some (r, d') => do
        G.setS i (true, d')
        M.ret r
      | none => (M.stuck : M RV)) s1 (fun r s' => ∀ (v : V) (H' : Hp), Aft c b σ s'.l T s'.m r v H' → (false = true → Ext H H') → Q v H') (ExP c W σ T) → ∃ xs, d = D.lst xs := fun d h => by
    cases ef : f (rs.map (·.2)) d with
    | none => rw [ef] at h; exact h.elim
    | some q => obtain ⟨rv, d'⟩ := q; exact hf _ _ _ _ ef
  cases d with
  | obj j => exact .inr ⟨j, rfl⟩
  | lst xs => exact .inl ⟨xs, rfl⟩
  | _ => exact .inl (h' _ h)
end
end G

set_option linter.all false
set_option maxRecDepth 100000
set_option maxHeartbeats 1000000
namespace G
open PySem PySem.Spec PyProof.Rows L2
section
variable {c : Nm} {fr fr' : Addr → Prop} {m : List Addr} {H H' : Hp} {ms : Ms} {σ σ' : L2.St} {l : List (Option RV)} {T U : List (V × RV)} {mm : Mem} {W : WX} {X : Cx} {b k : Bool} {wr : List Nat}
def OutS (c : Nm) (wr : List Nat) (σ : L2.St) (T : List (V × RV)) (D : Ends) (f : Fl) (s : S) : Prop := match f with
  | .next => ∀ σ' H', SI c σ' s.l T s.m H' → Kept wr σ σ' → D.nx σ' H'
  | .brk => ∀ σ' H', SI c σ' s.l T s.m H' → Kept wr σ σ' → D.bk σ' H'
  | .ret r => ∀ σ' v H', SI c σ' s.l ((v, r) :: T) s.m H' → D.rt v H'
/-- a statement, a block as a reading -/
def tS (c : Nm) (W : WX) (wr : List Nat) (x : M Fl) : TS := fun D σ H => ∃ l T m, SI c σ l T m H ∧ Run x ⟨l, m⟩ (OutS c wr σ T D) (ExS c W wr σ T)
theorem PSimp {st : Stmt} {t t' : TS} (h : PS X st t) (hi : ∀ D σ H, t' D σ H → t D σ H) : PS X st t' := ⟨fun pins s σ H D I q => h.run pins s σ H D I (hi D σ H q)⟩
theorem PSsimp {st : List Stmt} {t t' : TS} (h : PSs X st t) (hi : ∀ D σ H, t' D σ H → t D σ H) : PSs X st t' := ⟨fun pins s σ H D I q => h.run pins s σ H D I (hi D σ H q)⟩
theorem OutS.on {D : Ends} {f : Fl} {s : S} (h : OutS c wr σ T D f s) (k : Kept wr σ σ') : OutS c wr σ' T D f s := by
  cases f with
  | next => exact fun σ2 H2 si k2 => h σ2 H2 si (k.trans k2)
  | brk => exact fun σ2 H2 si k2 => h σ2 H2 si (k.trans k2)
  | ret r => exact h
theorem s_nil : PSs X [] (tS c W wr (M.ret .next)) := PSsimp pss_nil fun D σ H ⟨l, T, m, s, h⟩ => h σ H s Kept.refl
theorem s_cons {st : Stmt} {rest : List Stmt} {A B : M Fl} (h1 : PS X st (tS c W wr A)) (h2 : PSs X rest (tS c W wr B)) : PSs X (st :: rest) (tS c W wr (do
    let f ← A
    match f with
    | .next => B
    | f => M.ret f)) := by
  refine PSsimp (pss_cons h1 h2) ?_
  rintro D σ H ⟨l, T, m, s, h⟩
  refine ⟨l, T, m, s, ?_⟩
  rw [Run.bind] at h
  refine Run.mono h (fun f s1 h => ?_) (fun _ _ z => z)
  cases f with
  | next =>
    intro σ1 H1 si k1
    exact ⟨s1.l, T, s1.m, si, Run.mono h (fun f s2 h => h.on k1) (fun _ _ z => z.on k1)⟩
  | brk => exact h
  | ret r => exact h
theorem s_pass {pos : Pos} : PS X (.Pass pos) (tS c W wr (M.ret .next)) := PSimp ps_pass fun D σ H ⟨l, T, m, s, h⟩ => h σ H s Kept.refl
theorem s_brk {pos : Pos} : PS X (.Break pos) (tS c W wr (M.ret .brk)) := PSimp ps_break fun D σ H ⟨l, T, m, s, h⟩ => h σ H s Kept.refl
theorem s_doc {x : Str} {j : Nat} {pos pos' : Pos} : PS X (.Expr (.Constant (.str x) j pos) pos') (tS c W wr (M.ret .next)) := PSimp ps_doc fun D σ H ⟨l, T, m, s, h⟩ => h σ H s Kept.refl
theorem s_expr {e : Expr} {pos : Pos} {A : M RV} {k1 : Bool} (h : PE X e (tM c W true k1 A)) (hs : swapsWith e none pos.line X.env = pure false) : PS X (.Expr e pos) (tS c W wr (do
    let _ ← A
    M.ret .next)) := by
  refine PSimp (ps_expr h hs) ?_
  rintro D σ H ⟨l, T, m, s, h⟩
  refine ⟨l, T, m, s, ?_⟩
  rw [Run.bind] at h
  refine Run.mono h (fun r s1 h => ?_) (fun _ _ z => z.exp)
  intro v H1 aft _
  obtain ⟨fr, ms, si, _⟩ := aft.look
  exact h σ H1 ⟨fr, ms, si⟩ Kept.refl
theorem s_ret {e : Expr} {pos : Pos} {A : M RV} {k1 : Bool} (h : PE X e (tM c W false k1 A)) : PS X (.Return (some e) pos) (tS c W wr (do
    let v ← A
    M.ret (.ret v))) := by
  refine PSimp (ps_ret h) ?_
  rintro D σ H ⟨l, T, m, s, h⟩
  refine ⟨l, T, m, s, ?_⟩
  rw [Run.bind] at h
  refine Run.mono h (fun r s1 h => ?_) (fun _ _ z => z.exp)
  intro v H1 aft _
  exact h σ v H1 aft
theorem s_ret0 {pos : Pos} : PS X (.Return none pos) (tS c W wr (M.ret (.ret (false, .non)))) := PSimp ps_retN fun D σ H ⟨l, T, m, s, h⟩ => by
  obtain ⟨fr, ms, si⟩ := s
  exact h σ .non H si.anon
theorem s_if {ce : Expr} {a b : List Stmt} {pos : Pos} {x : M Bool} {A B : M Fl} (h : PT X ce (tT c W x)) (h1 : PSs X a (tS c W wr A)) (h2 : PSs X b (tS c W wr B)) : PS X (.If ce a b pos) (tS c W wr (do
    let t ← x
    if t then A else B)) := by
  refine PSimp (ps_if h h1 h2) ?_
  rintro D σ H ⟨l, T, m, s, h⟩
  refine ⟨l, T, m, s, ?_⟩
  rw [Run.bind] at h
  refine Run.mono h (fun t s1 h => ?_) (fun _ _ z => z.exp)
  intro H1 si
  cases t with
  | true => exact ⟨_, _, _, si, h⟩
  | false => exact ⟨_, _, _, si, h⟩
theorem s_asg {tg e : Expr} {pos : Pos} {A : M RV} {k1 : Bool} {G : RV → M Unit} (h : PE X e (tM c W false k1 A)) (hg : PG X tg (tG c W wr G)) (hs : swapsWithSole [tg] e pos.line X.env = pure false) (hw : swappedStores [tg] e X.env = pure none)
    (h1 : (assignEach [tg] X.env).map (·.2) = [assign tg X.env]) : PS X (.Assign [tg] e pos) (tS c W wr (do
    let v ← A
    G v
    M.ret .next)) := by
  refine PSimp (ps_asg h hg hs hw h1) ?_
  rintro D σ H ⟨l, T, m, s, h⟩
  refine ⟨l, T, m, s, ?_⟩
  rw [Run.bind] at h
  refine Run.mono h (fun r s1 h => ?_) (fun _ _ z => z.exp)
  intro v H1 aft _
  rw [Run.bind] at h
  exact ⟨r, s1.l, T, s1.m, aft, Run.mono h (fun _ s2 h => h) (fun _ _ z => z)⟩
/-- a name set by an expression that is no comprehension -/
theorem s_set {i : Nat} {x : Str} {e : Expr} {pos pos' : Pos} {A : M RV} {k1 : Bool} (hN : X.N.Nodup) (hi : X.N[i]? = some x) (hx : Loc X.env.scope x) (h : PE X e (tM c W false k1 A)) (hs : swapsWith e (some (.Name x pos')) pos.line X.env = pure false)
    (hf : X.fn x = true ∨ X.env.scope.names.lookup x = some .local) (hw : i ∈ wr) : PS X (.Assign [.Name x pos'] e pos) (tS c W wr (do
    let v ← A
    setS i v
    M.ret .next)) := by
  refine PSimp (ps_set hN hi hx h hs hf) ?_
  rintro D σ H ⟨l, T, m, s, h⟩
  refine ⟨l, T, m, s, ?_⟩
  rw [Run.bind] at h
  refine Run.mono h (fun r s1 h => ?_) (fun _ _ z => z.exp)
  intro v H1 aft _
  rw [Run.bind, Run.setS] at h
  exact h.2 _ _ (SI.set aft) (Kept.set hw)

/-! ### walks -/
structure ItOk (c : Nm) (J : L2.It) (U : List (V × RV)) (vs : List Nat) (σ0 : L2.St) (ds : List D) (ok : M Bool) : Prop where
  turn : ∀ i σ l T m H (K : Bool → S → Prop) (XE : Exc → S → Prop), SI c σ l (U ++ T) m H → (∀ j ∈ vs, σ[j]? = σ0[j]?) → Run ok ⟨l, m⟩ K XE →
    ∃ k, K k ⟨l, m⟩ ∧ (k = true → (∀ d, ds[i]? = some d → J.go i H ∧ ∀ x H', J.yld i H x H' → SI c σ l ((x, (false, d)) :: (U ++ T)) m H') ∧ (i = ds.length → J.stop i H))
theorem ItOk.le {c : Nm} {J : L2.It} {U : List (V × RV)} {vs : List Nat} {σ0 : L2.St} {ds : List D} {ok : M Bool} (h : ∀ i σ l T m H (K : Bool → S → Prop) (XE : Exc → S → Prop), SI c σ l (U ++ T) m H → (∀ j ∈ vs, σ[j]? = σ0[j]?) → Run ok ⟨l, m⟩ K XE →
    ∃ k, K k ⟨l, m⟩ ∧ (k = true → (∀ d, ds[i]? = some d → J.go i H ∧ ∀ x H', J.yld i H x H' → SI c σ l ((x, (false, d)) :: (U ++ T)) m H') ∧ (ds.length ≤ i → J.stop i H))) : ItOk c J U vs σ0 ds ok :=
  ⟨fun i σ l T m H K XE a b d => let ⟨k, h1, h2⟩ := h i σ l T m H K XE a b d; ⟨k, h1, fun z => ⟨(h2 z).1, fun e => (h2 z).2 (Nat.le_of_eq e.symm)⟩⟩⟩
def tI (c : Nm) (W : WX) (vs : List Nat) (x : M Walk) : TI := fun σ H R => ∃ l T m, SI c σ l T m H ∧
  Run x ⟨l, m⟩ (fun w s' => ∀ J U H', SI c σ s'.l (U ++ T) s'.m H' → ItOk c J U vs σ w.ds w.ok → R J H') (ExP c W σ T)
theorem SI.dropU {r : V × RV} (s : SI c σ l (r :: (U ++ T)) mm H) : SI c σ l (r :: T) mm H := by
  obtain ⟨fr, ms, s⟩ := s
  refine ⟨fr, ms, s.reorder (fun q hq => ?_) fun a => ?_⟩
  · rcases List.mem_cons.mp hq with rfl | hq
    · exact List.mem_cons_self
    · exact List.mem_cons_of_mem _ (List.mem_append_right _ hq)
  · simp only [ownT, ownT_append]; omega
theorem SI.popU (s : SI c σ l (U ++ T) mm H) : SI c σ l T mm H := let ⟨fr, ms, s⟩ := s; ⟨fr, ms, s.popn⟩
theorem s_for {tg iter : Expr} {body : List Stmt} {pos : Pos} {A : M Walk} {B : M Fl} {x : Tg} {vs : List Nat} (hp : PassesOwn (model X.prog X.w) X.A X.env X.xe) (hc : X.calm = true) (hi : PI X tg iter (tI c W vs A)) (hg : PG X tg (tG c W wr fun r => tgStore x r.2)) (hb : PSs X body (tS c W wr B))
    (hs : ∀ x, foldedSetIterable iter X.env x = pure x) (hv : ∀ i ∈ vs, i ∉ wr) : PS X (.For tg iter body [] pos) (tS c W wr (do
    let w ← A
    forL x B w.ok w.ds)) := by
  refine PSimp (ps_for hp hc hi hg hb hs) ?_
  rintro D σ H ⟨l, T, m, s, h⟩
  refine ⟨l, T, m, s, ?_⟩
  rw [Run.bind] at h
  refine Run.mono h (fun w s1 h => ?_) (fun _ _ z => z.exp)
  intro J U H1 si it
  refine ⟨fun i n σ' H' => n = w.ds.length - i ∧ i ≤ w.ds.length ∧ ∃ l' m', SI c σ' l' (U ++ T) m' H' ∧ Kept wr σ σ' ∧ Run (forL x B w.ok (w.ds.drop i)) ⟨l', m'⟩ (OutS c wr σ T D) (ExS c W wr σ T),
    ⟨w.ds.length, by simp, Nat.zero_le _, s1.l, s1.m, si, Kept.refl, by simpa using h⟩, ?_⟩
  rintro i n σ2 H2 ⟨rfl, hle, l2, m2, si2, k2, h2⟩
  have same : ∀ j ∈ vs, σ2[j]? = σ[j]? := fun j hj => k2 j (hv j hj)
  by_cases hlt : i < w.ds.length
  · rw [List.drop_eq_getElem_cons hlt] at h2
    unfold forL at h2
    rw [Run.bind] at h2
    obtain ⟨kk, h2, ht⟩ := it.turn i σ2 l2 T m2 H2 _ _ si2 same h2
    cases kk with
    | false => exact h2.elim
    | true =>
      obtain ⟨go, yld⟩ := (ht rfl).1 w.ds[i] (by simp [hlt])
      simp only [if_true] at h2
      refine .inr ⟨go, fun σ' H' => ∃ l' m', SI c σ' l' (U ++ T) m' H' ∧ Kept wr σ σ' ∧ Run (forL x B w.ok (w.ds.drop (i + 1))) ⟨l', m'⟩ (OutS c wr σ T D) (ExS c W wr σ T), ?_, ?_⟩
      · rintro σ' H' ⟨l', m', q1, q2, q3⟩
        exact ⟨w.ds.length - (i + 1), by omega, rfl, hlt, l', m', q1, q2, q3⟩
      · intro y H' hy
        have siy := yld y H' hy
        rw [Run.bind] at h2
        refine ⟨(false, w.ds[i]), l2, U ++ T, m2, siy, Run.mono h2 (fun _ s3 h3 => ?_) (fun x s z => fun cls d σ3 H3 q si3 k3 => z cls d σ3 H3 q si3.popU (k2.trans k3))⟩
        intro σ3 H3 si3 k3
        refine ⟨s3.l, U ++ T, s3.m, si3, ?_⟩
        rw [Run.bind] at h3
        refine Run.mono h3 (fun f s4 h4 => ?_) (fun x s z => fun cls d σ4 H4 q si4 k4 => z cls d σ4 H4 q si4.popU (k2.trans (k3.trans k4)))
        cases f with
        | next =>
          intro σ4 H4 si4 k4
          exact ⟨s4.l, s4.m, si4, k2.trans (k3.trans k4), h4⟩
        | brk =>
          intro σ4 H4 si4 k4
          exact h4 σ4 H4 si4.popU (k2.trans (k3.trans k4))
        | ret r =>
          intro σ4 v H4 si4
          exact h4 σ4 v H4 si4.dropU
  · have e : i = w.ds.length := by omega
    subst e
    rw [List.drop_length] at h2
    unfold forL at h2
    rw [Run.bind] at h2
    obtain ⟨kk, h2, ht⟩ := it.turn _ σ2 l2 T m2 H2 _ _ si2 same h2
    cases kk with
    | false => exact h2.elim
    | true => exact .inl ⟨(ht rfl).2 rfl, h2 σ2 H2 si2.popU k2⟩
theorem s_while {ce : Expr} {body : List Stmt} {pos : Pos} {x : M Bool} {B : M Fl} (n : Nat) (hp : PassesOwn (model X.prog X.w) X.A X.env X.xe) (hc : PT X ce (tT c W x)) (hb : PSs X body (tS c W wr B)) : PS X (.While ce body [] pos) (tS c W wr (whileL x B n)) := by
  refine PSimp (ps_while hp hc hb) ?_
  rintro D σ H ⟨l, T, m, s, h⟩
  refine ⟨fun j σ' H' => ∃ l' m', SI c σ' l' T m' H' ∧ Kept wr σ σ' ∧ Run (whileL x B j) ⟨l', m'⟩ (OutS c wr σ T D) (ExS c W wr σ T), ⟨n, l, m, s, Kept.refl, h⟩, ?_⟩
  rintro j σ2 H2 ⟨l2, m2, si2, k2, h2⟩
  cases j with
  | zero => exact h2.elim
  | succ j =>
    unfold whileL at h2
    rw [Run.bind] at h2
    refine ⟨l2, T, m2, si2, Run.mono h2 (fun t s3 h3 => ?_) (fun x s z => fun cls d H3 q si3 => z cls d σ2 H3 q si3 k2)⟩
    intro H3 si3
    cases t with
    | false => exact h3 σ2 H3 si3 k2
    | true =>
      simp only [if_true] at h3 ⊢
      rw [Run.bind] at h3
      refine ⟨fun σ' H' => ∃ l' m', SI c σ' l' T m' H' ∧ Kept wr σ σ' ∧ Run (whileL x B j) ⟨l', m'⟩ (OutS c wr σ T D) (ExS c W wr σ T), fun σ' H' q => ⟨j, Nat.lt_succ_self _, q⟩, s3.l, T, s3.m, si3, Run.mono h3 (fun f s4 h4 => ?_) (fun _ _ z => z.on k2)⟩
      cases f with
      | next => exact fun σ4 H4 si4 k4 => ⟨s4.l, s4.m, si4, k2.trans k4, h4⟩
      | brk => exact fun σ4 H4 si4 k4 => h4 σ4 H4 si4 (k2.trans k4)
      | ret r => exact fun σ4 v H4 si4 => h4 σ4 v H4 si4
end
end G

set_option linter.all false
set_option maxRecDepth 100000
set_option maxHeartbeats 1000000
namespace G
open PySem PySem.Spec PyProof.Rows L2
mutual
theorem beq_eq : ∀ (x y : D), D.beq x y = true → x = y
  | .non, y, h => by cases y <;> simp [D.beq] at h <;> rfl
  | .bl a, y, h => by cases y <;> simp [D.beq] at h; rw [h]
  | .int a, y, h => by cases y <;> simp [D.beq] at h; rw [h]
  | .str a, y, h => by cases y <;> simp [D.beq] at h; rw [h]
  | .tup xs, y, h => by
    cases y <;> simp [D.beq] at h
    rw [beqL_eq _ _ h]
  | .lst xs, y, h => by
    cases y <;> simp [D.beq] at h
    rw [beqL_eq _ _ h]
  | .dic xs, y, h => by
    cases y <;> simp [D.beq] at h
    rw [beqP_eq _ _ h]
  | .obj a, y, h => by cases y <;> simp [D.beq] at h; rw [h]
  | .scr a, y, h => by cases y <;> simp [D.beq] at h; rw [h]
  | .pin a, y, h => by cases y <;> simp [D.beq] at h
theorem beqL_eq : ∀ (xs ys : List D), D.beqL xs ys = true → xs = ys
  | [], [], _ => rfl
  | [], _ :: _, h => by simp [D.beqL] at h
  | _ :: _, [], h => by simp [D.beqL] at h
  | x :: xs, y :: ys, h => by
    simp only [D.beqL, Bool.and_eq_true] at h
    rw [beq_eq x y h.1, beqL_eq xs ys h.2]
theorem beqP_eq : ∀ (xs ys : List (D × D)), D.beqP xs ys = true → xs = ys
  | [], [], _ => rfl
  | [], _ :: _, h => by simp [D.beqP] at h
  | _ :: _, [], h => by simp [D.beqP] at h
  | (x, u) :: xs, (y, v) :: ys, h => by
    simp only [D.beqP, Bool.and_eq_true] at h
    rw [beq_eq x y h.1.1, beq_eq u v h.1.2, beqP_eq xs ys h.2]
end
section
variable {c : Nm} {fr fr' : Addr → Prop} {m : List Addr} {H H' : Hp} {ms : Ms} {σ σ' : L2.St} {l : List (Option RV)} {T U : List (V × RV)} {mm : Mem} {W : WX} {X : Cx} {b k : Bool} {wr : List Nat}
/-- a list, a tuple -/
def iSeq (K : PySem.W.Frag) (tl : TE) : TI := fun σ H R => tl σ H fun x H1 => ∃ a, x = .ref a ∧ ((∃ xs, SqL K H1 a xs ∧ R (Itl K a) H1) ∨ ∃ xs, SqT K H1 a xs ∧ R (Itt K a) H1)
/-- the walk of a list, a tuple that stands so -/
def seqIt (K : PySem.W.Frag) (p : D) (a : Addr) : L2.It := match p with
  | .lst _ => Itl K a
  | _ => Itt K a
theorem seq_turn (s : SIg c fr ms σ l T mm H) {p : D} {a : Addr} {ds : List D} (hp : p.seq = some ds) (r : RD c fr (mu ms) H p (.ref a)) (i : Nat) :
    (∀ d, ds[i]? = some d → (seqIt c.K p a).go i H ∧ ∀ x H', (seqIt c.K p a).yld i H x H' → SI c σ l ((x, (false, d)) :: T) mm H') ∧ (ds.length ≤ i → (seqIt c.K p a).stop i H) := by
  cases p <;> first | cases hp | skip
  · obtain ⟨b, vs, e, q, rs⟩ := r.tup
    cases e
    refine ⟨fun d hd => ?_, fun hl => ⟨vs, q, by rw [rs.length]; exact hl⟩⟩
    obtain ⟨v, h1, h2⟩ := rs.get hd
    refine ⟨⟨vs, v, q, h1⟩, fun x H' hy => ?_⟩
    obtain ⟨rfl, hy⟩ := hy
    have := hy vs q
    rw [h1] at this
    cases this
    exact ⟨fr, ms, s.push h2⟩
  · obtain ⟨b, vs, e, q, rs⟩ := r.lst
    cases e
    refine ⟨fun d hd => ?_, fun hl => ⟨vs, SqL.of q, by rw [rs.length]; exact hl⟩⟩
    obtain ⟨v, h1, h2⟩ := rs.get hd
    refine ⟨⟨vs, v, SqL.of q, h1⟩, fun x H' hy => ?_⟩
    obtain ⟨rfl, hy⟩ := hy
    have := hy vs (SqL.of q)
    rw [h1] at this
    cases this
    exact ⟨fr, ms, s.push h2⟩
theorem seq_ref {p : D} {ds : List D} {v : V} (hp : p.seq = some ds) (r : RD c fr m H p v) : ∃ a, v = .ref a ∧ ((p = .lst ds ∧ ∃ xs, SqL c.K H a xs) ∨ (p = .tup ds ∧ ∃ xs, SqT c.K H a xs)) := by
  cases p <;> first | cases hp | skip
  · obtain ⟨b, vs, e, q, rs⟩ := r.tup
    exact ⟨b, e, .inr ⟨rfl, vs, q⟩⟩
  · obtain ⟨b, vs, e, q, rs⟩ := r.lst
    exact ⟨b, e, .inl ⟨rfl, vs, SqL.of q⟩⟩
/-- what of a thing is walked, as it stands: a list of the memory, or itself -/
theorem obj_seen (s : SIg c fr ms σ l T mm H) {j : Nat} {xs : List D} {v : V} (e : mm[j]? = some (.lst xs)) (r : FR c fr (mu ms) H (.obj j) v) : RD c fr (mu ms) H (.lst xs) v := by
  obtain ⟨⟨a, vs⟩, h1, h3, h4⟩ := s.mem.get e
  simp only [FR] at r
  obtain ⟨b', eb, eb2⟩ := r
  have : b' = a := by
    unfold mu at eb2
    rw [List.getElem?_map, h1] at eb2
    simpa using eb2.symm
  subst this
  exact ⟨b', vs, eb, h3, h4⟩
end
end G

set_option linter.all false
set_option maxRecDepth 100000
set_option maxHeartbeats 1000000
namespace G
open PySem PySem.Spec PyProof.Rows L2
/-- the keys of the locked dict at d -/
def Itn (c : Nm) (d : Addr) (o : Obj) (xs : XsT) : L2.It :=
  ⟨fun i H => H d = some (.frz o (dctO c d xs)) ∧ i < xs.length, fun i H x H' => H' = H ∧ ∃ k b u, xs[i]? = some (k, b, u) ∧ x = .ref b, fun i H => H d = some (.frz o (dctO c d xs)) ∧ xs.length ≤ i⟩
section
variable {c : Nm} {P : Program} {w : World} {K : PySem.W.Frag} {tg : Expr} {d : Addr} {o : Obj} {es : Array DictEntry} {ep : Nat} {X : Cx} {pins : List (Addr × Obj)} {s : Shared} {σ : L2.St} {H : Hp}
theorem frzN {xs : XsT} (I : Inv X pins σ H s) (h : H d = some (.frz o (dctO c d xs))) : s.heap.get? d = some o ∧ o.ExactDict ∧ ∃ es ep, o.data = .dict es ep ∧ es.size = xs.length ∧ es.toList = xs.map (entryOfKey (nestedKind c.prog c.w)) := by
  obtain ⟨hd, ⟨o', es, ep, h1, h2, h3, h4⟩, _⟩ := I.hok d _ h
  rw [hd] at h1
  cases h1
  refine ⟨hd, h2, es, ep, h3, ?_, h4⟩
  rw [← Array.length_toList, h4, List.length_map]
theorem turn_keysN {xs : XsT} (it : Addr) (hod : o.data = .dict es ep) : Turn P w K tg (Itn c d o xs) [it] it (fun i h => h.IsKeyIter it d i xs.length ep) where
  mem := by simp
  obj := fun i h st b hb => by
    have e : b = it := by simpa using hb
    subst e
    obtain ⟨oi, e, c, dd⟩ := st
    exact ⟨oi, e, fun v z => by rw [dd] at z; cases z⟩
  keep := fun i h h' st k => st.at fun oi e => k it (by simp) oi e
  item := by
    intro X hP hw hK hc i pins s σ H E I hf st hg
    subst hP hw hK
    obtain ⟨hd, hi⟩ := hg
    obtain ⟨f0, f1, f2, f3, f4, f5⟩ := hf it (by simp)
    obtain ⟨hgd, hx, es', ep', hdt, hsz, ent⟩ := frzN I hd
    obtain ⟨rfl, rfl⟩ := dict_ep hod hdt
    obtain ⟨⟨k, b, v⟩, hkv⟩ : ∃ p, xs[i]? = some p := ⟨xs[i], List.getElem?_eq_getElem hi⟩
    have hen : es'[i]? = some (entryOfKey (nestedKind c.prog c.w) (k, b, v)) := by
      rw [← Array.getElem?_toList, ent, List.getElem?_map, hkv]; rfl
    refine next_key_item st hgd hdt hsz hen fun h' st' sb => ?_
    have I1 : Inv X pins σ H { s with heap := h' } := I.turned (t' := s.toks) (fun b ob hb e => (sb.2 b hb).trans e) f0 f1 f3 f4 f5
    obtain ⟨oi, e, c, dd⟩ := id st'
    exact ⟨_, rfl, go_of (s := { s with heap := h' }) e c dd (by decide) ⟨.ref b, H, I1, rfl, ⟨rfl, k, b, v, hkv, rfl⟩, st', fun b hb => (hf b hb).1⟩⟩
  done := by
    intro X hP hw hK hc i pins s σ H E I hf st hg
    subst hP hw hK
    obtain ⟨hd, hi⟩ := hg
    obtain ⟨f0, f1, f2, f3, f4, f5⟩ := hf it (by simp)
    obtain ⟨hgd, hx, es', ep', hdt, hsz, ent⟩ := frzN I hd
    obtain ⟨rfl, rfl⟩ := dict_ep hod hdt
    exact next_key_end (I.ok.hd hc) st hgd hdt hsz hi fun h' eb => ⟨rfl, I.turned (t' := s.toks) (fun b ob hb e => eb b ob hb e) f0 f1 f3 f4 f5⟩
  self := fun A i s Q E st h => by
    refine wpAny_pyIter_slot st.typeIs PySem.F.slot_dict_keyiterator_iter (wpAny_call_entry PySem.F.slot_dict_keyiterator_iter st.typeIs PySem.F.entry_dict_keyiterator_iter ?_ (PySem.F.args_dict_keyiterator_iter_1 _))
    show wpAny _ _ (ret (.ref it)) _ _ s
    exact wpAny_pure ⟨_, rfl, "dict_keyiterator", _, st.typeIs, PySem.F.slot_dict_keyiterator_next.lookup, h⟩
/-- iter(x), as a reading -/
def ItR (X : Cx) (tg : Expr) (r : V → Hp → (L2.It → Hp → Prop) → Prop) : Prop := ∀ (pins : List (Addr × Obj)) (s : Shared) (σ : L2.St) (H : Hp) (x : V) (v : Value) (R : L2.It → Hp → Prop), Inv X pins σ H s → RelV x v → r x H R →
  wpAny (model X.prog X.w) X.A (pyIter v) (PIE X pins σ tg R) X.xe s
theorem pi_itR {e : Expr} {t : TE} {r : V → Hp → (L2.It → Hp → Prop) → Prop} (h : PE X e t) (hr : ItR X tg r) : PI X tg e (fun σ H R => t σ H fun x H1 => r x H1 R) := by
  refine ⟨fun pins s σ H R I q => ?_⟩
  exact thn (h.run pins s σ H _ I q) fun v s1 ⟨x, H1, I1, r1, q1⟩ => hr pins s1 σ H1 x v R I1 r1 q1
/-- what a dict holds, as HandS has it -/
abbrev DQ := List (Key × V) ⊕ XsT
def DQ.ho (c : Nm) (a : Addr) : DQ → HO
  | .inl ks => .dK ks
  | .inr xs => dctO c a xs
def DQ.it (c : Nm) (a : Addr) (o : Obj) : DQ → L2.It
  | .inl ks => Itk a o ks
  | .inr xs => Itn c a o xs
def DQ.fine (a : Addr) : DQ → Prop
  | .inl _ => True
  | .inr _ => (a == sysModules) = false
theorem DQ.noLst {c : Nm} {a : Addr} {q : DQ} : (∀ xs, q.ho c a ≠ .lst xs) ∧ (∀ ob w, q.ho c a ≠ .frz ob w) ∧ ∀ xs, q.ho c a ≠ .tup xs := by
  cases q <;> simp [DQ.ho, dctO]
/-- iter of a list, a tuple, a text, a dict -/
def rWalk (c : Nm) (K : PySem.W.Frag) (x : V) (H : Hp) (R : L2.It → Hp → Prop) : Prop :=
  (∃ a, x = .ref a ∧ ((∃ xs, SqL K H a xs ∧ R (Itl K a) H) ∨ ∃ xs, SqT K H a xs ∧ R (Itt K a) H)) ∨
  (∃ a, ∃ q : DQ, x = .ref a ∧ q.fine a ∧ ((H a = some (q.ho c a) ∧ ∀ o, R (q.it c a o) (upd H a (.frz o (q.ho c a)))) ∨ ∃ o, H a = some (.frz o (q.ho c a)) ∧ R (q.it c a o) H)) ∨
  ∃ t, x = .str t ∧ R (Its t) H
theorem iter_dict {q : DQ} {R : L2.It → Hp → Prop} (I : Inv X pins σ H s) (h : H d = some (.frz o (q.ho c d))) (hu : q.fine d) (hR : R (q.it c d o) H) : wpAny (model X.prog X.w) X.A (pyIter (.ref d)) (PIE X pins σ tg R) X.xe s := by
  cases q with
  | inl ks =>
    obtain ⟨hs, hgd, hx, es, ep, vs, hdt, hsz, kv, hm⟩ := I.frzK h
    refine iter_keys hs hgd hx hdt (pi_one (tk := s.toks) I _ (turn_keys _ hdt) ⟨_, Heap.get?_push_size _ rfl, rfl, ?_⟩ hR)
    rw [hsz] <;> rfl
  | inr xs =>
    obtain ⟨hgd, hx, es, ep, hdt, hsz, ent⟩ := frzN I h
    refine iter_keys hu hgd hx hdt (pi_one (tk := s.toks) I _ (turn_keysN _ hdt) ⟨_, Heap.get?_push_size _ rfl, rfl, ?_⟩ hR)
    rw [hsz] <;> rfl
theorem itR_walk : ItR X tg (rWalk c X.K) := by
  intro pins s1 σ H1 x v R I1 r1 q1
  rcases q1 with ⟨a, rfl, q⟩ | ⟨a, u, rfl, hu, q⟩ | ⟨x, rfl, q⟩
  · cases r1
    rcases q with ⟨xs, hq, q⟩ | ⟨xs, hq, q⟩
    · obtain ⟨its, rv, p, hz⟩ := I1.list hq
      exact wpAny_pyIter_list p.isList (pi_one (tk := s1.toks) I1 _ (turn_list a _) ⟨_, Heap.get?_push_size _ rfl, rfl, rfl⟩ q)
    · obtain ⟨its, rv, p, hz⟩ := I1.tuple hq
      exact wpAny_pyIter_tuple (show s1.heap.IsTuple a its.toArray from p) (pi_one (tk := s1.toks) I1 _ (turn_tuple a _) ⟨_, Heap.get?_push_size _ rfl, rfl, rfl⟩ q)
  · cases r1
    rcases q with ⟨h, q⟩ | ⟨o, h, q⟩
    · have mu : Mut (some (u.ho c a)) := by
        cases u <;> trivial
      obtain ⟨od, I2⟩ := I1.lock h mu
      exact iter_dict I2 upd_same hu (q od)
    · exact iter_dict I1 h hu q
  · obtain ⟨t, rfl⟩ := r1
    cases ha : x.cps.all (· < 128)
    · exact wpAny_pyIter_wide ha (pi_one (tk := s1.toks) I1 _ (turn_str _ x t "str_iterator" (.inr rfl)) ⟨_, Heap.get?_push_size _ rfl, rfl, rfl⟩ q)
    · exact wpAny_pyIter_ascii ha (pi_one (tk := s1.toks) I1 _ (turn_str _ x t "str_ascii_iterator" (.inl rfl)) ⟨_, Heap.get?_push_size _ rfl, rfl, rfl⟩ q)
end
end G

set_option linter.all false
set_option maxRecDepth 100000
set_option maxHeartbeats 1000000
namespace G
open PySem PySem.Spec PyProof.Rows L2
section
variable {c : Nm} {fr fr' : Addr → Prop} {m : List Addr} {H H' : Hp} {ms : Ms} {σ σ' : L2.St} {l : List (Option RV)} {T U : List (V × RV)} {mm : Mem} {W : WX} {X : Cx} {b k : Bool} {wr : List Nat} {tg : Expr}
/-- a name's thing, frozen -/
theorem Run.varM {i : Nat} {K : RV → S → Prop} {XE : Exc → S → Prop} (s : SIg c fr ms σ l T mm H) (h : Run (varM i) ⟨l, mm⟩ K XE) :
    ∃ v x fr' ms' l', l[i]? = some (some x) ∧ σ[i]? = some (some v) ∧ SIg c fr' ms' σ l' T mm H ∧ FR c fr' (mu ms') H x.2 v ∧ K (false, x.2) ⟨l', mm⟩ := by
  unfold G.varM at h
  rw [Run.bind, Run.getS] at h
  obtain ⟨x, e, h⟩ := h
  obtain ⟨v, e1, r⟩ := s.slots i x e
  obtain ⟨o, d⟩ := x
  cases o with
  | false =>
    simp only [Bool.false_eq_true, if_false] at h
    exact ⟨v, _, fr, ms, l, e, e1, s, r, h⟩
  | true =>
    simp only [if_true] at h
    have hi : i < l.length := (List.getElem?_eq_some_iff.mp e).1
    rw [Run.bind, Run.setS] at h
    obtain ⟨fr', ms', s'⟩ := (s.take e1 e).freeze1
    have hF : FR c fr' (mu ms') H d v := s'.temps _ List.mem_cons_self
    have s2 := (s'.push hF).set (i := i)
    have q1 : σ.set i (some v) = σ := by
      apply List.ext_getElem?
      intro j
      by_cases hj : i = j
      · subst hj
        rw [List.getElem?_set_self (by rw [s.len]; exact hi), e1]
      · rw [List.getElem?_set_ne hj]
    have q2 : (l.set i none).set i (some (false, d)) = l.set i (some (false, d)) := by simp
    rw [q1, q2] at s2
    exact ⟨v, _, fr', ms', _, e, e1, s2.pop, s2.temps _ List.mem_cons_self, h.2⟩
theorem seen_eq {u : RV} (h : ∀ j, u.2 ≠ .obj j) : seen u = M.ret u.2 := by
  obtain ⟨o, d⟩ := u
  cases d <;> first | rfl | exact absurd rfl (h _)
theorem seen_obj {o : Bool} {j : Nat} {s : S} {K : D → S → Prop} {XE : Exc → S → Prop} (h : Run (seen (o, .obj j)) s K XE) : ∃ xs, s.m[j]? = some (.lst xs) ∧ K (.lst xs) s := by
  have h : Run (G.memAt j >>= fun o => match o with
      | MO.lst xs => M.ret (D.lst xs)
      | _ => M.stuck) s K XE := h
  rw [Run.bind, Run.memAt] at h
  obtain ⟨o, e, h⟩ := h
  cases o with
  | ins _ _ => exact h.elim
  | lst xs => exact ⟨xs, e, h⟩

/-! walks of things that never change -/
def roots (ds : List D) (vs : List V) : List (V × RV) := vs.zip (ds.map fun d => (false, d))
theorem SIg.pushAll (s : SIg c fr ms σ l T mm H) : ∀ {ds : List D} {vs : List V}, FRs c fr (mu ms) H ds vs → SIg c fr ms σ l (roots ds vs ++ T) mm H
  | [], vs, h => by
    simp only [FRs] at h
    subst h
    exact s
  | d :: ds, vs, h => by
    simp only [FRs] at h
    obtain ⟨v, vs', rfl, h1, h2⟩ := h
    exact (s.pushAll h2).push h1
theorem FRe.keys : ∀ {kvs : List (D × D)} {xs : XsT}, FRe c fr m H kvs xs → FRs c fr m H (kvs.map (·.1)) (xs.map fun x => V.ref x.2.1)
  | [], xs, h => by
    simp only [FRe] at h
    subst h
    simp [FRs]
  | (k, d) :: kvs, xs, h => by
    simp only [FRe] at h
    obtain ⟨b, v, u, xs', rfl, hk, r1, rv, r, z⟩ := h
    simp only [List.map_cons, FRs]
    exact ⟨_, _, rfl, r1, FRe.keys z⟩
theorem FR.ofKey {k : D} {q : Key} (h : keyOf k = some q) : FR c fr m H k (kV q) := by
  rcases keyOf_some h with ⟨i, rfl, rfl⟩ | ⟨x, rfl, rfl⟩
  · simp only [FR]; rfl
  · simp only [FR]; rfl
theorem FRk.keys : ∀ {kvs : List (D × D)} {ks : List (Key × V)}, FRk c fr m H kvs ks → FRs c fr m H (kvs.map (·.1)) (ks.map fun x => kV x.1)
  | [], xs, h => by
    simp only [FRk] at h
    subst h
    simp [FRs]
  | (k, d) :: kvs, xs, h => by
    simp only [FRk] at h
    obtain ⟨q, v, ks', rfl, hk, r, z⟩ := h
    simp only [List.map_cons, FRs]
    exact ⟨_, _, rfl, FR.ofKey hk, FRk.keys z⟩
theorem roots_mem : ∀ {ds : List D} {vs : List V} {i : Nat} {d : D} {v : V}, ds[i]? = some d → vs[i]? = some v → (v, (false, d)) ∈ roots ds vs
  | [], _, _, _, _, h, _ => by simp at h
  | _ :: _, [], _, _, _, _, h => by simp at h
  | d :: ds, v :: vs, 0, _, _, h1, h2 => by
    simp at h1 h2
    subst h1 h2
    exact List.mem_cons_self
  | d :: ds, v :: vs, i + 1, _, _, h1, h2 => List.mem_cons_of_mem _ (roots_mem (ds := ds) (vs := vs) (by simpa using h1) (by simpa using h2))
/-- a walk over things that are held: J goes on as long as the lock is there -/
theorem itok_held {J : L2.It} {ds : List D} {vs : List V} {vv : List Nat} {a : Addr} {o : Obj} {u : HO} (hl : ds.length = vs.length) (hp : (V.ref a, (false, D.pin (.frz o u))) ∈ U) (hr : ∀ r ∈ roots ds vs, r ∈ U)
    (hgo : ∀ i H, H a = some (.frz o u) → i < vs.length → J.go i H) (hst : ∀ i H, H a = some (.frz o u) → vs.length ≤ i → J.stop i H) (hy : ∀ i H x H', J.yld i H x H' → H' = H ∧ vs[i]? = some x) : ItOk c J U vv σ ds (M.ret true) := by
  refine ItOk.le (fun i σ' l T m H K XE si _ h => ⟨true, h, fun _ => ?_⟩)
  obtain ⟨fr, ms, s⟩ := si
  have p := s.temps _ (List.mem_append_left _ hp)
  have p : FR c fr (mu ms) H (D.pin (.frz o u)) (V.ref a) := p
  simp only [FR] at p
  obtain ⟨a', o', w', e1, e2, q⟩ := p
  cases e1
  refine ⟨fun d hd => ?_, fun hz => hst i H q (by omega)⟩
  have hi : i < ds.length := (List.getElem?_eq_some_iff.mp hd).1
  refine ⟨hgo i H q (by omega), fun x H' y => ?_⟩
  obtain ⟨rfl, hx⟩ := hy i H x H' y
  have := s.temps _ (List.mem_append_left _ (hr _ (roots_mem hd hx)))
  exact ⟨fr, ms, s.push this⟩
/-- the dict's walk -/
theorem walk_dict {kvs : List (D × D)} {v : V} {R : L2.It → Hp → Prop} (s : SIg c fr ms σ l T mm H) (r : FR c fr (mu ms) H (.dic kvs) v)
    (hR : ∀ J U H1, SI c σ l (U ++ T) mm H1 → (∀ vv, ItOk c J U vv σ (kvs.map (·.1)) (M.ret true)) → R J H1) : rWalk c c.K v H R := by
  simp only [FR] at r
  obtain ⟨a, rfl, f, r⟩ := r
  have main : ∀ (o : Obj) (q : DQ) (H1 : Hp) (vs : List V), SIg c fr ms σ l T mm H1 → H1 a = some (.frz o (q.ho c a)) → FRs c fr (mu ms) H1 (kvs.map (·.1)) vs →
      (∀ i H, H a = some (.frz o (q.ho c a)) → i < vs.length → (q.it c a o).go i H) → (∀ i H, H a = some (.frz o (q.ho c a)) → vs.length ≤ i → (q.it c a o).stop i H) → (∀ i H x H', (q.it c a o).yld i H x H' → H' = H ∧ vs[i]? = some x) → R (q.it c a o) H1 := by
    intro o u H1 vs s1 hu hv h1 h2 h3
    have hpin : FR c fr (mu ms) H1 (D.pin (.frz o (u.ho c a))) (V.ref a) := by
      simp only [FR]
      exact ⟨a, o, _, rfl, rfl, hu⟩
    have s3 := (s1.pushAll hv).push hpin
    exact hR _ ((V.ref a, (false, D.pin (.frz o (u.ho c a)))) :: roots (kvs.map Prod.fst) vs) H1 ⟨fr, ms, s3⟩ fun vv => itok_held hv.length.symm List.mem_cons_self (fun r hr => List.mem_cons_of_mem _ hr) h1 h2 h3
  have mk : ∀ (o : Obj) (ks : List (Key × V)) (H1 : Hp), SIg c fr ms σ l T mm H1 → H1 a = some (.frz o (.dK ks)) → FRk c fr (mu ms) H1 kvs ks → R (Itk a o ks) H1 := by
    intro o ks H1 s1 hu hk
    refine main o (.inl ks) H1 _ s1 hu hk.keys (fun i H q hi => ⟨q, by simpa using hi⟩) (fun i H q hi => ⟨q, by simpa using hi⟩) ?_
    rintro i H x H' ⟨e, k, v, h1, rfl⟩
    exact ⟨e, by rw [List.getElem?_map, h1]; rfl⟩
  have mn : ∀ (o : Obj) (xs : XsT) (H1 : Hp), SIg c fr ms σ l T mm H1 → H1 a = some (.frz o (dctO c a xs)) → FRe c fr (mu ms) H1 kvs xs → R (Itn c a o xs) H1 := by
    intro o ks H1 s1 hu hk
    refine main o (.inr ks) H1 _ s1 hu hk.keys (fun i H q hi => ⟨q, by simpa using hi⟩) (fun i H q hi => ⟨q, by simpa using hi⟩) ?_
    rintro i H x H' ⟨e, k, b, v, h1, rfl⟩
    exact ⟨e, by rw [List.getElem?_map, h1]; rfl⟩
  rcases r with ⟨ks, q, r⟩ | ⟨xs, q, h1, h2, h3, r⟩
  · rcases q with q | ⟨o, q⟩
    · refine .inr (.inl ⟨a, .inl ks, rfl, trivial, .inl ⟨q, fun o => ?_⟩⟩)
      have nl := DQ.noLst (c := c) (a := a) (q := .inl ks)
      exact mk o ks _ (s.lock q f nl.1 nl.2.1 nl.2.2) upd_same (FRk.still (lock_still (fr := fr) q nl.1 nl.2.1 nl.2.2) (fun _ f => f) _ r)
    · exact .inr (.inl ⟨a, .inl ks, rfl, trivial, .inr ⟨o, q, mk o ks H s q r⟩⟩)
  · rcases q with q | ⟨o, q⟩
    · refine .inr (.inl ⟨a, .inr xs, rfl, h2, .inl ⟨q, fun o => ?_⟩⟩)
      have nl := DQ.noLst (c := c) (a := a) (q := .inr xs)
      exact mn o xs _ (s.lock q f nl.1 nl.2.1 nl.2.2) upd_same (FRe.still (lock_still (fr := fr) q nl.1 nl.2.1 nl.2.2) (fun _ f => f) _ r)
    · exact .inr (.inl ⟨a, .inr xs, rfl, h2, .inr ⟨o, q, mn o xs H s q r⟩⟩)
end
end G

set_option linter.all false
set_option maxRecDepth 100000
set_option maxHeartbeats 1000000
namespace G
open PySem PySem.Spec PyProof.Rows L2
section
variable {c : Nm} {fr fr' : Addr → Prop} {m : List Addr} {H H' : Hp} {ms : Ms} {σ σ' : L2.St} {l : List (Option RV)} {T U : List (V × RV)} {mm : Mem} {W : WX} {X : Cx} {b k : Bool} {wr : List Nat} {tg : Expr} {vv : List Nat}
theorem still_obj {e : E} {o : Bool} {j : Nat} {p : D} {v : V} {K : Bool → S → Prop} {XE : Exc → S → Prop} (s : SIg c fr ms σ l T mm H) (hm : FR c fr (mu ms) H (.obj j) v) (h : Run (still e (o, .obj j) p) ⟨l, mm⟩ K XE) :
    ∃ k, K k ⟨l, mm⟩ ∧ (k = true → RD c fr (mu ms) H p v) := by
  have h : Run (G.memAt j >>= fun o => match o with
      | MO.lst ys => M.ret (D.beq (.lst ys) p)
      | _ => M.ret false) ⟨l, mm⟩ K XE := h
  rw [Run.bind, Run.memAt] at h
  obtain ⟨mo, em, h⟩ := h
  cases mo with
  | ins _ _ => exact ⟨false, h, fun z => nomatch z⟩
  | lst ys =>
    refine ⟨_, h, fun hb => ?_⟩
    have e := beq_eq _ _ hb
    subst e
    exact obj_seen s em hm
theorem still_var {i : Nat} {u : RV} {p : D} {v : V} {K : Bool → S → Prop} {XE : Exc → S → Prop} (s : SIg c fr ms σ l T mm H) (hn : ∀ j, u.2 ≠ .obj j) (hs : σ[i]? = some (some v)) (h : Run (still (.var i) u p) ⟨l, mm⟩ K XE) :
    ∃ k, K k ⟨l, mm⟩ ∧ (k = true → RD c fr (mu ms) H p v) := by
  have h : Run (G.getS i >>= fun v => M.ret (D.beq v.2 p)) ⟨l, mm⟩ K XE := by
    obtain ⟨o, d⟩ := u
    cases d <;> first | exact h | exact absurd rfl (hn _)
  rw [Run.bind, Run.getS] at h
  obtain ⟨x, e2, h⟩ := h
  refine ⟨_, h, fun hb => ?_⟩
  have e := beq_eq _ _ hb
  obtain ⟨v', e1, rt⟩ := s.slots i x e2
  rw [hs] at e1
  cases e1
  rw [← e]
  exact rt.rd
theorem still_held {e : E} {u : RV} {p : D} {v : V} {K : Bool → S → Prop} {XE : Exc → S → Prop} (s : SIg c fr ms σ l T mm H) (he : e.isVar = false) (hm : (v, u) ∈ T) (hp : (∀ j, u.2 ≠ .obj j) → p = u.2) (h : Run (still e u p) ⟨l, mm⟩ K XE) :
    ∃ k, K k ⟨l, mm⟩ ∧ (k = true → RD c fr (mu ms) H p v) := by
  have rt := s.temps _ hm
  obtain ⟨o, d⟩ := u
  by_cases hj : ∃ j, d = .obj j
  · obtain ⟨j, rfl⟩ := hj
    exact still_obj s (FR.obj_root rt) h
  · have hn : ∀ j, d ≠ .obj j := fun j e => hj ⟨j, e⟩
    have h : K true ⟨l, mm⟩ := by
      unfold still at h
      cases d <;> first
        | exact absurd rfl (hn _)
        | (cases e <;> first | exact h | cases he)
    refine ⟨true, h, fun _ => ?_⟩
    rw [hp hn]
    exact rt.rd
theorem itok_seq {p : D} {ds : List D} {a : Addr} {ok : M Bool} (hp : p.seq = some ds)
    (hst : ∀ fr ms σ' l T m H (K : Bool → S → Prop) (XE : Exc → S → Prop), SIg c fr ms σ' l (U ++ T) m H → (∀ j ∈ vv, σ'[j]? = σ[j]?) → Run ok ⟨l, m⟩ K XE → ∃ k, K k ⟨l, m⟩ ∧ (k = true → RD c fr (mu ms) H p (.ref a))) : ItOk c (seqIt c.K p a) U vv σ ds ok := by
  refine ItOk.le (fun i σ' l T m H K XE si hv h => ?_)
  obtain ⟨fr, ms, s⟩ := si
  obtain ⟨k, hk, hr⟩ := hst fr ms σ' l T m H K XE s hv h
  exact ⟨k, hk, fun z => seq_turn s hp (hr z) i⟩
theorem walk_seq {p : D} {ds : List D} {v : V} {R : L2.It → Hp → Prop} (hp : p.seq = some ds) (r : RD c fr m H p v) (hR : ∀ a, v = .ref a → R (seqIt c.K p a) H) : rWalk c c.K v H R := by
  obtain ⟨a, rfl, h⟩ := seq_ref hp r
  have hR := hR a rfl
  rcases h with ⟨rfl, xs, hq⟩ | ⟨rfl, xs, hq⟩
  · exact .inl ⟨a, rfl, .inl ⟨xs, hq, hR⟩⟩
  · exact .inl ⟨a, rfl, .inr ⟨xs, hq, hR⟩⟩
def strD (s : Str) : List D := s.cps.toList.map fun c => D.str ⟨#[c]⟩
theorem walk_str {t : Str} {R : L2.It → Hp → Prop} {v : V} (r : RD c fr m H (.str t) v) (hR : R (Its t) H) : rWalk c c.K v H R := by
  rw [r.str]
  exact .inr (.inr ⟨t, rfl, hR⟩)
theorem itok_str {t : Str} : ItOk c (Its t) U vv σ (strD t) (M.ret true) := by
  refine ItOk.le (fun i σ' l T m H K XE si _ h => ⟨true, h, fun _ => ⟨fun d hd => ?_, fun hz => ?_⟩⟩)
  · unfold strD at hd
    rw [List.getElem?_map] at hd
    have hi : i < t.cps.size := by
      by_cases hi : i < t.cps.size
      · exact hi
      · rw [List.getElem?_eq_none (by simpa using hi)] at hd; cases hd
    refine ⟨hi, ?_⟩
    rintro x H' ⟨rfl, ch, e, rfl⟩
    have e' : t.cps.toList[i]? = some ch := by simpa using e
    rw [e'] at hd
    cases hd
    obtain ⟨fr, ms, s⟩ := si
    exact s.astr _
  · show t.cps.size ≤ i
    unfold strD at hz
    simpa using hz
/-- what a walk does -/
def seqW (e : E) (A : M RV) : M Walk := do
  let u ← A
  let p ← seen u
  match p.seq with
  | some ds => M.ret ⟨ds, still e u p⟩
  | none => match p with
    | .dic kvs => do
      froz e
      M.ret ⟨kvs.map (·.1), M.ret true⟩
    | .str s => if s.length ≤ sizeMax then M.ret ⟨strD s, M.ret true⟩ else M.stuck
    | _ => M.stuck
theorem x_seq_held {e : E} {e' : Expr} {A : M RV} {k1 : Bool} (sm : X.K = c.K) (he : e.isVar = false) (h : PE X e' (tM c W false k1 A)) : PI X tg e' (tI c W vv (seqW e A)) := by
  have h0 := pi_itR (tg := tg) h (itR_walk (c := c))
  refine ⟨fun pins s σ H R I q => h0.run pins s σ H R I ?_⟩
  obtain ⟨l, T, m, si, q⟩ := q
  refine ⟨l, T, m, si, ?_⟩
  unfold seqW at q
  rw [Run.bind] at q
  refine Run.mono q (fun u s1 q => ?_) (fun _ _ z => z)
  intro v H1 aft _
  rw [sm]
  obtain ⟨fr, ms, s1'⟩ : SI c σ s1.l ((v, u) :: T) s1.m H1 := aft
  have rt := s1'.temps _ List.mem_cons_self
  rw [Run.bind] at q
  obtain ⟨o, d⟩ := u
  have seqc : ∀ p ds, p.seq = some ds → RD c fr (mu ms) H1 p v → ((∀ j, d ≠ .obj j) → p = d) → Run (M.ret (⟨ds, still e (o, d) p⟩ : Walk)) s1 (fun w s' => ∀ J U H', SI c σ s'.l (U ++ T) s'.m H' → ItOk c J U vv σ w.ds w.ok → R J H') (ExP c W σ T) → rWalk c c.K v H1 R := by
    intro p ds hp r hd q
    refine walk_seq hp r fun a e1 => ?_
    subst e1
    refine q _ [(.ref a, (o, d))] H1 ⟨fr, ms, s1'⟩ (itok_seq hp fun fr ms σ' l T m H K XE s' _ hst => ?_)
    exact still_held s' he List.mem_cons_self hd hst
  by_cases hj : ∃ j, d = .obj j
  · obtain ⟨j, rfl⟩ := hj
    obtain ⟨xs, em, q⟩ := seen_obj q
    exact seqc (.lst xs) xs rfl (obj_seen s1' em (FR.obj_root rt)) (fun z => absurd rfl (z j)) q
  · have hn : ∀ j, d ≠ .obj j := fun j e => hj ⟨j, e⟩
    rw [seen_eq (u := (o, d)) hn] at q
    have q := q
    rw [Run.ret] at q
    cases hq : d.seq with
    | some ds =>
      simp only [hq] at q
      exact seqc d ds hq rt.rd (fun _ => rfl) q
    | none =>
      simp only [hq] at q
      cases d with
      | dic kvs =>
        obtain ⟨fr2, f2, s2⟩ := s1'.freeze1'
        have hF : FR c fr2 (mu ms) H1 (.dic kvs) v := s2.temps _ List.mem_cons_self
        simp only at q
        have hfz : froz e = M.ret () := by
          cases e <;> first | rfl | cases he
        rw [hfz] at q
        exact walk_dict s2.pop hF fun J U H2 si ok => q J U H2 si (ok vv)
      | str t =>
        simp only at q
        by_cases hz : t.length ≤ sizeMax
        · rw [if_pos hz] at q
          exact walk_str rt.rd (q _ [] H1 ⟨fr, ms, s1'.pop⟩ itok_str)
        · rw [if_neg hz] at q; exact q.elim
      | _ => exact q.elim
theorem x_seq_var {i : Nat} {x : Str} {pos : Pos} (sm : X.K = c.K) (hN : X.N[i]? = some x) (hv : Vis X.env.scope x) (h1 : (x == ("__debug__" : Str)) = false) (h2 : (x == ("__classdict__" : Str)) = false) (hvv : i ∈ vv) :
    PI X tg (.Name x pos) (tI c W vv (seqW (.var i) (do let v ← getS i; M.ret (false, v.2)))) := by
  have h0 := pi_itR (tg := tg) (pe_var (pos := pos) hN hv h1 h2) (itR_walk (c := c))
  refine ⟨fun pins s σ H R I q => h0.run pins s σ H R I ?_⟩
  obtain ⟨l, T, m, si, q⟩ := q
  obtain ⟨fr, ms, s1'⟩ := si
  unfold seqW at q
  rw [Run.bind, Run.bind, Run.getS] at q
  obtain ⟨x0, e0, q⟩ := q
  obtain ⟨v, es, rt⟩ := s1'.slots i x0 e0
  refine ⟨v, es, ?_⟩
  rw [sm]
  rw [Run.ret, Run.bind] at q
  obtain ⟨o, d⟩ := x0
  by_cases hj : ∃ j, d = .obj j
  · obtain ⟨j, rfl⟩ := hj
    have rO := FR.obj_root rt
    obtain ⟨xs, em, q⟩ := seen_obj q
    refine walk_seq (p := .lst xs) rfl (obj_seen s1' em rO) fun a e1 => ?_
    subst e1
    refine q _ [(.ref a, (false, .obj j))] H ⟨fr, ms, s1'.push rO⟩ (itok_seq rfl fun fr ms σ' l T m H K XE s' _ hst => ?_)
    exact still_obj (e := .var i) (o := false) s' (FR.obj_root (s'.temps _ List.mem_cons_self)) hst
  · have hn : ∀ j, d ≠ .obj j := fun j e => hj ⟨j, e⟩
    rw [seen_eq (u := (false, d)) hn] at q
    rw [Run.ret] at q
    cases hq : d.seq with
    | some ds =>
      simp only [hq] at q
      refine walk_seq hq rt.rd fun a e1 => ?_
      subst e1
      refine q _ [] H ⟨fr, ms, s1'⟩ (itok_seq hq fun fr ms σ' l T m H K XE s' hs hst => ?_)
      exact still_var s' hn ((hs i hvv).trans es) hst
    | none =>
      simp only [hq] at q
      cases d with
      | dic kvs =>
        simp only at q
        have q : Run (varM i >>= fun _ => M.ret ()) ⟨l, m⟩ (fun _ s' => Run (M.ret (⟨kvs.map (·.1), M.ret true⟩ : Walk)) s' (fun w s' => ∀ J U H', SI c σ s'.l (U ++ T) s'.m H' → ItOk c J U vv σ w.ds w.ok → R J H') (ExP c W σ T)) (ExP c W σ T) := by
          rw [Run.bind] at q
          exact q
        rw [Run.bind] at q
        obtain ⟨v', x', fr2, ms2, l2, e1, e2, s2, hF, q⟩ := Run.varM s1' q
        rw [es] at e2
        cases e2
        rw [e0] at e1
        cases e1
        exact walk_dict s2 hF fun J U H2 si ok => q J U H2 si (ok vv)
      | str t =>
        simp only at q
        by_cases hz : t.length ≤ sizeMax
        · rw [if_pos hz] at q
          exact walk_str rt.rd (q _ [] H ⟨fr, ms, s1'⟩ itok_str)
        · rw [if_neg hz] at q; exact q.elim
      | _ => exact q.elim
end
end G

set_option linter.all false
set_option maxRecDepth 100000
set_option maxHeartbeats 1000000
namespace G
open PySem PySem.Spec PyProof.Rows L2
section
variable {c : Nm} {fr fr' : Addr → Prop} {m : List Addr} {H H' : Hp} {ms : Ms} {σ σ' : L2.St} {l : List (Option RV)} {T U : List (V × RV)} {mm : Mem} {W : WX} {X : Cx} {b k : Bool} {wr : List Nat} {tg : Expr} {vv : List Nat}
theorem PIimp {e : Expr} {t t' : TI} (h : PI X tg e t) (hi : ∀ σ H R, t' σ H R → t σ H R) : PI X tg e t' := ⟨fun pins s σ H R I q => h.run pins s σ H R I (hi σ H R q)⟩
theorem rangeD_get {lo : Int} {n i : Nat} {d : D} (h : (rangeD lo n)[i]? = some d) : i < n ∧ d = .int (lo + (i : Nat)) := by
  unfold rangeD at h
  rw [List.getElem?_map] at h
  by_cases hi : i < n
  · rw [List.getElem?_eq_getElem (by simpa using hi)] at h
    simp at h
    exact ⟨hi, h.symm⟩
  · rw [List.getElem?_eq_none (by simpa using hi)] at h; cases h
theorem rangeD_len {lo : Int} {n : Nat} : (rangeD lo n).length = n := by simp [rangeD]
theorem itok_range {lo : Int} {n : Nat} : ItOk c (Itr lo n) U vv σ (rangeD lo n) (M.ret true) := by
  refine ItOk.le (fun i σ' l T m H K XE si _ h => ⟨true, h, fun _ => ⟨fun d hd => ?_, fun hz => by rw [rangeD_len] at hz; exact hz⟩⟩)
  obtain ⟨hi, rfl⟩ := rangeD_get hd
  refine ⟨hi, ?_⟩
  rintro x H' ⟨rfl, rfl⟩
  obtain ⟨fr, ms, s⟩ := si
  exact s.aint _
def downD (i : Int) (n : Nat) : List D := (List.range n).map fun (k : Nat) => D.int (i - (k : Nat))
theorem itok_down {lo : Int} {n : Nat} : ItOk c (Itc lo (-1) n) U vv σ (downD lo n) (M.ret true) := by
  refine ItOk.le (fun i σ' l T m H K XE si _ h => ⟨true, h, fun _ => ⟨fun d hd => ?_, fun hz => by show n ≤ i; simpa [downD] using hz⟩⟩)
  unfold downD at hd
  rw [List.getElem?_map] at hd
  by_cases hi : i < n
  · rw [List.getElem?_eq_getElem (by simpa using hi)] at hd
    simp at hd
    subst hd
    refine ⟨hi, ?_⟩
    rintro x H' ⟨rfl, rfl⟩
    obtain ⟨fr, ms, s⟩ := si
    have e : lo + ((i : Nat) : Int) * -1 = lo - (i : Nat) := by omega
    rw [e]
    exact s.aint _
  · rw [List.getElem?_eq_none (by simpa using hi)] at hd; cases hd
variable {a b' d : Expr} {p pos : Pos} {A B C : M RV} {k1 k2 k3 : Bool}
theorem x_range1 (hg : Gl X "range") (hm : X.mg "range" = none) (h : PE X a (tM c W true k1 A)) (hs : starEach [a] X.env = [(false, eval a X.env)]) (hs0 : starEach [a] X.env = (false, eval a X.env) :: starEach [] X.env) :
    PI X tg (.Call (.Name "range" p) [a] [] pos) (tI c W vv (do
      let n ← A
      match n.2 with
      | .int n => if n < 2 ^ 24 ∧ -(2 ^ 62) ≤ n then M.ret ⟨rangeD 0 n.toNat, M.ret true⟩ else M.stuck
      | _ => M.stuck)) := by
  refine PIimp (pi_range1 hg hm (pa_cons h pa_nil hs0) hs) ?_
  rintro σ H R ⟨l, T, m, si, q⟩
  refine ⟨l, T, m, si, ?_⟩
  rw [Run.bind] at q
  refine Run.mono q (fun u s1 q => ?_) (fun _ _ z => z)
  intro v H1 aft _
  obtain ⟨fr, ms, s1', r⟩ := aft.look
  obtain ⟨o, d⟩ := u
  cases d with
  | int n =>
    simp only at q
    by_cases hz : n < 2 ^ 24 ∧ -(2 ^ 62) ≤ n
    · rw [if_pos hz] at q
      rw [r.int]
      exact ⟨n, rfl, by omega, by omega, q _ [] H1 ⟨fr, ms, s1'⟩ itok_range⟩
    · rw [if_neg hz] at q; exact q.elim
  | _ => exact q.elim
theorem SI.top {r : V × RV} (s : SI c σ l (r :: T) mm H) : ∃ fr ms, SIg c fr ms σ l (r :: T) mm H ∧ RD c fr (mu ms) H r.2.2 r.1 := let ⟨fr, ms, s⟩ := s; ⟨fr, ms, s, (s.temps _ List.mem_cons_self).rd⟩
theorem x_range2 (hg : Gl X "range") (hm : X.mg "range" = none) (ha : PE X a (tM c W false k1 A)) (hb : PE X b' (tM c W false k2 B)) (hs : starEach [a, b'] X.env = [(false, eval a X.env), (false, eval b' X.env)]) (hs2 : starEach [b'] X.env = [(false, eval b' X.env)])
    (hs0 : starEach [a, b'] X.env = (false, eval a X.env) :: starEach [b'] X.env) (hs1 : starEach [b'] X.env = (false, eval b' X.env) :: starEach [] X.env) :
    PI X tg (.Call (.Name "range" p) [a, b'] [] pos) (tI c W vv (do
      let i ← A
      let j ← B
      match i.2, j.2 with
      | .int i, .int j => if -(2 ^ 62) ≤ i ∧ i < 2 ^ 62 ∧ -(2 ^ 62) ≤ j ∧ j < 2 ^ 62 then M.ret ⟨rangeD i (j - i).toNat, M.ret true⟩ else M.stuck
      | _, _ => M.stuck)) := by
  refine PIimp (pi_range2 hg hm (pa_cons ha (pa_cons hb pa_nil hs1) hs0) hs hs2) ?_
  rintro σ H R ⟨l, T, m, si, q⟩
  refine ⟨l, T, m, si, ?_⟩
  rw [Run.bind] at q
  refine Run.mono q (fun u s1 q => ?_) (fun _ _ z => z)
  intro v H1 aft _
  refine ⟨s1.l, (v, u) :: T, s1.m, aft, ?_⟩
  rw [Run.bind] at q
  refine Run.mono q (fun u2 s2 q => ?_) (fun _ _ z => z.pop)
  intro v2 H2 aft2 _
  obtain ⟨fr, ms, s2', r2⟩ := SI.top aft2
  have r1 := (s2'.temps (v, u) (by simp)).rd
  obtain ⟨o, d⟩ := u
  obtain ⟨o2, d2⟩ := u2
  cases d with
  | int i =>
    cases d2 with
    | int j =>
      simp only at q
      split at q
      · rename_i hz
        rw [show v = .int i from r1.int, show v2 = .int j from r2.int]
        exact ⟨i, j, rfl, hz, q _ [] H2 ⟨fr, ms, s2'.pop.pop⟩ itok_range⟩
      · exact q.elim
    | _ => exact q.elim
  | _ => exact q.elim
theorem x_range3 (hg : Gl X "range") (hm : X.mg "range" = none) (ha : PE X a (tM c W false k1 A)) (hb : PE X b' (tM c W false k2 B)) (hd : PE X d (tM c W false k3 C))
    (hs0 : starEach [a, b', d] X.env = (false, eval a X.env) :: starEach [b', d] X.env) (hs1 : starEach [b', d] X.env = (false, eval b' X.env) :: starEach [d] X.env) (hs2 : starEach [d] X.env = (false, eval d X.env) :: starEach [] X.env) (hpl : (backTo pos (starEach [b', d] X.env)).any (·.1) = false) :
    PI X tg (.Call (.Name "range" p) [a, b', d] [] pos) (tI c W vv (do
      let i ← A
      let j ← B
      let k ← C
      match i.2, j.2, k.2 with
      | .int i, .int j, .int k => if k = -1 ∧ -(2 ^ 62) ≤ i ∧ i < 2 ^ 62 ∧ -(2 ^ 62) ≤ j ∧ j < 2 ^ 62 then M.ret ⟨downD i (i - j).toNat, M.ret true⟩ else M.stuck
      | _, _, _ => M.stuck)) := by
  refine PIimp (pi_range3 hg hm (pa_cons ha (pa_cons hb (pa_cons hd pa_nil hs2) hs1) hs0) hs0 hpl) ?_
  rintro σ H R ⟨l, T, m, si, q⟩
  refine ⟨l, T, m, si, ?_⟩
  rw [Run.bind] at q
  refine Run.mono q (fun u s1 q => ?_) (fun _ _ z => z)
  intro v H1 aft _
  refine ⟨s1.l, (v, u) :: T, s1.m, aft, ?_⟩
  rw [Run.bind] at q
  refine Run.mono q (fun u2 s2 q => ?_) (fun _ _ z => z.pop)
  intro v2 H2 aft2 _
  refine ⟨s2.l, (v2, u2) :: (v, u) :: T, s2.m, aft2, ?_⟩
  rw [Run.bind] at q
  refine Run.mono q (fun u3 s3 q => ?_) (fun _ _ z => z.pop.pop)
  intro v3 H3 aft3 _
  obtain ⟨fr, ms, s3', r3⟩ := SI.top aft3
  have r1 := (s3'.temps (v, u) (by simp)).rd
  have r2 := (s3'.temps (v2, u2) (by simp)).rd
  obtain ⟨o, d⟩ := u
  obtain ⟨o2, d2⟩ := u2
  obtain ⟨o3, d3⟩ := u3
  cases d with
  | int i =>
    cases d2 with
    | int j =>
      cases d3 with
      | int k =>
        simp only at q
        split at q
        · rename_i hz
          obtain ⟨rfl, z1, z2, z3, z4⟩ := hz
          rw [show v = .int i from r1.int, show v2 = .int j from r2.int, show v3 = .int (-1) from r3.int]
          exact ⟨i, j, -1, _, rfl, RgC.neg z1 z2 z3 z4, q _ [] H3 ⟨fr, ms, s3'.pop.pop.pop⟩ itok_down⟩
        · exact q.elim
      | _ => exact q.elim
    | _ => exact q.elim
  | _ => exact q.elim
end
end G

set_option linter.all false
set_option maxRecDepth 100000
set_option maxHeartbeats 1000000
namespace G
open PySem PySem.Spec PyProof.Rows L2
/-- a list (false), a tuple (true) -/
def SqB (K : PySem.W.Frag) (b : Bool) (H : Hp) (a : Addr) (xs : List V) : Prop := if b then SqT K H a xs else SqL K H a xs
def isIt (b : Bool) (h : Heap) (it a : Addr) (i : Nat) : Prop := if b then h.IsTupleIter it a i else h.IsListIter it a i
def isSq (b : Bool) (h : Heap) (a : Addr) (its : Array Value) : Prop := if b then h.IsTuple a its else h.IsList a its
def itObj (b : Bool) (a : Addr) : Obj := if b then { cls := .type "tuple_iterator", data := .fields #[.ref a, .int 0 0] } else { cls := .type "list_iterator", data := .fields #[.ref a, .int 0 0] }
section
variable {prog : Program} {w : World} {A : Around} {X : Cx} {pins : List (Addr × Obj)} {s : Shared} {σ : L2.St} {H : Hp} {a a' : Addr} {b b' : Bool}
theorem draws_sq (hh : A.handled = none) (it : Addr) (hne : a ≠ it) (items : Array Value) : Draws prog w A it [it, a] items.size (fun i v => items[i]? = some v) (fun i h => isIt b h it a i ∧ isSq b h a items) := by
  cases b
  · exact Draws.list hh it a hne items
  · exact Draws.tuple hh it a hne items
theorem begins_sq (items : Array Value) : Begins (.ref a) (itObj b a) fun h => isSq b h a items := by
  cases b
  · exact begins_list a items
  · exact begins_tuple a items
theorem inv_sq {xs : List V} (I : Inv X pins σ H s) (q : SqB X.K b H a xs) : ∃ its, Vals xs its ∧ isSq b s.heap a its.toArray ∧ xs.length ≤ sizeLine := by
  cases b
  · obtain ⟨its, rv, p, hz⟩ := I.list q
    exact ⟨its, rv, p.isList, hz⟩
  · obtain ⟨its, rv, p, hz⟩ := I.tuple q
    exact ⟨its, rv, p, hz⟩
theorem sq_inj {xs ys : List V} (I : Inv X pins σ H s) (q : SqB X.K b H a xs) (q' : SqB X.K b H a ys) : xs = ys := by
  cases b
  · exact I.list_inj q q'
  · exact I.tuple_inj q q'
theorem isIt.obj {it : Addr} {i : Nat} {h : Heap} (q : isIt b h it a i) : ∃ o, h.get? it = some o ∧ ∀ v, o.data ≠ .cell v := by
  cases b
  · obtain ⟨o, e, c, d⟩ := q
    exact ⟨o, e, fun v z => by rw [d] at z; cases z⟩
  · obtain ⟨o, e, c, d⟩ := q
    exact ⟨o, e, fun v z => by rw [d] at z; cases z⟩
theorem isIt.at {it : Addr} {i : Nat} {h h' : Heap} (q : isIt b h it a i) (k : ∀ o, h.get? it = some o → h'.get? it = some o) : isIt b h' it a i := by
  cases b
  · exact Heap.IsListIter.at q k
  · exact Heap.IsTupleIter.at q k
theorem isIt.new {it : Addr} {h : Heap} (e : h.get? it = some (itObj b a)) : isIt b h it a 0 := by
  cases b
  · exact ⟨_, e, rfl, rfl⟩
  · exact ⟨_, e, rfl, rfl⟩
theorem isSq.lt {its : Array Value} {h : Heap} (q : isSq b h a its) : a < h.objs.size := by
  cases b
  · obtain ⟨o, e, _⟩ := q; exact Heap.lt_size e
  · obtain ⟨o, e, _⟩ := q; exact Heap.lt_size e

/-- a walk that yields new tuples, told by WalksT as it stands at each turn -/
theorem turn_pair {P : Program} {w : World} {K : PySem.W.Frag} {elts : List Expr} {kk : Nat} {tpos : Pos} {J : L2.It} {fp wr : List Addr} {it : Addr} {tn : Nat → Heap → Prop} (mem : it ∈ fp) (sub : ∀ b ∈ wr, b ∈ fp)
    (obj : ∀ i h, tn i h → ∀ b ∈ fp, ∃ o, h.get? b = some o ∧ ∀ v, o.data ≠ .cell v) (keep : ∀ i h h', tn i h → (∀ b ∈ fp, ∀ o, h.get? b = some o → h'.get? b = some o) → tn i h')
    (item : ∀ (X : Cx), X.prog = P → X.w = w → X.K = K → X.calm = true → ∀ i pins s σ H, Inv X pins σ H s → tn i s.heap → J.go i H → ∃ fp2 n Pt St Mid, WalksT X.prog X.w X.A it fp2 wr n Pt St Mid ∧ (∀ j T h, Mid j T h → PlainT h T) ∧ i < n ∧ St i s.heap ∧ (∀ h', St (i + 1) h' → tn (i + 1) h') ∧
      ∀ vals, Pt i vals → ∃ vs, Vals vs vals.toList ∧ vs.length ≤ sizeLine ∧ ∀ (T : Addr) (o : Obj), H T = none → o.dict = none → J.yld i H (.ref T) (upd H T (.frz o (.tup vs))))
    (done : ∀ (X : Cx), X.prog = P → X.w = w → X.K = K → X.calm = true → ∀ i pins s σ H, Inv X pins σ H s → tn i s.heap → J.stop i H → ∃ fp2 n Pt St Mid, WalksT X.prog X.w X.A it fp2 wr n Pt St Mid ∧ St n s.heap)
    (self : ∀ (A : Around) (i : Nat) (s : Shared) (Q : Value → Shared → Prop) (E : Value → Shared → Prop), tn i s.heap → Q (.ref it) s → wpAny (model P w) A (pyIter (.ref it)) Q E s) :
    Turn P w K (.Tuple elts kk tpos) J fp it tn where
  mem := mem
  obj := obj
  keep := keep
  item := by
    intro X hP hw hK hc i pins s σ H E I hf st hg
    obtain ⟨fp2, n, Pt, St, Mid, Wk, hPl, hi, hs, hn, hy⟩ := item X hP hw hK hc i pins s σ H I st hg
    subst hP hw hK
    refine Wk.item i s _ _ hi hs fun T vals h' tk hp hle ht hm kp => ?_
    refine ⟨_, rfl, Wk.go elts kk tpos i T { s with heap := h', toks := tk } _ _ hm fun h'' hs2 kp2 => ?_⟩
    obtain ⟨vs, hv, hz, hy⟩ := hy vals hp
    have ht2 : h''.IsTuple T vals := ht.at fun o e => kp2 T o (Wk.apart i T h' hm) e
    obtain ⟨ot, hot, hod⟩ := hPl i T h' hm
    have hot2 : h''.get? T = some ot := kp2 T ot (Wk.apart i T h' hm) hot
    have new : ObjOk X.prog X.w (upd H T (.frz ot (.tup vs))) h'' T (.frz ot (.tup vs)) := ⟨hot2, hz, vals.toList, hv, by
      show h''.IsTuple T vals.toList.toArray
      simpa using ht2⟩
    have hT : H T = none := I.hok.fresh hle
    have hf' : ∀ b ∈ wr, FpOk X pins H b := fun b hb => hf b (sub b hb)
    refine ⟨.ref T, _, I.turnedNew (t' := tk) (ch := wr) (fun b o hb e => kp2 b o hb (kp b o hb e)) hf' hle new, rfl, hy T ot hT hod, hn h'' hs2, fun b hb => ?_⟩
    obtain ⟨o, e, _⟩ := obj i s.heap st b hb
    rw [upd_ne (Nat.ne_of_lt (Nat.lt_of_lt_of_le (Heap.lt_size e) hle))]
    exact (hf b hb).1
  done := by
    intro X hP hw hK hc i pins s σ H E I hf st hg
    obtain ⟨fp2, n, Pt, St, Mid, Wk, hs⟩ := done X hP hw hK hc i pins s σ H I st hg
    subst hP hw hK
    exact Wk.done s _ _ hs fun h' tk kp => ⟨rfl, I.turnedL (t' := tk) (ch := wr) kp fun b hb => hf b (sub b hb)⟩
  self := self

/-! ### zip, enumerate -/
def ItzB (K : PySem.W.Frag) (b b' : Bool) (a a' : Addr) : L2.It :=
  ⟨fun i H => ∃ (xs ys : List V), SqB K b H a xs ∧ SqB K b' H a' ys ∧ i < xs.length ∧ i < ys.length,
    fun i H v H' => ∃ (T : Addr) (o : Obj) (x y : V), v = .ref T ∧ H T = none ∧ o.dict = none ∧ H' = upd H T (.frz o (.tup [x, y])) ∧ (∀ xs, SqB K b H a xs → xs[i]? = some x) ∧ ∀ ys, SqB K b' H a' ys → ys[i]? = some y,
    fun i H => ∃ (xs ys : List V), SqB K b H a xs ∧ SqB K b' H a' ys ∧ i = min xs.length ys.length⟩
def IteB (K : PySem.W.Frag) (b : Bool) (a : Addr) : L2.It :=
  ⟨fun i H => ∃ (xs : List V), SqB K b H a xs ∧ i < xs.length,
    fun i H v H' => ∃ (T : Addr) (o : Obj) (x : V), v = .ref T ∧ H T = none ∧ o.dict = none ∧ H' = upd H T (.frz o (.tup [.int (i : Nat), x])) ∧ ∀ xs, SqB K b H a xs → xs[i]? = some x,
    fun i H => ∃ (xs : List V), SqB K b H a xs ∧ i = xs.length⟩
theorem vals_at {xs : List V} {its : List Value} (rv : Vals xs its) {i : Nat} {v : Value} (h : its.toArray[i]? = some v) : ∃ x, xs[i]? = some x ∧ RelV x v := by
  have h : its[i]? = some v := by simpa using h
  have hi : i < xs.length := by
    rw [rv.length]; exact (List.getElem?_eq_some_iff.mp h).1
  obtain ⟨u, hu, ru⟩ := rv.get (x := xs[i]) (i := i) (by simp [hi])
  rw [h] at hu
  cases hu
  exact ⟨xs[i], by simp [hi], ru⟩
theorem zip_sepA {N a a' : Addr} (h1 : a < N) (h2 : a' < N) : ZipSep2 (N + 4) (N + 2) (N + 3) N (N + 1) [N, a] [N + 1, a'] :=
  zip_sep2 (fp1 := [a]) (fp2 := [a']) (fun b hb => by rw [List.mem_singleton.mp hb]; exact h1) (fun b hb => by rw [List.mem_singleton.mp hb]; exact h2)
theorem turn_zipB {P : Program} {w : World} {K : PySem.W.Frag} {elts : List Expr} {kk : Nat} {tpos : Pos} {z TI TO i1 i2 : Addr} (S : ZipSep2 z TI TO i1 i2 [i1, a] [i2, a']) (n1 : a ≠ i1) (n2 : a' ≠ i2) :
    Turn P w K (.Tuple elts kk tpos) (ItzB K b b' a a') [z, TI, TO, i1, i2] z (fun i h => IsZip h z TI TO .none ∧ IsTupOf2 h TI (.ref i1) (.ref i2) ∧ (∃ x y, IsTupOf2 h TO x y) ∧ isIt b h i1 a i ∧ isIt b' h i2 a' i) := by
  refine turn_pair (wr := [z, TO, i1, i2]) (by simp) (by simp) (fun i h st c hc => ?_) (fun i h h' st k => ?_) ?_ ?_ fun A i s Q E st h => wpAny_pyIter_zip st.1 h
  · obtain ⟨hz, hTI, ⟨x, y, hTO⟩, h1, h2⟩ := st
    have e' : c = z ∨ c = TI ∨ c = TO ∨ c = i1 ∨ c = i2 := by simpa using hc
    rcases e' with q | q | q | q | q
    · rw [q]; exact ⟨_, hz, fun v q => nomatch q⟩
    · rw [q]; exact ⟨_, hTI, fun v q => nomatch q⟩
    · rw [q]; exact ⟨_, hTO, fun v q => nomatch q⟩
    · rw [q]; exact h1.obj
    · rw [q]; exact h2.obj
  · obtain ⟨hz, hTI, ⟨x, y, hTO⟩, h1, h2⟩ := st
    exact ⟨k z (by simp) _ hz, k TI (by simp) _ hTI, ⟨x, y, k TO (by simp) _ hTO⟩, h1.at fun o q => k i1 (by simp) o q, h2.at fun o q => k i2 (by simp) o q⟩
  · intro X hP hw hK hc i pins s σ H I st hg
    subst hP hw hK
    obtain ⟨hz, hTI, hTO, h1, h2⟩ := st
    obtain ⟨xs, ys, hqx, hqy, hx, hy⟩ := hg
    obtain ⟨its, rv, p, _⟩ := inv_sq I hqx
    obtain ⟨its2, rv2, p2, _⟩ := inv_sq I hqy
    have hh : X.A.handled = none := I.ok.hd hc
    refine ⟨_, _, _, _, _, WalksT.zipN S (draws_sq (prog := X.prog) (w := X.w) (A := X.A.in1) (b := b) hh i1 n1 its.toArray) (draws_sq (prog := X.prog) (w := X.w) (A := X.A.in1) (b := b') hh i2 n2 its2.toArray), fun _ _ _ q => q.2, ?_, ⟨hz, hTI, hTO, ⟨h1, p⟩, ⟨h2, p2⟩⟩, fun h' q => ⟨q.1, q.2.1, q.2.2.1, q.2.2.2.1.1, q.2.2.2.2.1⟩, ?_⟩
    · have := rv.length
      have := rv2.length
      simp only [List.size_toArray]
      omega
    · rintro vals ⟨v1, v2, e1, e2, rfl⟩
      obtain ⟨x, hx, rx⟩ := vals_at rv e1
      obtain ⟨y, hy, ry⟩ := vals_at rv2 e2
      refine ⟨[x, y], .cons rx (.cons ry .nil), by show 2 ≤ sizeLine; decide, fun T o hT ho => ⟨T, o, x, y, rfl, hT, ho, rfl, fun zs q => ?_, fun zs q => ?_⟩⟩
      · rw [sq_inj I q hqx]; exact hx
      · rw [sq_inj I q hqy]; exact hy
  · intro X hP hw hK hc i pins s σ H I st hg
    subst hP hw hK
    obtain ⟨hz, hTI, hTO, h1, h2⟩ := st
    obtain ⟨xs, ys, hqx, hqy, hi⟩ := hg
    obtain ⟨its, rv, p, _⟩ := inv_sq I hqx
    obtain ⟨its2, rv2, p2, _⟩ := inv_sq I hqy
    have hh : X.A.handled = none := I.ok.hd hc
    have e : i = min its.toArray.size its2.toArray.size := by
      simp only [List.size_toArray, ← rv.length, ← rv2.length]; exact hi
    subst e
    exact ⟨_, _, _, _, _, WalksT.zipN S (draws_sq (prog := X.prog) (w := X.w) (A := X.A.in1) (b := b) hh i1 n1 its.toArray) (draws_sq (prog := X.prog) (w := X.w) (A := X.A.in1) (b := b') hh i2 n2 its2.toArray), ⟨hz, hTI, hTO, ⟨h1, p⟩, ⟨h2, p2⟩⟩⟩
theorem turn_enumB {P : Program} {w : World} {K : PySem.W.Frag} {elts : List Expr} {kk : Nat} {tpos : Pos} {e it : Addr} (hei : e ≠ it) (hef : e ∉ [it, a]) (n1 : a ≠ it) :
    Turn P w K (.Tuple elts kk tpos) (IteB K b a) [e, it] e (fun i h => (∃ old, IsEnum h e it ((i : Nat) : Int) old) ∧ isIt b h it a i) := by
  refine turn_pair (wr := [e, it]) (by simp) (by simp) (fun i h st c hc => ?_) (fun i h h' st k => ?_) ?_ ?_ fun A i s Q E st h => let ⟨⟨_, he⟩, _⟩ := st; wpAny_pyIter_enum he h
  · obtain ⟨⟨old, he⟩, h1⟩ := st
    have e' : c = e ∨ c = it := by simpa using hc
    rcases e' with q | q
    · rw [q]; exact ⟨_, he, fun v q => nomatch q⟩
    · rw [q]; exact h1.obj
  · obtain ⟨⟨old, he⟩, h1⟩ := st
    exact ⟨⟨old, k e (by simp) _ he⟩, h1.at fun o q => k it (by simp) o q⟩
  · intro X hP hw hK hc i pins s σ H I st hg
    subst hP hw hK
    obtain ⟨⟨old, he⟩, h1⟩ := st
    obtain ⟨xs, hqx, hx⟩ := hg
    obtain ⟨its, rv, p, _⟩ := inv_sq I hqx
    have hh : X.A.handled = none := I.ok.hd hc
    refine ⟨_, _, _, _, _, WalksT.enumN (draws_sq (prog := X.prog) (w := X.w) (A := X.A.in1) (b := b) hh it n1 its.toArray) e hei hef (by simp), fun _ _ _ q => q.2, ?_, ⟨⟨old, he⟩, ⟨h1, p⟩⟩, fun h' q => ⟨q.1, q.2.1⟩, ?_⟩
    · have := rv.length
      simp only [List.size_toArray]
      omega
    · rintro vals ⟨t, v1, e1, rfl⟩
      obtain ⟨x, hx, rx⟩ := vals_at rv e1
      refine ⟨[.int (i : Nat), x], .cons ⟨_, rfl⟩ (.cons rx .nil), by show 2 ≤ sizeLine; decide, fun T o hT ho => ⟨T, o, x, rfl, hT, ho, rfl, fun zs q => ?_⟩⟩
      rw [sq_inj I q hqx]; exact hx
  · intro X hP hw hK hc i pins s σ H I st hg
    subst hP hw hK
    obtain ⟨⟨old, he⟩, h1⟩ := st
    obtain ⟨xs, hqx, hi⟩ := hg
    obtain ⟨its, rv, p, _⟩ := inv_sq I hqx
    have hh : X.A.handled = none := I.ok.hd hc
    have e : i = its.toArray.size := by
      simp only [List.size_toArray, ← rv.length]; exact hi
    subst e
    exact ⟨_, _, _, _, _, WalksT.enumN (draws_sq (prog := X.prog) (w := X.w) (A := X.A.in1) (b := b) hh it n1 its.toArray) _ hei hef (by simp), ⟨⟨old, he⟩, ⟨h1, p⟩⟩⟩

/-! they begin -/
set_option maxHeartbeats 1000000 in
theorem meets_enumerate_newB1 {v : Value} {o : Obj} {H : Heap → Prop} (B : Begins v o H) :
    Meets (Builtin.«enumerate.__new__» ⟨[.type "enumerate", v], []⟩) (fun _ R s => H s.heap ∧
      R (.ok (.ret (.ref (s.heap.push o).objs.size))) { s with heap := (s.heap.push o).push { cls := .type "enumerate", data := .fields #[.none, .bool false, .ref s.heap.objs.size, rawInt 0, .none, .none] } }) :=
  .of_wp fun prog w A R s h => by
    obtain ⟨hp, g, d, tk, os⟩ := s; obtain ⟨h1, h⟩ := h
    have hsub := sub_enumerate
    have q1 : ∀ {A' : Around} {E : Value → Shared → Prop} {Q : Value → Shared → Prop}, Q (.ref hp.objs.size) ⟨hp.push o, g, d, tk, os⟩ → wpAny (model prog w) A' (pyIter v) Q E ⟨hp, g, d, tk, os⟩ :=
      fun q => B.iter prog w _ _ ⟨hp, g, d, tk, os⟩ _ h1 q
    wp_walk using q1
    refine wpAny_stack_any fun st => wpAny_pure ?_
    split
    · rename_i c _ _ _ _ _
      cases (c == Value.type "enumerate")
      · wp_walk using q1
        exact ⟨_, rfl, h⟩
      · wp_walk using q1
        exact ⟨_, rfl, h⟩
    · wp_walk using q1
      exact ⟨_, rfl, h⟩
theorem enum_begins1 {E : Value → Shared → Prop} {v : Value} {o : Obj} {H : Heap → Prop} {Q : Value → Shared → Prop} (B : Begins v o H) (h1 : H s.heap)
    (h : ∀ h', IsEnum h' (s.heap.objs.size + 1) s.heap.objs.size 0 .none → h'.get? s.heap.objs.size = some o → h'.objs.size = s.heap.objs.size + 2 →
      (∀ b o, s.heap.get? b = some o → h'.get? b = some o) → Q (.ref (s.heap.objs.size + 1)) { s with heap := h' }) :
    wpAny (model prog w) A (call (.type "enumerate") [v]) Q E s := by
  refine callType_new PySem.F.called_enumerate (by decide) (PySem.F.typeCall_enumerate_1 _) (PySem.F.newCall_enumerate_1 _) (fun obj => PySem.F.args_object_init_2 obj _) PySem.F.entry_enumerate_new
    (meets_enumerate_newB1 B) ⟨h1, ?_⟩
  have hz : (s.heap.push o).objs.size = s.heap.objs.size + 1 := Heap.size_push ..
  show _ ∧ _
  rw [hz]
  have he : IsEnum ((s.heap.push o).push { cls := .type "enumerate", data := .fields #[.none, .bool false, .ref s.heap.objs.size, rawInt 0, .none, .none] }) (s.heap.objs.size + 1) s.heap.objs.size 0 .none := by
    have := Heap.get?_push_size (s.heap.push o) (o := { cls := .type "enumerate", data := .fields #[.none, .bool false, .ref s.heap.objs.size, rawInt 0, .none, .none] }) rfl
    rw [hz] at this; exact this
  refine ⟨⟨_, he, rfl⟩, h _ he (Heap.get?_push_of_some _ (Heap.get?_push_size _ B.free)) (by rw [Heap.size_push, hz]) fun b o x => Heap.get?_push_of_some _ (Heap.get?_push_of_some _ x)⟩
def iEnumB (K : PySem.W.Frag) (ta : TA) : TI := fun σ H R => ta σ H fun vs H1 => ∃ a b xs, vs = [.ref a] ∧ SqB K b H1 a xs ∧ R (IteB K b a) H1
theorem pi_enumB {e : Expr} {ta : TA} {p pos tpos : Pos} {elts : List Expr} {kk : Nat} (hg : Gl X "enumerate") (hm : X.mg "enumerate" = none) (ha : PA X [e] ta) (hs : starEach [e] X.env = [(false, eval e X.env)]) :
    PI X (.Tuple elts kk tpos) (.Call (.Name "enumerate" p) [e] [] pos) (iEnumB X.K ta) := by
  refine ⟨fun pins s σ H R I h => ?_⟩
  refine Call_ (ld_blt I hg hm boot_enumerate (PyProof.Rows.callWith_type1 (thn (ha.run pos pins s σ H _ I h) fun us s1 ⟨vs, H1, I1, r1, q1⟩ => ?_) hs rfl))
  obtain ⟨a, b, xs, ex, hq, q⟩ := q1
  subst ex
  cases r1 with
  | cons r rr =>
    cases rr
    cases r
    obtain ⟨its, rv, p', hz⟩ := inv_sq I1 hq
    have hlt := p'.lt
    refine enum_begins1 (begins_sq (b := b) its.toArray) p' fun h' he hit hsz hk => wpAny_pyIter_enum he ?_
    have I2 : Inv X pins σ H1 { s1 with heap := h' } := I1.kept (t' := s1.toks) hk
    refine ⟨s1.heap.objs.size + 1, [s1.heap.objs.size + 1, s1.heap.objs.size], _, _, H1, rfl, I2, turn_enumB (b := b) (a := a) (Nat.succ_ne_self _) ?_ (Nat.ne_of_lt hlt), ⟨⟨.none, he⟩, isIt.new hit⟩, fun b hb => ?_, q⟩
    · intro hm
      have e' : s1.heap.objs.size + 1 = s1.heap.objs.size ∨ s1.heap.objs.size + 1 = a := by simpa using hm
      have hlt' : a < s1.heap.objs.size := hlt
      rcases e' with z | z
      · exact absurd z (Nat.succ_ne_self _)
      · exact absurd hlt' (by rw [← z]; exact Nat.not_lt.mpr (Nat.le_succ _))
    · have e' : b = s1.heap.objs.size + 1 ∨ b = s1.heap.objs.size := by simpa using hb
      have hle : s1.heap.objs.size ≤ b := by
        rcases e' with z | z
        · rw [z]; exact Nat.le_add_right _ _
        · rw [z]; exact Nat.le_refl _
      exact I1.fpOk hle (I1.hok.fresh hle)
def iZipB (K : PySem.W.Frag) (ta : TA) : TI := fun σ H R => ta σ H fun vs H1 => ∃ a a' b b' xs ys, vs = [.ref a, .ref a'] ∧ SqB K b H1 a xs ∧ SqB K b' H1 a' ys ∧ R (ItzB K b b' a a') H1
theorem pi_zipB {e e2 : Expr} {ta : TA} {p pos tpos : Pos} {elts : List Expr} {kk : Nat} (hg : Gl X "zip") (hm : X.mg "zip" = none) (ha : PA X [e, e2] ta)
    (hs : starEach [e, e2] X.env = (false, eval e X.env) :: starEach [e2] X.env) (hpl : (backTo pos (starEach [e2] X.env)).any (·.1) = false) :
    PI X (.Tuple elts kk tpos) (.Call (.Name "zip" p) [e, e2] [] pos) (iZipB X.K ta) := by
  refine ⟨fun pins s σ H R I h => ?_⟩
  refine Call_ (ld_blt I hg hm PyProof.Rows.boot_zip (PyProof.Rows.callWith_type1 (thn (ha.run pos pins s σ H _ I h) fun us s1 ⟨vs, H1, I1, r1, q1⟩ => ?_) hs hpl))
  obtain ⟨a, a', b, b', xs, ys, ex, hqx, hqy, q⟩ := q1
  subst ex
  cases r1 with
  | cons r rr =>
    cases rr with
    | cons r' rr =>
      cases rr
      cases r
      cases r'
      obtain ⟨its, rv, p1, _⟩ := inv_sq I1 hqx
      obtain ⟨its2, rv2, p2, _⟩ := inv_sq I1 hqy
      have l1 := p1.lt
      have l2 := p2.lt
      refine zip_begins2 (begins_sq (b := b) its.toArray) (begins_sq (b := b') its2.toArray) p1 p2 fun h' hz hTI hTO h1 h2 hsz hk => wpAny_pyIter_zip hz ?_
      have I2 : Inv X pins σ H1 { s1 with heap := h' } := I1.kept (t' := s1.toks) hk
      refine ⟨s1.heap.objs.size + 4, [s1.heap.objs.size + 4, s1.heap.objs.size + 2, s1.heap.objs.size + 3, s1.heap.objs.size, s1.heap.objs.size + 1], _, _, H1, rfl, I2, turn_zipB (b := b) (b' := b') (zip_sepA l1 l2) (Nat.ne_of_lt l1) (Nat.ne_of_lt (Nat.lt_succ_of_lt l2)), ⟨hz, hTI, ⟨_, _, hTO⟩, isIt.new h1, isIt.new h2⟩, fun c hcm => ?_, q⟩
      have e' : c = s1.heap.objs.size + 4 ∨ c = s1.heap.objs.size + 2 ∨ c = s1.heap.objs.size + 3 ∨ c = s1.heap.objs.size ∨ c = s1.heap.objs.size + 1 := by simpa using hcm
      have hle : s1.heap.objs.size ≤ c := by
        rcases e' with z | z | z | z | z
        · rw [z]; exact Nat.le_add_right _ _
        · rw [z]; exact Nat.le_add_right _ _
        · rw [z]; exact Nat.le_add_right _ _
        · rw [z]; exact Nat.le_refl _
        · rw [z]; exact Nat.le_add_right _ _
      exact I1.fpOk hle (I1.hok.fresh hle)
end
end G

set_option linter.all false
set_option maxRecDepth 100000
set_option maxHeartbeats 1000000
namespace G
open PySem PySem.Spec PyProof.Rows L2
section
variable {c : Nm} {fr fr' : Addr → Prop} {m : List Addr} {H H' : Hp} {ms : Ms} {σ σ' : L2.St} {l : List (Option RV)} {T U : List (V × RV)} {mm : Mem} {W : WX} {X : Cx} {b k : Bool} {wr : List Nat} {tg : Expr} {vv : List Nat}
theorem stillH_held {u : RV} {p : D} {v : V} {K : Bool → S → Prop} {XE : Exc → S → Prop} (s : SIg c fr ms σ l T mm H) (hm : (v, u) ∈ T) (hp : (∀ j, u.2 ≠ .obj j) → p = u.2) (h : Run (stillH u p) ⟨l, mm⟩ K XE) :
    ∃ k, K k ⟨l, mm⟩ ∧ (k = true → RD c fr (mu ms) H p v) := by
  have rt := s.temps _ hm
  obtain ⟨o, d⟩ := u
  by_cases hj : ∃ j, d = .obj j
  · obtain ⟨j, rfl⟩ := hj
    exact still_obj (e := .con .non) (o := o) s (FR.obj_root rt) h
  · have hn : ∀ j, d ≠ .obj j := fun j e => hj ⟨j, e⟩
    have h : K true ⟨l, mm⟩ := by
      unfold stillH at h
      cases d <;> first
        | exact absurd rfl (hn _)
        | exact h
    refine ⟨true, h, fun _ => ?_⟩
    rw [hp hn]
    exact rt.rd
/-- what is held, seen -/
theorem seen_held {u : RV} {v : V} {K : D → S → Prop} {XE : Exc → S → Prop} (s : SIg c fr ms σ l T mm H) (hm : (v, u) ∈ T) (h : Run (seen u) ⟨l, mm⟩ K XE) : ∃ p, K p ⟨l, mm⟩ ∧ RD c fr (mu ms) H p v ∧ ((∀ j, u.2 ≠ .obj j) → p = u.2) := by
  have rt := s.temps _ hm
  obtain ⟨o, d⟩ := u
  by_cases hj : ∃ j, d = .obj j
  · obtain ⟨j, rfl⟩ := hj
    obtain ⟨xs, em, h⟩ := seen_obj h
    exact ⟨_, h, obj_seen s em (FR.obj_root rt), fun z => absurd rfl (z j)⟩
  · have hn : ∀ j, d ≠ .obj j := fun j e => hj ⟨j, e⟩
    rw [seen_eq (u := (o, d)) hn] at h
    exact ⟨d, h, rt.rd, fun _ => rfl⟩
def seqB : D → Bool
  | .tup _ => true
  | _ => false
theorem seq_sq {p : D} {ds : List D} {v : V} (hp : p.seq = some ds) (r : RD c fr m H p v) : ∃ a vs, v = .ref a ∧ SqB c.K (seqB p) H a vs ∧ FRs c fr m H ds vs := by
  cases p <;> first | cases hp | skip
  · obtain ⟨b, vs, e, q, rs⟩ := r.tup
    exact ⟨b, vs, e, q, rs⟩
  · obtain ⟨b, vs, e, q, rs⟩ := r.lst
    exact ⟨b, vs, e, SqL.of q, rs⟩
theorem enumD_get : ∀ {ds : List D} {n i : Nat}, (enumD n ds)[i]? = (ds[i]?).map fun d => D.tup [.int ((n + i : Nat) : Int), d]
  | [], n, i => by simp [enumD]
  | d :: ds, n, 0 => by simp [enumD]
  | d :: ds, n, i + 1 => by
    have e : n + 1 + i = n + (i + 1) := by omega
    simp only [enumD, List.getElem?_cons_succ, enumD_get, e]
theorem enumD_len : ∀ {ds : List D} {n : Nat}, (enumD n ds).length = ds.length
  | [], n => rfl
  | d :: ds, n => by simp [enumD, enumD_len]
theorem zipD_get : ∀ {xs ys : List D} {i : Nat} {d : D}, (zipD xs ys)[i]? = some d → ∃ x y, xs[i]? = some x ∧ ys[i]? = some y ∧ d = .tup [x, y]
  | [], _, i, d, h => by simp [zipD] at h
  | _ :: _, [], i, d, h => by simp [zipD] at h
  | x :: xs, y :: ys, 0, d, h => by
    simp [zipD] at h
    exact ⟨x, y, rfl, rfl, h.symm⟩
  | x :: xs, y :: ys, i + 1, d, h => by
    simp only [zipD, List.getElem?_cons_succ] at h
    obtain ⟨u, v, h1, h2, h3⟩ := zipD_get h
    exact ⟨u, v, by simpa using h1, by simpa using h2, h3⟩
theorem zipD_len : ∀ {xs ys : List D}, (zipD xs ys).length = min xs.length ys.length
  | [], _ => by simp [zipD]
  | _ :: _, [] => by simp [zipD]
  | x :: xs, y :: ys => by simp [zipD, zipD_len]
theorem FRs.pair {x y : D} {v w : V} (h1 : FR c fr m H x v) (h2 : FR c fr m H y w) : FRs c fr m H [x, y] [v, w] := by
  simp only [FRs]
  exact ⟨v, [w], rfl, h1, w, [], rfl, h2, rfl⟩
theorem itok_enum {p : D} {ds : List D} {a : Addr} {u : RV} (hp : p.seq = some ds) (hm : (V.ref a, u) ∈ U) (hd : (∀ j, u.2 ≠ .obj j) → p = u.2) : ItOk c (IteB c.K (seqB p) a) U vv σ (enumD 0 ds) (stillH u p) := by
  refine ⟨fun i σ' l T m H K XE si _ h => ?_⟩
  obtain ⟨fr, ms, s⟩ := si
  obtain ⟨k, hk, hr⟩ := stillH_held s (List.mem_append_left _ hm) hd h
  refine ⟨k, hk, fun z => ?_⟩
  obtain ⟨a', vs, e, q, r⟩ := seq_sq hp (hr z)
  cases e
  refine ⟨fun d hd => ?_, fun hi => ⟨vs, q, by rw [hi, enumD_len, r.length]⟩⟩
  rw [enumD_get] at hd
  obtain ⟨x, hx, rfl⟩ := some_map hd
  obtain ⟨v, h1, h2⟩ := r.get hx
  refine ⟨⟨vs, q, (List.getElem?_eq_some_iff.mp h1).1⟩, ?_⟩
  rintro y H' ⟨T1, o1, x1, rfl, hT, ho, rfl, hy⟩
  have e := hy vs q
  rw [h1] at e
  cases e
  have e2 : ((0 + i : Nat) : Int) = (i : Nat) := by simp
  rw [e2]
  exact s.newT (FRs.pair (by simp only [FR]) h2) hT ho
theorem itok_zip {p p' : D} {ds ds' : List D} {a a' : Addr} {u u' : RV} (hp : p.seq = some ds) (hm : (V.ref a, u) ∈ U) (hd : (∀ j, u.2 ≠ .obj j) → p = u.2) (hp' : p'.seq = some ds') (hm' : (V.ref a', u') ∈ U) (hd' : (∀ j, u'.2 ≠ .obj j) → p' = u'.2) :
    ItOk c (ItzB c.K (seqB p) (seqB p') a a') U vv σ (zipD ds ds') (do
      let i ← stillH u p
      let j ← stillH u' p'
      M.ret (i && j)) := by
  refine ⟨fun i σ' l T m H K XE si _ h => ?_⟩
  obtain ⟨fr, ms, s⟩ := si
  rw [Run.bind] at h
  obtain ⟨k, hk, hr⟩ := stillH_held s (List.mem_append_left _ hm) hd h
  rw [Run.bind] at hk
  obtain ⟨k', hk', hr'⟩ := stillH_held s (List.mem_append_left _ hm') hd' hk
  refine ⟨_, hk', fun z => ?_⟩
  simp only [Bool.and_eq_true] at z
  obtain ⟨_, vs, e, q, r⟩ := seq_sq hp (hr z.1)
  cases e
  obtain ⟨_, vs', e, q', r'⟩ := seq_sq hp' (hr' z.2)
  cases e
  refine ⟨fun d hd => ?_, fun hi => ⟨vs, vs', q, q', by rw [hi, zipD_len, r.length, r'.length]⟩⟩
  obtain ⟨x, y, hx, hy, rfl⟩ := zipD_get hd
  obtain ⟨v, h1, h2⟩ := r.get hx
  obtain ⟨v', h1', h2'⟩ := r'.get hy
  refine ⟨⟨vs, vs', q, q', (List.getElem?_eq_some_iff.mp h1).1, (List.getElem?_eq_some_iff.mp h1').1⟩, ?_⟩
  rintro y H' ⟨T1, o1, x1, y1, rfl, hT, ho, rfl, hx1, hy1⟩
  have e := hx1 vs q
  rw [h1] at e
  cases e
  have e := hy1 vs' q'
  rw [h1'] at e
  cases e
  exact s.newT (FRs.pair h2 h2') hT ho
variable {a b' : Expr} {p pos tpos : Pos} {A B : M RV} {k1 k2 : Bool} {elts : List Expr} {kk : Nat}
theorem x_enum (sm : X.K = c.K) (hg : Gl X "enumerate") (hm : X.mg "enumerate" = none) (h : PE X a (tM c W false k1 A)) (hs : starEach [a] X.env = [(false, eval a X.env)]) (hs0 : starEach [a] X.env = (false, eval a X.env) :: starEach [] X.env) :
    PI X (.Tuple elts kk tpos) (.Call (.Name "enumerate" p) [a] [] pos) (tI c W vv (do
      let u ← A
      let p ← seen u
      match p.seq with
      | some ds => M.ret ⟨enumD 0 ds, stillH u p⟩
      | none => M.stuck)) := by
  refine PIimp (pi_enumB hg hm (pa_cons h pa_nil hs0) hs) ?_
  rintro σ H R ⟨l, T, m, si, q⟩
  refine ⟨l, T, m, si, ?_⟩
  rw [Run.bind] at q
  refine Run.mono q (fun u s1 q => ?_) (fun _ _ z => z)
  intro v H1 aft _
  obtain ⟨fr, ms, s1'⟩ : SI c σ s1.l ((v, u) :: T) s1.m H1 := aft
  rw [Run.bind] at q
  obtain ⟨p, q, r, hd⟩ := seen_held s1' List.mem_cons_self q
  cases hp : p.seq with
  | none => simp only [hp] at q; exact q.elim
  | some ds =>
    simp only [hp] at q
    obtain ⟨a, vs, rfl, hq, _⟩ := seq_sq hp r
    rw [sm]
    exact ⟨a, seqB p, vs, rfl, hq, q _ [(.ref a, u)] H1 ⟨fr, ms, s1'⟩ (itok_enum hp (by simp) hd)⟩
theorem x_zip (sm : X.K = c.K) (hg : Gl X "zip") (hm : X.mg "zip" = none) (ha : PE X a (tM c W false k1 A)) (hb : PE X b' (tM c W false k2 B)) (hs : starEach [a, b'] X.env = (false, eval a X.env) :: starEach [b'] X.env) (hs1 : starEach [b'] X.env = (false, eval b' X.env) :: starEach [] X.env)
    (hpl : (backTo pos (starEach [b'] X.env)).any (·.1) = false) :
    PI X (.Tuple elts kk tpos) (.Call (.Name "zip" p) [a, b'] [] pos) (tI c W vv (do
      let u ← A
      let v ← B
      let p ← seen u
      let q ← seen v
      match p.seq, q.seq with
      | some xs, some ys => M.ret ⟨zipD xs ys, do
        let i ← stillH u p
        let j ← stillH v q
        M.ret (i && j)⟩
      | _, _ => M.stuck)) := by
  refine PIimp (pi_zipB hg hm (pa_cons ha (pa_cons hb pa_nil hs1) hs) hs hpl) ?_
  rintro σ H R ⟨l, T, m, si, q⟩
  refine ⟨l, T, m, si, ?_⟩
  rw [Run.bind] at q
  refine Run.mono q (fun u s1 q => ?_) (fun _ _ z => z)
  intro v H1 aft _
  refine ⟨s1.l, (v, u) :: T, s1.m, aft, ?_⟩
  rw [Run.bind] at q
  refine Run.mono q (fun u2 s2 q => ?_) (fun _ _ z => z.pop)
  intro v2 H2 aft2 _
  obtain ⟨fr, ms, s2'⟩ : SI c σ s2.l ((v2, u2) :: (v, u) :: T) s2.m H2 := aft2
  rw [Run.bind] at q
  obtain ⟨p, q, r, hd⟩ := seen_held s2' (List.mem_cons_of_mem _ List.mem_cons_self) q
  rw [Run.bind] at q
  obtain ⟨p', q, r', hd'⟩ := seen_held s2' List.mem_cons_self q
  cases hp : p.seq with
  | none => simp only [hp] at q; exact q.elim
  | some ds =>
    cases hp' : p'.seq with
    | none => simp only [hp, hp'] at q; exact q.elim
    | some ds' =>
      simp only [hp, hp'] at q
      obtain ⟨a, vs, rfl, hq, _⟩ := seq_sq hp r
      obtain ⟨a', vs', rfl, hq', _⟩ := seq_sq hp' r'
      rw [sm]
      exact ⟨a, a', seqB p, seqB p', vs, vs', rfl, hq, hq', q _ [(.ref a', u2), (.ref a, u)] H2 ⟨fr, ms, s2'⟩ (itok_zip hp (by simp) hd hp' (by simp) hd')⟩
end
end G

set_option linter.all false
set_option maxRecDepth 100000
set_option maxHeartbeats 1000000
namespace G
open PySem PySem.Spec PyProof.Rows L2
section
variable {c : Nm} {fr fr' : Addr → Prop} {m : List Addr} {H H' : Hp} {ms : Ms} {σ σ' : L2.St} {l : List (Option RV)} {T U : List (V × RV)} {mm : Mem} {W : WX} {X : Cx} {b k : Bool} {wr : List Nat} {tg : Expr} {vv : List Nat}
/-- what is held as one's own is written -/
theorem SIg.tempWrite {a : Addr} {d d' : D} {ho : HO} (s : SIg c fr ms σ l ((.ref a, (true, d)) :: T) mm H) (hd : isBox d = true) (hd' : isBox d' = true)
    (hn : OW c fr (mu ms) (upd H a ho) d' (.ref a)) : SIg c fr ms σ l ((.ref a, (true, d')) :: T) mm (upd H a ho) := by
  have o1 := own1_box (a := a) hd
  have o2 := own1_box (a := a) hd'
  have one := s.one
  have h0 := one a
  simp only [ownT, o1, if_pos] at h0
  have fre := s.free_own (a := a) (by simp only [ownT, o1, if_pos]; omega)
  have st : Still c fr H (upd H a ho) := fre.still
  have ne : ∀ q, (ownS σ l q + ownT T q + ownM mm ms q ≠ 0) → upd H a ho q = H q := fun q hq => upd_ne fun e => by
    subst e
    omega
  refine ⟨s.len, fun j x e => ?_, fun q hq => ?_, ?_, fun q => ?_, fun q f => ?_, fun q f => ?_⟩
  · obtain ⟨v, h1, h2⟩ := s.slots j x e
    refine ⟨v, h1, h2.still st (fun _ f => f) fun q hq => ne q ?_⟩
    have := ownS_at h1 e q
    omega
  · rcases List.mem_cons.mp hq with rfl | hq
    · exact hn
    · refine (s.temps q (List.mem_cons_of_mem _ hq)).still st (fun _ f => f) fun z hz => ne z ?_
      have l2 := ownT_le hq z
      omega
  · refine s.mem.still st (fun _ f => f) fun z hz => ne z ?_
    omega
  · have h3 := one q
    simp only [ownT, o1, o2] at h3 ⊢
    exact h3
  · have h3 := s.nof q f
    simp only [ownT, o1, o2] at h3 ⊢
    exact h3
  · by_cases e : q = a
    · subst e; rw [upd_same]; simp
    · rw [upd_ne e]; exact s.frt q f
theorem SI.tempAppend {a : Addr} {acc : List D} {y : V} {r : RV} (s : SI c σ l ((y, r) :: (.ref a, (true, .lst acc)) :: T) mm H) :
    ∃ vs, H a = some (.lst vs) ∧ vs.length = acc.length ∧ SI c σ l ((.ref a, (true, .lst (acc ++ [r.2]))) :: T) mm (upd H a (.lst (vs ++ [y]))) := by
  obtain ⟨fr, ms, s⟩ := s
  obtain ⟨fr2, f2, s2⟩ := s.freeze1'
  have hy : FR c fr2 (mu ms) H r.2 y := s2.temps _ List.mem_cons_self
  have s3 := s2.pop
  have hr : OW c fr2 (mu ms) H (.lst acc) (.ref a) := s3.temps _ List.mem_cons_self
  obtain ⟨b, vs, e, q, rs⟩ := hr
  cases e
  refine ⟨vs, q, rs.length, fr2, ms, s3.tempWrite rfl rfl ?_⟩
  have fre := s3.free_own (a := a) (by simp only [ownT, own1]; simp)
  have st : Still c fr2 H (upd H a (.lst (vs ++ [y]))) := fre.still
  exact ⟨a, _, rfl, upd_same, FRs.still st (fun _ f => f) _ (FRs.append rs (FRs.cons hy FRs.nil))⟩
/-! wiped slots -/
def wipeL (is : List Nat) (l : List (Option RV)) : List (Option RV) := is.foldl (fun l i => l.set i none) l
theorem SIg.wiped : ∀ {is : List Nat} {l : List (Option RV)}, SIg c fr ms σ l T mm H → SIg c fr ms σ (wipeL is l) T mm H
  | [], _, s => s
  | i :: is, l, s => SIg.wiped (is := is) s.del
theorem wipeL_get : ∀ {is : List Nat} {l : List (Option RV)} {i : Nat} {x : RV}, (wipeL is l)[i]? = some (some x) → l[i]? = some (some x) ∧ i ∉ is
  | [], l, i, x, h => ⟨h, by simp⟩
  | j :: is, l, i, x, h => by
    obtain ⟨h1, h2⟩ := wipeL_get (is := is) (l := l.set j none) h
    by_cases hij : j = i
    · subst hij
      by_cases hj : j < l.length
      · rw [List.getElem?_set_self hj] at h1; cases h1
      · rw [List.getElem?_eq_none (by simpa using hj)] at h1; cases h1
    · rw [List.getElem?_set_ne hij] at h1
      exact ⟨h1, by simp only [List.mem_cons, not_or]; exact ⟨fun e => hij e.symm, h2⟩⟩
theorem ownS_other : ∀ {σ σ' : L2.St} {l : List (Option RV)}, σ'.length = σ.length → (∀ (i : Nat) (x : RV), l[i]? = some (some x) → σ'[i]? = σ[i]?) → ∀ a, ownS σ' l a = ownS σ l a
  | [], [], _, _, _, _ => rfl
  | [], _ :: _, _, h, _, _ => by cases h
  | _ :: _, [], _, h, _, _ => by cases h
  | s :: σ, s' :: σ', [], _, _, a => by cases s <;> cases s' <;> rfl
  | s :: σ, s' :: σ', y :: l, hl, h, a => by
    have ih := ownS_other (σ := σ) (σ' := σ') (l := l) (by simpa using hl) (fun i x e => by simpa using h (i + 1) x (by simpa using e)) a
    cases y with
    | none => cases s <;> cases s' <;> simp only [ownS, ih]
    | some x =>
      have e := h 0 x rfl
      simp at e
      subst e
      cases s' <;> simp only [ownS, ih]
theorem SIg.other (s : SIg c fr ms σ l T mm H) (hl : σ'.length = σ.length) (h : ∀ (i : Nat) (x : RV), l[i]? = some (some x) → σ'[i]? = σ[i]?) : SIg c fr ms σ' l T mm H := by
  refine ⟨hl.trans s.len, fun i x e => ?_, s.temps, s.mem, fun a => ?_, fun a f => ?_, s.frt⟩
  · rw [h i x e]; exact s.slots i x e
  · rw [ownS_other hl h]; exact s.one a
  · rw [ownS_other hl h]; exact s.nof a f
theorem wipe_get {σ : L2.St} {i : Nat} : ∀ {vs : List Nat}, i ∉ vs → (wipe σ vs)[i]? = σ[i]? := fun h => wipe_out h
theorem wipe_idem_get {σ : L2.St} {i : Nat} : ∀ {vs : List Nat}, i ∈ vs → i < σ.length → (wipe σ vs)[i]? = some none
  | [], h, _ => by cases h
  | v :: vs, h, hl => by
    unfold wipe
    by_cases e : v = i
    · subst e
      rw [List.getElem?_set_self (by rw [wipe_length]; exact hl)]
    · rw [List.getElem?_set_ne e]
      rcases List.mem_cons.mp h with h | h
      · exact absurd h.symm e
      · exact wipe_idem_get h hl
theorem wipe_same {vs : List Nat} (k : Kept vs (wipe σ vs) σ') (hl : σ'.length = σ.length) : wipe σ' vs = wipe σ vs := by
  apply List.ext_getElem?
  intro i
  by_cases h : i ∈ vs
  · by_cases hi : i < σ.length
    · rw [wipe_idem_get h hi, wipe_idem_get h (by omega)]
    · rw [List.getElem?_eq_none (by rw [wipe_length]; omega), List.getElem?_eq_none (by rw [wipe_length]; omega)]
  · rw [wipe_get h, wipe_get h, k i h, wipe_get h]
/-- behind a turn: the block's names are gone -/
theorem SI.turnEnd {vs : List Nat} (s : SI c σ' l T mm H) (k : wipe σ' vs = wipe σ vs) : SI c σ (wipeL vs l) T mm H := by
  obtain ⟨fr, ms, s⟩ := s
  have hl : σ.length = σ'.length := by
    have := congrArg List.length k
    rw [wipe_length, wipe_length] at this
    exact this.symm
  refine ⟨fr, ms, s.wiped.other hl fun i x e => ?_⟩
  obtain ⟨_, h2⟩ := wipeL_get e
  have := congrArg (fun z => z[i]?) k
  simp only [wipe_get h2] at this
  exact this.symm
/-- ahead of a turn -/
theorem SI.turnStart {vs : List Nat} (s : SI c σ l T mm H) (h : ∀ i ∈ vs, ∀ x, l[i]? ≠ some (some x)) : SI c (wipe σ vs) l T mm H := by
  obtain ⟨fr, ms, s⟩ := s
  refine ⟨fr, ms, s.other (wipe_length σ vs) fun i x e => wipe_get fun z => h i z x e⟩
theorem wipeL_none {is : List Nat} {l : List (Option RV)} : ∀ i ∈ is, ∀ x, (wipeL is l)[i]? ≠ some (some x) := fun i hi x e => (wipeL_get e).2 hi
theorem Run.wipeM {is : List Nat} {s : S} {K : Unit → S → Prop} {XE : Exc → S → Prop} : Run (wipeM is) s K XE ↔ K () { s with l := wipeL is s.l } := Iff.rfl
end
end G

set_option linter.all false
set_option maxRecDepth 100000
set_option maxHeartbeats 1000000
namespace G
open PySem PySem.Spec PyProof.Rows L2
theorem Run.calm {α : Type} {x : M α} {s : S} {K : α → S → Prop} {XE XE' : Exc → S → Prop} (h : Run (calmM x) s K XE) : Run x s K XE' := by
  unfold Run calmM at h
  unfold Run
  cases e : x s with
  | none => rw [e] at h; exact h
  | some r =>
    rw [e] at h
    obtain ⟨r, s'⟩ := r
    cases r with
    | ok a => exact h
    | exn a => exact h.elim
mutual
theorem tgStore_len {K : Unit → S → Prop} {XE : Exc → S → Prop} : ∀ (x : Tg) (d : D) (s : S), Run (tgStore x d) s K XE → Run (tgStore x d) s (fun u s' => K u s' ∧ s'.l.length = s.l.length) XE
  | .var i, d, s, h => by
    unfold tgStore at h ⊢
    rw [Run.setS] at h ⊢
    exact ⟨h.1, h.2, by simp⟩
  | .tup ts, d, s, h => by
    unfold tgStore at h ⊢
    cases d with
    | tup ds => exact tgStoreL_len ts ds s h
    | _ => exact h.elim
theorem tgStoreL_len {K : Unit → S → Prop} {XE : Exc → S → Prop} : ∀ (x : List Tg) (d : List D) (s : S), Run (tgStoreL x d) s K XE → Run (tgStoreL x d) s (fun u s' => K u s' ∧ s'.l.length = s.l.length) XE
  | [], [], s, h => by
    unfold tgStoreL at h ⊢
    exact ⟨h, rfl⟩
  | [], _ :: _, s, h => by unfold tgStoreL at h; exact h.elim
  | _ :: _, [], s, h => by unfold tgStoreL at h; exact h.elim
  | t :: ts, d :: ds, s, h => by
    unfold tgStoreL at h ⊢
    rw [Run.bind] at h ⊢
    refine Run.mono (tgStore_len t d s h) (fun u s1 q => ?_) (fun _ _ z => z)
    refine Run.mono (tgStoreL_len ts ds s1 q.1) (fun u s2 q2 => ⟨q2.1, q2.2.trans q.2⟩) (fun _ _ z => z)
end
section
variable {c : Nm} {fr fr' : Addr → Prop} {m : List Addr} {H H' : Hp} {ms : Ms} {σ σ' : L2.St} {l : List (Option RV)} {T U : List (V × RV)} {mm : Mem} {W : WX} {X : Cx} {b k : Bool} {wr : List Nat} {tg : Expr} {vv : List Nat}
/-- nothing is raised -/
def W0 : WX := fun _ _ _ _ => False
theorem SI.toMid {r : V × RV} (s : SI c σ l (r :: (U ++ T)) mm H) : SI c σ l (U ++ (r :: T)) mm H := by
  obtain ⟨fr, ms, s⟩ := s
  refine ⟨fr, ms, s.reorder (fun q hq => ?_) fun a => ?_⟩
  · simp only [List.mem_append, List.mem_cons] at hq ⊢
    rcases hq with h | h | h
    · exact .inr (.inl h)
    · exact .inl h
    · exact .inr (.inr h)
  · simp only [ownT, ownT_append]; omega
theorem SI.ofMid {r q : V × RV} (s : SI c σ l (q :: (U ++ (r :: T))) mm H) : SI c σ l (q :: r :: (U ++ T)) mm H := by
  obtain ⟨fr, ms, s⟩ := s
  refine ⟨fr, ms, s.reorder (fun p hp => ?_) fun a => ?_⟩
  · simp only [List.mem_append, List.mem_cons] at hp ⊢
    rcases hp with h | h | h | h
    · exact .inl h
    · exact .inr (.inr (.inl h))
    · exact .inr (.inl h)
    · exact .inr (.inr (.inr h))
  · simp only [ownT, ownT_append]; omega
theorem SI.newTop (s : SI c σ l T mm H) {p : Addr} (hp : H p = none) : SI c σ l ((.ref p, (true, .lst [])) :: T) mm (upd H p (.lst [])) := by
  obtain ⟨fr, ms, s⟩ := s
  exact s.newL FRs.nil hp
theorem SI.wiped {is : List Nat} (s : SI c σ l T mm H) : SI c σ (wipeL is l) T mm H := let ⟨fr, ms, s⟩ := s; ⟨fr, ms, s.wiped⟩
theorem comp_core {A : M Walk} {x : Tg} {t : Option (M RV)} {E : M RV} {k1 : Bool} : ∀ σ H Q, tM c W b false (do
    let w ← A
    wipeM x.slots
    calmM (compL x t E w.ok w.ds [])) σ H Q → tLc (tI c W vv A) (tG c W0 x.slots fun r => tgStore x r.2) (tT c W0 (testM t)) (tM c W0 false k1 E) x.slots σ H Q := by
  rintro σ H Q ⟨l, T, m, si, h⟩
  refine ⟨l, T, m, si, ?_⟩
  rw [Run.bind] at h
  refine Run.mono h (fun w s1 h => ?_) (fun _ _ z => z)
  intro J U H1 si1 it D hD
  rw [Run.bind, Run.wipeM] at h
  have h := Run.calm (XE' := fun _ _ => False) h
  refine ⟨fun i n H' => n = w.ds.length - i ∧ i ≤ w.ds.length ∧ ∃ l' m' acc, SI c σ l' (U ++ ((.ref D, (true, .lst acc)) :: T)) m' H' ∧ (∀ i ∈ x.slots, ∀ y, l'[i]? ≠ some (some y)) ∧
      Run (compL x t E w.ok (w.ds.drop i) acc) ⟨l', m'⟩ (fun r s' => ∀ v H', Aft c b σ s'.l T s'.m r v H' → (false = true → Ext H H') → Q v H') (fun _ _ => False),
    ⟨w.ds.length, by simp, Nat.zero_le _, wipeL x.slots s1.l, s1.m, [], (si1.wiped.newTop hD).toMid, wipeL_none, by simpa using h⟩, ?_⟩
  rintro i n H2 ⟨rfl, hle, l2, m2, acc, si2, hn, h2⟩
  by_cases hlt : i < w.ds.length
  · rw [List.drop_eq_getElem_cons hlt] at h2
    unfold compL at h2
    rw [Run.bind] at h2
    obtain ⟨kk, h2, ht⟩ := it.turn i σ l2 _ m2 H2 _ _ si2 (fun _ _ => rfl) h2
    cases kk with
    | false => exact h2.elim
    | true =>
      obtain ⟨go, yld⟩ := (ht rfl).1 w.ds[i] (by simp [hlt])
      simp only [if_true] at h2
      refine .inr ⟨go, fun H' => ∃ l' m' acc, SI c σ l' (U ++ ((.ref D, (true, .lst acc)) :: T)) m' H' ∧ (∀ i ∈ x.slots, ∀ y, l'[i]? ≠ some (some y)) ∧
        Run (compL x t E w.ok (w.ds.drop (i + 1)) acc) ⟨l', m'⟩ (fun r s' => ∀ v H', Aft c b σ s'.l T s'.m r v H' → (false = true → Ext H H') → Q v H') (fun _ _ => False), ?_, ?_⟩
      · rintro H' ⟨l', m', acc', q⟩
        exact ⟨w.ds.length - (i + 1), by omega, rfl, hlt, l', m', acc', q⟩
      · intro y H' hy
        have siy := (yld y H' hy).turnStart hn
        have len2 : σ.length = l2.length := by
          obtain ⟨fr, ms, s⟩ := si2
          exact s.len
        rw [Run.bind] at h2
        refine ⟨(false, w.ds[i]), l2, _, m2, siy, Run.mono (tgStore_len x _ _ h2) (fun _ s3 h3 => ?_) (fun x s z => z.elim)⟩
        intro σ3 H3 si3 k3
        have len3 : σ3.length = σ.length := by
          obtain ⟨fr, ms, s⟩ := si3
          rw [s.len, h3.2, len2]
        have ws := wipe_same k3 len3
        refine ⟨ws, s3.l, _, s3.m, si3, ?_⟩
        have h3 := h3.1
        rw [Run.bind] at h3
        refine Run.mono h3 (fun go s4 h4 => ?_) (fun x s z => z.elim)
        intro H4 si4
        cases go with
        | false =>
          simp only [Bool.false_eq_true, if_false] at h4 ⊢
          rw [Run.bind, Run.wipeM] at h4
          exact ⟨_, s4.m, acc, si4.turnEnd ws, wipeL_none, h4⟩
        | true =>
          simp only [if_true] at h4 ⊢
          rw [Run.bind] at h4
          refine ⟨s4.l, _, s4.m, si4, Run.mono h4 (fun r s5 h5 => ?_) (fun x s z => z.elim)⟩
          intro v H5 aft _
          have si5 : SI c σ3 s5.l ((v, r) :: (U ++ ((.ref D, (true, .lst acc)) :: T))) s5.m H5 := aft
          obtain ⟨vs, e1, e2, si6⟩ := (SI.ofMid si5).tempAppend
          by_cases hz : acc.length < sizeMax
          · simp only [if_pos hz] at h5
            rw [Run.bind, Run.wipeM] at h5
            exact ⟨vs, e1, by rw [← line, e2]; exact hz, _, s5.m, _, (SI.toMid si6).turnEnd ws, wipeL_none, h5⟩
          · simp only [if_neg hz] at h5
            exact h5.elim
  · have e : i = w.ds.length := by omega
    subst e
    rw [List.drop_length] at h2
    unfold compL at h2
    rw [Run.bind] at h2
    obtain ⟨kk, h2, ht⟩ := it.turn _ σ l2 _ m2 H2 _ _ si2 (fun _ _ => rfl) h2
    cases kk with
    | false => exact h2.elim
    | true => exact .inl ⟨(ht rfl).2 rfl, h2 _ H2 (.of si2.popU) (fun z => nomatch z)⟩
variable {elt iter : Expr} {ifs : List Expr} {scope : Scope} {own : List (Str × Nat)} {pos : Pos} {A : M Walk} {x : Tg} {t : Option (M RV)} {E : M RV} {k1 : Bool}
theorem x_comp (hc : X.calm = true) (hN : X.N.Nodup) (hi : PI X tg iter (tI c W vv A)) (ok : BlkOk X.N X.env.scope scope own) (ho : own.map (·.2) = x.slots)
    (hg : ∀ (s : Shared) (H : Hp) (C : Addr) (cl : List (Str × Addr)) (fp : List Addr), PG (X.blk s H scope (compEnvC scope cl C X.env) fp) tg (tG c W0 x.slots fun r => tgStore x r.2))
    (ht : ∀ (s : Shared) (H : Hp) (C : Addr) (cl : List (Str × Addr)) (fp : List Addr), PTs (X.blk s H scope (compEnvC scope cl C X.env) fp) ifs (tT c W0 (testM t)))
    (he : ∀ (s : Shared) (H : Hp) (C : Addr) (cl : List (Str × Addr)) (fp : List Addr), PE (X.blk s H scope (compEnvC scope cl C X.env) fp) elt (tM c W0 false k1 E)) (hs : ∀ x, foldedSetIterable iter X.env x = pure x) :
    PE X (.ListComp elt [⟨tg, iter, ifs, 0⟩] scope pos) (tM c W b false (do
      let w ← A
      wipeM x.slots
      calmM (compL x t E w.ok w.ds []))) := by
  refine PEimp (pe_lc hc hN hi ok hg ht he hs) ?_
  rw [ho]
  exact comp_core
theorem pts_none : PTs X [] (tT c W (testM none)) := ⟨fun pins s σ H Q I h => by
  obtain ⟨l, T, m, si, h⟩ := h
  exact wpAny_tests_nil ⟨H, I, h H si⟩⟩
theorem pts_some {ce : Expr} {C : M RV} (h : PT X ce (tT c W (truthM C))) : PTs X [ce] (tT c W (testM (some C))) := pts_one h
/-- x = [..] -/
theorem s_setLc {i : Nat} {y : Str} {py spos : Pos} (hc : X.calm = true) (hN : X.N.Nodup) (hy : X.N[i]? = some y) (hyl : X.env.scope.names.lookup y = some .local) (hsw : swapsWith (.ListComp elt [⟨tg, iter, ifs, 0⟩] scope pos) (some (.Name y py)) spos.line X.env = pure true)
    (hi : PI X tg iter (tI c W vv A)) (ok : BlkOk X.N X.env.scope scope own) (ho : own.map (·.2) = x.slots)
    (hg : ∀ (s : Shared) (H : Hp) (C : Addr) (cl : List (Str × Addr)) (fp : List Addr), PG (X.blk s H scope (compEnvC scope cl C X.env) fp) tg (tG c W0 x.slots fun r => tgStore x r.2))
    (ht : ∀ (s : Shared) (H : Hp) (C : Addr) (cl : List (Str × Addr)) (fp : List Addr), PTs (X.blk s H scope (compEnvC scope cl C X.env) fp) ifs (tT c W0 (testM t)))
    (he : ∀ (s : Shared) (H : Hp) (C : Addr) (cl : List (Str × Addr)) (fp : List Addr), PE (X.blk s H scope (compEnvC scope cl C X.env) fp) elt (tM c W0 false k1 E)) (hs : ∀ x, foldedSetIterable iter X.env x = pure x) (hw : i ∈ wr) :
    PS X (.Assign [.Name y py] (.ListComp elt [⟨tg, iter, ifs, 0⟩] scope pos) spos) (tS c W wr (do
      let v ← (do
        let w ← A
        wipeM x.slots
        calmM (compL x t E w.ok w.ds []) : M RV)
      setS i v
      M.ret .next)) := by
  refine PSimp (ps_setLc hc hN hy hyl hsw hi ok hg ht he hs) ?_
  rw [ho]
  rintro D σ H ⟨l, T, m, s, h⟩
  rw [Run.bind] at h
  refine comp_core (b := false) σ H _ ⟨l, T, m, s, Run.mono h (fun r s1 h => ?_) (fun _ _ z => z.exp)⟩
  intro v H1 aft _
  rw [Run.bind, Run.setS] at h
  exact h.2 _ _ (SI.set aft) (Kept.set hw)
end
end G

set_option linter.all false
set_option maxRecDepth 100000
set_option maxHeartbeats 1000000
namespace G
open PySem PySem.Spec PyProof.Rows L2
section
variable {c : Nm} {fr fr' : Addr → Prop} {m : List Addr} {H H' : Hp} {ms : Ms} {σ σ' : L2.St} {l : List (Option RV)} {T U : List (V × RV)} {mm : Mem} {W : WX} {X : Cx} {b k : Bool}
/-- what a built-in function of one thing owes -/
def OkB (c : Nm) (f : D → Option RV) (r : List V → Hp → VK → Prop) : Prop :=
  ∀ fr ms σ l T mm H p v rv (Q : VK), SIg c fr ms σ l T mm H → RD c fr (mu ms) H p v → f p = some rv → (∀ z H', SI c σ l ((z, rv) :: T) mm H' → Ext H H' → Q z H') → r [v] H Q
theorem OkB.left {f : D → Option RV} {r r' : List V → Hp → VK → Prop} (h : OkB c f r) : OkB c f (fun xs H Q => r xs H Q ∨ r' xs H Q) := fun fr ms σ l T mm H p v rv Q s r e q => .inl (h fr ms σ l T mm H p v rv Q s r e q)
def blt1M (f : D → Option RV) (A : M RV) : M RV := do
  let u ← A
  let p ← seen u
  M.of (f p)
theorem t_blt1 {f : D → Option RV} {r : List V → Hp → VK → Prop} {A : M RV} {k1 : Bool} (ok : OkB c f r) (hk : k = true → k1 = true) : ∀ σ H Q, tM c W b k (blt1M f A) σ H Q → tCB r (tCons (tM c W true k1 A) tNil) σ H Q := by
  rintro σ H Q ⟨l, T, m, s, h⟩
  refine ⟨l, T, m, s, ?_⟩
  unfold blt1M at h
  rw [Run.bind] at h
  refine Run.mono h (fun u s1 h => ?_) (fun _ _ z => z)
  intro x H1 aft ext
  obtain ⟨fr, ms, s2, rx⟩ := aft.look
  rw [Run.bind] at h
  obtain ⟨p, h, rp, _⟩ := Run.seen h s2 rx
  rw [Run.of] at h
  obtain ⟨rv, er, h⟩ := h
  exact ok fr ms σ s1.l T s1.m H1 p x rv Q s2 rp er fun z H' si ex => h z H' (.of si) fun z => Ext.trans (ext (hk z)) ex
variable {x : Str} {id Ty : String} {p pos : Pos} {e e2 : Expr} {A B : M RV} {k1 k2 : Bool} {f : D → Option RV} {r : List V → Hp → VK → Prop}
theorem x_bltB (hc : CallR X (.builtin id) r) (ok : OkB c f r) (hg : Gl X x) (hm : X.mg x = none) (hv : bootBuiltins x = some (.builtin id)) (h : PE X e (tM c W true k1 A)) (hn : x ≠ "__name__") (hdb : (x == ("__debug__" : Str)) = false)
    (he : starEach [e] X.env = (false, eval e X.env) :: starEach [] X.env) (hpl : (backTo pos (starEach [e] X.env)).any (·.1) = false) (hk : k = true → k1 = true) : PE X (.Call (.Name x p) [e] [] pos) (tM c W b k (blt1M f A)) :=
  PEimp (pe_callB hc hg hm hv (pa_cons h pa_nil he) hn hdb he rfl) (t_blt1 ok hk)
theorem x_bltT (hc : CallR X (.type Ty) r) (ok : OkB c f r) (hg : Gl X x) (hm : X.mg x = none) (hv : bootBuiltins x = some (.type Ty)) (h : PE X e (tM c W true k1 A)) (hn : x ≠ "__name__") (hdb : (x == ("__debug__" : Str)) = false)
    (he : starEach [e] X.env = (false, eval e X.env) :: starEach [] X.env) (hpl : (backTo pos (starEach [e] X.env)).any (·.1) = false) (hk : k = true → k1 = true) : PE X (.Call (.Name x p) [e] [] pos) (tM c W b k (blt1M f A)) :=
  PEimp (pe_callTy hc hg hm hv (pa_cons h pa_nil he) hn hdb he rfl) (t_blt1 ok hk)

/-! len -/
def rLenA (c : Nm) (K : PySem.W.Frag) : List V → Hp → VK → Prop := fun xs H Q => (∃ x n, xs = [x] ∧ LenV K x H n ∧ Q (.int n) H) ∨ ∃ a, xs = [.ref a] ∧ ((∃ ks, Rd H a (.dK ks) ∧ Q (.int ((ks.length : Nat) : Int)) H) ∨ ∃ ys : XsT, Rd H a (dctO c a ys) ∧ (a == sysModules) = false ∧ XsAt K H ys ∧ ys.length ≤ sizeLine ∧ Q (.int ((ys.length : Nat) : Int)) H)
theorem cr_lenA (sm : Same' c X) : CallR X (.builtin "len") (rLenA c X.K) := by
  refine CallR.or call_len ?_
  intro pins s σ H xs us Q I r h
  obtain ⟨a, rfl, h⟩ := h
  obtain ⟨u, rfl, rx⟩ := vals1 r
  obtain rfl : u = .ref a := rx
  rcases h with ⟨ks, hd, q⟩ | ⟨ys, hd, hs, hat, hz, q⟩
  · obtain ⟨z, lo, vs, rel, dd⟩ := dk_rd I.hok hd
    refine PySem.call_len_dict lo dd (by rw [← rel.length]; rw [sizeLine_eq] at z; omega) ?_
    rw [← rel.length]
    exact ⟨.int ((ks.length : Nat) : Int), H, I.tok _, ⟨_, rfl⟩, q⟩
  · refine PySem.call_len_dictH hs (hat.dict' sm I hd) (by rw [sizeLine_eq] at hz; omega) ?_
    exact ⟨.int ((ys.length : Nat) : Int), H, I.tok _, ⟨_, rfl⟩, q⟩
theorem Perm'.sqL {K : PySem.W.Frag} {a : Addr} {vs : List V} (h : Perm' K H a vs) : SqL K H a vs := by
  rcases h with ⟨o, h⟩ | h
  · exact .inl (.inr ⟨o, h⟩)
  · exact .inr h
theorem RD.scr {ns : List Int} {v : V} (h : RD c fr m H (.scr ns) v) : ∃ a, v = .ref a ∧ SqL c.K H a (ns.map V.int) := by
  have h : FR c fr m H (.scr ns) v := h
  simp only [FR] at h
  obtain ⟨a, rfl, q⟩ := h
  exact ⟨a, rfl, q.sqL⟩
theorem ok_len : OkB c (fun p => builtin .len [p]) (rLenA c c.K) := by
  intro fr ms σ l T mm H p v rv Q s rp e h
  cases p with
  | tup ds =>
    cases e
    obtain ⟨a, vs, rfl, q, r⟩ := rp.tup
    exact .inl ⟨_, _, rfl, .inr ⟨vs, q, r.length.symm⟩, h _ _ (s.aint _) Ext.refl⟩
  | lst ds =>
    cases e
    obtain ⟨a, vs, rfl, q, r⟩ := rp.lst
    exact .inl ⟨_, _, rfl, .inl ⟨vs, SqL.of q, r.length.symm⟩, h _ _ (s.aint _) Ext.refl⟩
  | dic kvs =>
    obtain ⟨hz, rfl⟩ := some_if (a := (false, D.int kvs.length)) e
    obtain ⟨a, rfl, hd⟩ := rp
    refine .inr ⟨a, rfl, ?_⟩
    rcases hd with ⟨ks, q, r⟩ | ⟨xs, q, h1, h2, h3, r⟩
    · refine .inl ⟨ks, q, ?_⟩
      rw [r.length]
      exact h _ _ (s.aint _) Ext.refl
    · refine .inr ⟨xs, q, h2, ⟨h3, r.xsAt⟩, by rw [r.length]; exact h1.2, ?_⟩
      rw [r.length]
      exact h _ _ (s.aint _) Ext.refl
  | str t =>
    obtain ⟨hz, rfl⟩ := some_if (a := (false, D.int t.length)) e
    rw [rp.str]
    exact .inl ⟨_, _, rfl, ⟨by rw [← line]; exact hz, rfl⟩, h _ _ (s.aint _) Ext.refl⟩
  | scr ns =>
    cases e
    obtain ⟨a, rfl, q⟩ := rp.scr
    exact .inl ⟨_, _, rfl, .inl ⟨_, q, by simp⟩, h _ _ (s.aint _) Ext.refl⟩
  | _ => cases e
end
end G

set_option linter.all false
set_option maxRecDepth 100000
set_option maxHeartbeats 1000000
namespace G
open PySem PySem.Spec PyProof.Rows L2
section
variable {c : Nm} {fr fr' : Addr → Prop} {m : List Addr} {H H' : Hp} {ms : Ms} {σ σ' : L2.St} {l : List (Option RV)} {T U : List (V × RV)} {mm : Mem} {W : WX} {X : Cx} {b k : Bool}
/-! a dict, as a raw object -/
/-- its keys, as values -/
def RawKeys (c : Nm) (K : PySem.W.Frag) (H : Hp) (a : Addr) (vs : List V) : Prop := (∃ ks : List (Key × V), Rd H a (.dK ks) ∧ vs = ks.map fun x => kV x.1) ∨ ∃ xs : XsT, Rd H a (dctO c a xs) ∧ (a == sysModules) = false ∧ XsAt K H xs ∧ xs.length ≤ sizeLine ∧ vs = xs.map fun x => V.ref x.2.1
theorem DcA.raw {a : Addr} {kvs : List (D × D)} (h : DcA c fr m H a kvs) : ∃ vs, RawKeys c c.K H a vs ∧ FRs c fr m H (kvs.map Prod.fst) vs := by
  rcases h with ⟨ks, q, r⟩ | ⟨xs, q, h1, h2, h3, r⟩
  · exact ⟨_, .inl ⟨ks, q, rfl⟩, r.keys⟩
  · exact ⟨_, .inr ⟨xs, q, h2, ⟨h3, r.xsAt⟩, by rw [r.length]; exact h1.2, rfl⟩, r.keys⟩
theorem pairs_vals {P : Program} {w : World} {es : List DictEntry} {vs : List (Key × Value)} (h : Pairs (mixKind P w) es vs) : Vals (vs.map fun x => kV x.1) (es.map (·.key)) := by
  induction h with
  | nil => exact .nil
  | cons h1 h2 _ ih => exact .cons (keyIs_rel h1) ih
theorem raw_obj {pins : List (Addr × Obj)} {s : Shared} {a : Addr} {vs : List V} (sm : Same' c X) (I : Inv X pins σ H s) (h : RawKeys c X.K H a vs) :
    ∃ o es ep, (a == sysModules) = false ∧ s.heap.get? a = some o ∧ o.ExactDict ∧ o.data = .dict es ep ∧ es.size ≤ sizeLine ∧ Vals vs (es.toList.map (·.key)) := by
  rcases h with ⟨ks, q, rfl⟩ | ⟨xs, q, h2, h3, h4, rfl⟩
  · obtain ⟨z, lo, vs, rel, o, es, ep, h1, hx, hd, r1, r2, r3⟩ := dk_rd I.hok q
    have hl : es.size = vs.length := by
      have := r2.length
      rw [Array.length_toList] at this
      exact this
    refine ⟨o, es, ep, lo, h1, hx, hd, by rw [hl, ← rel.length]; exact z, ?_⟩
    have e1 : (ks.map fun x => kV x.1) = vs.map fun x => kV x.1 := by
      have e := congrArg (List.map kV) rel.keys
      rw [List.map_map, List.map_map] at e
      exact e
    rw [e1]
    exact pairs_vals r2
  · obtain ⟨⟨o, es, ep, e1, e2, e3, e4⟩, _⟩ := q.ok I.hok
    refine ⟨o, es, ep, h2, e1, e2, e3, ?_, ?_⟩
    · rw [← Array.length_toList, e4, List.length_map]; exact h4
    · rw [e4, List.map_map]
      have : ∀ xs : XsT, Vals (xs.map fun x => V.ref x.2.1) (xs.map ((fun e : DictEntry => e.key) ∘ entryOfKey (nestedKind c.prog c.w))) := by
        intro xs
        induction xs with
        | nil => exact .nil
        | cons x xs ih => exact .cons rfl ih
      exact this xs

/-! list, tuple -/
theorem vals_entries {vs : List V} {es : Array DictEntry} {its : List Value} (h : Vals vs (es.toList.map (·.key))) (hl : its.length = es.size) (hi : ∀ (j : Nat) (v : Value), its[j]? = some v → ∃ en : DictEntry, es[j]? = some en ∧ v = en.key) : Vals vs its := by
  have e : its = es.toList.map (·.key) := by
    apply List.ext_getElem?
    intro j
    by_cases hj : j < its.length
    · obtain ⟨en, h1, h2⟩ := hi j its[j] (by simp [hj])
      rw [List.getElem?_eq_getElem hj, h2, List.getElem?_map, Array.getElem?_toList, h1]
      rfl
    · rw [List.getElem?_eq_none (by omega), List.getElem?_eq_none (by simp; omega)]
  rw [e]
  exact h
def rListA (c : Nm) (K : PySem.W.Frag) : List V → Hp → VK → Prop := fun xs H Q => (∃ p ys, xs = [.ref p] ∧ (SqL K H p ys ∨ SqT K H p ys) ∧ ∀ l, H l = none → Q (.ref l) (upd H l (.lst ys))) ∨
  ∃ a vs, xs = [.ref a] ∧ RawKeys c K H a vs ∧ ∀ l, H l = none → Q (.ref l) (upd H l (.lst vs))
theorem cr_listA (sm : Same' c X) (hc : X.calm = true) : CallR X (.type "list") (rListA c X.K) := by
  refine CallR.or call_list_of ?_
  intro pins s σ H xs us Q I r h
  obtain ⟨a, vs, rfl, hr, q⟩ := h
  obtain ⟨u, rfl, rx⟩ := vals1 r
  obtain rfl : u = .ref a := rx
  obtain ⟨o, es, ep, hs, ho, hx, hd, hz, hv⟩ := raw_obj sm I hr
  refine PySem.W.kdl_call (kdl_raw hs hx hd) (I.ok.hd hc) ho hz fun h' tk acc c' hk hD hacc => ?_
  have hv2 : Vals vs acc.toList := vals_entries hv (by rw [Array.length_toList]; exact hacc.1) fun j v e => hacc.2 j v (by rw [← Array.getElem?_toList]; exact e)
  have hl : vs.length = acc.size := by rw [hv2.length, Array.length_toList]
  exact ⟨.ref s.heap.objs.size, upd H s.heap.objs.size (.lst vs), I.laid (t' := tk) hk (Nat.le_refl _)
    (show ObjOk X.prog X.w _ _ _ (.lst vs) from ⟨by rw [hl, hacc.1]; exact hz, acc.toList, c', hv2, by rw [Array.toArray_toList]; exact hD⟩), rfl, q _ (I.hok.fresh (Nat.le_refl _))⟩
theorem FRs.ints : ∀ {ns : List Int}, FRs c fr m H (ns.map D.int) (ns.map V.int)
  | [] => FRs.nil
  | n :: ns => FRs.cons (by simp only [FR]) FRs.ints
theorem ok_list : OkB c (fun p => builtin .list [p]) (rListA c c.K) := by
  intro fr ms σ l T mm H p v rv Q s rp e h
  cases p with
  | tup ds =>
    cases e
    obtain ⟨a, vs, rfl, q, r⟩ := rp.tup
    exact .inl ⟨a, vs, rfl, .inr q, fun l hl => h _ _ (s.newL r hl) (Ext.new hl)⟩
  | lst ds =>
    cases e
    obtain ⟨a, vs, rfl, q, r⟩ := rp.lst
    exact .inl ⟨a, vs, rfl, .inl (SqL.of q), fun l hl => h _ _ (s.newL r hl) (Ext.new hl)⟩
  | dic kvs =>
    cases e
    obtain ⟨a, rfl, hd⟩ := rp
    obtain ⟨vs, hr, r⟩ := hd.raw
    exact .inr ⟨a, vs, rfl, hr, fun l hl => h _ _ (s.newL r hl) (Ext.new hl)⟩
  | scr ns =>
    cases e
    obtain ⟨a, rfl, q⟩ := rp.scr
    exact .inl ⟨a, _, rfl, .inl q, fun l hl => h _ _ (s.newL FRs.ints hl) (Ext.new hl)⟩
  | _ => cases e
def rTupA (K : PySem.W.Frag) : List V → Hp → VK → Prop := fun xs H Q => ∃ p ys, xs = [.ref p] ∧ ((SqL K H p ys ∧ ∀ (l : Addr) (o : Obj), H l = none → o.dict = none → Q (.ref l) (upd H l (.frz o (.tup ys)))) ∨ (SqT K H p ys ∧ Q (.ref p) H))
theorem ok_tuple : OkB c (fun p => builtin .tuple [p]) (rTupA c.K) := by
  intro fr ms σ l T mm H p v rv Q s rp e h
  cases p with
  | tup ds =>
    cases e
    obtain ⟨a, vs, rfl, q, r⟩ := rp.tupN
    exact ⟨a, vs, rfl, .inr ⟨q.sq, h _ _ (s.oldT q r) Ext.refl⟩⟩
  | lst ds =>
    cases e
    obtain ⟨a, vs, rfl, q, r⟩ := rp.lst
    exact ⟨a, vs, rfl, .inl ⟨SqL.of q, fun l o hl ho => h _ _ (s.newT r hl ho) (Ext.new hl)⟩⟩
  | _ => cases e
end
end G

set_option linter.all false
set_option maxRecDepth 100000
set_option maxHeartbeats 1000000
namespace G
open PySem PySem.Spec PyProof.Rows L2
mutual
theorem py_inj : ∀ (x y : D), x.flat = true → y.flat = true → x.py = y.py → x = y
  | .non, y, _, hy, e => by cases y <;> simp [D.py, D.flat] at e hy; rfl
  | .bl a, y, _, hy, e => by cases y <;> simp [D.py, D.flat] at e hy; rw [e]
  | .int a, y, _, hy, e => by cases y <;> simp [D.py, D.flat] at e hy; rw [e]
  | .str a, y, _, hy, e => by cases y <;> simp [D.py, D.flat] at e hy; rw [e]
  | .tup xs, y, hx, hy, e => by
    cases y <;> simp [D.py, D.flat] at e hy hx
    rw [pyL_inj _ _ hx hy e]
  | .lst xs, y, hx, hy, e => by
    cases y <;> simp [D.py, D.flat] at e hy hx
    rw [pyL_inj _ _ hx hy e]
  | .dic _, _, hx, _, _ => by simp [D.flat] at hx
  | .obj _, _, hx, _, _ => by simp [D.flat] at hx
  | .scr _, _, hx, _, _ => by simp [D.flat] at hx
  | .pin _, _, hx, _, _ => by simp [D.flat] at hx
theorem pyL_inj : ∀ (xs ys : List D), D.flatL xs = true → D.flatL ys = true → D.pyL xs = D.pyL ys → xs = ys
  | [], [], _, _, _ => rfl
  | [], _ :: _, _, _, e => by simp [D.pyL] at e
  | _ :: _, [], _, _, e => by simp [D.pyL] at e
  | x :: xs, y :: ys, hx, hy, e => by
    simp only [D.flatL, Bool.and_eq_true] at hx hy
    simp only [D.pyL, List.cons.injEq] at e
    rw [py_inj x y hx.1 hy.1 e.1, pyL_inj xs ys hx.2 hy.2 e.2]
end
theorem pyL_map : ∀ (xs : List D), D.pyL xs = xs.map D.py
  | [] => rfl
  | x :: xs => by simp [D.pyL, pyL_map xs]
theorem flatL_all : ∀ {xs : List D}, (∀ x ∈ xs, x.flat = true) → D.flatL xs = true
  | [], _ => rfl
  | x :: xs, h => by
    simp only [D.flatL, Bool.and_eq_true]
    exact ⟨h x List.mem_cons_self, flatL_all fun y hy => h y (List.mem_cons_of_mem _ hy)⟩
theorem depL_le {n : Nat} : ∀ {xs : List D}, (∀ x ∈ xs, x.dep ≤ n) → D.depL xs ≤ n
  | [], _ => Nat.zero_le _
  | x :: xs, h => by
    simp only [D.depL]
    have h1 := h x List.mem_cons_self
    have h2 := depL_le (n := n) (xs := xs) fun y hy => h y (List.mem_cons_of_mem _ hy)
    omega
structure Less0 (xs : List D) : Prop where
  alike : ∀ x ∈ xs, ∀ y ∈ xs, PySem.W.alike x.py y.py = true
  flat : ∀ x ∈ xs, x.flat = true
  non : ∀ x ∈ xs, x.isNon = false
  dep : ∀ x ∈ xs, x.dep ≤ 60
structure Less (xs : List D) : Prop extends Less0 xs where
  sort : (∀ x ∈ xs, x.tupled = true) ∨ ∀ x ∈ xs, x.isTup = false
theorem less0_of {xs : List D} (h : allAlike xs = true) : Less0 xs := by
  unfold allAlike at h
  simp only [Bool.and_eq_true, List.all_eq_true, decide_eq_true_eq, Bool.not_eq_true'] at h
  exact ⟨fun x hx y hy => (h x hx).1.1.1 y hy, fun x hx => (h x hx).1.1.2, fun x hx => (h x hx).1.2, fun x hx => (h x hx).2⟩
theorem less_of {xs : List D} (h : allLess xs = true) : Less xs := by
  have h0 := less0_of (less_alike h)
  unfold allLess at h
  simp only [Bool.and_eq_true, List.all_eq_true, Bool.or_eq_true, decide_eq_true_eq, Bool.not_eq_true'] at h
  obtain ⟨h1, h2⟩ := h
  exact ⟨h0, h2⟩
theorem Less0.all {xs : List D} (h : Less0 xs) : PySem.W.AllAlike (xs.map D.py) := by
  intro d hd d' hd'
  obtain ⟨x, hx, rfl⟩ := List.mem_map.mp hd
  obtain ⟨y, hy, rfl⟩ := List.mem_map.mp hd'
  exact h.alike x hx y hy
theorem isNon_py {x : D} (h : x.isNon = false) (hf : x.flat = true) : x.py ≠ .none := by
  cases x <;> simp [D.isNon, D.py, D.flat] at h hf ⊢
theorem Less.sortable {xs : List D} (h : Less xs) : PySem.W.Sortable (xs.map D.py) := by
  rcases h.sort with q | q
  · refine .inl fun d hd => ?_
    obtain ⟨x, hx, rfl⟩ := List.mem_map.mp hd
    have := q x hx
    cases x <;> simp [D.tupled] at this
    rename_i ys
    cases ys with
    | nil => simp at this
    | cons y ys => exact ⟨y.py, D.pyL ys, by simp [D.py, D.pyL]⟩
  · refine .inr fun d hd => ?_
    obtain ⟨x, hx, rfl⟩ := List.mem_map.mp hd
    refine ⟨isNon_py (h.non x hx) (h.flat x hx), fun ys e => ?_⟩
    have := q x hx
    cases x <;> simp [D.isTup, D.py] at this e
mutual
theorem py_depth : ∀ (x : D), x.flat = true → x.py.depth = x.dep
  | .non, _ => by simp [D.py, PyData.depth, D.dep]
  | .bl _, _ => by simp [D.py, PyData.depth, D.dep]
  | .int _, _ => by simp [D.py, PyData.depth, D.dep]
  | .str _, _ => by simp [D.py, PyData.depth, D.dep]
  | .tup xs, h => by simp only [D.py, PyData.depth, D.dep, py_depths xs (by simpa [D.flat] using h)]
  | .lst xs, h => by simp only [D.py, PyData.depth, D.dep, py_depths xs (by simpa [D.flat] using h)]
  | .dic _, h => by simp [D.flat] at h
  | .obj _, h => by simp [D.flat] at h
  | .scr _, h => by simp [D.flat] at h
  | .pin _, h => by simp [D.flat] at h
theorem py_depths : ∀ (xs : List D), D.flatL xs = true → PyData.depthAll (D.pyL xs) = D.depL xs
  | [], _ => by simp [D.pyL, PyData.depthAll, D.depL]
  | x :: xs, h => by
    simp only [D.flatL, Bool.and_eq_true] at h
    simp only [D.pyL, PyData.depthAll, D.depL, py_depth x h.1, py_depths xs h.2]
end

mutual
theorem reads_old {h : Heap} : ∀ (d : PyData) (v : Value) (as : List Addr), Reads h v d as → ∀ a ∈ as, a < h.objs.size
  | .none, _, _, r, a, ha => by cases r; cases ha
  | .bool _, _, _, r, a, ha => by cases r; cases ha
  | .int _, _, _, r, a, ha => by cases r; cases ha
  | .str _, _, _, r, a, ha => by cases r; cases ha
  | .list xs, _, _, r, a, ha => by
    cases r with
    | list h1 h2 h3 h4 =>
      rcases List.mem_cons.mp ha with rfl | ha
      · exact Heap.lt_size h1
      · exact readsAll_old xs _ _ h4 a ha
  | .tuple xs, _, _, r, a, ha => by
    cases r with
    | tuple h1 h2 h3 h4 => exact readsAll_old xs _ _ h4 a ha
  | .dict kvs, _, _, r, a, ha => by
    cases r with
    | dict h1 h2 h3 h4 h5 =>
      rcases List.mem_append.mp ha with ha | ha
      · rcases List.mem_cons.mp ha with rfl | ha
        · exact Heap.lt_size h1
        · exact readsKv_old kvs _ _ h4 a ha
      · exact readsKv2_old kvs _ _ h5 a ha
theorem readsAll_old {h : Heap} : ∀ (ds : List PyData) (vs : List Value) (as : List Addr), ReadsAll h vs ds as → ∀ a ∈ as, a < h.objs.size
  | [], _, _, r, a, ha => by cases r; cases ha
  | d :: ds, _, _, r, a, ha => by
    cases r with
    | cons h1 h2 =>
      rcases List.mem_append.mp ha with ha | ha
      · exact reads_old d _ _ h1 a ha
      · exact readsAll_old ds _ _ h2 a ha
theorem readsKv_old {h : Heap} : ∀ (ds : List (PyData × PyData)) (vs : List Value) (as : List Addr), ReadsAll h vs (ds.map (·.1)) as → ∀ a ∈ as, a < h.objs.size
  | [], _, _, r, a, ha => by cases r; cases ha
  | (d, _) :: ds, _, _, r, a, ha => by
    cases r with
    | cons h1 h2 =>
      rcases List.mem_append.mp ha with ha | ha
      · exact reads_old d _ _ h1 a ha
      · exact readsKv_old ds _ _ h2 a ha
theorem readsKv2_old {h : Heap} : ∀ (ds : List (PyData × PyData)) (vs : List Value) (as : List Addr), ReadsAll h vs (ds.map (·.2)) as → ∀ a ∈ as, a < h.objs.size
  | [], _, _, r, a, ha => by cases r; cases ha
  | (_, d) :: ds, _, _, r, a, ha => by
    cases r with
    | cons h1 h2 =>
      rcases List.mem_append.mp ha with ha | ha
      · exact reads_old d _ _ h1 a ha
      · exact readsKv2_old ds _ _ h2 a ha
end
section
variable {c : Nm} {fr fr' : Addr → Prop} {m : List Addr} {H H' : Hp} {ms : Ms} {σ σ' : L2.St} {l : List (Option RV)} {T U : List (V × RV)} {mm : Mem} {W : WX} {X : Cx} {b k : Bool}
/-- a list, a tuple, a dict's keys -/
def Coll (c : Nm) (K : PySem.W.Frag) (H : Hp) (a : Addr) (vs : List V) : Prop := (∃ b, SqB K b H a vs) ∨ RawKeys c K H a vs
theorem collect_any {pins : List (Addr × Obj)} {s : Shared} {a : Addr} {vs : List V} {A : Around} {R : List Value → Shared → Prop} {E : Value → Shared → Prop} (sm : Same' c X) (hh : A.handled = none) (I : Inv X pins σ H s) (h : Coll c X.K H a vs)
    (hQ : ∀ h' tk its, (∀ b o, s.heap.get? b = some o → h'.get? b = some o) → Vals vs its → its.length ≤ sizeLine → R its { s with heap := h', toks := tk }) : wpAny (model X.prog X.w) A (collect (.ref a)) R E s := by
  rcases h with ⟨b, h⟩ | h
  · obtain ⟨its, rv, p, hz⟩ := inv_sq I h
    have hz' : its.toArray.size ≤ sizeLine := by rw [List.size_toArray, ← rv.length]; exact hz
    have fin : ∀ h', (∀ b o', s.heap.get? b = some o' → h'.get? b = some o') → R its.toArray.toList { s with heap := h' } := fun h' hk => by
      rw [List.toList_toArray]
      exact hQ h' s.toks its hk rv (by rw [← rv.length]; exact hz)
    cases b
    · obtain ⟨o, e, hc, n, hd⟩ := p
      exact PySem.wpAny_collect_seq a (.inl rfl) e hc hd fin hz'
    · obtain ⟨o, e, hc, n, hd⟩ := p
      exact PySem.wpAny_collect_seq a (.inr rfl) e hc hd fin hz'
  · obtain ⟨o, es, ep, hs, ho, hx, hd, hz, hv⟩ := raw_obj sm I h
    refine PySem.W.kdu_collect (kdl_raw hs hx hd) hh ho hz fun h' tk acc hk hacc => ?_
    have hv2 : Vals vs acc.toList := vals_entries hv (by rw [Array.length_toList]; exact hacc.1) fun j v e => hacc.2 j v (by rw [← Array.getElem?_toList]; exact e)
    exact hQ h' tk acc.toList hk hv2 (by rw [Array.length_toList, hacc.1]; exact hz)
abbrev le2 : V × D → V × D → Bool := PySem.W.dataLe false fun b => b.2.py
def rSortA (c : Nm) (K : PySem.W.Frag) : List V → Hp → VK → Prop := fun xs H Q => ∃ (a : Addr) (bs : List (V × D)), xs = [.ref a] ∧ Coll c K H a (bs.map Prod.fst) ∧ (∀ b ∈ bs, Dp K H b.1 b.2.py) ∧ Less (bs.map Prod.snd) ∧ ∀ q, H q = none → Q (.ref q) (upd H q (.lst ((bs.mergeSort le2).map Prod.fst)))
theorem each_rel : ∀ {bs : List (V × D)} {its : List Value}, Vals (bs.map Prod.fst) its → PySem.W.EachIs (fun v b => RelV (Prod.fst b) v) its bs
  | [], _, h => by cases h; exact .nil
  | b :: bs, _, h => by
    cases h with
    | cons r t => exact .cons r (each_rel t)
theorem rel_each : ∀ {bs : List (V × D)} {its : List Value}, PySem.W.EachIs (fun v b => RelV (Prod.fst b) v) its bs → Vals (bs.map Prod.fst) its
  | [], _, h => by cases h; exact .nil
  | b :: bs, _, h => by
    cases h with
    | cons r t => exact .cons r (rel_each t)
theorem each_reads {pins : List (Addr × Obj)} {s : Shared} {h : Heap} {P : Addr} (I : Inv X pins σ H s) (hk : ∀ b o, s.heap.get? b = some o → h.get? b = some o) (hP : s.heap.objs.size ≤ P) : ∀ {bs : List (V × D)} {its : List Value}, (∀ b ∈ bs, Dp X.K H b.1 b.2.py) → PySem.W.EachIs (fun v b => RelV (Prod.fst b) v) its bs →
    PySem.W.EachIs (fun v (b : V × D) => ∃ as, Reads h v b.2.py as ∧ P ∉ as) its bs
  | [], _, _, h => by cases h; exact .nil
  | b :: bs, _, hd, h => by
    cases h with
    | cons r t =>
      obtain ⟨as, q⟩ := Dp.reads I _ _ _ (hd b List.mem_cons_self) r
      refine .cons ⟨as, PyProof.Rows.Reads.keeps hk q, fun z => ?_⟩ (each_reads I hk hP (fun b hb => hd b (List.mem_cons_of_mem _ hb)) t)
      exact absurd (reads_old _ _ _ q P z) (Nat.not_lt.mpr hP)
theorem cr_sortedA (sm : Same' c X) (hcalm : X.calm = true) (hu : X.A.units + 70 < cLine) : CallR X (.builtin "sorted") (rSortA c X.K) := by
  intro pins s σ H xs us Q I r q
  obtain ⟨a, bs, rfl, hcoll, hdp, hl, q⟩ := q
  obtain ⟨u, rfl, rx⟩ := vals1 r
  obtain rfl : u = .ref a := rx
  refine Calls.call_function_entry PyProof.Rows.kind_sorted PyProof.Rows.plain_sorted PyProof.Rows.entry_sorted (PyProof.Rows.args_sorted1 _) ?_
  unfold Builtin.«sorted»
  refine wpAny_bind (m := checkCount "sorted" 1 1 _) (wpAny_pure ?_)
  refine wpAny_bind (collect_any (A := X.A.in1) sm (I.ok.hd hcalm) I hcoll fun h' tk its hk hv hz => ?_)
  have I1 : Inv X pins σ H { s with heap := h', toks := tk } := I.kept hk
  refine wpAny_bind (wpAny_newList ?_ hz)
  have hoL : (h'.push (seqObj "list" its.toArray 0)).get? h'.objs.size = some (seqObj "list" its.toArray 0) := Heap.get?_push_size _ rfl
  show wpAny _ _ _ _ _ { s with heap := h'.push (seqObj "list" its.toArray 0), toks := tk }
  have e1 := each_rel hv
  have hL : bs.length ≤ sizeLine := by rw [← e1.length]; exact hz
  have hm : (bs.map fun b : V × D => b.2.py) = (bs.map Prod.snd).map D.py := by rw [List.map_map]; rfl
  refine wpAny_bind (wpAny_holding (PySem.W.list_sort_data (s := { s with heap := h'.push (seqObj "list" its.toArray 0), toks := tk }) (R := fun v b => RelV (Prod.fst b) v) (enc := fun b : V × D => b.2.py) (vs := its) (bs := bs) hoL e1
    (each_reads I1 (fun b o e => Heap.get?_push_of_some _ e) (Nat.le_refl _) hdp e1) (by rw [hm]; exact hl.all) (by rw [hm]; exact hl.sortable) hL (fun b hb => ?_) fun out ho eo => ?_))
  · have hb' : b.2 ∈ bs.map Prod.snd := List.mem_map.mpr ⟨b, hb, rfl⟩
    rw [py_depth _ (hl.flat _ hb')]
    have := hl.dep _ hb'
    show X.A.units + 1 + 1 + _ < _
    omega
  · obtain ⟨e', he'⟩ := PyProof.Rows.sortedHeap_at (vs := its) (out := out.toArray) hoL
    have hv2 := rel_each eo
    have hlen : ((bs.mergeSort le2).map Prod.fst).length ≤ sizeLine := by
      rw [List.length_map, List.length_mergeSort]
      exact hL
    refine wpAny_pure ⟨_, rfl, .ref h'.objs.size, upd H h'.objs.size (.lst ((bs.mergeSort le2).map Prod.fst)), I1.laid (t' := tk) (fun b u e => ?_) (Nat.le_refl _)
      (show ObjOk X.prog X.w _ _ _ (.lst ((bs.mergeSort le2).map Prod.fst)) from ⟨hlen, out, e', hv2, he'⟩), rfl, q _ (I1.hok.fresh (Nat.le_refl _))⟩
    have hb : b < h'.objs.size := Heap.lt_size e
    rw [PyProof.Rows.sortedHeap_old (Nat.ne_of_lt hb) (by rw [size_push']; exact Nat.lt_succ_of_lt hb)]
    exact Heap.get?_push_of_some _ e
theorem FRs.zipped : ∀ {ds : List D} {vs : List V}, FRs c fr m H ds vs → (vs.zip ds).map Prod.fst = vs ∧ (vs.zip ds).map Prod.snd = ds ∧ ∀ b ∈ vs.zip ds, FR c fr m H b.2 b.1
  | [], vs, h => by
    simp only [FRs] at h; subst h
    exact ⟨rfl, rfl, fun b hb => by cases hb⟩
  | d :: ds, vs, h => by
    simp only [FRs] at h
    obtain ⟨v, vs', rfl, r, q⟩ := h
    obtain ⟨h1, h2, h3⟩ := q.zipped
    refine ⟨by simp [h1], by simp [h2], fun b hb => ?_⟩
    rw [List.zip_cons_cons] at hb
    rcases List.mem_cons.mp hb with rfl | hb
    · exact r
    · exact h3 b hb
theorem FRs.unzip : ∀ {bs : List (V × D)}, (∀ b ∈ bs, FR c fr m H b.2 b.1) → FRs c fr m H (bs.map Prod.snd) (bs.map Prod.fst)
  | [], _ => FRs.nil
  | b :: bs, h => FRs.cons (h b List.mem_cons_self) (FRs.unzip fun b hb => h b (List.mem_cons_of_mem _ hb))
theorem sort_zip {bs : List (V × D)} : (bs.mergeSort le2).map Prod.snd = sortD (bs.map Prod.snd) := by
  unfold sortD
  exact List.map_mergeSort fun a _ b _ => rfl
theorem sort_parts {ds : List D} {vs : List V} (s : SIg c fr ms σ l T mm H) (r : FRs c fr (mu ms) H ds vs) (hl : allLess ds = true) {a : Addr} (hc : Coll c c.K H a vs) {Q : VK} (h : ∀ z H', SI c σ l ((z, (true, .lst (sortD ds))) :: T) mm H' → Ext H H' → Q z H') : rSortA c c.K [.ref a] H Q := by
  obtain ⟨h1, h2, h3⟩ := r.zipped
  have less := less_of hl
  refine ⟨a, vs.zip ds, rfl, by rw [h1]; exact hc, fun b hb => (h3 b hb).rd.dp ?_, by rw [h2]; exact less, fun q hq => ?_⟩
  · have : b.2 ∈ ds := by rw [← h2]; exact List.mem_map.mpr ⟨b, hb, rfl⟩
    exact less.flat _ this
  · have e : sortD ds = ((vs.zip ds).mergeSort le2).map Prod.snd := by rw [sort_zip, h2]
    refine h _ _ (s.newL (ds := sortD ds) ?_ hq) (Ext.new hq)
    rw [e]
    exact FRs.unzip fun b hb => h3 b (List.mem_mergeSort.mp hb)
theorem ok_sorted : OkB c (fun p => builtin .sorted [p]) (rSortA c c.K) := by
  intro fr ms σ l T mm H p v rv Q s rp e h
  have e : (p.items.bind fun xs => if allLess xs then some (true, D.lst (sortD xs)) else none) = some rv := e
  cases p with
  | tup ds =>
    obtain ⟨hl, rfl⟩ := some_if (a := (true, D.lst (sortD ds))) e
    obtain ⟨a, vs, rfl, q, r⟩ := rp.tup
    exact sort_parts s r hl (.inl ⟨true, q⟩) h
  | lst ds =>
    obtain ⟨hl, rfl⟩ := some_if (a := (true, D.lst (sortD ds))) e
    obtain ⟨a, vs, rfl, q, r⟩ := rp.lst
    exact sort_parts s r hl (.inl ⟨false, SqL.of q⟩) h
  | dic kvs =>
    obtain ⟨hl, rfl⟩ := some_if (a := (true, D.lst (sortD (kvs.map Prod.fst)))) e
    obtain ⟨a, rfl, hd⟩ := rp
    obtain ⟨vs, hr, r⟩ := hd.raw
    exact sort_parts s r hl (.inr hr) h
  | _ => cases e
end
end G

set_option linter.all false
set_option maxRecDepth 100000
set_option maxHeartbeats 1000000
namespace G
open PySem PySem.Spec PyProof.Rows L2 PySem.W
section
variable {c : Nm} {fr fr' : Addr → Prop} {m : List Addr} {H H' : Hp} {ms : Ms} {σ σ' : L2.St} {l : List (Option RV)} {T U : List (V × RV)} {mm : Mem} {W : WX} {X : Cx} {b k : Bool}
/-! min, max -/
def rPick (f : List D → Option D) (K : PySem.W.Frag) : List V → Hp → VK → Prop := fun xs H Q => ∃ (a : Addr) (bs : List (V × D)), xs = [.ref a] ∧ (∃ b, SqB K b H a (bs.map Prod.fst)) ∧ (∀ b ∈ bs, Dp K H b.1 b.2.py) ∧ Less0 (bs.map Prod.snd) ∧ bs ≠ [] ∧ ∀ b ∈ bs, f (bs.map Prod.snd) = some b.2 → Q b.1 H
theorem least_py (x : D) (r : List D) : (r.foldl (fun a b => if PySem.W.dataLt b.py a.py then b else a) x).py = minD x.py (r.map D.py) := by
  unfold minD
  induction r generalizing x with
  | nil => rfl
  | cons y r ih =>
    simp only [List.foldl_cons, List.map_cons]
    rw [ih]
    congr 1
    split <;> rfl
theorem greatest_py (x : D) (r : List D) : (r.foldl (fun a b => if PySem.W.dataLt a.py b.py then b else a) x).py = maxD x.py (r.map D.py) := by
  unfold maxD
  induction r generalizing x with
  | nil => rfl
  | cons y r ih =>
    simp only [List.foldl_cons, List.map_cons]
    rw [ih]
    congr 1
    split <;> rfl
theorem fold_mem (p : D → D → Bool) : ∀ (r : List D) (x : D), (r.foldl (fun a b => if p a b then b else a) x) ∈ x :: r
  | [], x => by simp
  | y :: r, x => by
    simp only [List.foldl_cons]
    have := fold_mem p r (if p x y then y else x)
    rcases List.mem_cons.mp this with h | h
    · rw [h]
      split <;> simp
    · simp [h]
theorem alike_of {ds : List D} (h : Less0 ds) : AlikeAll (ds.map D.py) := by
  refine ⟨fun x hx y hy => h.all x hx y hy, fun x hx => ?_⟩
  obtain ⟨d, hd, rfl⟩ := List.mem_map.mp hx
  exact isNon_py (h.non d hd) (h.flat d hd)
theorem dpAll_of : ∀ {bs : List (V × D)}, (∀ b ∈ bs, Dp X.K H b.1 b.2.py) → DpAll X.K H (bs.map Prod.fst) ((bs.map Prod.snd).map D.py)
  | [], _ => .nil
  | b :: bs, h => .cons (h b List.mem_cons_self) (dpAll_of fun b hb => h b (List.mem_cons_of_mem _ hb))
theorem pick_end {pins : List (Addr × Obj)} {s : Shared} {bs : List (V × D)} {its : List Value} {z : D} {i : Nat} {v : Value} {h' : Heap} {tk : Nat} {as' : List Addr} {Q : VK} {fm : PyData} (I : Inv X pins σ H s) (rv : Vals (bs.map Prod.fst) its) (hdp : ∀ b ∈ bs, Dp X.K H b.1 b.2.py) (hl : Less0 (bs.map Prod.snd))
    (hz : z ∈ bs.map Prod.snd) (hzp : z.py = fm) (e : its.toArray[i]? = some v) (hr : Reads h' v fm as') (hk : ∀ b o, s.heap.get? b = some o → h'.get? b = some o) (q : ∀ b ∈ bs, z = b.2 → Q b.1 H) : EP X pins σ Q v { s with heap := h', toks := tk } := by
  obtain ⟨w, hw, rw'⟩ := vals_at rv e
  rw [List.getElem?_map] at hw
  cases hb : bs[i]? with
  | none => rw [hb] at hw; cases hw
  | some b =>
    rw [hb] at hw
    cases hw
    have hm : b ∈ bs := List.mem_of_getElem? hb
    have hm2 : b.2 ∈ bs.map Prod.snd := List.mem_map.mpr ⟨b, hm, rfl⟩
    obtain ⟨as, r1⟩ := Dp.reads I _ _ _ (hdp b hm) rw'
    have r2 := PyProof.Rows.Reads.keeps hk r1
    have e1 := (Reads.unique r2 _ _ hr).1
    have e2 : z = b.2 := py_inj z b.2 (hl.flat z hz) (hl.flat _ hm2) (by rw [hzp, e1])
    exact ⟨b.1, H, I.kept hk, rw', q b hm e2⟩
theorem cr_minA (hc : X.calm = true) (hu : X.A.units + 70 < cLine) : CallR X (.builtin "min") (rPick least X.K) := by
  intro pins s σ H xs us Q I r q
  obtain ⟨a, bs, rfl, ⟨b, hs⟩, hdp, hl, hne, q⟩ := q
  obtain ⟨u, rfl, rx⟩ := vals1 r
  obtain rfl : u = .ref a := rx
  obtain ⟨its, rv, p, hz⟩ := inv_sq I hs
  cases bs with
  | nil => exact absurd rfl hne
  | cons b0 bs =>
    obtain ⟨as, hr⟩ := Dp.readsAll I _ _ _ (dpAll_of hdp) rv
    have ha := alike_of hl
    have hd : PyData.depthAll (((b0 :: bs).map Prod.snd).map D.py) ≤ 60 := by
      rw [← pyL_map, py_depths _ (flatL_all hl.flat)]
      exact depL_le hl.dep
    have hfin : ∀ (i : Nat) v h' tk as', its.toArray[i]? = some v → Reads h' v (minD b0.2.py ((bs.map Prod.snd).map D.py)) as' → (∀ b o, s.heap.get? b = some o → h'.get? b = some o) → EP X pins σ Q v { s with heap := h', toks := tk } :=
      fun i v h' tk as' e hr' hk => pick_end I rv hdp hl (fold_mem (fun a b => PySem.W.dataLt b.py a.py) _ _) (least_py b0.2 (bs.map Prod.snd)) e hr' hk fun b hb e2 => q b hb (by rw [← e2]; rfl)
    have hu2 : X.A.units + 1 + PyData.depthAll (((b0 :: bs).map Prod.snd).map D.py) < cLine := by omega
    cases b
    · exact min_list_data (I.ok.hd hc) p (by rw [List.toList_toArray]; exact hr) ha hu2 hfin
    · exact min_tuple_data (I.ok.hd hc) p (by rw [List.toList_toArray]; exact hr) ha hu2 hfin
theorem cr_maxA (hc : X.calm = true) (hu : X.A.units + 70 < cLine) : CallR X (.builtin "max") (rPick greatest X.K) := by
  intro pins s σ H xs us Q I r q
  obtain ⟨a, bs, rfl, ⟨b, hs⟩, hdp, hl, hne, q⟩ := q
  obtain ⟨u, rfl, rx⟩ := vals1 r
  obtain rfl : u = .ref a := rx
  obtain ⟨its, rv, p, hz⟩ := inv_sq I hs
  cases bs with
  | nil => exact absurd rfl hne
  | cons b0 bs =>
    obtain ⟨as, hr⟩ := Dp.readsAll I _ _ _ (dpAll_of hdp) rv
    have ha := alike_of hl
    have hd : PyData.depthAll (((b0 :: bs).map Prod.snd).map D.py) ≤ 60 := by
      rw [← pyL_map, py_depths _ (flatL_all hl.flat)]
      exact depL_le hl.dep
    have hfin : ∀ (i : Nat) v h' tk as', its.toArray[i]? = some v → Reads h' v (maxD b0.2.py ((bs.map Prod.snd).map D.py)) as' → (∀ b o, s.heap.get? b = some o → h'.get? b = some o) → EP X pins σ Q v { s with heap := h', toks := tk } :=
      fun i v h' tk as' e hr' hk => pick_end I rv hdp hl (fold_mem (fun a b => PySem.W.dataLt a.py b.py) _ _) (greatest_py b0.2 (bs.map Prod.snd)) e hr' hk fun b hb e2 => q b hb (by rw [← e2]; rfl)
    have hu2 : X.A.units + 1 + PyData.depthAll (((b0 :: bs).map Prod.snd).map D.py) < cLine := by omega
    cases b
    · exact max_list_data (I.ok.hd hc) p (by rw [List.toList_toArray]; exact hr) ha hu2 hfin
    · exact max_tuple_data (I.ok.hd hc) p (by rw [List.toList_toArray]; exact hr) ha hu2 hfin
theorem pick_parts {f : List D → Option D} {p : D} {ds : List D} {v : V} {z : D} {Q : VK} (s : SIg c fr ms σ l T mm H) (rp : RD c fr (mu ms) H p v) (hp : p.seq = some ds) (hl : allAlike ds = true) (hz : f ds = some z) (hf : f [] = none) (h : ∀ y H', SI c σ l ((y, (false, z)) :: T) mm H' → Ext H H' → Q y H') : rPick f c.K [v] H Q := by
  obtain ⟨a, vs, rfl, q, r⟩ := seq_sq hp rp
  obtain ⟨h1, h2, h3⟩ := r.zipped
  have less := less0_of hl
  refine ⟨a, vs.zip ds, rfl, ⟨_, by rw [h1]; exact q⟩, fun b hb => (h3 b hb).rd.dp ?_, by rw [h2]; exact less, fun e => ?_, fun b hb e => ?_⟩
  · have : b.2 ∈ ds := by rw [← h2]; exact List.mem_map.mpr ⟨b, hb, rfl⟩
    exact less.flat _ this
  · rw [← h2, e] at hz
    rw [show ([] : List (V × D)).map Prod.snd = [] from rfl, hf] at hz
    cases hz
  · rw [h2, hz] at e
    cases e
    exact h _ _ ⟨fr, ms, s.push (h3 b hb)⟩ Ext.refl
theorem ok_min1 : OkB c (fun p => builtin .min1 [p]) (rPick least c.K) := by
  intro fr ms σ l T mm H p v rv Q s rp e h
  have e : (p.seq.bind fun xs => if allAlike xs then (least xs).map fun z => ((false, z) : RV) else none) = some rv := e
  obtain ⟨ds, hp, e⟩ := Option.bind_eq_some_iff.mp e
  split at e
  · rename_i hl
    obtain ⟨z, hz, rfl⟩ := some_map e
    exact pick_parts s rp hp hl hz rfl h
  · cases e
theorem ok_max1 : OkB c (fun p => builtin .max1 [p]) (rPick greatest c.K) := by
  intro fr ms σ l T mm H p v rv Q s rp e h
  have e : (p.seq.bind fun xs => if allAlike xs then (greatest xs).map fun z => ((false, z) : RV) else none) = some rv := e
  obtain ⟨ds, hp, e⟩ := Option.bind_eq_some_iff.mp e
  split at e
  · rename_i hl
    obtain ⟨z, hz, rfl⟩ := some_map e
    exact pick_parts s rp hp hl hz rfl h
  · cases e
/-! all, any, sum -/
theorem FRs.bools : ∀ {ds : List D} {bs : List Bool} {vs : List V}, asBools ds = some bs → FRs c fr m H ds vs → vs = bs.map V.bl
  | [], bs, vs, e, h => by
    cases e
    simp only [FRs] at h; subst h; rfl
  | d :: ds, bs, vs, e, h => by
    cases d <;> first | cases e | skip
    obtain ⟨bs', e', rfl⟩ := some_map e
    simp only [FRs, FR] at h
    obtain ⟨v, vs', rfl, rfl, q⟩ := h
    rw [FRs.bools e' q]
    rfl
theorem FRs.intsOf : ∀ {ds : List D} {ns : List Int} {vs : List V}, asInts ds = some ns → FRs c fr m H ds vs → vs = ns.map V.int
  | [], bs, vs, e, h => by
    cases e
    simp only [FRs] at h; subst h; rfl
  | d :: ds, bs, vs, e, h => by
    cases d <;> first | cases e | skip
    obtain ⟨bs', e', rfl⟩ := some_map e
    simp only [FRs, FR] at h
    obtain ⟨v, vs', rfl, rfl, q⟩ := h
    rw [FRs.intsOf e' q]
    rfl
theorem FRs.strs : ∀ {ds : List D} {ns : List Str} {vs : List V}, asStrs ds = some ns → FRs c fr m H ds vs → vs = ns.map V.str
  | [], bs, vs, e, h => by
    cases e
    simp only [FRs] at h; subst h; rfl
  | d :: ds, bs, vs, e, h => by
    cases d <;> first | cases e | skip
    obtain ⟨bs', e', rfl⟩ := some_map e
    simp only [FRs, FR] at h
    obtain ⟨v, vs', rfl, rfl, q⟩ := h
    rw [FRs.strs e' q]
    rfl
theorem ok_all : OkB c (fun p => builtin .all [p]) (rAll c.K) := by
  intro fr ms σ l T mm H p v rv Q s rp e h
  cases p with
  | lst ds =>
    obtain ⟨bs, e', rfl⟩ := some_map (g := fun is : List Bool => ((false, D.bl (is.all id)) : RV)) e
    obtain ⟨a, vs, rfl, q, r⟩ := rp.lst
    rw [FRs.bools e' r] at q
    exact ⟨a, bs, rfl, SqL.of q, h _ _ (s.abl _) Ext.refl⟩
  | _ => cases e
theorem ok_any : OkB c (fun p => builtin .any [p]) (rAny c.K) := by
  intro fr ms σ l T mm H p v rv Q s rp e h
  cases p with
  | lst ds =>
    obtain ⟨bs, e', rfl⟩ := some_map (g := fun is : List Bool => ((false, D.bl (is.any id)) : RV)) e
    obtain ⟨a, vs, rfl, q, r⟩ := rp.lst
    rw [FRs.bools e' r] at q
    exact ⟨a, bs, rfl, SqL.of q, h _ _ (s.abl _) Ext.refl⟩
  | _ => cases e
theorem ok_sum : OkB c (fun p => builtin .sum [p]) (rSum c.K) := by
  intro fr ms σ l T mm H p v rv Q s rp e h
  cases p with
  | lst ds =>
    obtain ⟨bs, e', rfl⟩ := some_map (g := fun is : List Int => ((false, D.int is.sum) : RV)) e
    obtain ⟨a, vs, rfl, q, r⟩ := rp.lst
    rw [FRs.intsOf e' r] at q
    exact ⟨a, bs, rfl, SqL.of q, h _ _ (s.aint _) Ext.refl⟩
  | _ => cases e
/-! numbers, texts -/
theorem ok_abs : OkB c (fun p => builtin .abs [p]) (fun xs H Q => ∃ i, xs = [.int i] ∧ Q (.int (if i < 0 then -i else i)) H) := by
  intro fr ms σ l T mm H p v rv Q s rp e h
  cases p with
  | int i => cases e; rw [rp.int]; exact ⟨i, rfl, h _ _ (s.aint _) Ext.refl⟩
  | _ => cases e
theorem ok_int : OkB c (fun p => builtin .int [p]) (fun xs H Q => (∃ i, xs = [.int i] ∧ Q (.int i) H) ∨ ∃ k, xs = [.bl k] ∧ Q (.int (if k then 1 else 0)) H) := by
  intro fr ms σ l T mm H p v rv Q s rp e h
  cases p with
  | int i => cases e; rw [rp.int]; exact .inl ⟨i, rfl, h _ _ (s.aint _) Ext.refl⟩
  | bl i => cases e; rw [rp.bl]; exact .inr ⟨i, rfl, h _ _ (s.aint _) Ext.refl⟩
  | _ => cases e
theorem ok_str : OkB c (fun p => builtin .str [p]) (fun xs H Q => ∃ i, xs = [.int i] ∧ i.natAbs.log2 < 1920 ∧ Q (.str (toString i)) H) := by
  intro fr ms σ l T mm H p v rv Q s rp e h
  cases p with
  | int i =>
    obtain ⟨hz, rfl⟩ := some_if (a := ((false, D.str (toString i)) : RV)) e
    rw [rp.int]; exact ⟨i, rfl, hz, h _ _ (s.astr _) Ext.refl⟩
  | _ => cases e
theorem ok_ord : OkB c (fun p => builtin .ord [p]) (fun xs H Q => ∃ x, xs = [.str x] ∧ x.length = 1 ∧ Q (.int (x.cps.getD 0 0 : Nat)) H) := by
  intro fr ms σ l T mm H p v rv Q s rp e h
  cases p with
  | str t =>
    obtain ⟨hz, rfl⟩ := some_if (a := ((false, D.int (t.cps.getD 0 0 : Nat)) : RV)) e
    rw [rp.str]; exact ⟨t, rfl, hz, h _ _ (s.aint _) Ext.refl⟩
  | _ => cases e
end
end G

set_option linter.all false
set_option maxRecDepth 100000
set_option maxHeartbeats 1000000
namespace G
open PySem PySem.Spec PyProof.Rows L2
section
variable {c : Nm} {fr fr' : Addr → Prop} {m : List Addr} {H H' : Hp} {ms : Ms} {σ σ' : L2.St} {l : List (Option RV)} {T U : List (V × RV)} {mm : Mem} {W : WX} {X : Cx} {b k : Bool}
/-- the value is of that built-in type, no dict of its own -/
def TyA (X : Cx) (Ty : String) (x : V) (H : Hp) : Prop := ∀ (pins : List (Addr × Obj)) (σ : L2.St) (s : Shared) (v : Value), Inv X pins σ H s → RelV x v → s.TypeIs v Ty ∧ ∀ a, v = .ref a → ∃ ob, s.heap.get? a = some ob ∧ ob.dict = none
/-- a built-in method by name -/
structure MFact (Ty : String) (name : Str) (id : String) : Prop where
  pa : PlainAttrs Ty
  slot : Slot Ty name id
  ty : typeOf (.builtin id) = pure (.type "method_descriptor")
def tBA (X : Cx) (name : Str) (to : TE) (t : TA) : TE := fun σ H Q => to σ H fun x H1 => ∃ Ty id r, MFact Ty name id ∧ MtR X id r ∧ TyA X Ty x H1 ∧ t σ H1 fun xs H2 => r x xs H2 Q
variable {o e : Expr} {es : List Expr} {to : TE} {t : TA} {name : Str} {apos cpos : Pos}
theorem pe_ba (ho : PE X o to) (ha : PA X (e :: es) t) (hbase : attributeBase o name X.env (eval o X.env) = eval o X.env)
    (hfew : ((backTo cpos (starEach (e :: es) X.env)).all (fun x => !x.1) && (backToKw cpos (keywordEach [] X.env)).all (fun x => x.1.isSome)
      && decide ((e :: es).length + ([] : List Keyword).length + (if ([] : List Keyword).isEmpty then 0 else 1) < 30)) = true)
    (hline : (apos.endLine == cpos.line) = true) (hs : starEach (e :: es) X.env = (false, eval e X.env) :: starEach es X.env) (hplain : (backTo cpos (starEach es X.env)).any (·.1) = false) :
    PE X (.Call (.Attribute o name apos) (e :: es) [] cpos) (tBA X name to t) := by
  refine ⟨fun pins s σ H Q I h => ?_⟩
  refine wpAny_Call_method_late hbase hfew hline rfl (thn (ho.run pins s σ H _ I h) fun v s1 ⟨x, H1, I1, r1, Ty, id, r, mf, hm, ty, q1⟩ => ?_)
  obtain ⟨h1, h2⟩ := ty pins σ s1 v I1 r1
  refine ⟨Ty, id, mf.pa, mf.slot, mf.ty, h1, h2, ?_⟩
  have hA := ha.run cpos pins s1 σ H1 _ I1 q1
  rw [hs] at hA ⊢
  refine Calls.callWith_builtin (by show (false || (backTo cpos (starEach es X.env)).any (·.1)) = false; rw [hplain] <;> rfl) (Calls.evalArgs_plain ?_)
  exact thn hA fun us s2 ⟨vs, H2, I2, r2, q2⟩ => hm pins s2 σ H2 x vs v us Q I2 r1 r2 q2
theorem tyA_str {x : Str} : TyA X "str" (.str x) H := by
  intro pins σ s v I r
  obtain ⟨t, rfl⟩ := r
  exact ⟨typeIs_str s x t, fun _ e => nomatch e⟩
theorem tyA_lst {a : Addr} {vs : List V} (h : SqL X.K H a vs) : TyA X "list" (.ref a) H := by
  intro pins σ s v I r
  cases r
  obtain ⟨its, _, pl, _⟩ := I.list h
  refine ⟨pl.isList.typeIs, fun a e => ?_⟩
  cases e
  obtain ⟨o, n, e, c, hd, _⟩ := pl
  exact ⟨o, e, hd⟩
theorem tyA_dic {a : Addr} {kvs : List (D × D)} (sm : Same' c X) (h : DcA c fr m H a kvs) : TyA X "dict" (.ref a) H := by
  intro pins σ s v I r
  cases r
  obtain ⟨vs, hr, _⟩ := h.raw
  rw [← sm.K] at hr
  obtain ⟨o, es, ep, hs, ho, hx, _⟩ := raw_obj sm I hr
  exact ⟨⟨o, ho, hx.1⟩, fun a e => by cases e; exact ⟨o, ho, hx.2.1⟩⟩
/-- what a method owes -/
def RDs (c : Nm) (fr : Addr → Prop) (mu : List Addr) (H : Hp) : List D → List V → Prop
  | [], [] => True
  | d :: ds, v :: vs => RD c fr mu H d v ∧ RDs c fr mu H ds vs
  | _, _ => False
def ArgR (fz : Bool) (c : Nm) (fr : Addr → Prop) (mu : List Addr) (H : Hp) (qs : List D) (ws : List V) : Prop := if fz then FRs c fr mu H qs ws else RDs c fr mu H qs ws
structure OkM (fz : Bool) (c : Nm) (X : Cx) (bm : Bm) (name : Str) (Ty id : String) (r : V → List V → Hp → VK → Prop) : Prop where
  fact : MFact Ty name id
  mt : MtR X id r
  ty : ∀ fr ms σ l T mm H p v, SIg c fr ms σ l T mm H → RD c fr (mu ms) H p v → bmTy bm p = true → TyA X Ty v H
  run : ∀ fr ms σ l T mm H p v qs ws rv (Q : VK), SIg c fr ms σ l T mm H → RD c fr (mu ms) H p v → ArgR fz c fr (mu ms) H qs ws → bmeth bm p qs = some rv → (∀ z H', SI c σ l ((z, rv) :: T) mm H' → Ext H H' → Q z H') → r v ws H Q
variable {bm : Bm} {Ty id : String} {r : V → List V → Hp → VK → Prop}
/-- arguments: as data -/
def tAs (fz : Bool) (c : Nm) (W : WX) (B : M (List D)) (t : TA) : Prop := ∀ σ H (Q : List V → Hp → Prop), (∃ l T m, SI c σ l T m H ∧ Run B ⟨l, m⟩ (fun qs s' => ∀ U ws H', (∃ fr ms, SIg c fr ms σ s'.l (U ++ T) s'.m H' ∧ ArgR fz c fr (mu ms) H' qs ws) → Q ws H') (ExP c W σ T)) → t σ H Q
/-- on a name -/
theorem t_bm_var {i : Nat} {B : M (List D)} {t : TA} {fz : Bool} (ok : OkM fz c X bm name Ty id r) (hb : tAs fz c W B t) :
    ∀ σ H Q, tM c W b false (do
      let u ← (do let v ← getS i; M.ret (false, v.2) : M RV)
      let p0 ← seen u
      if bmTy bm p0 then do
        let qs ← B
        let u ← again (.var i) u
        let p ← seen u
        M.of (bmeth bm p qs)
      else M.stuck) σ H Q → tBA X name (fun σ H Q => ∃ v, σ[i]? = some (some v) ∧ Q v H) t σ H Q := by
  rintro σ H Q ⟨l, T, m, ⟨fr, ms, s⟩, h⟩
  rw [Run.bind, Run.bind, Run.getS] at h
  obtain ⟨x0, e0, h⟩ := h
  obtain ⟨v, es, rt⟩ := s.slots i x0 e0
  rw [Run.ret, Run.bind] at h
  obtain ⟨p0, h, rp, _⟩ := Run.seen h s rt.rd
  refine ⟨v, es, Ty, id, r, ok.fact, ok.mt, ?_⟩
  by_cases hty : bmTy bm p0 = true
  · simp only [if_pos hty] at h
    refine ⟨ok.ty fr ms σ l T m H p0 v s rp hty, hb σ H _ ⟨l, T, m, ⟨fr, ms, s⟩, ?_⟩⟩
    rw [Run.bind] at h
    refine Run.mono h (fun qs s1 h => fun U ws H1 hq => ?_) (fun _ _ z => z)
    obtain ⟨fr, ms, s1', rq⟩ := hq
    rw [Run.bind] at h
    obtain ⟨x1, q1, h⟩ := again_var h
    obtain ⟨v1, q2, rx⟩ := s1'.slots i x1 q1
    rw [es] at q2
    cases q2
    rw [Run.bind] at h
    obtain ⟨p, h, rp, _⟩ := Run.seen h s1' rx.rd
    rw [Run.of] at h
    obtain ⟨rv, er, h⟩ := h
    exact ok.run fr ms σ s1.l (U ++ T) s1.m H1 p v qs ws rv Q s1' rp rq er fun z H' si ex => h z H' (.of (SI.dropU si)) fun z => nomatch z
  · rw [if_neg hty] at h; exact h.elim
/-- on what is held -/
theorem t_bm_held {e1 : E} {A : M RV} {k1 : Bool} {B : M (List D)} {t : TA} {fz : Bool} (ok : OkM fz c X bm name Ty id r) (hv : e1.isVar = false) (hb : tAs fz c W B t) :
    ∀ σ H Q, tM c W b false (do
      let u ← A
      let p0 ← seen u
      if bmTy bm p0 then do
        let qs ← B
        let u ← again e1 u
        let p ← seen u
        M.of (bmeth bm p qs)
      else M.stuck) σ H Q → tBA X name (tM c W false k1 A) t σ H Q := by
  rintro σ H Q ⟨l, T, m, s, h⟩
  refine ⟨l, T, m, s, ?_⟩
  rw [Run.bind] at h
  refine Run.mono h (fun u s0 h => ?_) (fun _ _ z => z)
  intro v H0 aft _
  obtain ⟨fr, ms, s⟩ : SI c σ s0.l ((v, u) :: T) s0.m H0 := aft
  rw [Run.bind] at h
  obtain ⟨p0, h, rp, _⟩ := seen_held s List.mem_cons_self h
  refine ⟨Ty, id, r, ok.fact, ok.mt, ?_⟩
  by_cases hty : bmTy bm p0 = true
  · simp only [if_pos hty] at h
    refine ⟨ok.ty fr ms σ s0.l _ s0.m H0 p0 v s rp hty, hb σ H0 _ ⟨s0.l, (v, u) :: T, s0.m, ⟨fr, ms, s⟩, ?_⟩⟩
    rw [Run.bind] at h
    refine Run.mono h (fun qs s1 h => fun U ws H1 hq => ?_) (fun _ _ z => z.pop)
    obtain ⟨fr, ms, s1', rq⟩ := hq
    rw [again_not hv, Run.bind, Run.ret, Run.bind] at h
    obtain ⟨p, h, rp, _⟩ := seen_held s1' (List.mem_append_right _ List.mem_cons_self) h
    rw [Run.of] at h
    obtain ⟨rv, er, h⟩ := h
    refine ok.run fr ms σ s1.l _ s1.m H1 p v qs ws rv Q s1' rp rq er fun z H' si ex => h z H' (.of ?_) fun z => nomatch z
    exact SI.dropU (T := T) (U := [(v, u)]) (SI.dropU si)
  · rw [if_neg hty] at h; exact h.elim
/-- one argument, looked at -/
theorem as_look {A : M RV} {k1 : Bool} : tAs false c W (do
    let v ← A
    let q ← seen v
    M.ret [q]) (tCons (tM c W true k1 A) tNil) := by
  rintro σ H Q ⟨l, T, m, s, h⟩
  refine ⟨l, T, m, s, ?_⟩
  rw [Run.bind] at h
  refine Run.mono h (fun u s1 h => ?_) (fun _ _ z => z)
  intro v H1 aft _
  obtain ⟨fr, ms, s1', r⟩ := aft.look
  rw [Run.bind] at h
  obtain ⟨q, h, rq, _⟩ := Run.seen h s1' r
  exact h [] [v] H1 ⟨fr, ms, s1', rq, trivial⟩
theorem FRs.rds : ∀ {ds : List D} {vs : List V}, FRs c fr m H ds vs → RDs c fr m H ds vs
  | [], vs, h => by simp only [FRs] at h; subst h; trivial
  | d :: ds, vs, h => by
    simp only [FRs] at h
    obtain ⟨v, vs', rfl, r, q⟩ := h
    exact ⟨r.rd, q.rds⟩
theorem OkM.mono (ok : OkM false c X bm name Ty id r) : OkM true c X bm name Ty id r := ⟨ok.fact, ok.mt, ok.ty, fun fr ms σ l T mm H p v qs ws rv Q s rp rq => ok.run fr ms σ l T mm H p v qs ws rv Q s rp (show RDs c fr (mu ms) H qs ws from FRs.rds rq)⟩
/-- several, held -/
theorem as_evs {A : M (List RV)} {k1 : Bool} : tAs true c W (do
    let vs ← A
    M.ret (vs.map (·.2))) (tMs c W k1 A) := by
  rintro σ H Q ⟨l, T, m, s, h⟩
  refine ⟨l, T, m, s, ?_⟩
  rw [Run.bind] at h
  refine Run.mono h (fun rs s1 h => ?_) (fun _ _ z => z)
  intro ws H1 hl si _
  obtain ⟨fr, ms, si⟩ := si
  obtain ⟨fr', _, s2, rw2⟩ := si.freezeAll hl
  exact h [] ws H1 ⟨fr', ms, s2, rw2⟩
end
end G

set_option linter.all false
set_option maxRecDepth 100000
set_option maxHeartbeats 1000000
namespace G
open PySem PySem.Spec PyProof.Rows L2
section
variable {c : Nm} {fr fr' : Addr → Prop} {m : List Addr} {H H' : Hp} {ms : Ms} {σ σ' : L2.St} {l : List (Option RV)} {T U : List (V × RV)} {mm : Mem} {W : WX} {X : Cx} {b k : Bool}
/-! d[k] = v -/
theorem FRk.map {k d : D} {q : Key} {v : V} (hk : keyOf k = some q) (rd : FR c fr m H d v) : ∀ {kvs : List (D × D)} {ks : List (Key × V)}, FRk c fr m H kvs ks →
    FRk c fr m H (kvs.map fun p => if D.beq p.1 k then (p.1, d) else p) (ks.map fun kv => if kv.1 = q then (kv.1, v) else kv) ∧ (kvs.any fun p => D.beq p.1 k) = ks.any fun kv => decide (kv.1 = q)
  | [], ks, h => by
    simp only [FRk] at h; subst h
    exact ⟨by simp [FRk], rfl⟩
  | (j, e) :: kvs, ks, h => by
    simp only [FRk] at h
    obtain ⟨q', w, ks', rfl, hj, re, z⟩ := h
    obtain ⟨h1, h2⟩ := FRk.map hk rd z
    have e1 := keyOf_inj hj hk
    refine ⟨?_, by simp only [List.any_cons, h2, e1]⟩
    simp only [List.map_cons]
    by_cases hq : q' = q
    · rw [if_pos (by rw [e1]; simpa using hq), if_pos hq]
      simp only [FRk]
      exact ⟨q', v, _, rfl, hj, rd, h1⟩
    · rw [if_neg (by rw [e1]; simpa using hq), if_neg hq]
      simp only [FRk]
      exact ⟨q', w, _, rfl, hj, re, h1⟩
theorem FRk.snoc {k d : D} {q : Key} {v : V} (hk : keyOf k = some q) (rd : FR c fr m H d v) : ∀ {kvs : List (D × D)} {ks : List (Key × V)}, FRk c fr m H kvs ks → FRk c fr m H (kvs ++ [(k, d)]) (ks ++ [(q, v)])
  | [], ks, h => by
    simp only [FRk] at h; subst h
    simp only [List.nil_append, FRk]
    exact ⟨q, v, [], rfl, hk, rd, rfl⟩
  | (j, e) :: kvs, ks, h => by
    simp only [FRk] at h
    obtain ⟨q', w, ks', rfl, hj, re, z⟩ := h
    simp only [List.cons_append, FRk]
    exact ⟨q', w, _, rfl, hj, re, FRk.snoc hk rd z⟩
theorem FRk.put {k d : D} {q : Key} {v : V} {kvs : List (D × D)} {ks : List (Key × V)} (r : FRk c fr m H kvs ks) (hk : keyOf k = some q) (rd : FR c fr m H d v) : FRk c fr m H (put kvs k d) (putK ks q v) := by
  obtain ⟨h1, h2⟩ := FRk.map hk rd r
  unfold G.put putK
  rw [h2]
  split
  · exact h1
  · exact FRk.snoc hk rd r
theorem FRe.map {k d : D} {v : V} {u : Value} (hk : k.key = true) (ru : RelV v u) (rd : FR c fr m H d v) : ∀ {kvs : List (D × D)} {xs : XsT}, FRe c fr m H kvs xs →
    FRe c fr m H (kvs.map fun p => if D.beq p.1 k then (p.1, d) else p) (xs.map (putAt (keyN k) u)) ∧ (kvs.any fun p => D.beq p.1 k) = (atKey xs (keyN k)).isSome
  | [], ks, h => by
    simp only [FRe] at h; subst h
    exact ⟨by simp [FRe], rfl⟩
  | (j, e) :: kvs, ks, h => by
    simp only [FRe] at h
    obtain ⟨b, w, u', xs', rfl, hj, r1, rv, re, z⟩ := h
    obtain ⟨h1, h2⟩ := FRe.map hk ru rd z
    have e1 := keyN_beq j k (key_parts hj).1 (key_parts hk).1
    by_cases hq : keyN j = keyN k
    · refine ⟨?_, by simp [e1, hq, atKey]⟩
      simp only [List.map_cons]
      rw [if_pos (by rw [e1]; simpa using hq)]
      simp only [FRe, putAt, if_pos hq]
      exact ⟨b, v, u, _, rfl, hj, r1, ru, rd, h1⟩
    · refine ⟨?_, ?_⟩
      · simp only [List.map_cons]
        rw [if_neg (by rw [e1]; simpa using hq)]
        simp only [FRe, putAt, if_neg hq]
        exact ⟨b, w, u', _, rfl, hj, r1, rv, re, h1⟩
      · simp only [List.any_cons, e1, decide_eq_false hq, Bool.false_or, h2]
        simp [atKey, List.find?_cons, hq]
theorem FRe.snoc {k d : D} {b : Addr} {v : V} {u : Value} (hk : k.key = true) (rk : FR c fr m H k (.ref b)) (ru : RelV v u) (rd : FR c fr m H d v) : ∀ {kvs : List (D × D)} {xs : XsT}, FRe c fr m H kvs xs → FRe c fr m H (kvs ++ [(k, d)]) (xs ++ [(keyN k, b, u)])
  | [], ks, h => by
    simp only [FRe] at h; subst h
    simp only [List.nil_append, FRe]
    exact ⟨b, v, u, [], rfl, hk, rk, ru, rd, rfl⟩
  | (j, e) :: kvs, ks, h => by
    simp only [FRe] at h
    obtain ⟨b', w, u', xs', rfl, hj, r1, rv, re, z⟩ := h
    simp only [List.cons_append, FRe]
    exact ⟨b', w, u', _, rfl, hj, r1, rv, re, FRe.snoc hk rk ru rd z⟩
theorem FRe.put {k d : D} {b : Addr} {v : V} {u : Value} {kvs : List (D × D)} {xs : XsT} (r : FRe c fr m H kvs xs) (hk : k.key = true) (rk : FR c fr m H k (.ref b)) (ru : RelV v u) (rd : FR c fr m H d v) : FRe c fr m H (put kvs k d) (storedH xs (keyN k) b u) := by
  obtain ⟨h1, h2⟩ := FRe.map hk ru rd r
  unfold G.put storedH
  rw [h2]
  split
  · exact h1
  · exact FRe.snoc hk rk ru rd r
theorem stored_nodup {xs : XsT} {k : NestedKey} {b : Addr} {u : Value} (h : (xs.map (·.1)).Nodup) : ((storedH xs k b u).map (·.1)).Nodup := by
  unfold storedH
  split
  · have e : (xs.map (putAt k u)).map (·.1) = xs.map (·.1) := by
      rw [List.map_map]
      apply List.map_congr_left
      intro x _
      simp only [Function.comp, putAt]
      split <;> rfl
    rw [e]; exact h
  · rename_i hn
    rw [List.map_append, List.nodup_append]
    refine ⟨h, by simp, fun y hy z hz => ?_⟩
    have ez : z = k := by simpa using hz
    subst ez
    rintro rfl
    obtain ⟨x, hx, e⟩ := List.mem_map.mp hy
    apply hn
    unfold atKey
    rw [Option.isSome_map, List.find?_isSome]
    exact ⟨x, hx, by simpa using e⟩
theorem put_ne {kvs : List (D × D)} {k d : D} : put kvs k d ≠ [] := by
  unfold put
  split
  · rename_i h
    intro e
    cases kvs with
    | nil => cases h
    | cons p r => cases e
  · simp
theorem put_len {kvs : List (D × D)} {k d : D} (h : kvs.length < sizeMax) : (put kvs k d).length ≤ sizeLine := by
  rw [← line]
  unfold put
  split
  · rw [List.length_map]; omega
  · simp; omega
/-- what is owed of a stored item -/
def rSetA (c : Nm) (K : PySem.W.Frag) : V → V → V → Hp → (Hp → Prop) → Prop := fun o i v H Q => rSetL o i v H Q ∨ ∃ a, o = .ref a ∧
  ((∃ kvs k, H a = some (.dK kvs) ∧ i = kV k ∧ kvs.length < sizeLine ∧ Q (upd H a (.dK (putK kvs k v)))) ∨
    ∃ xs k b, ((H a = some (dctO c a xs) ∧ (a == sysModules) = false) ∨ (H a = some (.dK []) ∧ xs = [])) ∧ XsAt K H xs ∧ i = .ref b ∧ KeyAt K H k i ∧ k.depth ≤ 8 ∧ xs.length < sizeLine ∧ ∀ u', RelV v u' → (a == sysModules) = false → Q (upd H a (dctO c a (storedH xs k b u'))))
theorem set_all (sm : Same' c X) (hu : X.A.units + 60 < cLine) : PSet X (rSetA c X.K) := by
  intro pins s σ H o i v ov iv u Q I ro ri rv h
  rcases h with h | ⟨a, rfl, h⟩
  · exact set_list pins s σ H o i v ov iv u Q I ro ri rv h
  · cases ro
    refine da_setItem sm hu I ri rv ?_
    rcases h with ⟨kvs, k, h1, h2, h3, q⟩ | ⟨xs, k, b, h1, h2, h3, h4, h5, h6, q⟩
    · exact .inl ⟨kvs, k, h1, h2, h3, fun s' I' => ⟨_, I', q⟩⟩
    · have hs : (a == sysModules) = false := by
        rcases h1 with h1 | h1
        · exact h1.2
        · exact (dk_nil I (.inl h1.1)).1
      exact .inr ⟨xs, k, b, h1.imp (fun z => z.1) (fun z => z), h2, h3, h4, h5, h6, fun s' u' ru I' => ⟨_, I', q u' ru hs⟩⟩
/-- a thing d at a, of one's own, is written: what is owed, and how it stands behind -/
theorem put_own {a : Addr} {v d d' : D} {ky : D} {rv : RV} {y w : V} {Q : Hp → Prop} (o : OW c fr m H d (.ref a)) (rk : FR c fr m H ky y) (rd : FR c fr m H v w) (e : putD v [ky] d = some (rv, d'))
    (hfree : ∀ ho, Still c fr H (upd H a ho)) (hQ : ∀ ho, OW c fr m (upd H a ho) d' (.ref a) → Q (upd H a ho)) : rSetA c c.K (.ref a) y w H Q := by
  cases d with
  | dic kvs =>
    have e : (if fits kvs ky ∧ kvs.length < sizeMax then some (((false, .non) : RV), D.dic (put kvs ky v)) else none) = some (rv, d') := by
      cases ky <;> exact e
    obtain ⟨⟨hf, hz⟩, e⟩ := some_if e
    cases e
    obtain ⟨a', ea, hd⟩ := o
    cases ea
    obtain ⟨hk, hall⟩ := fits_cases hf
    obtain ⟨hkp, hkd⟩ := key_parts hk
    refine .inr ⟨a, rfl, ?_⟩
    have nested : ∀ (ds : List D), ky = .tup ds → ∀ xs, ((H a = some (dctO c a xs) ∧ (a == sysModules) = false) ∨ (H a = some (.dK []) ∧ xs = [])) → (xs.map (·.1)).Nodup → FRe c fr m H kvs xs →
        ∃ xs k b, ((H a = some (dctO c a xs) ∧ (a == sysModules) = false) ∨ (H a = some (.dK []) ∧ xs = [])) ∧ XsAt c.K H xs ∧ y = .ref b ∧ KeyAt c.K H k y ∧ k.depth ≤ 8 ∧ xs.length < sizeLine ∧ ∀ u', RelV w u' → (a == sysModules) = false → Q (upd H a (dctO c a (storedH xs k b u'))) := by
      intro ds ed xs hx hn r
      subst ed
      have ka := FR.keyAt _ _ hkp rk
      have rk' := rk
      simp only [FR] at rk'
      obtain ⟨b, vs, rfl, _⟩ := rk'
      refine ⟨xs, keyN (.tup ds), b, hx, ⟨hn, r.xsAt⟩, rfl, ka, by rw [keyN_dep _ hkp]; exact hkd, by rw [r.length, ← line]; exact hz, fun u' ru hs => hQ _ ?_⟩
      have st := hfree (dctO c a (storedH xs (keyN (.tup ds)) b u'))
      refine ⟨a, rfl, .inr ⟨_, upd_same, ⟨put_ne, put_len hz⟩, hs, stored_nodup hn, FRe.still st (fun _ f => f) _ (r.put hk rk ru rd)⟩⟩
    rcases hd with ⟨ks, q, r⟩ | ⟨xs, q, h1, h2, h3, r⟩
    · by_cases ht : ky.isTup = true
      · have hnil : kvs = [] := by
          cases kvs with
          | nil => rfl
          | cons p kvs =>
            have h1 := hall p List.mem_cons_self
            have h2 := r.notTup p List.mem_cons_self
            rw [h1, ht] at h2; cases h2
        subst hnil
        have hks : ks = [] := by simpa only [FRk] using r
        subst hks
        cases ky with
        | tup ds => exact .inr (nested ds rfl [] (.inr ⟨q, rfl⟩) List.nodup_nil (by simp [FRe]))
        | _ => cases ht
      · have ht : ky.isTup = false := by simpa using ht
        obtain ⟨kq, hq⟩ := keyOf_of hk ht
        have hy := keyOf_rd hq rk.rd
        subst hy
        refine .inl ⟨ks, kq, q, rfl, by rw [r.length, ← line]; exact hz, hQ _ ?_⟩
        have st := hfree (.dK (putK ks kq w))
        exact ⟨a, rfl, .inl ⟨_, upd_same, FRk.still st (fun _ f => f) _ (r.put hq rd)⟩⟩
    · have ht : ky.isTup = true := by
        cases kvs with
        | nil => exact absurd rfl h1.1
        | cons p kvs =>
          rw [← hall p List.mem_cons_self]
          exact r.isTup p List.mem_cons_self
      cases ky with
      | tup ds => exact .inr (nested ds rfl xs (.inl ⟨q, h2⟩) h3 r)
      | _ => cases ht
  | lst xs =>
    cases ky with
    | int i =>
      have e : ((placeOf xs.length i).map fun j => (((false, .non) : RV), D.lst (xs.set j v))) = some (rv, d') := e
      obtain ⟨j, hj, e⟩ := some_map e
      cases e
      obtain ⟨a', vs, ea, q, r⟩ := o
      cases ea
      rw [rk.rd.int]
      refine .inl ⟨a, vs, i, j, rfl, rfl, q, by rw [r.length]; exact hj, hQ _ ?_⟩
      have st := hfree (.lst (vs.set j w))
      exact ⟨a, _, rfl, upd_same, FRs.still st (fun _ f => f) _ (FRs.set r rd)⟩
    | _ => cases e
  | _ => cases ky <;> cases e
end
end G

set_option linter.all false
set_option maxRecDepth 100000
set_option maxHeartbeats 1000000
namespace G
open PySem PySem.Spec PyProof.Rows L2
section
variable {c : Nm} {fr fr' : Addr → Prop} {m : List Addr} {H H' : Hp} {ms : Ms} {σ σ' : L2.St} {l : List (Option RV)} {T U : List (V × RV)} {mm : Mem} {W : WX} {X : Cx} {b k : Bool} {wr : List Nat}
theorem putD_box {v ky d d' : D} {rv : RV} (e : putD v [ky] d = some (rv, d')) : isBox d = true ∧ isBox d' = true ∧ rv = (false, .non) := by
  cases d with
  | dic kvs =>
    have e : (if fits kvs ky ∧ kvs.length < sizeMax then some (((false, .non) : RV), D.dic (put kvs ky v)) else none) = some (rv, d') := by
      cases ky <;> exact e
    obtain ⟨_, e⟩ := some_if e
    cases e
    exact ⟨rfl, rfl, rfl⟩
  | lst xs =>
    cases ky with
    | int i =>
      have e : ((placeOf xs.length i).map fun j => (((false, .non) : RV), D.lst (xs.set j v))) = some (rv, d') := e
      obtain ⟨j, hj, e⟩ := some_map e
      cases e
      exact ⟨rfl, rfl, rfl⟩
    | _ => cases e
  | _ => cases ky <;> cases e
/-- a list of the memory -/
theorem put_mem {j : Nat} {v ky : D} {v0 y w : V} {s : S} {K : RV → S → Prop} {XE : Exc → S → Prop} {Q : Hp → Prop} (si : SIg c fr ms σ s.l T s.m H) (rO : FR c fr (mu ms) H (.obj j) v0) (rk : FR c fr (mu ms) H ky y) (rd : FR c fr (mu ms) H v w) (h : Run (memCh j (putD v [ky])) s K XE)
    (hK : ∀ rv s' H', K rv s' → SI c σ s'.l T s'.m H' → Q H') : rSetA c c.K v0 y w H Q := by
  unfold memCh at h
  rw [Run.bind, Run.memAt] at h
  obtain ⟨mo, em, h⟩ := h
  cases mo with
  | ins _ _ => exact h.elim
  | lst xs =>
    obtain ⟨⟨a, vs⟩, h1, h2⟩ := si.mem.get em
    obtain ⟨h3, h4⟩ := h2
    simp only [FR] at rO
    obtain ⟨b', eb, eb2⟩ := rO
    have : b' = a := by
      unfold mu at eb2
      rw [List.getElem?_map, h1] at eb2
      simpa using eb2.symm
    subst this
    subst eb
    simp only at h
    cases ef : putD v [ky] (.lst xs) with
    | none => rw [ef] at h; exact h.elim
    | some q =>
      obtain ⟨rv, d'⟩ := q
      rw [ef] at h
      cases ky with
      | int i =>
        have e : ((placeOf xs.length i).map fun j => (((false, .non) : RV), D.lst (xs.set j v))) = some (rv, d') := ef
        obtain ⟨n, hj, e⟩ := some_map e
        cases e
        simp only at h
        rw [Run.bind, Run.setMem] at h
        have pos : ownS σ s.l b' + ownT T b' + ownM s.m ms b' ≠ 0 := by
          have := ownM_at em h1 b'
          simp [ownM] at this
          omega
        have st : Still c fr H (upd H b' (.lst (vs.set n w))) := (si.free_own pos).still
        rw [rk.rd.int]
        refine .inl ⟨b', vs, i, n, rfl, rfl, h3, by rw [h4.length]; exact hj, hK _ _ _ h.2 ⟨fr, _, si.memList (ys := xs.set n v) (vs' := vs.set n w) em h1 (FRs.still st (fun _ f => f) _ (FRs.set h4 rd))⟩⟩
      | _ => cases ef
theorem put_slot {i : Nat} {v ky : D} {v0 y w : V} {s : S} {K : RV → S → Prop} {XE : Exc → S → Prop} {Q : Hp → Prop} (si : SIg c fr ms σ s.l T s.m H) (e1 : σ[i]? = some (some v0)) (rk : FR c fr (mu ms) H ky y) (rd : FR c fr (mu ms) H v w) (h : Run (slotCh i (putD v [ky])) s K XE)
    (hK : ∀ rv s' H', K rv s' → SI c σ s'.l T s'.m H' → Q H') : rSetA c c.K v0 y w H Q := by
  unfold slotCh at h
  rw [Run.bind, Run.getS] at h
  obtain ⟨x, e2, h⟩ := h
  obtain ⟨v', e1', rt⟩ := si.slots i x e2
  rw [e1] at e1'
  cases e1'
  obtain ⟨o, d⟩ := x
  by_cases hj : ∃ j, d = .obj j
  · obtain ⟨j, rfl⟩ := hj
    have h : Run (memCh j (putD v [ky])) s K XE := by
      cases o <;> exact h
    exact put_mem si (FR.obj_root rt) rk rd h hK
  · have hn : ∀ j, d ≠ .obj j := fun j e => hj ⟨j, e⟩
    cases o with
    | false => cases d <;> first | exact h.elim | exact absurd rfl (hn _)
    | true =>
      have h : Run (match putD v [ky] d with
          | some (r, d') => do
            G.setS i (true, d')
            M.ret r
          | none => (M.stuck : M RV)) s K XE := by
        cases d <;> first | exact h | exact absurd rfl (hn _)
      cases ef : putD v [ky] d with
      | none => rw [ef] at h; exact h.elim
      | some q =>
        obtain ⟨rv, d'⟩ := q
        obtain ⟨b1, b2, rfl⟩ := putD_box ef
        rw [ef] at h
        simp only at h
        rw [Run.bind, Run.setS] at h
        have rt : OW c fr (mu ms) H d v0 := rt
        have hv0 : ∃ a, v0 = .ref a := by
          cases d <;> first | cases b1 | skip
          · obtain ⟨a, vs, e, _⟩ := rt; exact ⟨a, e⟩
          · obtain ⟨a, e, _⟩ := rt; exact ⟨a, e⟩
        obtain ⟨a, rfl⟩ := hv0
        have le := ownS_at e1 e2 a
        have pos : ownS σ s.l a + ownT T a + ownM s.m ms a ≠ 0 := by
          rw [own1_box b1] at le
          simp at le
          omega
        exact put_own rt rk rd ef (fun ho => (si.free_own pos).still) fun ho hn => hK _ _ _ h.2 ⟨fr, ms, si.slotWrite e1 e2 b1 b2 hn⟩
def putVarM (v : D) (i : Nat) (A : M RV) : M Unit := do
  let _ ← getS i
  let k ← A
  let _ ← slotCh i (putD v [k.2])
  M.ret ()
variable {ke : Expr} {x : Str} {p pos : Pos} {A : M RV} {k1 : Bool} {i : Nat}
theorem g_subVar (sm : Same' c X) (hu : X.A.units + 60 < cLine) (hN : X.N[i]? = some x) (hv : Vis X.env.scope x) (h1 : (x == ("__debug__" : Str)) = false) (h2 : (x == ("__classdict__" : Str)) = false) (hk : PE X ke (tM c W false k1 A))
    (ha : ∀ v, assign (.Subscript (.Name x p) ke pos) X.env v = (do
      let ov ← holding [v] (eval (.Name x p) X.env)
      let iv ← holding [v, ov] (eval ke X.env)
      standAt pos
      holding [v, ov, iv] (setItem ov iv v)
      release [v, ov, iv] [])) : PG X (.Subscript (.Name x p) ke pos) (tG c W wr fun r => putVarM r.2 i A) :=
  PGimp (pg_sub (pe_var hN hv h1 h2) hk (set_all sm hu) ha) fun v σ H K ⟨r, l, T, m, s, h⟩ => by
    unfold putVarM at h
    rw [Run.bind, Run.getS] at h
    obtain ⟨x0, e0, h⟩ := h
    have s' := s
    obtain ⟨fr, ms, s'⟩ := s'
    obtain ⟨v0, es, _⟩ := s'.slots i x0 e0
    refine ⟨v0, es, l, (v, r) :: T, m, s, ?_⟩
    rw [Run.bind] at h
    refine Run.mono h (fun kd s1 h => ?_) (fun _ _ z => z.exp.pop)
    intro y H1 aft _
    have si : SI c σ s1.l (stack [v, y] [r, kd] T) s1.m H1 := aft
    obtain ⟨fr, ms, si⟩ := si
    obtain ⟨fr', _, s2, rw2⟩ := si.freezeAll rfl
    simp only [List.map_cons, List.map_nil, FRs] at rw2
    obtain ⟨_, _, e1, rd, _, _, e2, rk, e3⟩ := rw2
    cases e1
    cases e2
    rw [Run.bind] at h
    rw [sm.K]
    exact put_slot s2 es rk rd h fun rv s' H' hK si => hK σ H' si Kept.refl
end
end G

set_option linter.all false
set_option maxRecDepth 100000
set_option maxHeartbeats 1000000
namespace G
open PySem PySem.Spec PyProof.Rows L2
section
variable {c : Nm} {fr fr' : Addr → Prop} {m : List Addr} {H H' : Hp} {ms : Ms} {σ σ' : L2.St} {l : List (Option RV)} {T U : List (V × RV)} {mm : Mem} {W : WX} {X : Cx} {b k : Bool} {wr : List Nat}
def tO (c : Nm) (W : WX) (x : M (Option Int)) : TO := fun σ H Q => ∃ l T m, SI c σ l T m H ∧ Run x ⟨l, m⟩ (fun o s' => ∀ H', SI c σ s'.l T s'.m H' → Q o H') (ExP c W σ T)
theorem POimp {e : Option Expr} {t t' : TO} (h : PO X e t) (hi : ∀ σ H Q, t' σ H Q → t σ H Q) : PO X e t' := ⟨fun pins s σ H Q I q => h.run pins s σ H Q I (hi σ H Q q)⟩
theorem x_onone : PO X none (tO c W (M.ret none)) := POimp po_none fun σ H Q ⟨l, T, m, s, h⟩ => h H s
def partM (A : M RV) : M (Option Int) := do
  let u ← A
  match u.2 with
  | .int i => M.ret (some i)
  | _ => M.stuck
theorem x_osome {e : Expr} {A : M RV} {k1 : Bool} (h : PE X e (tM c W true k1 A)) : PO X (some e) (tO c W (partM A)) := POimp (po_some h) fun σ H Q ⟨l, T, m, s, h⟩ => by
  refine ⟨l, T, m, s, ?_⟩
  unfold partM at h
  rw [Run.bind] at h
  refine Run.mono h (fun u s1 h => ?_) (fun _ _ z => z)
  intro v H1 aft _
  obtain ⟨fr, ms, s1', r⟩ := aft.look
  obtain ⟨o, d⟩ := u
  cases d with
  | int i => exact ⟨i, r.int, h H1 ⟨fr, ms, s1'⟩⟩
  | _ => exact h.elim
def rSlAll (K : PySem.W.Frag) : V → Option Int → Option Int → Hp → VK → Prop := fun x lo hi H Q => rSlL K x lo hi H Q ∨ (rSlN K x lo hi H Q ∨ rSlS x lo hi H Q)
theorem sl_all : SlR X (rSlAll X.K) := SlR.or sl_list (SlR.or sl_tupN sl_str)
theorem cut_whole {α : Type} {xs : List α} {lo hi : Option Int} (h : HT.sIx xs.length 0 lo = 0 ∧ HT.sIx xs.length xs.length hi = xs.length) : cut xs lo hi = xs := by
  unfold cut
  rw [h.1, h.2]
  simp
theorem ok_slice {p : D} {v : V} {lo hi : Option Int} {rv : RV} {Q : VK} (s : SIg c fr ms σ l T mm H) (rp : RD c fr (mu ms) H p v) (e : sliced p lo hi = some rv) (h : ∀ z H', SI c σ l ((z, rv) :: T) mm H' → Q z H') : rSlAll c.K v lo hi H Q := by
  cases p with
  | tup ds =>
    cases e
    obtain ⟨a, vs, rfl, q, r⟩ := rp.tupN
    refine .inr (.inl ⟨a, vs, rfl, q.sq, fun hw => ?_, fun _ p o hp ho => h _ _ (s.newT r.cut hp ho)⟩)
    have e : cut ds lo hi = ds := cut_whole (by rw [← r.length]; exact hw)
    rw [e] at h
    exact h _ _ (s.oldT q r)
  | lst ds =>
    cases e
    obtain ⟨a, vs, rfl, q, r⟩ := rp.lst
    exact .inl ⟨a, vs, rfl, SqL.of q, fun p hp => h _ _ (s.newL r.cut hp)⟩
  | str t =>
    obtain ⟨hz, rfl⟩ := some_if (a := ((false, D.str (cutS t lo hi)) : RV)) e
    rw [rp.str]
    exact .inr (.inr ⟨t, rfl, by rw [← line]; exact hz, h _ _ (s.astr _)⟩)
  | _ => cases e
variable {e : Expr} {lo hi : Option Expr} {pos p2 : Pos} {A : M RV} {L U' : M (Option Int)} {k1 : Bool}
def sliceM (e1 : E) (A : M RV) (L U' : M (Option Int)) : M RV := do
  let u ← A
  let l ← L
  let h ← U'
  let u ← again e1 u
  let p ← seen u
  M.of (sliced p l h)
theorem x_slice_held {e1 : E} (sm : X.K = c.K) (hv : e1.isVar = false) (h : PE X e (tM c W false k1 A)) (hl : PO X lo (tO c W L)) (hu : PO X hi (tO c W U')) : PE X (.Subscript e (.Slice lo hi none p2) pos) (tM c W b false (sliceM e1 A L U')) := by
  refine PEimp (pe_slice sl_all h hl hu) ?_
  rintro σ H Q ⟨l, T, m, s, h⟩
  refine ⟨l, T, m, s, ?_⟩
  unfold sliceM at h
  rw [Run.bind] at h
  refine Run.mono h (fun u s1 h => ?_) (fun _ _ z => z)
  intro v H1 aft _
  refine ⟨s1.l, (v, u) :: T, s1.m, aft, ?_⟩
  rw [Run.bind] at h
  refine Run.mono h (fun lo s2 h => ?_) (fun _ _ z => z.pop)
  intro H2 si2
  refine ⟨s2.l, (v, u) :: T, s2.m, si2, ?_⟩
  rw [Run.bind] at h
  refine Run.mono h (fun hi s3 h => ?_) (fun _ _ z => z.pop)
  intro H3 si3
  obtain ⟨fr, ms, s3'⟩ := si3
  rw [again_not hv, Run.bind, Run.ret, Run.bind] at h
  obtain ⟨p, h, rp, _⟩ := seen_held s3' List.mem_cons_self h
  rw [Run.of] at h
  obtain ⟨rv, er, h⟩ := h
  rw [sm]
  exact ok_slice s3' rp er fun z H' si => h z H' (.of (SI.dropU (U := [(v, u)]) si)) fun z => nomatch z
theorem x_slice_var {i : Nat} {x : Str} {p1 : Pos} (sm : X.K = c.K) (hN : X.N[i]? = some x) (hv : Vis X.env.scope x) (h1 : (x == ("__debug__" : Str)) = false) (h2 : (x == ("__classdict__" : Str)) = false) (hl : PO X lo (tO c W L)) (hu : PO X hi (tO c W U')) :
    PE X (.Subscript (.Name x p1) (.Slice lo hi none p2) pos) (tM c W b false (sliceM (.var i) (do let v ← getS i; M.ret (false, v.2)) L U')) := by
  refine PEimp (pe_slice sl_all (pe_var hN hv h1 h2) hl hu) ?_
  rintro σ H Q ⟨l, T, m, ⟨fr, ms, s⟩, h⟩
  unfold sliceM at h
  rw [Run.bind, Run.bind, Run.getS] at h
  obtain ⟨x0, e0, h⟩ := h
  obtain ⟨v, es, rt⟩ := s.slots i x0 e0
  refine ⟨v, es, l, T, m, ⟨fr, ms, s⟩, ?_⟩
  rw [Run.ret, Run.bind] at h
  refine Run.mono h (fun lo s2 h => ?_) (fun _ _ z => z)
  intro H2 si2
  refine ⟨s2.l, T, s2.m, si2, ?_⟩
  rw [Run.bind] at h
  refine Run.mono h (fun hi s3 h => ?_) (fun _ _ z => z)
  intro H3 si3
  obtain ⟨fr, ms, s3'⟩ := si3
  rw [Run.bind] at h
  obtain ⟨x1, q1, h⟩ := again_var h
  obtain ⟨v1, q2, rx⟩ := s3'.slots i x1 q1
  rw [es] at q2
  cases q2
  rw [Run.bind] at h
  obtain ⟨p, h, rp, _⟩ := Run.seen h s3' rx.rd
  rw [Run.of] at h
  obtain ⟨rv, er, h⟩ := h
  rw [sm]
  exact ok_slice s3' rp er fun z H' si => h z H' (.of si) fun z => nomatch z
end
end G

set_option linter.all false
set_option maxRecDepth 100000
set_option maxHeartbeats 1000000
namespace G
open PySem PySem.Spec PyProof.Rows L2
section
variable {c : Nm} {fr fr' : Addr → Prop} {m : List Addr} {H H' : Hp} {ms : Ms} {σ σ' : L2.St} {l : List (Option RV)} {T U : List (V × RV)} {mm : Mem} {W : WX} {X : Cx} {b k : Bool} {wr : List Nat} {pins : List (Addr × Obj)} {s : Shared} {a : Addr} {y v d : V} {o : Option V} {u r : Value} {E : Value → Shared → Prop}
theorem rds1 {qs : List D} {ws : List V} {q : D} (h : RDs c fr m H [q] ws) : ∃ w, ws = [w] ∧ RD c fr m H q w := by
  cases ws with
  | nil => exact h.elim
  | cons w ws =>
    cases ws with
    | nil => exact ⟨w, rfl, h.1⟩
    | cons _ _ => exact h.2.elim
/-! dict.get -/
theorem da_get1 (sm : Same' c X) {A : Around} {Q : Value → Shared → Prop} (hu : A.units + 60 < cLine) (I : Inv X pins σ H s) (g : DGetA c X.K H a y o) (ry : RelV y u) (h : ∀ w' s', Inv X pins σ H s' → RelV (o.getD .non) w' → Q w' s') :
    wpAny (model X.prog X.w) A (call (.builtin "dict.get") [.ref a, u]) Q E s := by
  have hr : (nestedKind X.prog X.w).room A.in1 := by show A.units + 1 + 8 < cLine; omega
  have main : ∀ (xs : XsT) (k : NestedKey) (b : Addr), (a == sysModules) = false → s.heap.DictOfH (nestedKind X.prog X.w) a xs → u = .ref b → KeyAt X.K H k (.ref b) → k.depth ≤ 8 → (∀ s', Inv X pins σ H s' → Q (((atKey xs k).map (·.2)).getD .none) s') → wpAny (model X.prog X.w) A (call (.builtin "dict.get") [.ref a, u]) Q E s := by
    rintro xs k b hs hx rfl hk hd q
    exact call_meetsIn PySem.F.slot_dict_get hx.typeIs PySem.F.entry_dict_get (PySem.F.args_dict_get_2 _ _) (meetsH_dict_get _ a b hs) ⟨hr, k, xs, key_is I hk hd, hx, q _ (I.tok _)⟩
  rcases g with g | ⟨xs, k, b, e, hs, hx, ey, hk, hd, q⟩ | ⟨k, b, e, ey, hk, hd, q⟩
  · exact d_get1 (by omega) I g ry h
  · subst ey
    cases (show u = Value.ref b from ry)
    refine main xs k b hs (hx.dict' sm I e) rfl hk hd fun s' I' => h _ _ I' ?_
    rcases q with ⟨b', u', v', e1, rv, rfl⟩ | ⟨e1, rfl⟩
    · rw [e1]; exact rv
    · rw [e1]; rfl
  · subst ey q
    cases (show u = Value.ref b from ry)
    obtain ⟨hs, hx⟩ := dk_nil I e
    exact main [] k b hs hx rfl hk hd fun s' I' => h _ _ I' rfl
theorem da_get2 (sm : Same' c X) {A : Around} {Q : Value → Shared → Prop} (hu : A.units + 60 < cLine) (I : Inv X pins σ H s) (g : DGetA c X.K H a y o) (ry : RelV y u) (rd : RelV d r) (h : ∀ w' s', Inv X pins σ H s' → RelV (o.getD d) w' → Q w' s') :
    wpAny (model X.prog X.w) A (call (.builtin "dict.get") [.ref a, u, r]) Q E s := by
  have hr : (nestedKind X.prog X.w).room A.in1 := by show A.units + 1 + 8 < cLine; omega
  have main : ∀ (xs : XsT) (k : NestedKey) (b : Addr), (a == sysModules) = false → s.heap.DictOfH (nestedKind X.prog X.w) a xs → u = .ref b → KeyAt X.K H k (.ref b) → k.depth ≤ 8 → (∀ s', Inv X pins σ H s' → Q (((atKey xs k).map (·.2)).getD r) s') → wpAny (model X.prog X.w) A (call (.builtin "dict.get") [.ref a, u, r]) Q E s := by
    rintro xs k b hs hx rfl hk hd q
    exact call_meetsIn PySem.F.slot_dict_get hx.typeIs PySem.F.entry_dict_get (PySem.F.args_dict_get_3 _ _ _) (meetsH_dict_get_default _ a b hs r) ⟨hr, k, xs, key_is I hk hd, hx, q _ (I.tok _)⟩
  rcases g with g | ⟨xs, k, b, e, hs, hx, ey, hk, hd, q⟩ | ⟨k, b, e, ey, hk, hd, q⟩
  · exact d_get2 (by omega) I g ry rd h
  · subst ey
    cases (show u = Value.ref b from ry)
    refine main xs k b hs (hx.dict' sm I e) rfl hk hd fun s' I' => h _ _ I' ?_
    rcases q with ⟨b', u', v', e1, rv, rfl⟩ | ⟨e1, rfl⟩
    · rw [e1]; exact rv
    · rw [e1]; exact rd
  · subst ey q
    cases (show u = Value.ref b from ry)
    obtain ⟨hs, hx⟩ := dk_nil I e
    exact main [] k b hs hx rfl hk hd fun s' I' => h _ _ I' rd
def rGetA (c : Nm) (K : PySem.W.Frag) : V → List V → Hp → VK → Prop := fun x xs H Q => ∃ a y o, x = .ref a ∧ DGetA c K H a y o ∧ ((xs = [y] ∧ Q (o.getD .non) H) ∨ ∃ z, xs = [y, z] ∧ Q (o.getD z) H)
theorem mt_getA (sm : Same' c X) (hu : X.A.units + 60 < cLine) : MtR X "dict.get" (rGetA c X.K) := by
  intro pins s σ H x xs v us Q I rx rs h
  obtain ⟨a, y, o, rfl, g, h⟩ := h
  cases rx
  rcases h with ⟨rfl, q⟩ | ⟨z, rfl, q⟩
  · obtain ⟨u, rfl, ru⟩ := rs.one
    exact da_get1 sm hu I g ru fun w' s' I' r' => ⟨_, H, I', r', q⟩
  · obtain ⟨u, r, rfl, ru, rr⟩ := rs.two
    exact da_get2 sm hu I g ru rr fun w' s' I' r' => ⟨_, H, I', r', q⟩
theorem mf_get : MFact "dict" "get" "dict.get" := ⟨PySem.F.plainAttrs_dict, PySem.F.slot_dict_get, PySem.F.type_dict_get⟩
theorem okm_get1 (sm : Same' c X) (hu : X.A.units + 60 < cLine) : OkM false c X .get1 "get" "dict" "dict.get" (rGetA c X.K) where
  fact := mf_get
  mt := mt_getA sm hu
  ty := fun fr ms σ l T mm H p v s rp hp => by
    cases p <;> first | cases hp | skip
    obtain ⟨a, rfl, hd⟩ := rp
    exact tyA_dic sm hd
  run := fun fr ms σ l T mm H p v qs ws rv Q s rp rq e h => by
    cases p <;> first | cases e | skip
    rename_i kvs
    match qs, rq, e with
    | [k], rq, e =>
      obtain ⟨y, rfl, ry⟩ := rds1 (qs := []) rq
      obtain ⟨hf, rfl⟩ := some_if (a := ((false, (look kvs k).getD .non) : RV)) e
      obtain ⟨a, rfl, hd⟩ := rp
      obtain ⟨h1, h2⟩ := dget_ok hd hf ry
      rw [sm.K]
      cases el : look kvs k with
      | some d =>
        obtain ⟨w, g, rw'⟩ := h1 d el
        rw [el] at h
        exact ⟨a, y, some w, rfl, g, .inl ⟨rfl, h _ _ ⟨fr, ms, s.push rw'⟩ Ext.refl⟩⟩
      | none =>
        rw [el] at h
        exact ⟨a, y, none, rfl, h2 el, .inl ⟨rfl, h _ _ s.anon Ext.refl⟩⟩
theorem okm_get2 (sm : Same' c X) (hu : X.A.units + 60 < cLine) : OkM true c X .get2 "get" "dict" "dict.get" (rGetA c X.K) where
  fact := mf_get
  mt := mt_getA sm hu
  ty := fun fr ms σ l T mm H p v s rp hp => by
    cases p <;> first | cases hp | skip
    obtain ⟨a, rfl, hd⟩ := rp
    exact tyA_dic sm hd
  run := fun fr ms σ l T mm H p v qs ws rv Q s rp rq e h => by
    cases p <;> first | cases e | skip
    rename_i kvs
    match qs, rq, e with
    | [k, dd], rq, e =>
      have rq : FRs c fr (mu ms) H [k, dd] ws := rq
      simp only [FRs] at rq
      obtain ⟨y, _, rfl, ry, z, _, rfl, rz, rfl⟩ := rq
      obtain ⟨hf, rfl⟩ := some_if (a := ((false, (look kvs k).getD dd) : RV)) e
      obtain ⟨a, rfl, hd⟩ := rp
      obtain ⟨h1, h2⟩ := dget_ok hd hf ry.rd
      rw [sm.K]
      cases el : look kvs k with
      | some d =>
        obtain ⟨w, g, rw'⟩ := h1 d el
        rw [el] at h
        exact ⟨a, y, some w, rfl, g, .inr ⟨z, rfl, h _ _ ⟨fr, ms, s.push rw'⟩ Ext.refl⟩⟩
      | none =>
        rw [el] at h
        exact ⟨a, y, none, rfl, h2 el, .inr ⟨z, rfl, h _ _ ⟨fr, ms, s.push rz⟩ Ext.refl⟩⟩
/-! texts -/
theorem okm_join (sm : Same' c X) : OkM false c X .join "join" "str" "str.join" (fun x xs H Q => ∃ a p, ∃ ys : List Str, x = .str a ∧ xs = [.ref p] ∧ (SqL X.K H p (ys.map V.str) ∨ SqT X.K H p (ys.map V.str)) ∧
    (ys.map (·.length)).sum + ys.length * a.length ≤ 16777216 ∧ Q (.str (Txt.join a ys)) H) where
  fact := ⟨PySem.F.plainAttrs_str, PySem.F.slot_str_join, PySem.F.type_str_join⟩
  mt := mt_join
  ty := fun fr ms σ l T mm H p v s rp hp => by
    cases p <;> first | cases hp | skip
    rw [rp.str]
    exact tyA_str
  run := fun fr ms σ l T mm H p v qs ws rv Q s rp rq e h => by
    cases p <;> first | cases e | skip
    rename_i t
    match qs, rq, e with
    | [q], rq, e =>
      obtain ⟨w, rfl, rw'⟩ := rds1 (qs := []) rq
      have e : (q.seq.bind fun xs => (asStrs xs).bind fun ys => if (ys.map (·.length)).sum + ys.length * t.length ≤ sizeMax then some (((false, D.str (Txt.join t ys)) : RV)) else none) = some rv := e
      obtain ⟨ds, hq, e⟩ := Option.bind_eq_some_iff.mp e
      obtain ⟨ys, hy, e⟩ := Option.bind_eq_some_iff.mp e
      obtain ⟨hz, rfl⟩ := some_if e
      obtain ⟨a, vs, rfl, hs, r⟩ := seq_sq hq rw'
      rw [FRs.strs hy r] at hs
      rw [rp.str, sm.K]
      refine ⟨t, a, ys, rfl, rfl, ?_, hz, h _ _ (s.astr _) Ext.refl⟩
      cases hb : seqB q
      · rw [hb] at hs; exact .inl hs
      · rw [hb] at hs; exact .inr hs
end
end G

set_option linter.all false
set_option maxRecDepth 100000
set_option maxHeartbeats 1000000
namespace G
open PySem PySem.Spec PyProof.Rows L2
def star : Expr → Bool
  | .Starred _ _ => true
  | _ => false
theorem star_ok {e : Expr} (h : star e = false) (es : List Expr) (env : Env) : starEach (e :: es) env = (false, eval e env) :: starEach es env := by
  cases e <;> first | rfl | cases h
theorem star_any {es : List Expr} (h : es.all (fun e => !star e) = true) (env : Env) : (starEach es env).any (·.1) = false := by
  induction es with
  | nil => rfl
  | cons e es ih =>
    simp only [List.all_cons, Bool.and_eq_true, Bool.not_eq_true'] at h
    rw [star_ok h.1, List.any_cons, ih h.2]
    rfl
theorem back_any {es : List Expr} (h : es.all (fun e => !star e) = true) (env : Env) (pos : Pos) : (backTo pos (starEach es env)).any (·.1) = false := by
  have q := star_any h env
  rw [List.any_eq_false] at q ⊢
  intro x hx
  unfold backTo at hx
  obtain ⟨y, hy, rfl⟩ := List.mem_map.mp hx
  exact q y hy
theorem back_none {es : List Expr} (h : es.all (fun e => !star e) = true) (env : Env) (pos : Pos) : (backTo pos (starEach es env)).all (fun x => !x.1) = true := by
  have q := back_any h env pos
  rw [List.any_eq_false] at q
  rw [List.all_eq_true]
  intro x hx
  simpa using q x hx
theorem few_ok {es : List Expr} (h : es.all (fun e => !star e) = true) (hl : es.length < 30) (env : Env) (pos : Pos) : ((backTo pos (starEach es env)).all (fun x => !x.1) && (backToKw pos (keywordEach [] env)).all (fun x => x.1.isSome)
      && decide (es.length + ([] : List Keyword).length + (if ([] : List Keyword).isEmpty then 0 else 1) < 30)) = true := by
  rw [back_none h]
  simp only [Bool.true_and]
  have e : (backToKw pos (keywordEach [] env)).all (fun x => x.1.isSome) = true := rfl
  rw [e]
  simpa using hl
def callNone : Expr → Bool
  | .Call (.Name _ _) [] [] _ => true
  | _ => false
theorem base_ok {o : Expr} (h : callNone o = false) (a : Str) (env : Env) : attributeBase o a env (eval o env) = eval o env := by
  unfold attributeBase
  split
  · cases h
  · rfl
def plainT : Expr → Bool
  | .UnaryOp .Not _ _ => false
  | .BoolOp _ _ _ => false
  | .IfExp _ _ _ _ => false
  | .Compare _ _ _ _ => false
  | _ => true
theorem isTrue_ok {e : Expr} (h : plainT e = true) (env : Env) (whole : Sem Value) : PySem.isTrue e env whole = (do let v ← whole; standAt e.pos; holding [v] (truthy v)) := by
  cases e <;> first | rfl | cases h | skip
  rename_i op a pos
  cases op <;> first | rfl | cases h
def compE : Expr → Bool
  | .ListComp _ _ _ _ => true
  | .SetComp _ _ _ _ => true
  | .DictComp _ _ _ _ _ => true
  | _ => false
theorem swaps_ok {e : Expr} (h : compE e = false) (t : Option Expr) (l : Nat) (env : Env) : swapsWith e t l env = pure false := by
  unfold swapsWith
  cases e <;> first | rfl | cases h
theorem folded_ok {e : Expr} (h : (match e with | .Set _ _ _ => true | _ => false) = false) (env : Env) (x : Value) : foldedSetIterable e env x = pure x := by
  unfold foldedSetIterable
  cases e <;> first | rfl | cases h

theorem sole_ok {e t : Expr} (h : compE e = false) (l : Nat) (env : Env) : swapsWithSole [t] e l env = pure false := swaps_ok h (some t) l env
def tupE : Expr → Bool
  | .Tuple _ _ _ => true
  | _ => false
theorem stores_ok {e t : Expr} (h : tupE e = false ∨ (tupE t = false ∧ ∀ es p, t ≠ .List es p)) (env : Env) : swappedStores [t] e env = pure none := by
  unfold swappedStores
  rcases h with h | ⟨h, h2⟩
  · cases e <;> first | cases h | skip
    all_goals (cases t <;> rfl)
  · cases t <;> first | exact absurd rfl (h2 _ _) | rfl | cases h
theorem each1_ok {t : Expr} (env : Env) (h : star t = false) : (assignEach [t] env).map (·.2) = [assign t env] := by
  cases t <;> first | rfl | cases h
theorem each_cons {t : Expr} (ts : List Expr) (env : Env) (h : star t = false) : (assignEach (t :: ts) env).map (·.2) = assign t env :: (assignEach ts env).map (·.2) := by
  cases t <;> first | rfl | cases h
theorem each_len (ts : List Expr) (env : Env) : (assignEach ts env).length = ts.length := by
  induction ts with
  | nil => rfl
  | cons t ts ih => cases t <;> simp only [assignEach, List.length_cons, ih]
theorem each_find {ts : List Expr} (env : Env) (h : ts.all (fun e => !star e) = true) : (assignEach ts env).findIdx? (·.1) = none := by
  rw [List.findIdx?_eq_none_iff]
  intro x hx
  induction ts with
  | nil => cases hx
  | cons t ts ih =>
    simp only [List.all_cons, Bool.and_eq_true, Bool.not_eq_true'] at h
    have e : assignEach (t :: ts) env = (false, assign t env) :: assignEach ts env := by
      cases t <;> first | rfl | cases h.1
    rw [e] at hx
    rcases List.mem_cons.mp hx with rfl | hx
    · rfl
    · exact ih h.2 hx
def sliceE : Expr → Bool
  | .Slice _ _ _ _ => true
  | _ => false
theorem sub_ok (o : Expr) {i : Expr} (h : sliceE i = false) (pos : Pos) (env : Env) (v : Value) : assign (.Subscript o i pos) env v = (do
      let ov ← holding [v] (eval o env)
      let iv ← holding [v, ov] (eval i env)
      standAt pos
      holding [v, ov, iv] (setItem ov iv v)
      release [v, ov, iv] []) := by
  cases i <;> first | rfl | cases h
theorem plainIx_ok {e : Expr} (h : sliceE e = false) : PlainIx e := by
  intro o i
  cases e <;> first | rfl | cases h
end G

set_option linter.all false
set_option maxRecDepth 100000
set_option maxHeartbeats 1000000
namespace G
open PySem PySem.Spec PyProof.Rows L2
structure VarOk (X : Cx) (i : Nat) (x : Str) : Prop where
  N : X.N[i]? = some x
  vis : Vis X.env.scope x
  d1 : (x == ("__debug__" : Str)) = false
  d2 : (x == ("__classdict__" : Str)) = false
inductive Opd (c : Nm) (X : Cx) (W : WX) (P : Prog) (Γ : Gam) (e : Expr) (e1 : E) (k1 : Bool) : Prop
  | var {i : Nat} {x : Str} {pos : Pos} : e = .Name x pos → e1 = .var i → VarOk X i x → Opd c X W P Γ e e1 k1
  | held : e1.isVar = false → PE X e (tM c W false k1 (ev P Γ false e1)) → Opd c X W P Γ e e1 k1
section
variable {c : Nm} {σ : L2.St} {H H' : Hp} {W : WX} {X : Cx} {b k k1 k2 : Bool} {P : Prog} {Γ : Gam} {e y : Expr} {e1 y1 : E}
def twoM (P : Prog) (Γ : Gam) (e1 : E) (B : M RV) (F : D → D → M RV) : M RV := do
  let u ← ev P Γ e1.isVar e1
  let v ← B
  let u ← again e1 u
  let p ← seen u
  let q ← seen v
  F p q
theorem Opd.two (o : Opd c X W P Γ e e1 k1) {f : D → D → Option RV} {F : D → D → M RV} {r : R2} {B : M RV} (hF : ∀ p q, F p q = M.of (f p q)) (ok : Ok2 c f r) (hk : k = true → k1 = true ∧ k2 = true) :
    ∃ ta, PE X e ta ∧ ∀ σ H Q, tM c W b k (twoM P Γ e1 B F) σ H Q → ta σ H fun x H1 => tM c W true k2 B σ H1 fun y H2 => r x y H2 Q := by
  cases o with
  | @var i x pos h1 h2 hv =>
    subst h1 h2
    refine ⟨_, pe_var hv.N hv.vis hv.d1 hv.d2, ?_⟩
    refine t_two (X := X) (e2 := .con .non) (e1 := .var i) (A := do let v ← getS i; M.ret (false, v.2)) (k1 := k1) (k2 := k2) hF ok (fun _ => ⟨i, rfl, rfl⟩) (fun σ H Q h => ?_) (fun σ H Q h => h) hk (fun j σ H Q e h => ?_) (fun j σ H Q v e h q => ?_)
    · obtain ⟨l, T, m, ⟨fr, ms, s⟩, h⟩ := h
      rw [Run.bind, Run.getS] at h
      obtain ⟨x, e, h⟩ := h
      obtain ⟨v, e1, r⟩ := s.slots i x e
      exact ⟨v, e1, h v H ⟨fr, ms, s, r.rd⟩ fun _ => Ext.refl⟩
    · cases e
      exact h
    · cases e
      exact ⟨v, h, q⟩
  | held h1 h2 =>
    refine ⟨_, h2, ?_⟩
    refine t_two (X := X) (e2 := .con .non) (e1 := e1) (A := ev P Γ e1.isVar e1) (k1 := k1) (k2 := k2) hF ok (fun h => by rw [h1] at h; cases h) (fun σ H Q h => ?_) (fun σ H Q h => h) hk (fun j σ H Q e h => by subst e; cases h1) (fun j σ H Q v e h q => by subst e; cases h1)
    rw [h1] at h
    exact h
variable {pos : Pos} {op : Operator} {cm : CmpOp} {r : R2} {f : D → D → Option RV} {F : D → D → M RV} {B : M RV}
theorem x_bin (o : Opd c X W P Γ e e1 k1) (hop : OpR X (binaryOp op) r) (hF : ∀ p q, F p q = M.of (f p q)) (ok : Ok2 c f r) (hb : PE X y (tM c W true k2 B)) (hk : k = true → k1 = true ∧ k2 = true) : PE X (.BinOp e op y pos) (tM c W b k (twoM P Γ e1 B F)) := by
  obtain ⟨ta, ha, hi⟩ := o.two (b := b) (B := B) hF ok hk
  exact PEimp (pe_op hop ha hb) hi
theorem x_cmp (o : Opd c X W P Γ e e1 k1) (hop : OpR X (compareOp cm) r) (hF : ∀ p q, F p q = M.of (f p q)) (ok : Ok2 c f r) (hb : PE X y (tM c W true k2 B)) (hk : k = true → k1 = true ∧ k2 = true) (hm : behindInMarks cm y = false) : PE X (.Compare e [cm] [y] pos) (tM c W b k (twoM P Γ e1 B F)) := by
  obtain ⟨ta, ha, hi⟩ := o.two (b := b) (B := B) hF ok hk
  exact PEimp (pe_cmpR hop ha hb hm) hi
theorem x_cmpT (o : Opd c X W P Γ e e1 k1) (hop : OpR X (compareOp cm) r) (hF : ∀ p q, F p q = M.of (f p q)) (ok : Ok2 c f r) (hb : PE X y (tM c W true k2 B)) (hm : behindInMarks cm y = false) : PT X (.Compare e [cm] [y] pos) (tT c W (truthM (twoM P Γ e1 B F))) := by
  obtain ⟨ta, ha, hi⟩ := o.two (b := true) (k := false) (k2 := k2) (B := B) hF ok (fun z => nomatch z)
  exact PTimp (pt_cmpR hop ha hb hm) fun σ H Q h => hi σ H _ (tT_of (k := false) σ H Q h)
theorem x_sub (o : Opd c X W P Γ e e1 k1) (hop : IxR X r) (hF : ∀ p q, F p q = M.of (f p q)) (ok : Ok2 c f r) (hb : PE X y (tM c W true k2 B)) (hk : k = true → k1 = true ∧ k2 = true) (hp : PlainIx y) : PE X (.Subscript e y pos) (tM c W b k (twoM P Γ e1 B F)) := by
  obtain ⟨ta, ha, hi⟩ := o.two (b := b) (B := B) hF ok hk
  exact PEimp (pe_ix hop ha hb hp) hi
theorem x_boolV {bo : BoolOp} {A : M RV} (h : PE X e (tM c W true k1 A)) : PE X (.BoolOp bo [e] pos) (tM c W b false (boolM A)) := by
  refine PEimp (pe_one h) ?_
  rintro σ H Q ⟨l, T, m, s, h⟩
  refine ⟨l, T, m, s, ?_⟩
  unfold boolM at h
  rw [Run.bind] at h
  refine Run.mono h (fun r s1 h => ?_) (fun _ _ z => z)
  rw [Run.bind, Run.of] at h
  obtain ⟨t, e, h⟩ := h
  intro v H1 aft _
  obtain ⟨rfl, si⟩ := aft.bl (truth_bl e)
  exact h _ _ (Aft.atom si fun _ _ => by simp only [FR]) (fun z => nomatch z)
theorem truth_bool {A : M RV} : truthM (boolM A) = truthM A := by
  funext s
  show M.bind (M.bind A _) _ s = M.bind A _ s
  unfold M.bind
  cases h : A s with
  | none => rfl
  | some r =>
    obtain ⟨r, s'⟩ := r
    cases r with
    | exn e => rfl
    | ok u =>
      dsimp only
      cases ht : u.2.truth with
      | none => simp only [bind, M.bind, M.of, ht]
      | some t => simp only [bind, M.bind, M.of, M.ret, ht, D.truth]
end
end G

set_option linter.all false
set_option maxRecDepth 100000
set_option maxHeartbeats 1000000
namespace G
open PySem PySem.Spec PyProof.Rows L2
section
variable {c : Nm} {fr fr' : Addr → Prop} {m : List Addr} {H H' : Hp} {ms : Ms} {σ σ' : L2.St} {l : List (Option RV)} {T U : List (V × RV)} {mm : Mem} {W : WX} {X : Cx} {b k : Bool} {wr : List Nat}
/-- an own list goes into the memory -/
theorem SIg.toMem {a : Addr} {xs : List D} {vs : List V} (s : SIg c fr ms σ l ((.ref a, (true, .lst xs)) :: T) mm H) (h1 : H a = some (.lst vs)) (h2 : FRs c fr (mu ms) H xs vs) : SI c σ l ((.ref a, (false, .obj mm.length)) :: T) (mm ++ [.lst xs]) H := by
  have s' := s.pop
  have g := mu_snoc (ms := ms) (x := (a, vs))
  have ho : ∀ q, ownM [MO.lst xs] [(a, vs)] q = own1 (.ref a, (true, D.lst xs)) q := fun q => by simp [ownM, own1]
  have sI : SIg c fr (ms ++ [(a, vs)]) σ l T (mm ++ [.lst xs]) H := by
    have hm : MemOk c fr (mu ms) H (.lst xs) (a, vs) := ⟨h1, h2⟩
    refine ⟨s'.len, fun i x e => ?_, fun r hr => (s'.temps r hr).grow g, MemsOk.snoc (s'.mem.grow g) (hm.grow g), fun q => ?_, fun q f => ?_, s'.frt⟩
    · obtain ⟨v, e1, h⟩ := s'.slots i x e
      exact ⟨v, e1, h.grow g⟩
    · rw [ownM_snoc q s'.mem, ho]
      have := s.one q
      simp only [ownT] at this
      omega
    · rw [ownM_snoc q s'.mem, ho]
      have := s.nof q f
      simp only [ownT] at this
      omega
  refine ⟨fr, _, sI.push ?_⟩
  simp only [FR]
  refine ⟨a, rfl, ?_⟩
  unfold mu
  rw [List.map_append, List.getElem?_append_right (by rw [List.length_map, s.mem.length]; exact Nat.le_refl _), List.length_map, s.mem.length]
  simp
def memM (A : M RV) : M RV := do
  let u ← A
  match u with
  | (true, .lst xs) => newM xs
  | _ => M.stuck
theorem x_mem {e : Expr} {A : M RV} {k1 : Bool} (h : PE X e (tM c W false k1 A)) : PE X e (tM c W b false (memM A)) := by
  refine PEimp h ?_
  rintro σ H Q ⟨l, T, m, s, h⟩
  refine ⟨l, T, m, s, ?_⟩
  unfold memM at h
  rw [Run.bind] at h
  refine Run.mono h (fun u s1 h => ?_) (fun _ _ z => z)
  intro v H1 aft _
  obtain ⟨o, d⟩ := u
  cases o with
  | false => exact h.elim
  | true =>
    cases d with
    | lst xs =>
      obtain ⟨fr, ms, si⟩ : SI c σ s1.l ((v, (true, D.lst xs)) :: T) s1.m H1 := aft
      obtain ⟨a, vs, rfl, q1, q2⟩ : OW c fr (mu ms) H1 (.lst xs) v := si.temps _ List.mem_cons_self
      exact h _ _ (.of (si.toMem q1 q2)) fun z => nomatch z
    | _ => exact h.elim
/-! isinstance -/
def tyStr : Ty → Option String
  | .int => some "int"
  | .bool => some "bool"
  | .str => some "str"
  | .tuple => some "tuple"
  | .list => some "list"
  | _ => none
def basTy : D → String
  | .non => "NoneType"
  | .bl _ => "bool"
  | .int _ => "int"
  | .str _ => "str"
  | .tup _ => "tuple"
  | _ => "list"
theorem kit_bas {t : Ty} {d : D} {n : String} (hn : tyStr t = some n) (hd : d.basic = true) : kitB (basTy d) n = some (isTy t d) := by
  cases t <;> first | cases hn | skip
  all_goals (cases d <;> first | cases hd | skip)
  all_goals (simp only [basTy, isTy]; decide +kernel)
theorem SqT.tyX {K : PySem.W.Frag} {a : Addr} {vs : List V} (h : SqT K H a vs) : TyX K H (.ref a) (.type "tuple") := by
  rcases h with (h | ⟨o, h⟩) | h
  · exact .base (.tup h)
  · exact .fTuple h
  · obtain ⟨o, its, n, hk, hc, _⟩ := h
    exact .kTuple hk hc
theorem RD.tyX {d : D} {v : V} (h : RD c fr m H d v) (hd : d.basic = true) : TyX c.K H v (.type (basTy d)) := by
  cases d with
  | non => rw [h.non]; exact .base .non
  | bl i => rw [h.bl]; exact .base (.bl _)
  | int i => rw [h.int]; exact .base (.int _)
  | str i => rw [h.str]; exact .base (.str _)
  | tup ds =>
    obtain ⟨a, vs, rfl, q, _⟩ := h.tup
    exact SqT.tyX q
  | lst ds =>
    obtain ⟨a, vs, rfl, q, _⟩ := h.lst
    exact .base (.lst q)
  | _ => cases hd
theorem Run.seenI {u : RV} {s : S} {v : V} {K : D → S → Prop} {XE : Exc → S → Prop} (h : Run (seenI u) s K XE) (si : SIg c fr ms σ l T s.m H) (r : RD c fr (mu ms) H u.2 v) : ∃ d, K d s ∧ (d.basic = true → RD c fr (mu ms) H d v) := by
  obtain ⟨o, d⟩ := u
  unfold G.seenI at h
  cases d with
  | obj j =>
    simp only at h
    rw [Run.bind, Run.memAt] at h
    obtain ⟨mo, em, h⟩ := h
    cases mo with
    | ins _ _ => exact ⟨_, h, fun z => by cases z⟩
    | lst xs =>
      refine ⟨_, h, fun _ => ?_⟩
      have r : FR c fr (mu ms) H (.obj j) v := r
      simp only [FR] at r
      obtain ⟨a, rfl, ea⟩ := r
      obtain ⟨⟨b, vs⟩, h1, h2⟩ := si.mem.get em
      obtain ⟨h3, h4⟩ := h2
      have : a = b := by
        unfold mu at ea
        rw [List.getElem?_map, h1] at ea
        simpa using ea.symm
      subst this
      exact ⟨a, vs, rfl, h3, h4⟩
  | _ => exact ⟨_, h, fun _ => r⟩
def isiM (exb : Nat → List Nat) (ts : List Ty) (A : M RV) : M RV := do
  let u ← A
  let d ← seenI u
  M.of ((isOf exb d ts).map fun r => (false, .bl r))
theorem x_isinst {P : Prog} {x : Str} {p pos pt : Pos} {e : Expr} {y : Str} {A : M RV} {k1 : Bool} {ty : Ty} {n : String} (hn : tyStr ty = some n) (hy : bootBuiltins y = some (.type n)) (hy' : y ≠ "__name__") (hg2 : Gl X y) (hm2 : X.mg y = none) (hdb2 : (y == ("__debug__" : Str)) = false)
    (sm : Same' c X) (hg : Gl X x) (hm : X.mg x = none) (hv : bootBuiltins x = some (.builtin "isinstance")) (hx' : x ≠ "__name__") (hdb : (x == ("__debug__" : Str)) = false)
    (h : PE X e (tM c W true k1 A)) (he : starEach [e, .Name y pt] X.env = (false, eval e X.env) :: starEach [.Name y pt] X.env) (hpl : (backTo pos (starEach [.Name y pt] X.env)).any (·.1) = false) :
    PE X (.Call (.Name x p) [e, .Name y pt] [] pos) (tM c W b false (isiM P.exb [ty] A)) := by
  refine PEimp (pe_callB call_isi hg hm hv (pa_cons h (pa_cons (pe_bltn (v := .ty n) hg2 hm2 hy rfl hy' hdb2) pa_nil rfl) he) hx' hdb he hpl) ?_
  rintro σ H Q ⟨l, T, m, s, h⟩
  refine ⟨l, T, m, s, ?_⟩
  unfold isiM at h
  rw [Run.bind] at h
  refine Run.mono h (fun u s1 h => ?_) (fun _ _ z => z)
  intro v H1 aft _
  obtain ⟨fr, ms, si, r⟩ := aft.look
  rw [Run.bind] at h
  obtain ⟨d, h, hr⟩ := Run.seenI h si r
  rw [Run.of] at h
  obtain ⟨rv, er, h⟩ := h
  have hd : d.basic = true ∧ rv = (false, .bl (isTy ty d)) := by
    have e1 : isOf P.exb d [ty] = (if d.basic then some (isTy ty d) else none).bind fun a => some (a || false) := by
      cases ty <;> first | (cases hn; done) | (simp only [isOf]; cases d.basic <;> rfl)
    rw [e1] at er
    by_cases hb : d.basic = true
    · rw [if_pos hb] at er
      refine ⟨hb, ?_⟩
      cases er
      simp
    · rw [if_neg hb] at er
      cases er
  obtain ⟨hd, rfl⟩ := hd
  have tx := (hr hd).tyX hd
  rw [← sm.K] at tx
  refine ⟨v, .ty n, .type (basTy d), .type n, isTy ty d, rfl, .ty n, tx, kit_ty (kit_bas hn hd), ?_⟩
  exact h _ _ (Aft.atom ⟨fr, ms, si⟩ fun _ _ => by simp only [FR]) fun z => nomatch z
/-! list(range(n)) -/
def lrngM (A : M RV) : M RV := do
  let n ← A
  match n.2 with
  | .int n => if n < 2 ^ 24 ∧ -(2 ^ 62) ≤ n then M.ret (true, .lst (rangeD 0 n.toNat)) else M.stuck
  | _ => M.stuck
theorem FRs.rg {n : Nat} : FRs c fr m H (rangeD 0 n) (rgV 0 (n : Int)) := by
  unfold rangeD rgV
  have e : ((n : Int) - 0).toNat = n := by omega
  rw [e]
  generalize List.range n = is
  induction is with
  | nil => exact FRs.nil
  | cons i is ih =>
    rw [List.map_cons, List.map_cons]
    exact FRs.cons (by simp only [FR]) ih
theorem x_lrng {p q pos : Pos} {y z : Str} {e : Expr} {A : M RV} {k1 : Bool} {pos' : Pos} (hy : y = "list") (hz : z = "range") (hc : X.calm = true) (hg : Gl X y) (hm : X.mg y = none) (hg2 : Gl X z) (hm2 : X.mg z = none) (h : PE X e (tM c W true k1 A))
    (na : starEach [e] X.env = (false, eval e X.env) :: starEach [] X.env) : PE X (.Call (.Name y p) [.Call (.Name z q) [e] [] pos'] [] pos) (tM c W b false (lrngM A)) := by
  subst hy hz
  refine PEimp (pe_listRg hc hg hm (prg_1 hg2 hm2 h na)) ?_
  rintro σ H Q ⟨l, T, m, s, h⟩
  refine ⟨l, T, m, s, ?_⟩
  unfold lrngM at h
  rw [Run.bind] at h
  refine Run.mono h (fun u s1 h => ?_) (fun _ _ z => z)
  intro v H1 aft _
  obtain ⟨fr, ms, si, r⟩ := aft.look
  obtain ⟨o, d⟩ := u
  cases d with
  | int n =>
    simp only at h
    by_cases hn : n < 2 ^ 24 ∧ -(2 ^ 62) ≤ n
    · rw [if_pos hn] at h
      refine ⟨n, r.int, ⟨by omega, by omega, hn.2, by omega, by omega⟩, fun p hp => ?_⟩
      have e : rgV 0 n = rgV 0 (n.toNat : Int) := by
        unfold rgV
        congr 2
        omega
      rw [e]
      exact h _ _ (.of (si.newL FRs.rg hp)) fun z => nomatch z
    · rw [if_neg hn] at h
      exact h.elim
  | _ => exact h.elim
/-- tuple(range(n)) -/
def trngM (A : M RV) : M RV := do
  let n ← A
  match n.2 with
  | .int n => if n < 2 ^ 24 ∧ -(2 ^ 62) ≤ n then M.ret (false, .tup (rangeD 0 n.toNat)) else M.stuck
  | _ => M.stuck
theorem x_trng {p q pos : Pos} {y z : Str} {e : Expr} {A : M RV} {k1 : Bool} {pos' : Pos} (hy : y = "tuple") (hz : z = "range") (hc : X.calm = true) (hg : Gl X y) (hm : X.mg y = none) (hg2 : Gl X z) (hm2 : X.mg z = none) (h : PE X e (tM c W true k1 A))
    (na : starEach [e] X.env = (false, eval e X.env) :: starEach [] X.env) : PE X (.Call (.Name y p) [.Call (.Name z q) [e] [] pos'] [] pos) (tM c W b false (trngM A)) := by
  subst hy hz
  refine PEimp (pe_tupRgN hc hg hm (prg_1 hg2 hm2 h na)) ?_
  rintro σ H Q ⟨l, T, m, s, h⟩
  refine ⟨l, T, m, s, ?_⟩
  unfold trngM at h
  rw [Run.bind] at h
  refine Run.mono h (fun u s1 h => ?_) (fun _ _ z => z)
  intro v H1 aft _
  obtain ⟨fr, ms, si, r⟩ := aft.look
  obtain ⟨o, d⟩ := u
  cases d with
  | int n =>
    simp only at h
    by_cases hn : n < 2 ^ 24 ∧ -(2 ^ 62) ≤ n
    · rw [if_pos hn] at h
      refine ⟨n, r.int, ⟨by omega, by omega, hn.2, by omega, by omega⟩, fun p o hp ho => ?_⟩
      have e : rgV 0 n = rgV 0 (n.toNat : Int) := by
        unfold rgV
        congr 2
        omega
      rw [e]
      exact h _ _ (.of (si.newT FRs.rg hp ho)) fun z => nomatch z
    · rw [if_neg hn] at h
      exact h.elim
  | _ => exact h.elim
/-! a name's list is changed -/
theorem x_mut {P : Prog} {Γ : Gam} {mt : Mm} {id : String} {r : V → List V → Hp → VK → Prop} {i : Nat} {x name : Str} {p apos cpos : Pos} {e : Expr} {es : List Expr} {args : List E} {k2 : Bool} (ok : ChL c (fun vs d => change mt d vs) r) (hm : MtR X id r)
    (slot : Slot "list" name id) (hty : typeOf (.builtin id) = pure (.type "method_descriptor")) (hch : ∀ ds d rv d', change mt d ds = some (rv, d') → ∃ xs, d = .lst xs)
    (v : VarOk X i x) (ha : PA X (e :: es) (tMs c W k2 (evs P Γ args)))
    (hfew : ((backTo cpos (starEach (e :: es) X.env)).all (fun x => !x.1) && (backToKw cpos (keywordEach [] X.env)).all (fun x => x.1.isSome)
      && decide ((e :: es).length + ([] : List Keyword).length + (if ([] : List Keyword).isEmpty then 0 else 1) < 30)) = true)
    (hline : (apos.endLine == cpos.line) = true) (hs : starEach (e :: es) X.env = (false, eval e X.env) :: starEach es X.env) (hplain : (backTo cpos (starEach es X.env)).any (·.1) = false) :
    PE X (.Call (.Attribute (.Name x p) name apos) (e :: es) [] cpos) (tM c W b false (mutPl P Γ args (fun vs d => change mt d vs) (.var i))) :=
  PEimp (pe_bm PySem.F.plainAttrs_list slot hty hm (pe_var v.N v.vis v.d1 v.d2) ha (base_ok rfl _ _) hfew hline hs hplain) (t_mut ok hch fun _ _ _ h => h)
end
end G

set_option linter.all false
set_option maxRecDepth 100000
set_option maxHeartbeats 1000000
namespace G
open PySem PySem.Spec PyProof.Rows L2
section
variable {c : Nm} {fr fr' : Addr → Prop} {m : List Addr} {H H' : Hp} {ms : Ms} {σ σ' : L2.St} {l : List (Option RV)} {T U : List (V × RV)} {mm : Mem} {W : WX} {X : Cx} {b k : Bool} {pins : List (Addr × Obj)} {s : Shared} {E : Value → Shared → Prop} {a : Addr} {y v : V} {u : Value}
/-- an item is stored in a dict that is known -/
theorem da_dictSet (sm : Same' c X) {A : Around} {Q : Unit → Shared → Prop} {r : Value} (hu : A.units + 60 < cLine) (I : Inv X pins σ H s) (ry : RelV y u) (rv : RelV v r)
    (g : (∃ kvs k, H a = some (.dK kvs) ∧ y = kV k ∧ kvs.length < sizeLine ∧ ∀ s', Inv X pins σ (upd H a (.dK (putK kvs k v))) s' → Q () s') ∨
      ∃ xs k b, (H a = some (dctO c a xs) ∨ (H a = some (.dK []) ∧ xs = [])) ∧ XsAt X.K H xs ∧ y = .ref b ∧ KeyAt X.K H k y ∧ k.depth ≤ 8 ∧ xs.length < sizeLine ∧
        ∀ s' u', RelV v u' → Inv X pins σ (upd H a (dctO c a (storedH xs k b u'))) s' → Q () s') :
    wpAny (model X.prog X.w) A (dictSet a u r) Q E s := by
  have hr : (nestedKind X.prog X.w).room A := by show A.units + 8 < cLine; omega
  rcases g with ⟨kvs, k, e, ey, l, h⟩ | ⟨xs, k, b, e, hx, ey, hk, hd, hz, h⟩
  · subst ey
    obtain ⟨z, hd, vs, rel, dd⟩ := dk_of I.hok e
    have hz : vs.length ≤ sizeLine := by rw [← rel.length]; exact z
    have hl : (putK kvs k v).length ≤ sizeLine := by have := length_putK kvs k v; omega
    refine wpAny_dictSet_pairs (hsz := hz) (kV_is ry) dd fun h' dd' hs => h _ ?_
    have he : ∃ q, h'.get? a = some q := let ⟨q, _, _, hq, _⟩ := dd'; ⟨q, hq⟩
    exact d_write I (by rw [e]; exact True.intro) hs he (dk_new hl hd (rel.put k rv) dd')
  · subst ey
    cases (show u = Value.ref b from ry)
    have hm : s.heap.DictOfH (nestedKind X.prog X.w) a xs := by
      rcases e with e | ⟨e, rfl⟩
      · exact hx.dict' sm I (.inl e)
      · exact (dk_nil I (.inl e)).2
    have mu : Mut (H a) := by
      rcases e with e | ⟨e, _⟩
      · rw [e]; trivial
      · rw [e]; trivial
    refine wpAny_dictSet_heap (hsz := by omega) hr (key_is I hk hd) hm fun h' hm' hs => ?_
    refine h _ r rv ?_
    have hm2 := hm'
    obtain ⟨o, es, ep, h1, h2, h3, h4, _, _⟩ := hm'
    refine I.write (x := a) (e := a) (t' := _) mu (.inl rfl) (fun q ob hq z => (hs.2 q hq).trans z) ⟨o, h1⟩ ?_
    refine ⟨⟨o, es, ep, h1, h2, h3, by rw [← sm.prog, ← sm.w]; exact h4⟩, ⟨o, h1⟩, ?_⟩
    rintro g1 g2 ⟨o', es', ep', q1, q2⟩ k'
    exact ⟨o', es', ep', k' _ q1, q2⟩
/-- what is owed of an item stored in a dict -/
def rPutA (c : Nm) (K : PySem.W.Frag) (a : Addr) (i v : V) (H : Hp) (Q : Hp → Prop) : Prop :=
  (∃ kvs k, H a = some (.dK kvs) ∧ i = kV k ∧ kvs.length < sizeLine ∧ Q (upd H a (.dK (putK kvs k v)))) ∨
    ∃ xs k b, ((H a = some (dctO c a xs) ∧ (a == sysModules) = false) ∨ (H a = some (.dK []) ∧ xs = [])) ∧ XsAt K H xs ∧ i = .ref b ∧ KeyAt K H k i ∧ k.depth ≤ 8 ∧ xs.length < sizeLine ∧ ∀ u', RelV v u' → (a == sysModules) = false → Q (upd H a (dctO c a (storedH xs k b u')))
theorem put_dic {kvs : List (D × D)} {v d' : D} {ky : D} {rv : RV} {y w : V} {Q : Hp → Prop} (o : OW c fr m H (.dic kvs) (.ref a)) (rk : FR c fr m H ky y) (rd : FR c fr m H v w) (e : putD v [ky] (.dic kvs) = some (rv, d'))
    (hfree : ∀ ho, Still c fr H (upd H a ho)) (hQ : ∀ ho, OW c fr m (upd H a ho) d' (.ref a) → Q (upd H a ho)) : rPutA c c.K a y w H Q := by
  have h := put_own o rk rd e hfree hQ
  rcases h with ⟨p, xs, k, j, ep, _, hp, _⟩ | ⟨p, ep, h⟩
  · cases ep
    obtain ⟨a', ea, hd⟩ := o
    cases ea
    rcases hd with ⟨ks, q, _⟩ | ⟨xs, q, _⟩
    · rw [hp] at q; cases q
    · rw [hp] at q; cases q
  · cases ep
    exact h
def tStore (c : Nm) (K : PySem.W.Frag) (a : Addr) : List (V × V) → Hp → (Hp → Prop) → Prop
  | [], H, Q => Q H
  | (y, w) :: r, H, Q => rPutA c K a y w H fun H' => tStore c K a r H' Q
theorem st_walk (sm : Same' c X) {A : Around} (hu : A.units + 60 < cLine) {ps : List (V × V)} {vs : List (Value × Value)} (rel : VV ps vs) {Q : PUnit → Shared → Prop} {QH : Hp → Prop} (hQ : ∀ s' H', Inv X pins σ H' s' → QH H' → Q PUnit.unit s') : ∀ {H : Hp} {s : Shared}, Inv X pins σ H s → tStore c X.K a ps H QH →
    wpAny (model X.prog X.w) A (forIn vs PUnit.unit fun (x : Value × Value) (_ : PUnit) => (do dictSet a x.1 x.2; pure (ForInStep.yield PUnit.unit) : Sem (ForInStep PUnit))) Q E s := by
  induction rel with
  | nil =>
    intro H s I h
    rw [List.forIn_nil]
    exact wpAny_pure (hQ _ _ I h)
  | @cons p q ps vs hr rel ih =>
    intro H s I h
    obtain ⟨y, w⟩ := p
    obtain ⟨y', w'⟩ := q
    obtain ⟨r1, r2⟩ := hr
    rw [List.forIn_cons]
    refine wpAny_bind (wpAny_bind (da_dictSet sm (y := y) (v := w) hu I r1 r2 ?_))
    rcases h with ⟨kvs, k, e, ey, l, h⟩ | ⟨xs, k, b, e, hx, ey, hk, hd, hz, h⟩
    · exact .inl ⟨kvs, k, e, ey, l, fun s' I' => wpAny_pure (ih I' h)⟩
    · have hs : (a == sysModules) = false := by
        rcases e with e | e
        · exact e.2
        · exact (dk_nil I (.inl e.1)).1
      exact .inr ⟨xs, k, b, e.imp (fun z => z.1) (fun z => z), hx, ey, hk, hd, hz, fun s' u' ru I' => wpAny_pure (ih I' (h u' ru hs))⟩
/-- {k: v, ..} -/
def tDict (c : Nm) (K : PySem.W.Frag) (trs : List (TE × TE)) : TE := fun σ H Q => ∀ p, H p = none → tPairs trs σ (upd H p (.dK [])) fun ps H1 => tStore c K p ps H1 fun H2 => Q (.ref p) H2
theorem pe_dict (sm : Same' c X) (hu : X.A.units + 60 < cLine) {keys : List (Option Expr)} {values : List Expr} {pos : Pos} {trs : List (TE × TE)} (hp : PPs X pos keys values trs) (hk : keys.all (·.isSome) = true) (hl : keys.length = values.length) (h0 : values ≠ []) (hn : values.length ≤ 15) :
    PE X (.Dict keys values pos) (tDict c X.K trs) := ⟨fun pins s σ H Q I h => by
  have hlp : (pairTrees keys values X.env pos).length = values.length := by
    rw [pairTrees_length keys values X.env pos hk hl, hl]
  have hne : pairTrees keys values X.env pos ≠ [] := by
    intro e
    rw [e] at hlp
    exact h0 (List.length_eq_zero_iff.mp hlp.symm)
  rw [arm_eval_Dict, zip_pairTrees keys values X.env pos hk hl, dictDisplay_pairs _ hne (by omega)]
  refine wpAny_bind (wpAny_standAt (wpAny_bind ?_))
  unfold subDict
  refine wpAny_bind (wpAny_alloc ?_)
  refine wpAny_bind (wpAny_holding ?_)
  rw [if_pos (by omega)]
  have I1 := I.laid (a := s.heap.objs.size) (o := .dK []) (t' := s.toks) (fun _ _ q => Heap.get?_push_of_some _ q) (Nat.le_refl _) (dk_empty s.heap I.big)
  refine wpAny_bind (wpAny_mono (hp.run pins _ σ _ _ I1 (h _ (I.hok.fresh (Nat.le_refl _)))) (fun vs s1 h1 => ?_) fun _ _ e => e)
  obtain ⟨ps, H1, I2, rel, q⟩ := h1
  refine wpAny_holding ?_
  refine wpAny_bind (wpAny_mono (st_walk (Q := fun _ s' => ∃ H', Inv X pins σ H' s' ∧ Q (.ref s.heap.objs.size) H') sm hu rel (fun s' H' I' q' => ⟨H', I', q'⟩) I2 q) (fun _ s' h2 => ?_) fun _ _ e => e)
  obtain ⟨H', I', q'⟩ := h2
  exact wpAny_pure (wpAny_pure (wpAny_pure ⟨.ref s.heap.objs.size, H', I', rfl, q'⟩))⟩
theorem put_len1 (kvs : List (D × D)) (k d : D) : (put kvs k d).length ≤ kvs.length + 1 := by
  unfold put
  split
  · rw [List.length_map]; omega
  · simp
/-- keys and values in a row -/
def flatP : List (V × V) → List V
  | [] => []
  | (x, y) :: r => x :: y :: flatP r
/-- what the pairs do -/
def PT' (c : Nm) (W : WX) (trs : List (TE × TE)) (B : M (List RV)) : Prop := ∀ σ H (Q : List (V × V) → Hp → Prop),
  (∃ l T m, SI c σ l T m H ∧ Run B ⟨l, m⟩ (fun rs s' => ∀ ps H', (flatP ps).length = rs.length → SI c σ s'.l (stack (flatP ps) rs T) s'.m H' → Q ps H') (ExP c W σ T)) → tPairs trs σ H Q
theorem pt_nil : PT' c W [] (M.ret []) := fun σ H Q ⟨l, T, m, s, h⟩ => h [] H rfl s
theorem pt_cons {A B : M RV} {C : M (List RV)} {trs : List (TE × TE)} {k1 k2 : Bool} (h : PT' c W trs C) : PT' c W ((tM c W false k1 A, tM c W false k2 B) :: trs) (do
    let v ← A
    let vs ← (do
      let u ← B
      let us ← C
      M.ret (u :: us))
    M.ret (v :: vs)) := by
  rintro σ H Q ⟨l, T, m, s, q⟩
  refine ⟨l, T, m, s, ?_⟩
  rw [Run.bind] at q
  refine Run.mono q (fun r s1 q => ?_) (fun _ _ z => z)
  intro v H1 aft e1
  refine ⟨s1.l, (v, r) :: T, s1.m, aft, ?_⟩
  rw [Run.bind, Run.bind] at q
  refine Run.mono q (fun r2 s2 q => ?_) (fun _ _ z => z.pop)
  intro w H2 aft2 e2
  refine h σ H2 _ ⟨s2.l, (w, r2) :: (v, r) :: T, s2.m, aft2, ?_⟩
  rw [Run.bind] at q
  refine Run.mono q (fun rs s3 q => ?_) (fun _ _ z => z.pop.pop)
  intro ps H3 hl si
  refine q ((v, w) :: ps) H3 (by simp [flatP, hl]) ?_
  show SI c σ s3.l (stack (v :: w :: flatP ps) (r :: r2 :: rs) T) s3.m H3
  rw [stack_cons (by simp [hl]), stack_cons hl]
  exact si
theorem SIg.newD (s : SIg c fr ms σ l T mm H) {p : Addr} (hp : H p = none) : SI c σ l ((V.ref p, (true, D.dic [])) :: T) mm (upd H p (.dK [])) := by
  refine ⟨fr, ms, s.pushNew hp ?_⟩
  exact ⟨p, rfl, .inl ⟨[], upd_same, by simp [FRk]⟩⟩
theorem store_all {p : Addr} : ∀ {ps : List (V × V)} {ds : List D} {acc d : List (D × D)} {H : Hp} {Q : Hp → Prop}, SIg c fr ms σ l ((.ref p, (true, .dic acc)) :: T) mm H → FRs c fr (mu ms) H ds (flatP ps) → mkDic acc ds = some d → acc.length + ps.length ≤ 30 →
    (∀ H', SIg c fr ms σ l ((.ref p, (true, .dic d)) :: T) mm H' → Q H') → tStore c c.K p ps H Q
  | [], ds, acc, d, H, Q, s, r, e, _, h => by
    cases ds with
    | nil => cases e; exact h H s
    | cons x ds => simp [FRs, flatP] at r
  | (y, w) :: ps, ds, acc, d, H, Q, s, r, e, hz, h => by
    cases ds with
    | nil => simp [FRs, flatP] at r
    | cons k ds =>
      cases ds with
      | nil => simp [FRs, flatP] at r
      | cons v ds =>
        simp only [FRs, flatP] at r
        obtain ⟨y', vs, e1, rk, w', vs', e2, rv, r⟩ := r
        cases e1
        cases e2
        unfold mkDic at e
        have hf : fits acc k = true := by
          by_cases hf : fits acc k = true
          · exact hf
          · rw [if_neg hf] at e; cases e
        rw [if_pos hf] at e
        have fre := s.free_own (a := p) (by simp only [ownT, own1]; simp)
        refine put_dic (rv := (false, .non)) (d' := .dic (put acc k v)) (s.temps _ List.mem_cons_self) rk rv ?_ (fun ho => fre.still) fun ho o => ?_
        · show (if fits acc k = true ∧ acc.length < sizeMax then some (((false, .non) : RV), D.dic (put acc k v)) else none) = _
          rw [if_pos ⟨hf, by simp at hz; unfold sizeMax; omega⟩]
        · have st : Still c fr H (upd H p ho) := fre.still
          refine store_all (s.tempWrite rfl rfl o) (FRs.still st (fun _ f => f) _ r) e ?_ h
          have := put_len1 acc k v
          simp at hz
          omega
theorem x_dict (sm : Same' c X) (hu : X.A.units + 60 < cLine) {keys : List (Option Expr)} {values : List Expr} {pos : Pos} {trs : List (TE × TE)} {B : M (List RV)} (hp : PPs X pos keys values trs) (hB : PT' c W trs B) (hk : keys.all (·.isSome) = true) (hl : keys.length = values.length) (h0 : values ≠ []) (hn : values.length ≤ 15)
    (hlen : ∀ s K X', Run B s K X' → Run B s (fun rs s' => rs.length = 2 * values.length ∧ K rs s') X') :
    PE X (.Dict keys values pos) (tM c W b false (do
      let vs ← B
      M.of ((mkDic [] (vs.map (·.2))).map fun d => (true, .dic d)))) := by
  refine PEimp (pe_dict sm hu hp hk hl h0 hn) ?_
  rintro σ H Q ⟨l, T, m, s, h⟩ p np
  obtain ⟨fr, ms, sg⟩ := s
  refine hB σ _ _ ⟨l, _, m, sg.newD np, ?_⟩
  rw [Run.bind] at h
  refine Run.mono (hlen _ _ _ h) (fun rs s1 h => ?_) (fun _ _ z => z.pop)
  obtain ⟨hrs, h⟩ := h
  intro ps H1 hps si
  rw [Run.of] at h
  obtain ⟨r, e, h⟩ := h
  obtain ⟨d, e', er⟩ := some_map e
  subst er
  obtain ⟨fr, ms, sg⟩ := si
  obtain ⟨fr', _, s2, r2⟩ := sg.freezeAll hps
  rw [sm.K]
  refine store_all s2 r2 e' ?_ fun H' s3 => h _ _ (.of ⟨fr', ms, s3⟩) (fun z => nomatch z)
  have : (flatP ps).length = 2 * ps.length := by
    clear hps r2 s2 sg
    induction ps with
    | nil => rfl
    | cons x ps ih => obtain ⟨a, b⟩ := x; simp [flatP, ih]; omega
  simp; omega
theorem x_dict0 {pos : Pos} : PE X (.Dict [] [] pos) (tM c W b k (do
      let vs ← (M.ret [] : M (List RV))
      M.of ((mkDic [] (vs.map (·.2))).map fun d => (true, .dic d)))) := by
  refine PEimp pe_dnewK ?_
  rintro σ H Q ⟨l, T, m, s, h⟩ p np
  obtain ⟨fr, ms, sg⟩ := s
  exact h _ _ (.of (sg.newD np)) fun _ => Ext.new np
end
end G

set_option linter.all false
set_option maxRecDepth 100000
set_option maxHeartbeats 1000000
namespace G
open PySem PySem.Spec PyProof.Rows L2
section
variable {c : Nm} {fr fr' : Addr → Prop} {m : List Addr} {H H' : Hp} {ms : Ms} {σ σ' : L2.St} {l : List (Option RV)} {T U : List (V × RV)} {mm : Mem} {W : WX} {X : Cx} {k : Bool} {wr : List Nat}
theorem par_sw {x y : Str} {px py pt pt2 : Pos} {a b : Expr} {kt k2 : Nat} {env : Env} (hk : env.scope.kind = .function) (hx : env.scope.names.lookup x = some .local) (hy : env.scope.names.lookup y = some .local) (hl : (py.line == px.line) = true) (hxy : (x == y) = false)
    (ha : star a = false) (hb : star b = false) (hf : ([a, b].all (foldedForSure 8)) = false) (hc : ([a, b].all (constantsAlone 8)) = false) :
    swappedStores [.Tuple [.Name x px, .Name y py] kt pt] (.Tuple [a, b] k2 pt2) env = pure (some [x, y]) := by
  have hb' : (env.blockKind != .function) = false := by unfold Env.blockKind; rw [hk]; rfl
  have kx : (env.kindOf x == some .local) = true := by
    show (env.scope.names.lookup x == some .local) = true
    rw [hx]; rfl
  have ky : (env.kindOf y == some .local) = true := by
    show (env.scope.names.lookup y == some .local) = true
    rw [hy]; rfl
  have ned : ([x, y].eraseDups.length) = 2 := by
    have : (y == x) = false := by
      cases h : y == x with
      | false => rfl
      | true => rw [eq_of_beq h] at hxy; simp at hxy
    simp [List.eraseDups_cons, this]
  unfold swappedStores
  simp only [hb', hf, hc, kx, ky, Expr.pos, List.filterMap_cons, List.filterMap_nil, List.head?_cons, Option.map_some, Option.getD_some, hl, beq_self_eq_true, Bool.and_self, Bool.true_and, if_true, ned, List.length_cons, List.length_nil, List.any_cons, List.any_nil, Bool.or_false]
  have sa : ∀ v p, a ≠ .Starred v p := fun v p e => by subst e; cases ha
  have sb : ∀ v p, b ≠ .Starred v p := fun v p e => by subst e; cases hb
  rw [if_neg (by decide)]
  split
  · cases ha
  · split
    · rename_i h
      cases h
    · rfl
theorem s_par2 {i j : Nat} {x y : Str} {a b : Expr} {px py pt pos : Pos} {kt k2 pt2} {B : M (List RV)} (hc : X.calm = true) (hN : X.N.Nodup) (hi : X.N[i]? = some x) (hj : X.N[j]? = some y) (hij : i ≠ j)
    (hx : X.env.scope.names.lookup x = some .local) (hy : X.env.scope.names.lookup y = some .local) (ha : PA X [a, b] (tMs c W k B))
    (hw : swappedStores [.Tuple [.Name x px, .Name y py] kt pt] (.Tuple [a, b] k2 pt2) X.env = pure (some [x, y])) (hiw : i ∈ wr) (hjw : j ∈ wr)
    (hl : ∀ s K X', Run B s K X' → Run B s (fun rs s' => rs.length = 2 ∧ K rs s') X') :
    PS X (.Assign [.Tuple [.Name x px, .Name y py] kt pt] (.Tuple [a, b] k2 pt2) pos) (tS c W wr (do
      let vs ← B
      if [i, j].length = vs.length then
        ([i, j].zip vs).foldlM (fun _ p => setS p.1 p.2) ()
        M.ret .next
      else M.stuck)) := by
  refine PSimp (ps_par hc hN hi hj hij hx hy ha hw) ?_
  rintro D σ H ⟨l, T, m, s, h⟩
  refine ⟨l, T, m, s, ?_⟩
  rw [Run.bind] at h
  refine Run.mono (hl _ _ _ h) (fun rs s1 h => ?_) (fun _ _ z => z.exp)
  obtain ⟨hn, h⟩ := h
  intro vs H1 hvs si _
  match rs, vs, hn, hvs with
  | [r1, r2], [v, w], _, _ =>
    rw [if_pos (show [i, j].length = [r1, r2].length from rfl)] at h
    have e : (([i, j].zip [r1, r2]).foldlM (fun _ p => setS p.1 p.2) () : M Unit) = (setS i r1 >>= fun _ => setS j r2 >>= fun u => M.ret u) := rfl
    rw [e, Run.bind, Run.bind, Run.setS, Run.bind, Run.setS] at h
    refine ⟨v, w, rfl, ?_⟩
    have si2 : SI c σ s1.l ((w, r2) :: (v, r1) :: T) s1.m H1 := si
    have s3 : SI c ((σ.set j (some w)).set i (some v)) ((s1.l.set j (some r2)).set i (some r1)) T s1.m H1 := si2.set.set
    rw [List.set_comm _ _ (Ne.symm hij), List.set_comm (l := s1.l) _ _ (Ne.symm hij)] at s3
    exact h.2.2 _ _ s3 ((Kept.set hiw).trans (Kept.set hjw))
end
end G

set_option linter.all false
set_option maxRecDepth 100000
set_option maxHeartbeats 1000000
namespace G
open PySem PySem.Spec PyProof.Rows L2
section
variable {c : Nm} {fr fr' : Addr → Prop} {m : List Addr} {H H' : Hp} {ms : Ms} {σ σ' : L2.St} {l : List (Option RV)} {T U : List (V × RV)} {mm : Mem} {W : WX} {X : Cx} {k b : Bool} {wr : List Nat}
theorem par_sw3 {x y z : Str} {px py pz pt pt2 : Pos} {a b d : Expr} {kt k2 : Nat} {env : Env} (hk : env.scope.kind = .function) (hx : env.scope.names.lookup x = some .local) (hy : env.scope.names.lookup y = some .local) (hz : env.scope.names.lookup z = some .local) (hl : (py.line == px.line) = true) (hl2 : (pz.line == px.line) = true) (hxy : (x == y) = false) (hxz : (x == z) = false) (hyz : (y == z) = false)
    (ha : star a = false) (hb : star b = false) (hd : star d = false) (hf : ([a, b, d].all (foldedForSure 8)) = false) (hc : ([a, b, d].all (constantsAlone 8)) = false) :
    swappedStores [.Tuple [.Name x px, .Name y py, .Name z pz] kt pt] (.Tuple [a, b, d] k2 pt2) env = pure (some [x, y, z]) := by
  have hb' : (env.blockKind != .function) = false := by unfold Env.blockKind; rw [hk]; rfl
  have kx : (env.kindOf x == some .local) = true := by
    show (env.scope.names.lookup x == some .local) = true
    rw [hx]; rfl
  have ky : (env.kindOf y == some .local) = true := by
    show (env.scope.names.lookup y == some .local) = true
    rw [hy]; rfl
  have kz : (env.kindOf z == some .local) = true := by
    show (env.scope.names.lookup z == some .local) = true
    rw [hz]; rfl
  have flip : ∀ {u v : Str}, (u == v) = false → (v == u) = false := by
    intro u v h
    cases h' : v == u with
    | false => rfl
    | true => rw [eq_of_beq h'] at h; simp at h
  have ned : ([x, y, z].eraseDups.length) = 3 := by
    simp [List.eraseDups_cons, flip hxy, flip hxz, flip hyz]
  have sa : ∀ v p, a ≠ .Starred v p := fun v p e => by subst e; cases ha
  have sb : ∀ v p, b ≠ .Starred v p := fun v p e => by subst e; cases hb
  unfold swappedStores
  simp only [hb', hf, hc, kx, ky, kz, Expr.pos, List.filterMap_cons, List.filterMap_nil, List.head?_cons, Option.map_some, Option.getD_some, hl, hl2, beq_self_eq_true, Bool.and_self, Bool.true_and, if_true, ned, List.length_cons, List.length_nil, List.any_cons, List.any_nil, Bool.or_false]
  rw [if_neg (by decide), if_neg]
  · rfl
  · intro h
    simp only [Bool.or_eq_true] at h
    rcases h with h | h | h
    · cases a <;> first | exact nomatch h | exact nomatch ha
    · cases b <;> first | exact nomatch h | exact nomatch hb
    · revert h hd; cases d <;> simp [star]
theorem s_par3 {i j n : Nat} {x y z : Str} {e1 e2 e3 : Expr} {px py pz pt pos : Pos} {kt k2 pt2} {B : M (List RV)} (hc : X.calm = true) (hN : X.N.Nodup) (hi : X.N[i]? = some x) (hj : X.N[j]? = some y) (hn : X.N[n]? = some z) (hij : i ≠ j) (hin : i ≠ n) (hjn : j ≠ n)
    (hx : X.env.scope.names.lookup x = some .local) (hy : X.env.scope.names.lookup y = some .local) (hz : X.env.scope.names.lookup z = some .local) (ha : PA X [e1, e2, e3] (tMs c W k B))
    (hw : swappedStores [.Tuple [.Name x px, .Name y py, .Name z pz] kt pt] (.Tuple [e1, e2, e3] k2 pt2) X.env = pure (some [x, y, z])) (hiw : i ∈ wr) (hjw : j ∈ wr) (hnw : n ∈ wr)
    (hl : ∀ s K X', Run B s K X' → Run B s (fun rs s' => rs.length = 3 ∧ K rs s') X') :
    PS X (.Assign [.Tuple [.Name x px, .Name y py, .Name z pz] kt pt] (.Tuple [e1, e2, e3] k2 pt2) pos) (tS c W wr (do
      let vs ← B
      if [i, j, n].length = vs.length then
        ([i, j, n].zip vs).foldlM (fun _ p => setS p.1 p.2) ()
        M.ret .next
      else M.stuck)) := by
  refine PSimp (ps_par3 hc hN hi hj hn hij hin hjn hx hy hz ha hw) ?_
  rintro D σ H ⟨l, T, m, s, h⟩
  refine ⟨l, T, m, s, ?_⟩
  rw [Run.bind] at h
  refine Run.mono (hl _ _ _ h) (fun rs s1 h => ?_) (fun _ _ z => z.exp)
  obtain ⟨hn, h⟩ := h
  intro vs H1 hvs si _
  match rs, vs, hn, hvs with
  | [r1, r2, r3], [v, w, u], _, _ =>
    rw [if_pos (show [i, j, n].length = [r1, r2, r3].length from rfl)] at h
    have e : (([i, j, n].zip [r1, r2, r3]).foldlM (fun _ p => setS p.1 p.2) () : M Unit) = (setS i r1 >>= fun _ => setS j r2 >>= fun _ => setS n r3 >>= fun u => M.ret u) := rfl
    rw [e, Run.bind, Run.bind, Run.setS, Run.bind, Run.setS, Run.bind, Run.setS] at h
    refine ⟨v, w, u, rfl, ?_⟩
    have si2 : SI c σ s1.l ((u, r3) :: (w, r2) :: (v, r1) :: T) s1.m H1 := si
    have s3 : SI c (((σ.set n (some u)).set j (some w)).set i (some v)) (((s1.l.set n (some r3)).set j (some r2)).set i (some r1)) T s1.m H1 := si2.set.set.set
    have f1 : (((σ.set n (some u)).set j (some w)).set i (some v)) = (((σ.set i (some v)).set j (some w)).set n (some u)) := by
      rw [List.set_comm _ _ (Ne.symm hjn), List.set_comm _ _ (Ne.symm hin), List.set_comm _ _ (Ne.symm hij)]
    have f2 : (((s1.l.set n (some r3)).set j (some r2)).set i (some r1)) = (((s1.l.set i (some r1)).set j (some r2)).set n (some r3)) := by
      rw [List.set_comm _ _ (Ne.symm hjn), List.set_comm _ _ (Ne.symm hin), List.set_comm _ _ (Ne.symm hij)]
    rw [f1, f2] at s3
    exact h.2.2.2 _ _ s3 (((Kept.set hiw).trans (Kept.set hjw)).trans (Kept.set hnw))
theorem okm_count (sm : Same' c X) : OkM false c X .count "count" "list" "list.count" (rCntI X.K) where
  fact := ⟨PySem.F.plainAttrs_list, PySem.F.slot_list_count, PySem.F.type_list_count⟩
  mt := mt_lcount
  ty := fun fr ms σ l T mm H p v s rp hp => by
    cases p <;> first | cases hp | skip
    obtain ⟨a, vs, rfl, q, r⟩ := rp
    exact tyA_lst (SqL.of q)
  run := fun fr ms σ l T mm H p v qs ws rv Q s rp rq e h => by
    cases p <;> first | cases e | skip
    rename_i xs
    match qs, rq, e with
    | [.int n], rq, e =>
      obtain ⟨w, rfl, rw'⟩ := rds1 (qs := []) rq
      have e : ((asInts xs).map fun ns => (((false, D.int ((ns.count n : Nat) : Int)) : RV))) = some rv := e
      obtain ⟨ns, hns, rfl⟩ := some_map e
      obtain ⟨a, vs, rfl, q, r⟩ := rp
      have hv := FRs.intsOf hns r
      subst hv
      rw [rw'.int]
      exact ⟨a, ns, n, rfl, rfl, SqL.of q, h _ _ (s.aint _) Ext.refl⟩
theorem pt_zero {P : Prog} {Γ : Gam} : ∀ σ H (Q : List V → Hp → Prop), tMs c W true (evs P Γ []) σ H Q → Q [] H := by
  rintro σ H Q ⟨l, T, m, s, h⟩
  simp only [evs] at h
  exact h [] H rfl s fun _ => Ext.refl
theorem x_mut0 {P : Prog} {Γ : Gam} {mt : Mm} {id : String} {r : V → List V → Hp → VK → Prop} {i : Nat} {x name : Str} {p apos cpos : Pos} (ok : ChL c (fun vs d => change mt d vs) r) (hm : MtR X id r)
    (slot : Slot "list" name id) (hty : typeOf (.builtin id) = pure (.type "method_descriptor")) (hch : ∀ ds d rv d', change mt d ds = some (rv, d') → ∃ xs, d = .lst xs)
    (v : VarOk X i x) (hline : (apos.endLine == cpos.line) = true) :
    PE X (.Call (.Attribute (.Name x p) name apos) [] [] cpos) (tM c W b false (mutPl P Γ [] (fun vs d => change mt d vs) (.var i))) :=
  PEimp (pe_bm0 PySem.F.plainAttrs_list slot hty hm (pe_var v.N v.vis v.d1 v.d2) (base_ok rfl _ _) hline) fun σ H Q h => by
    obtain ⟨z, h1, h2, h3⟩ := t_mut (t := fun _ H Q => Q [] H) (B := evs P Γ []) (k2 := true) ok hch pt_zero σ H Q h
    exact ⟨z, h1, h2, h3⟩
end
end G

set_option linter.all false
set_option maxRecDepth 100000
set_option maxHeartbeats 1000000
namespace G
open PySem PySem.Spec PyProof.Rows L2
section
variable {c : Nm} {fr fr' : Addr → Prop} {m : List Addr} {H H' : Hp} {ms : Ms} {σ σ' : L2.St} {l : List (Option RV)} {T U : List (V × RV)} {mm : Mem} {W : WX} {X : Cx} {b k k1 k2 k3 : Bool}
/-! <= -/
def rLeD (K : PySem.W.Frag) : R2 := fun x y H Q => ∃ d e, Dp K H x d ∧ Dp K H y e ∧ PySem.W.alike d e = true ∧ d ≠ .none ∧ min d.depth e.depth ≤ 60 ∧ Q (.bl (!PySem.W.dataLt e d)) H
def rLeA (K : PySem.W.Frag) : R2 := fun x y H Q => (rI0 fun i j => .bl (decide (i ≤ j))) x y H Q ∨ rLeD K x y H Q
theorem op_leA (hu : X.A.units + 65 < cLine) : OpR X (compareOp .LtE) (rLeA X.K) := by
  refine OpR.or op_le (fun pins s σ H x y v u Q I rx ry h => ?_)
  obtain ⟨d, e, hd, he, al, hn, hm, q⟩ := h
  obtain ⟨as, r1⟩ := Dp.reads I d x v hd rx
  obtain ⟨bs, r2⟩ := Dp.reads I e y u he ry
  exact PySem.W.le_data r1 r2 al hn (by omega) ⟨.bl _, H, I, rfl, q⟩
theorem ok_leA : Ok2 c (cmpR (compare .le)) (rLeA c.K) := by
  intro fr ms σ l T mm H p q v w rv Q s rp rq e h
  replace e := some_map e
  obtain ⟨b, e, rfl⟩ := e
  cases p <;> cases q <;> first | cases e | skip
  · rw [rp.int, rq.int]
    exact .inl ⟨_, _, rfl, rfl, h _ _ (s.abl _) Ext.refl⟩
  · rename_i xs ys
    have e : (if (D.tup xs).dep ≤ 50 then (lessD (.tup ys) (.tup xs)).map (!·) else none) = some b := e
    by_cases hd : (D.tup xs).dep ≤ 50
    · rw [if_pos hd] at e
      obtain ⟨z, e2, rfl⟩ := some_map e
      have e2 : (if PySem.W.alike (D.tup ys).py (D.tup xs).py ∧ (D.tup ys).flat ∧ (D.tup xs).flat ∧ (D.tup ys).isNon = false then some (PySem.W.dataLt (D.tup ys).py (D.tup xs).py) else none) = some z := e2
      obtain ⟨⟨h1, h2, h3, _⟩, rfl⟩ := some_if e2
      refine .inr ⟨_, _, rp.dp h3, rq.dp h2, by rw [PySem.W.alike_comm]; exact h1, by simp [D.py], ?_, h _ _ (s.abl _) Ext.refl⟩
      rw [py_depth _ h3]
      omega
    · rw [if_neg hd] at e; cases e
/-! a < b < c -/
def chainM (o o' : Cm) (A B C : M RV) : M RV := do
  let u ← A
  let v ← B
  let r ← M.of (compare o u.2 v.2)
  if r then do
    let w ← C
    let r ← M.of (compare o' v.2 w.2)
    M.ret (false, .bl r)
  else M.ret (false, .bl false)
theorem chain_hi {o o' : Cm} {r r' : R2} {A B C : M RV} (ok : Ok2 c (cmpR (compare o)) r) (ok' : Ok2 c (cmpR (compare o')) r') : ∀ σ H Q, tM c W b false (chainM o o' A B C) σ H Q → tChain r r' (tM c W false k1 A) (tM c W false k2 B) (tM c W true k3 C) σ H Q := by
  rintro σ H Q ⟨l, T, m, s, h⟩
  unfold chainM at h
  rw [Run.bind] at h
  refine ⟨l, T, m, s, Run.mono h (fun u s1 h => ?_) (fun _ _ z => z)⟩
  intro x H1 aft _
  have si : SI c σ s1.l ((x, u) :: T) s1.m H1 := aft
  rw [Run.bind] at h
  refine ⟨s1.l, _, s1.m, si, Run.mono h (fun v s2 h => ?_) (fun e s2 z => z.pop)⟩
  intro y H2 aft2 _
  have si2 : SI c σ s2.l ((y, v) :: (x, u) :: T) s2.m H2 := aft2
  rw [Run.bind, Run.of] at h
  obtain ⟨t, e, h⟩ := h
  obtain ⟨fr, ms, s2'⟩ := si2
  refine ok fr ms σ s2.l _ s2.m H2 u.2 v.2 x y (false, .bl t) _ s2' ((s2'.temps _ (List.mem_cons_of_mem _ List.mem_cons_self)).rd) ((s2'.temps _ List.mem_cons_self).rd) (by unfold cmpR; rw [e]; rfl) ?_
  intro z H3 si3 _
  obtain ⟨rfl, si4⟩ := (Aft.of (b := false) si3).bl (t := t) rfl
  refine ⟨t, rfl, ?_⟩
  cases t with
  | false =>
    simp only [Bool.false_eq_true, if_false] at h ⊢
    exact h _ _ (Aft.atom si4.pop.pop fun _ _ => by simp only [FR]) (fun z => nomatch z)
  | true =>
    simp only [if_true] at h ⊢
    rw [Run.bind] at h
    refine ⟨s2.l, _, s2.m, si4, Run.mono h (fun w s3 h => ?_) (fun e s3 z => z.pop.pop)⟩
    intro w' H4 aft4 _
    obtain ⟨fr, ms, s4, rd⟩ := aft4.look
    rw [Run.bind, Run.of] at h
    obtain ⟨t', e', h⟩ := h
    refine ok' fr ms σ s3.l _ s3.m H4 v.2 w.2 y w' (false, .bl t') _ s4 ((s4.temps _ List.mem_cons_self).rd) rd (by unfold cmpR; rw [e']; rfl) ?_
    intro z H5 si5 _
    obtain ⟨rfl, si6⟩ := (Aft.of (b := false) si5).bl (t := t') rfl
    exact h _ _ (Aft.atom si6.pop.pop fun _ _ => by simp only [FR]) (fun z => nomatch z)
theorem x_chain {o o' : Cm} {op op' : CmpOp} {r r' : R2} {a b' d : Expr} {pos : Pos} {A B C : M RV} (ho : OpR X (compareOp op) r) (ok : Ok2 c (cmpR (compare o)) r) (ho' : OpR X (compareOp op') r') (ok' : Ok2 c (cmpR (compare o')) r')
    (ha : PE X a (tM c W false k1 A)) (hb : PE X b' (tM c W false k2 B)) (hc : PE X d (tM c W true k3 C)) (hm : lastMarks [op, op'] [b', d] = false) : PE X (.Compare a [op, op'] [b', d] pos) (tM c W b false (chainM o o' A B C)) :=
  PEimp (pe_chain ho ho' ha hb hc hm) (chain_hi ok ok')
theorem x_chainT {o o' : Cm} {op op' : CmpOp} {r r' : R2} {a b' d : Expr} {pos : Pos} {A B C : M RV} (ho : OpR X (compareOp op) r) (ok : Ok2 c (cmpR (compare o)) r) (ho' : OpR X (compareOp op') r') (ok' : Ok2 c (cmpR (compare o')) r')
    (ha : PE X a (tM c W false k1 A)) (hb : PE X b' (tM c W false k2 B)) (hc : PE X d (tM c W true k3 C)) (hm : lastMarks [op, op'] [b', d] = false) : PT X (.Compare a [op, op'] [b', d] pos) (tT c W (truthM (chainM o o' A B C))) :=
  PTimp (pt_chain ho ho' ha hb hc hm) fun σ H Q h => chain_hi (b := true) ok ok' σ H _ (tT_of (k := false) σ H Q h)
/-! a if c else b -/
theorem pt_ifExp {ce a b' : Expr} {pos : Pos} {tA ta tb : TT} (hc : PT X ce tA) (ha : PT X a ta) (hb : PT X b' tb) : PT X (.IfExp ce a b' pos) (fun σ H Q => tA σ H fun t H1 => if t = true then ta σ H1 Q else tb σ H1 Q) := by
  refine ⟨fun pins s σ H Q I h => ?_⟩
  rw [arm_isTrue_IfExp]
  refine wpAny_bind (thn (hc.run pins s σ H _ I h) fun d s1 ⟨H1, I1, q1⟩ => ?_)
  cases d with
  | true =>
    rw [if_pos rfl]
    exact ha.run pins s1 σ H1 Q I1 (by simpa using q1)
  | false =>
    rw [if_neg (by decide)]
    exact hb.run pins s1 σ H1 Q I1 (by simpa using q1)
theorem x_iteT {ce a b' : Expr} {pos : Pos} {A B C : M Bool} (hc : PT X ce (tT c W C)) (ha : PT X a (tT c W A)) (hb : PT X b' (tT c W B)) : PT X (.IfExp ce a b' pos) (tT c W (do
      let t ← C
      if t then A else B)) := by
  refine PTimp (pt_ifExp hc ha hb) ?_
  rintro σ H Q ⟨l, T, m, s, h⟩
  rw [Run.bind] at h
  refine ⟨l, T, m, s, Run.mono h (fun t s1 h => ?_) (fun _ _ z => z)⟩
  intro H1 si
  cases t with
  | true => exact ⟨s1.l, T, s1.m, si, h⟩
  | false => exact ⟨s1.l, T, s1.m, si, h⟩
end
end G

set_option linter.all false
set_option maxRecDepth 100000
set_option maxHeartbeats 1000000
namespace G
open PySem PySem.Spec PyProof.Rows L2
section
variable {c : Nm} {fr fr' : Addr → Prop} {m : List Addr} {H H' : Hp} {ms : Ms} {σ σ' : L2.St} {l : List (Option RV)} {T U : List (V × RV)} {mm : Mem} {W : WX} {X : Cx} {b k : Bool}
/-! min and max of two numbers -/
def blt2M (f : Bf) (A B : M RV) : M RV := do
  let u ← A
  let v ← B
  M.of (builtin f [u.2, v.2])
def rTwo (pick : Int → Int → Int) : List V → Hp → VK → Prop := fun xs H Q => ∃ i j, xs = [.int i, .int j] ∧ Q (.int (pick i j)) H
def TwoOk (f : Bf) (pick : Int → Int → Int) : Prop := ∀ x y rv, builtin f [x, y] = some rv → ∃ i j, x = .int i ∧ y = .int j ∧ rv = (false, .int (pick i j))
theorem min2_two : TwoOk .min2 (fun i j => if j < i then j else i) := fun x y rv h => by
  cases x <;> first | cases h | skip
  cases y <;> first | cases h | skip
  exact ⟨_, _, rfl, rfl, rfl⟩
theorem max2_two : TwoOk .max2 (fun i j => if j > i then j else i) := fun x y rv h => by
  cases x <;> first | cases h | skip
  cases y <;> first | cases h | skip
  exact ⟨_, _, rfl, rfl, rfl⟩
theorem x_blt2 {x : Str} {id : String} {p pos : Pos} {e e2 : Expr} {A B : M RV} {k1 k2 : Bool} {f : Bf} {pick : Int → Int → Int} (hc : CallR X (.builtin id) (rTwo pick)) (hf : TwoOk f pick) (hg : Gl X x) (hm : X.mg x = none) (hv : bootBuiltins x = some (.builtin id)) (hn : x ≠ "__name__") (hdb : (x == ("__debug__" : Str)) = false)
    (ha : PE X e (tM c W false k1 A)) (hb : PE X e2 (tM c W false k2 B)) (hs0 : starEach [e, e2] X.env = (false, eval e X.env) :: starEach [e2] X.env) (hs1 : starEach [e2] X.env = (false, eval e2 X.env) :: starEach [] X.env) (hpl : (backTo pos (starEach [e2] X.env)).any (·.1) = false) :
    PE X (.Call (.Name x p) [e, e2] [] pos) (tM c W b false (blt2M f A B)) := by
  refine PEimp (pe_callB hc hg hm hv (pa_cons ha (pa_cons hb pa_nil hs1) hs0) hn hdb hs0 hpl) ?_
  rintro σ H Q ⟨l, T, m, s, q⟩
  refine ⟨l, T, m, s, ?_⟩
  unfold blt2M at q
  rw [Run.bind] at q
  refine Run.mono q (fun u s1 q => ?_) (fun _ _ z => z)
  intro v H1 aft _
  refine ⟨s1.l, (v, u) :: T, s1.m, aft, ?_⟩
  rw [Run.bind] at q
  refine Run.mono q (fun u2 s2 q => ?_) (fun _ _ z => z.pop)
  intro v2 H2 aft2 _
  obtain ⟨fr, ms, s2', r2⟩ := SI.top aft2
  have r1 := (s2'.temps (v, u) (by simp)).rd
  rw [Run.of] at q
  obtain ⟨rv, er, q⟩ := q
  obtain ⟨i, j, e1, e2', rfl⟩ := hf _ _ _ er
  rw [e1] at r1
  rw [e2'] at r2
  rw [show v = .int i from r1.int, show v2 = .int j from r2.int]
  exact ⟨i, j, rfl, q _ _ (Aft.atom ⟨fr, ms, s2'.pop.pop⟩ fun _ _ => by simp only [FR]) fun z => nomatch z⟩
end
end G

set_option linter.all false
set_option maxRecDepth 100000
set_option maxHeartbeats 1000000
namespace G
open PySem PySem.Spec PyProof.Rows L2
section
variable {c : Nm} {fr fr' : Addr → Prop} {m : List Addr} {H H' : Hp} {ms : Ms} {σ σ' : L2.St} {l : List (Option RV)} {T U : List (V × RV)} {mm : Mem} {W : WX} {X : Cx} {b k : Bool}
/-! xs.index(n), xs a list of numbers -/
theorem idx_run (sm : Same' c X) {xs : List D} {n : Int} {v w : V} {rv : RV} {Q : VK} (s : SIg c fr ms σ l T mm H) (rp : RD c fr (mu ms) H (.lst xs) v) (rw' : RD c fr (mu ms) H (.int n) w)
    (e : ((asInts xs).bind fun ns => (ns.findIdx? fun a => a == n).map fun j => (((false, D.int (j : Nat)) : RV))) = some rv) (h : ∀ z H', SI c σ l ((z, rv) :: T) mm H' → Ext H H' → Q z H') : rIndex X.K v [w] H Q := by
  obtain ⟨ns, hns, e⟩ := Option.bind_eq_some_iff.mp e
  obtain ⟨j, hj, rfl⟩ := some_map e
  obtain ⟨a, vs, rfl, q, r⟩ := rp
  have hv := FRs.intsOf hns r
  subst hv
  rw [rw'.int]
  obtain ⟨h1, h2, h3⟩ := List.findIdx?_eq_some_iff_getElem.mp hj
  refine ⟨a, ns.map V.int, .int n, j, .int ns[j], rfl, rfl, SqL.of q, rfl, ?_, ?_, ?_, ?_, h _ _ (s.aint _) Ext.refl⟩
  · rw [List.all_map]; exact List.all_eq_true.mpr fun _ _ => rfl
  · rw [List.getElem?_map, List.getElem?_eq_getElem h1]; rfl
  · simpa [eqV] using h2
  · intro m z hm hz
    rw [List.getElem?_map] at hz
    have hml : m < ns.length := by omega
    rw [List.getElem?_eq_getElem hml] at hz
    cases hz
    have := h3 m hm
    simpa [eqV] using this
theorem idx_runS (sm : Same' c X) {xs : List D} {n : Str} {v w : V} {rv : RV} {Q : VK} (s : SIg c fr ms σ l T mm H) (rp : RD c fr (mu ms) H (.lst xs) v) (rw' : RD c fr (mu ms) H (.str n) w)
    (e : ((asStrs xs).bind fun ns => (ns.findIdx? fun a => a == n).map fun j => (((false, D.int (j : Nat)) : RV))) = some rv) (h : ∀ z H', SI c σ l ((z, rv) :: T) mm H' → Ext H H' → Q z H') : rIndex X.K v [w] H Q := by
  obtain ⟨ns, hns, e⟩ := Option.bind_eq_some_iff.mp e
  obtain ⟨j, hj, rfl⟩ := some_map e
  obtain ⟨a, vs, rfl, q, r⟩ := rp
  have hv := FRs.strs hns r
  subst hv
  rw [rw'.str]
  obtain ⟨h1, h2, h3⟩ := List.findIdx?_eq_some_iff_getElem.mp hj
  refine ⟨a, ns.map V.str, .str n, j, .str ns[j], rfl, rfl, SqL.of q, rfl, ?_, ?_, ?_, ?_, h _ _ (s.aint _) Ext.refl⟩
  · rw [List.all_map]; exact List.all_eq_true.mpr fun _ _ => rfl
  · rw [List.getElem?_map, List.getElem?_eq_getElem h1]; rfl
  · exact h2
  · intro m z hm hz
    rw [List.getElem?_map] at hz
    have hml : m < ns.length := by omega
    rw [List.getElem?_eq_getElem hml] at hz
    cases hz
    have := h3 m hm
    show (ns[m] == n) = false
    simpa using this
theorem okm_index (sm : Same' c X) : OkM false c X .index "index" "list" "list.index" (rIndex X.K) where
  fact := ⟨PySem.F.plainAttrs_list, PySem.F.slot_list_index, PySem.F.type_list_index⟩
  mt := mt_index
  ty := fun fr ms σ l T mm H p v s rp hp => by
    cases p <;> first | cases hp | skip
    obtain ⟨a, vs, rfl, q, r⟩ := rp
    exact tyA_lst (SqL.of q)
  run := fun fr ms σ l T mm H p v qs ws rv Q s rp rq e h => by
    cases p <;> first | cases e | skip
    rename_i xs
    match qs, rq, e with
    | [.int n], rq, e =>
      obtain ⟨w, rfl, rw'⟩ := rds1 (qs := []) rq
      exact idx_run sm s rp rw' e h
    | [.str n], rq, e =>
      obtain ⟨w, rfl, rw'⟩ := rds1 (qs := []) rq
      exact idx_runS sm s rp rw' e h
end
end G

set_option linter.all false
set_option maxRecDepth 100000
set_option maxHeartbeats 1000000
namespace G
open PySem PySem.Spec PyProof.Rows L2
section
variable {X : Cx}
/-! t.index(x), t a tuple of flat things -/
def rIndexT (K : PySem.W.Frag) : V → List V → Hp → VK → Prop := fun x xs H Q => ∃ (a : Addr) (ys : List V) (y : V) (j : Nat) (z : V), x = V.ref a ∧ xs = [y] ∧ SqT K H a ys ∧ flatV y = true ∧ ys.all flatV = true ∧ ys[j]? = some z ∧ eqV z y = true ∧
  (∀ (m : Nat) (z' : V), m < j → ys[m]? = some z' → eqV z' y = false) ∧ Q (.int (j : Nat)) H
theorem mt_tindex : MtR X "tuple.index" (rIndexT X.K) := by
  intro pins s σ H x xs v us Q I rx rxs h
  obtain ⟨a, ys, y, j, z, rfl, rfl, hs, fy, fys, hz, hzj, hno, q⟩ := h
  cases rx
  cases rxs with
  | cons ry rt =>
    rename_i uy ut
    cases rt
    obtain ⟨its, rv, pl, hlen⟩ := I.tuple hs
    obtain ⟨⟨cls, dd, data, sl⟩, ho, hc, n, hd⟩ := pl
    simp only at hc hd
    subst hc hd
    obtain ⟨u, hu, ru⟩ := rv.get hz
    obtain ⟨hjl, hje⟩ := List.getElem?_eq_some_iff.mp hu
    have hvl := rv.length
    have hj : j < its.toArray.size := by simpa using hjl
    refine call_meets PySem.F.slot_tuple_index ⟨_, ho, rfl⟩ PySem.F.entry_tuple_index (PySem.F.args_tuple_index_2 _ _)
      (TI.tuple_indexAt a its.toArray n dd sl uy (eqU y) j hj ?_ ?_) ⟨ho, fun u' hu' => mem_eqAt ry fy rv fys u' (by simpa using hu'), ?_⟩
    · have e1 : its.toArray[j] = u := by simpa using hje
      rw [e1, eqU_of ru (flat_at fys hz)]
      exact hzj
    · intro m hm hmj
      have hml : m < its.length := by simpa using hm
      have hmy : m < ys.length := by omega
      have hy' : ys[m]? = some ys[m] := List.getElem?_eq_getElem hmy
      obtain ⟨u2, hu2, ru2⟩ := rv.get hy'
      obtain ⟨_, hme⟩ := List.getElem?_eq_some_iff.mp hu2
      have e1 : its.toArray[m] = u2 := by simpa using hme
      rw [e1, eqU_of ru2 (flat_at fys hy')]
      exact hno m _ hmj hy'
    · exact ⟨.int (j : Nat), H, I.tok _, ⟨_, rfl⟩, q⟩
end
end G

set_option linter.all false
set_option maxRecDepth 100000
set_option maxHeartbeats 1000000
namespace G
open PySem PySem.Spec PyProof.Rows L2
section
variable {c : Nm} {fr fr' : Addr → Prop} {m : List Addr} {H H' : Hp} {ms : Ms} {σ σ' : L2.St} {l : List (Option RV)} {T U : List (V × RV)} {mm : Mem} {W : WX} {X : Cx} {b k : Bool}
/-! t.index(x), t a tuple of numbers, of texts -/
theorem tyA_tup {a : Addr} {vs : List V} (h : NTup X.K H a vs) : TyA X "tuple" (.ref a) H := by
  intro pins σ s v I r
  cases r
  rcases h with ⟨o, h, hd⟩ | ⟨o, its, n, hk, hc, hd, hs, hz, r⟩
  · obtain ⟨e, z, its, rv, ht⟩ := I.hok a _ h
    exact ⟨IsTup.typeIs ht, fun b q => by cases q; exact ⟨o, e, hd⟩⟩
  · have e := I.kIn a o hk
    exact ⟨⟨o, e, hc⟩, fun b q => by cases q; exact ⟨o, e, hd⟩⟩
theorem idx_runT {α : Type} [BEq α] {g : α → V} (gf : ∀ x, flatV (g x) = true) (ge : ∀ x y, eqV (g x) (g y) = (x == y)) (sm : Same' c X) {n : α} {ns : List α} {a : Addr} {rv : RV} {Q : VK} (s : SIg c fr ms σ l T mm H) (q : NTup c.K H a (ns.map g))
    (e : ((ns.findIdx? fun a => a == n).map fun j => (((false, D.int (j : Nat)) : RV))) = some rv) (h : ∀ z H', SI c σ l ((z, rv) :: T) mm H' → Ext H H' → Q z H') : rIndexT X.K (.ref a) [g n] H Q := by
  obtain ⟨j, hj, rfl⟩ := some_map e
  obtain ⟨h1, h2, h3⟩ := List.findIdx?_eq_some_iff_getElem.mp hj
  refine ⟨a, ns.map g, g n, j, g ns[j], rfl, rfl, by rw [sm.K]; exact q.sq, gf n, ?_, ?_, ?_, ?_, h _ _ (s.aint _) Ext.refl⟩
  · rw [List.all_map]; exact List.all_eq_true.mpr fun x _ => gf x
  · rw [List.getElem?_map, List.getElem?_eq_getElem h1]; rfl
  · rw [ge]; exact h2
  · intro m z hm hz
    rw [List.getElem?_map] at hz
    have hml : m < ns.length := by omega
    rw [List.getElem?_eq_getElem hml] at hz
    cases hz
    rw [ge]
    have := h3 m hm
    simpa using this
theorem okm_indexT (sm : Same' c X) : OkM false c X .indexT "index" "tuple" "tuple.index" (rIndexT X.K) where
  fact := ⟨PySem.F.plainAttrs_tuple, PySem.F.slot_tuple_index, PySem.F.type_tuple_index⟩
  mt := mt_tindex
  ty := fun fr ms σ l T mm H p v s rp hp => by
    cases p <;> first | cases hp | skip
    obtain ⟨a, vs, rfl, q, r⟩ := rp.tupN
    rw [← sm.K] at q
    exact tyA_tup q
  run := fun fr ms σ l T mm H p v qs ws rv Q s rp rq e h => by
    cases p <;> first | cases e | skip
    rename_i xs
    obtain ⟨a, vs, rfl, q, r⟩ := rp.tupN
    match qs, rq, e with
    | [.int n], rq, e =>
      obtain ⟨w, rfl, rw'⟩ := rds1 (qs := []) rq
      have e : ((asInts xs).bind fun ns => (ns.findIdx? fun a => a == n).map fun j => (((false, D.int (j : Nat)) : RV))) = some rv := e
      obtain ⟨ns, hns, e⟩ := Option.bind_eq_some_iff.mp e
      have hv := FRs.intsOf hns r
      subst hv
      rw [rw'.int]
      exact idx_runT (g := V.int) (fun _ => rfl) (fun _ _ => rfl) sm s q e h
    | [.str n], rq, e =>
      obtain ⟨w, rfl, rw'⟩ := rds1 (qs := []) rq
      have e : ((asStrs xs).bind fun ns => (ns.findIdx? fun a => a == n).map fun j => (((false, D.int (j : Nat)) : RV))) = some rv := e
      obtain ⟨ns, hns, e⟩ := Option.bind_eq_some_iff.mp e
      have hv := FRs.strs hns r
      subst hv
      rw [rw'.str]
      exact idx_runT (g := V.str) (fun _ => rfl) (fun _ _ => rfl) sm s q e h
end
end G

set_option linter.all false
set_option maxRecDepth 100000
set_option maxHeartbeats 1000000
namespace G
open PySem PySem.Spec PyProof.Rows L2
section
variable {c : Nm} {fr fr' : Addr → Prop} {m : List Addr} {H H' : Hp} {ms : Ms} {σ σ' : L2.St} {l : List (Option RV)} {T U : List (V × RV)} {mm : Mem} {W : WX} {X : Cx} {b k : Bool}
/-! dict(x): of a tuple, a list of pairs, of a dict; the keys numbers, texts -/
def rDictA (K : PySem.W.Frag) : List V → Hp → VK → Prop := fun xs H Q => ∃ a, xs = [.ref a] ∧
  ((∃ ps kvs, (NTup K H a (ps.map V.ref) ∨ SqL K H a (ps.map V.ref)) ∧ Paired (fun p kv => SqT K H p [kV kv.1, kv.2]) ps kvs ∧ ∀ p, H p = none → Q (.ref p) (upd H p (.dK (mergeK [] kvs)))) ∨
    ∃ kvs : List (Key × V), Rd H a (.dK kvs) ∧ ∀ p, H p = none → Q (.ref p) (upd H p (.dK kvs)))
theorem plain_seq {pins : List (Addr × Obj)} {s : Shared} {a : Addr} {vs : List V} (I : L2.Inv X pins σ H s) (h : NTup X.K H a vs) : ∃ its : List Value, Vals vs its ∧ PlainSeq "tuple" s.heap a its.toArray ∧ vs.length ≤ sizeLine := by
  rcases h with ⟨o, h, hd⟩ | ⟨o, its, n, hk, hc, hd, hs, hz, r⟩
  · obtain ⟨e, z, its, rv, ⟨o', e', hc, n, hdat⟩⟩ := I.hok a _ h
    rw [e] at e'
    cases e'
    exact ⟨its, rv, ⟨o, n, e, hc, hd, hdat⟩, z⟩
  · refine ⟨its.toList, r, ⟨o, n, I.kIn a o hk, hc, hd, by simpa using hs⟩, ?_⟩
    have e := r.length
    simp only [Array.length_toList] at e
    omega
theorem cr_dictA (hcalm : X.calm = true) : CallR X (.type "dict") (rDictA X.K) := by
  intro pins s σ H xs us Q I r q
  obtain ⟨a, rfl, q⟩ := q
  rcases q with ⟨ps, kvs, hq, hp, q⟩ | ⟨kvs, hq, q⟩
  · rcases hq with hq | hq
    · obtain ⟨u, rfl, rx⟩ := vals1 r
      cases rx
      obtain ⟨its, rv, pl, hz⟩ := plain_seq I hq
      have ei := refs_at rv
      subst ei
      rw [List.length_map] at hz
      obtain ⟨prs, rel, hl, hpr⟩ := pairs_of I hp
      have hch : ∀ j : Nat, ∃ u : Value, ∀ q' : Key × Value, prs[j]? = some q' → ∃ b : Addr, ps[j]? = some b ∧ IsTup s.heap b #[u, q'.2] ∧ keyIs q'.1 u = true := fun j => by
        cases hj : prs[j]? with
        | none => exact ⟨.none, fun _ e => nomatch e⟩
        | some q' =>
          obtain ⟨b, u, e1, e2, e3⟩ := hpr j q' hj
          exact ⟨u, fun q2 e => by cases e; exact ⟨b, e1, e2, e3⟩⟩
      let Uf : Nat → Value := fun j => Classical.choose (hch j)
      have hU : ∀ (j : Nat) (q' : Key × Value), prs[j]? = some q' → ∃ b : Addr, ps[j]? = some b ∧ IsTup s.heap b #[Uf j, q'.2] ∧ keyIs q'.1 (Uf j) = true := fun j => Classical.choose_spec (hch j)
      let pv : List (Value × Value) := (List.range prs.length).map fun j => (Uf j, ((prs[j]?).map (·.2)).getD .none)
      have hpv : ∀ j x y, pv[j]? = some (x, y) → ∃ q', prs[j]? = some q' ∧ x = Uf j ∧ y = q'.2 := fun j x y e => by
        have hj : j < prs.length := by
          have := (List.getElem?_eq_some_iff.mp e).1
          simpa [pv] using this
        have e1 : pv[j]? = some (Uf j, ((prs[j]?).map (·.2)).getD .none) := by
          show ((List.range prs.length).map _)[j]? = _
          rw [List.getElem?_map, List.getElem?_range hj]
          rfl
        rw [e1, List.getElem?_eq_getElem hj] at e
        cases e
        exact ⟨prs[j], List.getElem?_eq_getElem hj, rfl, rfl⟩
      have hlen : pv.length = prs.length := by simp [pv]
      refine PySem.call_dict_pairs (knd := mixKind X.prog X.w) (kvs := prs) (PySem.PairArg.tuple a (ps.map Value.ref).toArray (fun j => ps.getD j 0) pv) (I.ok.hd hcalm) ⟨pl, ?_, ?_⟩ ⟨hlen.symm, ?_⟩ (by rw [hlen, hl]; exact hz) fun h' tk hd' k => ?_
      · simp [hlen, hl]
      · intro j x y e
        obtain ⟨q', e1, rfl, rfl⟩ := hpv j x y e
        obtain ⟨b, e2, e3, e4⟩ := hU j q' e1
        refine ⟨?_, .inl ?_⟩
        · simp [List.getD_eq_getElem?_getD, e2]
        · have eT : ps.getD j 0 = b := by rw [List.getD_eq_getElem?_getD, e2]; rfl
          show s.heap.IsTuple (ps.getD j 0) _
          rw [eT]
          exact e3
      · intro i key v e
        obtain ⟨q', e1, rfl, rfl⟩ := hpv i key v e
        obtain ⟨b, e2, e3, e4⟩ := hU i q' e1
        exact ⟨q'.1, e1, e4⟩
      · have hm : (s.heap.objs.size == sysModules) = false := beq_eq_false_iff_ne.mpr (Nat.ne_of_gt I.big)
        have hlen2 : (mergeK [] kvs).length ≤ sizeLine := by
          refine Nat.le_trans (length_mergeK kvs []) ?_
          rw [List.length_nil, Nat.zero_add, rel.length, hl]
          exact hz
        exact ⟨.ref s.heap.objs.size, upd H s.heap.objs.size (.dK (mergeK [] kvs)), I.laid (t' := tk) (fun b o e => k b o (by simp) e) (Nat.le_refl _) (show ObjOk X.prog X.w _ _ _ (.dK (mergeK [] kvs)) from ⟨hlen2, hm, merged [] prs, KV.merge rel .nil, hd'⟩), rfl, q _ (I.hok.fresh (Nat.le_refl _))⟩
    · exact call_dictP hcalm pins s σ H [.ref a] us Q I r ⟨a, ps, kvs, rfl, hq, hp, q⟩
  · obtain ⟨u, rfl, rx⟩ := vals1 r
    cases rx
    exact d_copyOf I hq fun p s' hp J => ⟨.ref p, _, J, rfl, q p hp⟩
theorem keyOf_atom {d : D} {v : V} (h : d.atom = true) (r : FR c fr m H d v) : ∃ q, keyOf d = some q ∧ v = kV q := by
  cases d <;> first | cases h | skip
  · simp only [FR] at r
    exact ⟨_, rfl, r⟩
  · simp only [FR] at r
    exact ⟨_, rfl, r⟩
theorem pairs_frs : ∀ {xs : List D} {kvs : List (D × D)} {vs : List V}, asPairs xs = some kvs → FRs c fr m H xs vs → ∃ (ps : List Addr) (kv : List (Key × V)), vs = ps.map V.ref ∧ Paired (fun p q => SqT c.K H p [kV q.1, q.2]) ps kv ∧ FRk c fr m H kvs kv
  | [], kvs, vs, e, r => by
    cases e
    simp only [FRs] at r
    subst r
    exact ⟨[], [], rfl, .nil, by simp only [FRk]⟩
  | d :: xs, kvs, vs, e, r => by
    simp only [FRs] at r
    obtain ⟨v, vs', rfl, rd, r⟩ := r
    match d, e, rd with
    | .tup [k, y], e, rd =>
      have e : (if k.atom then (asPairs xs).map ((k, y) :: ·) else none) = some kvs := e
      obtain ⟨ha, e⟩ : k.atom = true ∧ (asPairs xs).map ((k, y) :: ·) = some kvs := by
        split at e
        · rename_i ha; exact ⟨ha, e⟩
        · cases e
      obtain ⟨kvs', e', rfl⟩ := some_map e
      obtain ⟨ps, kv, rfl, hp, hk⟩ := pairs_frs e' r
      simp only [FR, FRs] at rd
      obtain ⟨a, ws, rfl, hn, w1, ws1, rfl, r1, w2, ws2, rfl, r2, rfl⟩ := rd
      obtain ⟨q, hq, rfl⟩ := keyOf_atom ha r1
      exact ⟨a :: ps, (q, w2) :: kv, rfl, .cons hn.sq hp, by simp only [FRk]; exact ⟨q, w2, kv, rfl, hq, r2, hk⟩⟩
theorem frk_merge : ∀ {kvs acc : List (D × D)} {kv ka : List (Key × V)}, FRk c fr m H acc ka → FRk c fr m H kvs kv → FRk c fr m H (kvs.foldl (fun acc p => put acc p.1 p.2) acc) (mergeK ka kv)
  | [], acc, kv, ka, ra, r => by
    simp only [FRk] at r
    subst r
    exact ra
  | (k, d) :: kvs, acc, kv, ka, ra, r => by
    simp only [FRk] at r
    obtain ⟨q, v, ks', rfl, hq, rd, r⟩ := r
    have := frk_merge (ra.put hq rd) r
    exact this
theorem SIg.newDK (s : SIg c fr ms σ l T mm H) {kvs : List (D × D)} {ks : List (Key × V)} (h : FRk c fr (mu ms) H kvs ks) {p : Addr} (hp : H p = none) : SI c σ l ((V.ref p, (true, D.dic kvs)) :: T) mm (upd H p (.dK ks)) := by
  refine ⟨fr, ms, s.pushNew hp ?_⟩
  exact ⟨p, rfl, .inl ⟨ks, upd_same, FRk.still (s.free_new hp).still (fun _ f => f) _ h⟩⟩
theorem frk_of_atoms {kvs : List (D × D)} {xs : XsT} (h : kvs.all (fun p => p.1.atom) = true) (r : FRe c fr m H kvs xs) (hn : kvs ≠ []) : False := by
  cases kvs with
  | nil => exact hn rfl
  | cons p kvs =>
    obtain ⟨k, d⟩ := p
    simp only [FRe] at r
    obtain ⟨b, v, u, xs', e, hk, rk, _⟩ := r
    simp only [List.all_cons, Bool.and_eq_true] at h
    obtain ⟨q, _, e⟩ := keyOf_atom h.1 rk
    cases q <;> cases e
theorem ok_dict : OkB c (fun p => builtin .dict [p]) (rDictA c.K) := by
  intro fr ms σ l T mm H p v rv Q s rp e h
  cases p with
  | tup xs =>
    have e : ((asPairs xs).map fun kvs => (((true, D.dic (kvs.foldl (fun acc p => put acc p.1 p.2) [])) : RV))) = some rv := e
    obtain ⟨kvs, e', rfl⟩ := some_map e
    obtain ⟨a, vs, rfl, q, r⟩ := rp.tupN
    obtain ⟨ps, kv, rfl, hp, hk⟩ := pairs_frs e' r
    exact ⟨a, rfl, .inl ⟨ps, kv, .inl q, hp, fun p hp => h _ _ (s.newDK (frk_merge (by simp [FRk]) hk) hp) (Ext.new hp)⟩⟩
  | lst xs =>
    have e : ((asPairs xs).map fun kvs => (((true, D.dic (kvs.foldl (fun acc p => put acc p.1 p.2) [])) : RV))) = some rv := e
    obtain ⟨kvs, e', rfl⟩ := some_map e
    obtain ⟨a, vs, rfl, q, r⟩ := rp.lst
    obtain ⟨ps, kv, rfl, hp, hk⟩ := pairs_frs e' r
    exact ⟨a, rfl, .inl ⟨ps, kv, .inr (SqL.of q), hp, fun p hp => h _ _ (s.newDK (frk_merge (by simp [FRk]) hk) hp) (Ext.new hp)⟩⟩
  | dic kvs =>
    have e : (if kvs.all (fun p => p.1.atom) then some (((true, D.dic kvs) : RV)) else none) = some rv := e
    obtain ⟨ha, rfl⟩ := some_if e
    obtain ⟨a, rfl, q⟩ := rp
    rcases q with ⟨ks, q, r⟩ | ⟨xs, _, h1, _, _, r⟩
    · exact ⟨a, rfl, .inr ⟨ks, q, fun p hp => h _ _ (s.newDK r hp) (Ext.new hp)⟩⟩
    · exact (frk_of_atoms ha r h1.1).elim
  | _ => cases e
end
end G

set_option linter.all false
set_option maxRecDepth 100000
set_option maxHeartbeats 1000000
namespace G
open PySem PySem.Spec PyProof.Rows L2
section
variable {c : Nm} {fr fr' : Addr → Prop} {m : List Addr} {H H' : Hp} {ms : Ms} {σ σ' : L2.St} {l : List (Option RV)} {T U : List (V × RV)} {mm : Mem} {W : WX} {X : Cx} {b k : Bool}
/-! s.split(sep), s.startswith(t) -/
theorem FRs.ofStrs2 : ∀ {ys : List Str}, FRs c fr m H (ys.map D.str) (ys.map V.str)
  | [] => by simp only [List.map_nil, FRs]
  | y :: ys => FRs.cons (by simp only [FR]) FRs.ofStrs2
theorem okm_split (sm : Same' c X) : OkM false c X .split "split" "str" "str.split" (fun x xs H Q => ∃ a b, x = .str a ∧ xs = [.str b] ∧ (b.length == 0) = false ∧ a.length + 2 ≤ sizeLine ∧ rNewStrs (Txt.split a b) H Q) where
  fact := ⟨PySem.F.plainAttrs_str, PySem.F.slot_str_split, PySem.F.type_str_split⟩
  mt := mt_split
  ty := fun fr ms σ l T mm H p v s rp hp => by
    cases p <;> first | cases hp | skip
    rw [rp.str]
    exact tyA_str
  run := fun fr ms σ l T mm H p v qs ws rv Q s rp rq e h => by
    cases p <;> first | cases e | skip
    rename_i t
    match qs, rq, e with
    | [.str b], rq, e =>
      obtain ⟨w, rfl, rw'⟩ := rds1 (qs := []) rq
      have e : (if b.length == 0 then none else if t.length + 2 ≤ sizeMax then some (((true, texts (Txt.split t b)) : RV)) else none) = some rv := e
      cases hb : (b.length == 0) with
      | true => rw [hb] at e; cases e
      | false =>
        rw [hb] at e
        simp only [Bool.false_eq_true, if_false] at e
        obtain ⟨hz, rfl⟩ := some_if e
        rw [rp.str, rw'.str]
        refine ⟨t, b, rfl, rfl, hb, by rw [sizeLine_eq]; exact hz, fun p hp => h _ _ ⟨fr, ms, s.pushNew hp ?_⟩ (Ext.new hp)⟩
        exact ⟨p, _, rfl, upd_same, FRs.ofStrs2⟩
theorem okm_startswith (sm : Same' c X) : OkM false c X .startswith "startswith" "str" "str.startswith" (fun x xs H Q => ∃ a b, x = .str a ∧ xs = [.str b] ∧ Q (.bl (Txt.startswith a b)) H) where
  fact := ⟨PySem.F.plainAttrs_str, PySem.F.slot_str_startswith, PySem.F.type_str_startswith⟩
  mt := mt_startswith
  ty := fun fr ms σ l T mm H p v s rp hp => by
    cases p <;> first | cases hp | skip
    rw [rp.str]
    exact tyA_str
  run := fun fr ms σ l T mm H p v qs ws rv Q s rp rq e h => by
    cases p <;> first | cases e | skip
    rename_i t
    match qs, rq, e with
    | [.str b], rq, e =>
      obtain ⟨w, rfl, rw'⟩ := rds1 (qs := []) rq
      have e : some (((false, D.bl (Txt.startswith t b)) : RV)) = some rv := e
      cases e
      rw [rp.str, rw'.str]
      exact ⟨t, b, rfl, rfl, h _ _ (s.abl _) Ext.refl⟩
end
end G

set_option linter.all false
set_option maxRecDepth 100000
set_option maxHeartbeats 1000000
namespace G
open PySem PySem.Spec PyProof.Rows L2
/-! Does a text say what our data say? -/
structure Ct where
  N : List Str
  sc : Scope
  fnx : Str → Bool
  fn : List (Nat × Str)
  cl : List Str
  gl : List (Nat × Str)
  fl : List Str
  mt : List Str
def conC : D → Const → Bool
  | .int i, .int j => decide (i = j)
  | .str s, .str t => decide (s = t)
  | .bl a, .bool b => decide (a = b)
  | .non, .none => true
  | _, _ => false
def visK : Option NameKind → Bool
  | some .local => true
  | some .cell => true
  | some .free => true
  | _ => false
def varC (ct : Ct) (i : Nat) (x : Str) : Bool := decide (ct.N[i]? = some x) && visK (ct.sc.names.lookup x) && !(x == ("__debug__" : Str)) && !(x == ("__classdict__" : Str))
def glC (ct : Ct) (x : Str) : Bool := (match ct.sc.names.lookup x with | some .globalImplicit => true | _ => false) && !(x == ("__debug__" : Str))
def opC : Op → Operator → Bool
  | .add, .Add => true
  | .sub, .Sub => true
  | .mul, .Mult => true
  | .fdiv, .FloorDiv => true
  | .mod, .Mod => true
  | .pow, .Pow => true
  | _, _ => false
def cmC : Cm → CmpOp → Bool
  | .eq, .Eq => true
  | .ne, .NotEq => true
  | .lt, .Lt => true
  | .le, .LtE => true
  | .gt, .Gt => true
  | .ge, .GtE => true
  | .is_, .Is => true
  | .isnot, .IsNot => true
  | .in_, .In => true
  | .notin, .NotIn => true
  | _, _ => false
def bltName : Bf → Str
  | .len => "len"
  | .list => "list"
  | .tuple => "tuple"
  | .sorted => "sorted"
  | .min1 => "min"
  | .max1 => "max"
  | .sum => "sum"
  | .all => "all"
  | .any => "any"
  | .abs => "abs"
  | .int => "int"
  | .str => "str"
  | .ord => "ord"
  | .dict => "dict"
  | _ => ""
def bltC : Bf → Bool
  | .len | .list | .tuple | .sorted | .min1 | .max1 | .sum | .all | .any | .abs | .int | .str | .ord | .dict => true
  | _ => false
def blt2C : Bf → Str → Bool
  | .min2, x => decide (x = "min")
  | .max2, x => decide (x = "max")
  | _, _ => false
def bltNames : List Str := ["len", "list", "tuple", "sorted", "min", "max", "sum", "all", "any", "abs", "int", "str", "ord", "range", "zip", "enumerate", "isinstance", "set", "dict", "bool"]
def tyC (t : Ty) (y : Str) : Bool := match tyStr t with
  | some n => decide (y = Str.ofString n)
  | none => false
def bm1C : Bm → Str → Bool
  | .join, mn => decide (mn = "join")
  | .get1, mn => decide (mn = "get")
  | .count, mn => decide (mn = "count")
  | .index, mn => decide (mn = "index")
  | .split, mn => decide (mn = "split")
  | .startswith, mn => decide (mn = "startswith")
  | .indexT, mn => decide (mn = "index")
  | _, _ => false
def bmC : Bm → Str → Bool
  | .get2, mn => decide (mn = "get")
  | _, _ => false
def Ct.blk (ct : Ct) (sc' : Scope) : Ct := { ct with sc := relS sc' ct.sc, fnx := fun x => sc'.names.lookup x == some .cell }
/-- a name that is stored to -/
def locC (ct : Ct) (i : Nat) (x : Str) : Bool := decide (ct.N[i]? = some x) && (match ct.sc.names.lookup x with
  | some .local => true
  | some .cell => ct.fnx x
  | _ => false)
mutual
def okTg (ct : Ct) : Tg → Expr → Bool
  | .var i, .Name x _ => locC ct i x
  | .tup ts, .Tuple es _ _ => okTgs ct ts es
  | _, _ => false
def okTgs (ct : Ct) : List Tg → List Expr → Bool
  | [], [] => true
  | t :: ts, e :: es => okTg ct t e && !star e && okTgs ct ts es
  | _, _ => false
end
def setE : Expr → Bool
  | .Set _ _ _ => true
  | _ => false
def ownOf (ct : Ct) (x : Tg) : List (Str × Nat) := x.slots.map fun i => ((ct.N[i]?).getD "", i)
mutual
def okE (ct : Ct) : E → Expr → Bool
  | .comp x it t e, .ListComp elt [⟨tg, iter, ifs, 0⟩] scope _ => okIt ct it tg iter && blkC ct.N ct.sc scope (ownOf ct x) && okTg (ct.blk scope) x tg && okIf (ct.blk scope) t ifs && okE (ct.blk scope) e elt && !setE iter
  | .con d, .Constant k _ _ => conC d k
  | .var i, .Name x _ => varC ct i x
  | .take i, .Name x _ => varC ct i x
  | .bin o a b, .BinOp e op f _ => opC o op && okE ct a e && okE ct b f
  | .neg a, .UnaryOp .USub e _ => okE ct a e
  | .not a, .UnaryOp .Not e _ => okE ct a e
  | .cmp cm a b, .Compare e [op] [f] _ => cmC cm op && okE ct a e && okE ct b f && !behindInMarks op f
  | .tup es, .Tuple xs _ _ => okEs ct es xs && decide (xs.length ≤ sizeMax)
  | .lst es, .List xs _ => okEs ct es xs && decide (xs.length ≤ sizeMax)
  | .newl es, .List xs _ => okEs ct es xs && decide (xs.length ≤ sizeMax)
  | .sub a i, .Subscript e f _ => !a.isFld && !sliceE f && okE ct a e && okE ct i f
  | .call n es, .Call (.Name x _) xs [] _ => decide (ct.fn.lookup n = some x) && glC ct x && okEs ct es xs
  | .and es, .BoolOp .And xs _ => okBs ct es xs
  | .or es, .BoolOp .Or xs _ => okBs ct es xs
  | .slice a lo hi, .Subscript e (.Slice l h none _) _ => okE ct a e && okO ct lo l && okO ct hi h
  | .mem a, e => okE ct a e && plainT e
  | .lrng a, .Call (.Name x _) [.Call (.Name y _) [e] [] _] [] _ => decide (x = "list") && decide (y = "range") && glC ct x && glC ct y && okE ct a e && !star e
  | .trng a, .Call (.Name x _) [.Call (.Name y _) [e] [] _] [] _ => decide (x = "tuple") && decide (y = "range") && glC ct x && glC ct y && okE ct a e && !star e
  | .isinst a [t], .Call (.Name x _) [e, .Name y _] [] _ => decide (x = "isinstance") && glC ct x && tyC t y && glC ct y && okE ct a e && !star e
  | .bm1 m a b, .Call (.Attribute o mn apos) [e] [] cpos => bm1C m mn && okE ct a o && okE ct b e && !star e && (apos.endLine == cpos.line) && !callNone o
  | .bm m a es, .Call (.Attribute o mn apos) xs [] cpos => bmC m mn && okE ct a o && okEs ct es xs && decide (xs.length < 30) && decide (0 < xs.length) && (apos.endLine == cpos.line) && !callNone o
  | .blt f a, .Call (.Name x _) [e] [] _ => bltC f && decide (bltName f = x) && glC ct x && okE ct a e && !star e
  | .blt2 f a b, .Call (.Name x _) [e, g] [] _ => blt2C f x && glC ct x && okE ct a e && okE ct b g && !star e && !star g
  | .dict es, .Dict ks vs _ => okDs ct es ks vs && decide (vs.length ≤ 15)
  | .chain o o' a b d, .Compare e [op, op'] [f, g] _ => cmC o op && cmC o' op' && okE ct a e && okE ct b f && okE ct d g && !behindInMarks op' g
  | .ite a b d, .IfExp e f g _ => okE ct a e && okE ct b f && okE ct d g
  | .glob g, .Name x _ => decide (ct.gl.lookup g = some x) && glC ct x
  | .pop i a, .Call (.Attribute (.Name x _) mn apos) [e] [] cpos => decide (mn = "pop") && varC ct i x && okE ct a e && !star e && (apos.endLine == cpos.line)
  | _, _ => false
def okDs (ct : Ct) : List E → List (Option Expr) → List Expr → Bool
  | [], [], [] => true
  | a :: b :: es, some k :: ks, v :: vs => okE ct a k && okE ct b v && okDs ct es ks vs
  | _, _, _ => false
def okEs (ct : Ct) : List E → List Expr → Bool
  | [], [] => true
  | a :: es, e :: xs => okE ct a e && !star e && okEs ct es xs
  | _, _ => false
def okBs (ct : Ct) : List E → List Expr → Bool
  | [a], [e] => okE ct a e
  | a :: es, e :: xs => okE ct a e && okBs ct es xs
  | _, _ => false
def okIt (ct : Ct) : It → Expr → Expr → Bool
  | .seq a, _, e => okE ct a e
  | .range1 a, _, .Call (.Name x _) [e] [] _ => decide (x = "range") && glC ct x && okE ct a e && !star e
  | .range2 a b, _, .Call (.Name x _) [e, f] [] _ => decide (x = "range") && glC ct x && okE ct a e && okE ct b f && !star e && !star f
  | .range3 a b d, _, .Call (.Name x _) [e, f, g] [] _ => decide (x = "range") && glC ct x && okE ct a e && okE ct b f && okE ct d g && !star e && !star f && !star g
  | .enum a, .Tuple _ _ _, .Call (.Name x _) [e] [] _ => decide (x = "enumerate") && glC ct x && okE ct a e && !star e
  | .zip a b, .Tuple _ _ _, .Call (.Name x _) [e, f] [] _ => decide (x = "zip") && glC ct x && okE ct a e && okE ct b f && !star e && !star f
  | _, _, _ => false
def okIf (ct : Ct) : Option E → List Expr → Bool
  | none, [] => true
  | some a, [e] => okE ct a e
  | _, _ => false
def okO (ct : Ct) : Option E → Option Expr → Bool
  | none, none => true
  | some a, some e => okE ct a e
  | _, _ => false
end
structure Good (c : Nm) (X : Cx) (W : WX) (P : Prog) (Γ : Gam) (kk : Nat) (ct : Ct) : Prop where
  sm : Same' c X
  calm : X.calm = true
  N : X.N = ct.N
  nd : ct.N.Nodup
  sc : X.env.scope = ct.sc
  fnx : ∀ x, X.fn x = ct.fnx x
  room : Room kk X.A
  tk : Takes X W
  fn : ∀ n x, ct.fn.lookup n = some x → ∃ f fd ps, X.mg x = some (.ref f) ∧ PySem.W.keepIn X.K (.ref f) = true ∧ FnOk X.prog X.w X.K X.mg X.base (L2.CX X.prog X.w) kk f fd ps (spC c (Γ.fn n)) ∧ Binds X.K fd ps []
  blt : ∀ x ∈ bltNames, X.mg x = none
  gv : ∀ g x, ct.gl.lookup g = some x → ∃ u v d, X.mg x = some u ∧ RelV v u ∧ P.gl g = some d ∧ ∀ fr mu H, FR c fr mu H d v
section
variable {c : Nm} {W : WX} {X : Cx} {b k : Bool} {P : Prog} {Γ : Gam} {kk : Nat} {ct : Ct}
theorem Good.varOk (G : Good c X W P Γ kk ct) {i : Nat} {x : Str} (h : varC ct i x = true) : VarOk X i x := by
  unfold varC at h
  simp only [Bool.and_eq_true, decide_eq_true_eq, Bool.not_eq_true'] at h
  obtain ⟨⟨⟨h1, h2⟩, h3⟩, h4⟩ := h
  refine ⟨by rw [G.N]; exact h1, ?_, h3, h4⟩
  unfold Vis
  rw [G.sc]
  unfold visK at h2
  split at h2 <;> first | exact .inl (by assumption) | exact .inr (.inl (by assumption)) | exact .inr (.inr (by assumption)) | cases h2
theorem Good.gl (G : Good c X W P Γ kk ct) {x : Str} (h : glC ct x = true) : Gl X x ∧ (x == ("__debug__" : Str)) = false := by
  unfold glC at h
  simp only [Bool.and_eq_true, Bool.not_eq_true'] at h
  obtain ⟨h1, h2⟩ := h
  refine ⟨?_, h2⟩
  show X.env.scope.names.lookup x = _
  rw [G.sc]
  split at h1 <;> first | assumption | cases h1
theorem Good.un (G : Good c X W P Γ kk ct) : X.A.units + 100 < cLine := by
  have := G.room.un
  omega
theorem okEs_star {ct : Ct} : ∀ {es : List E} {xs : List Expr}, okEs ct es xs = true → xs.all (fun e => !star e) = true ∧ xs.length = es.length
  | [], [], _ => ⟨rfl, rfl⟩
  | [], _ :: _, h => by simp [okEs] at h
  | _ :: _, [], h => by simp [okEs] at h
  | a :: es, e :: xs, h => by
    simp only [okEs, Bool.and_eq_true] at h
    obtain ⟨h1, h2⟩ := okEs_star h.2
    exact ⟨by simp only [List.all_cons, h1, h.1.2, Bool.and_self], by simp [h2]⟩
theorem opC_ok (sm : Same' c X) {o : Op} {op : Operator} (h : opC o op = true) : ∃ r, OpR X (binaryOp op) r ∧ Ok2 c (binop o) r := by
  cases o <;> cases op <;> first | cases h | skip
  · exact ⟨_, op_addAll, by rw [sm.K]; exact ok_add⟩
  · exact ⟨_, op_sub, ok_sub⟩
  · exact ⟨_, OpR.or op_mul (OpR.or op_rep op_mulS), ok_mul⟩
  · exact ⟨_, op_fdiv, ok_fdiv⟩
  · exact ⟨_, op_mod, ok_mod⟩
  · exact ⟨_, op_pow, ok_pow⟩
theorem cmC_ok (sm : Same' c X) (hu : X.A.units + 65 < cLine) {o : Cm} {op : CmpOp} (h : cmC o op = true) : ∃ r, OpR X (compareOp op) r ∧ Ok2 c (cmpR (compare o)) r := by
  cases o <;> cases op <;> first | cases h | skip
  · exact ⟨_, op_eqA (by omega), by rw [sm.K]; exact ok_eq⟩
  · exact ⟨_, op_neA (by omega), by rw [sm.K]; exact ok_ne⟩
  · exact ⟨_, op_lt, ok_lt⟩
  · exact ⟨_, op_leA hu, by rw [sm.K]; exact ok_leA⟩
  · exact ⟨_, op_gt, ok_gt⟩
  · exact ⟨_, op_ge, ok_ge⟩
  · exact ⟨_, op_isA, ok_is⟩
  · exact ⟨_, op_isNA, ok_isnot⟩
  · exact ⟨_, op_inAll sm hu, by rw [sm.K]; exact ok_in⟩
  · exact ⟨_, op_notInAll sm hu, by rw [sm.K]; exact ok_notin⟩
theorem evs_len {K : List RV → S → Prop} {XE : Exc → S → Prop} : ∀ (es : List E) (s : S), Run (evs P Γ es) s K XE → Run (evs P Γ es) s (fun rs s' => rs.length = es.length ∧ K rs s') XE
  | [], s, h => by
    unfold evs at h ⊢
    exact ⟨rfl, h⟩
  | e :: es, s, h => by
    unfold evs at h ⊢
    rw [Run.bind] at h ⊢
    refine Run.mono h (fun v s1 h => ?_) (fun _ _ z => z)
    rw [Run.bind] at h ⊢
    refine Run.mono (evs_len es s1 h) (fun vs s2 h => ?_) (fun _ _ z => z)
    exact ⟨by simp [h.1], h.2⟩
theorem blt_ok (G : Good c X W P Γ kk ct) {f : Bf} {x : Str} {e : Expr} {A : M RV} {k1 : Bool} {p pos : Pos} (hf : bltC f = true) (hx : bltName f = x) (hg : glC ct x = true) (h : PE X e (tM c W true k1 A)) (hs : star e = false) (hk : k = true → k1 = true) :
    PE X (.Call (.Name x p) [e] [] pos) (tM c W b k (blt1M (fun p => builtin f [p]) A)) := by
  obtain ⟨g1, g2⟩ := G.gl hg
  have hu := G.un
  have st := star_ok hs [] X.env
  have pl := back_any (es := [e]) (by simp [hs]) X.env pos
  have nm : x ∈ bltNames → X.mg x = none := G.blt x
  subst hx
  have sm := G.sm
  cases f <;> first | cases hf | skip
  · exact x_bltB (cr_lenA sm) (by rw [sm.K]; exact ok_len) g1 (nm (by decide)) boot_len h (by decide) g2 st pl hk
  · exact x_bltT (cr_listA sm G.calm) (by rw [sm.K]; exact ok_list) g1 (nm (by decide)) boot_list h (by decide) g2 st pl hk
  · exact x_bltT call_tupleN (by rw [sm.K]; exact ok_tuple) g1 (nm (by decide)) boot_tuple h (by decide) g2 st pl hk
  · exact x_bltB (cr_sortedA sm G.calm (by omega)) (by rw [sm.K]; exact ok_sorted) g1 (nm (by decide)) boot_sorted h (by decide) g2 st pl hk
  · exact x_bltB (cr_minA G.calm (by omega)) (by rw [sm.K]; exact ok_min1) g1 (nm (by decide)) boot_min h (by decide) g2 st pl hk
  · exact x_bltB (cr_maxA G.calm (by omega)) (by rw [sm.K]; exact ok_max1) g1 (nm (by decide)) boot_max h (by decide) g2 st pl hk
  · exact x_bltB (cr_sum G.calm) (by rw [sm.K]; exact ok_sum) g1 (nm (by decide)) boot_sum h (by decide) g2 st pl hk
  · exact x_bltB (cr_all G.calm) (by rw [sm.K]; exact ok_all) g1 (nm (by decide)) boot_all h (by decide) g2 st pl hk
  · exact x_bltB (cr_any G.calm) (by rw [sm.K]; exact ok_any) g1 (nm (by decide)) boot_any h (by decide) g2 st pl hk
  · exact x_bltB call_abs ok_abs g1 (nm (by decide)) boot_abs h (by decide) g2 st pl hk
  · exact x_bltT call_int1 ok_int g1 (nm (by decide)) boot_int h (by decide) g2 st pl hk
  · exact x_bltT call_str_int ok_str g1 (nm (by decide)) boot_str h (by decide) g2 st pl hk
  · exact x_bltB call_ord ok_ord g1 (nm (by decide)) boot_ord h (by decide) g2 st pl hk
  · exact x_bltT (cr_dictA G.calm) (by rw [sm.K]; exact ok_dict) g1 (nm (by decide)) PyProof.Rows.boot_dict h (by decide) g2 st pl hk
theorem bm1C_ok (sm : Same' c X) (hu : X.A.units + 100 < cLine) {bm : Bm} {mn : Str} (h : bm1C bm mn = true) : ∃ Ty id r, OkM false c X bm mn Ty id r := by
  cases bm <;> first | cases h | skip
  all_goals (obtain rfl := of_decide_eq_true h)
  · exact ⟨_, _, _, okm_join sm⟩
  · exact ⟨_, _, _, okm_split sm⟩
  · exact ⟨_, _, _, okm_startswith sm⟩
  · exact ⟨_, _, _, okm_index sm⟩
  · exact ⟨_, _, _, okm_indexT sm⟩
  · exact ⟨_, _, _, okm_count sm⟩
  · exact ⟨_, _, _, okm_get1 sm (by omega)⟩
theorem bmC_ok (sm : Same' c X) (hu : X.A.units + 100 < cLine) {bm : Bm} {mn : Str} (h : bmC bm mn = true) : ∃ Ty id r, OkM true c X bm mn Ty id r := by
  cases bm <;> first | cases h | skip
  all_goals (obtain rfl := of_decide_eq_true h)
  exact ⟨_, _, _, okm_get2 sm (by omega)⟩
theorem tyC_ok {t : Ty} {y : Str} (h : tyC t y = true) : ∃ n, tyStr t = some n ∧ bootBuiltins y = some (.type n) ∧ y ≠ "__name__" ∧ y ∈ bltNames ∧ (y == ("__debug__" : Str)) = false := by
  unfold tyC at h
  cases t <;> first | cases h | skip
  all_goals (obtain rfl := of_decide_eq_true h)
  all_goals exact ⟨_, rfl, by decide +kernel, by decide, by decide, by decide⟩
theorem Good.blk (G : Good c X W P Γ kk ct) (sc' : Scope) (s : Shared) (H : Hp) (C : Addr) (cl : List (Str × Addr)) (fp : List Addr) : Good c (X.blk s H sc' (compEnvC sc' cl C X.env) fp) W0 P Γ kk (ct.blk sc') where
  sm := ⟨G.sm.prog, G.sm.w, G.sm.K⟩
  calm := G.calm
  N := G.N
  nd := G.nd
  sc := by
    show relS sc' X.env.scope = relS sc' ct.sc
    rw [G.sc]
  fnx := fun x => rfl
  room := G.room
  tk := fun u s' ⟨a, B, sI, pins, σ, H, cls, d, e, I, nb, up, sky, na, os, ag, w⟩ => w.elim
  fn := G.fn
  blt := G.blt
  gv := G.gv
end
end G

set_option linter.all false
set_option maxRecDepth 100000
set_option maxHeartbeats 1000000
namespace G
open PySem PySem.Spec PyProof.Rows L2
section
variable {c : Nm} {W : WX} {X : Cx} {b k : Bool} {P : Prog} {Γ : Gam} {kk : Nat} {ct : Ct}
theorem Good.loc (G : Good c X W P Γ kk ct) {i : Nat} {x : Str} (h : locC ct i x = true) : X.N[i]? = some x ∧ L2.Loc X.env.scope x ∧ (X.fn x = true ∨ X.env.scope.names.lookup x = some .local) := by
  unfold locC at h
  simp only [Bool.and_eq_true, decide_eq_true_eq] at h
  obtain ⟨h1, h2⟩ := h
  refine ⟨by rw [G.N]; exact h1, ?_⟩
  unfold L2.Loc
  rw [G.sc, G.fnx]
  split at h2
  · rename_i e; exact ⟨.inl e, .inr e⟩
  · rename_i e; exact ⟨.inr e, .inl h2⟩
  · cases h2
theorem okTgs_star {ct : Ct} : ∀ {es : List Tg} {xs : List Expr}, okTgs ct es xs = true → xs.all (fun e => !star e) = true ∧ xs.length = es.length
  | [], [], _ => ⟨rfl, rfl⟩
  | [], _ :: _, h => by simp [okTgs] at h
  | _ :: _, [], h => by simp [okTgs] at h
  | a :: es, e :: xs, h => by
    simp only [okTgs, Bool.and_eq_true] at h
    obtain ⟨h1, h2⟩ := okTgs_star h.2
    exact ⟨by simp only [List.all_cons, h1, h.1.2, Bool.and_self], by simp [h2]⟩
mutual
theorem tgStore_calm {K : Unit → S → Prop} {XE XE' : Exc → S → Prop} : ∀ (x : Tg) (d : D) (s : S), Run (tgStore x d) s K XE → Run (tgStore x d) s K XE'
  | .var i, d, s, h => by
    unfold tgStore at h ⊢
    rw [Run.setS] at h ⊢
    exact h
  | .tup ts, d, s, h => by
    unfold tgStore at h ⊢
    cases d with
    | tup ds => exact tgStoreL_calm ts ds s h
    | _ => exact h.elim
theorem tgStoreL_calm {K : Unit → S → Prop} {XE XE' : Exc → S → Prop} : ∀ (x : List Tg) (d : List D) (s : S), Run (tgStoreL x d) s K XE → Run (tgStoreL x d) s K XE'
  | [], [], s, h => by
    unfold tgStoreL at h ⊢
    exact h
  | [], _ :: _, s, h => by unfold tgStoreL at h; exact h.elim
  | _ :: _, [], s, h => by unfold tgStoreL at h; exact h.elim
  | t :: ts, d :: ds, s, h => by
    unfold tgStoreL at h ⊢
    rw [Run.bind] at h ⊢
    exact Run.mono (tgStore_calm (XE' := XE') t d s h) (fun u s1 q => tgStoreL_calm ts ds s1 q) (fun _ _ z => z)
end
theorem tgStoreL_of : ∀ (ts : List Tg) (ds : List D) {s : S} {K : Unit → S → Prop} {XE : Exc → S → Prop}, Run (tgStoreL ts ds) s K XE → ds.length = ts.length
  | [], [], _, _, _, _ => rfl
  | [], _ :: _, _, _, _, h => by unfold tgStoreL at h; exact h.elim
  | _ :: _, [], _, _, _, h => by unfold tgStoreL at h; exact h.elim
  | t :: ts, d :: ds, s, K, XE, h => by
    unfold tgStoreL at h
    rw [Run.bind] at h
    have h := tgStore_calm (XE' := fun _ _ => False) t d s h
    have : ∃ s', Run (tgStoreL ts ds) s' K XE := by
      unfold Run at h
      split at h
      · exact ⟨_, h⟩
      · exact h.elim
      · exact h.elim
    obtain ⟨s', q⟩ := this
    simp [tgStoreL_of ts ds q]
mutual
theorem okTg_pg : ∀ (t : Tg) (e : Expr) {wr : List Nat}, Good c X W P Γ kk ct → okTg ct t e = true → (∀ i ∈ t.slots, i ∈ wr) → PG X e (tG c W wr fun r => tgStore t r.2)
  | .var i, e, wr, G, h, hw => by
    cases e <;> first | cases h | skip
    obtain ⟨h1, h2, h3⟩ := G.loc h
    refine PGimp (g_var (c := c) (W := W) (by rw [G.N]; exact G.nd) h1 h2 h3 (hw i (by simp [Tg.slots]))) ?_
    rintro v σ H K ⟨r, l, T, m, ⟨fr, ms, s⟩, q⟩
    obtain ⟨fr', _, s'⟩ := s.freeze1'
    exact ⟨(false, r.2), l, T, m, ⟨fr', ms, s'⟩, q⟩
  | .tup ts, e, wr, G, h, hw => by
    cases e <;> first | cases h | skip
    rename_i es k pos
    have h : okTgs ct ts es = true := h
    have st := okTgs_star h
    refine g_tup (B := tgStoreL ts) G.sm G.calm (okTgs_pgs ts es G h (fun i hi => hw i (by simpa [Tg.slots] using hi))) (fun _ _ => rfl) (fun ds s K X' q => by rw [st.2]; exact tgStoreL_of ts ds q) (fun r s K X' q => ?_) (each_len _ _) (each_find _ st.1)
    obtain ⟨o, d⟩ := r
    unfold tgStore at q
    cases d <;> first | exact ⟨_, rfl⟩ | exact q.elim
theorem okTgs_pgs : ∀ (ts : List Tg) (es : List Expr) {wr : List Nat}, Good c X W P Γ kk ct → okTgs ct ts es = true → (∀ i ∈ Tg.slotsL ts, i ∈ wr) → PGs X es (tGs c W wr (tgStoreL ts))
  | [], [], wr, G, h, hw => g_nil rfl fun _ _ => rfl
  | [], _ :: _, wr, G, h, hw => by simp [okTgs] at h
  | _ :: _, [], wr, G, h, hw => by simp [okTgs] at h
  | t :: ts, e :: es, wr, G, h, hw => by
    simp only [okTgs, Bool.and_eq_true, Bool.not_eq_true'] at h
    obtain ⟨⟨h1, h2⟩, h3⟩ := h
    exact g_cons (okTg_pg t e G h1 fun i hi => hw i (by simp [Tg.slotsL, hi])) (okTgs_pgs ts es G h3 fun i hi => hw i (by simp [Tg.slotsL, hi])) rfl (fun _ _ => rfl) (each_cons _ _ h2)
end
end
end G

set_option linter.all false
set_option maxRecDepth 100000
set_option maxHeartbeats 1000000
namespace G
open PySem PySem.Spec PyProof.Rows L2
theorem opd_of {c : Nm} {X : Cx} {W : WX} {P : Prog} {Γ : Gam} {kk : Nat} {ct : Ct} (G : Good c X W P Γ kk ct) {a : E} {e : Expr} (h : okE ct a e = true) (ih : PE X e (tM c W false a.calm (ev P Γ false a))) : Opd c X W P Γ e a a.calm := by
  cases hv : a.isVar with
  | false => exact .held hv ih
  | true =>
    cases a <;> first | cases hv | skip
    cases e <;> first | cases h | skip
    exact .var rfl rfl (G.varOk h)
theorem paWeak {c : Nm} {X : Cx} {W : WX} {k : Bool} {xs : List Expr} {B : M (List RV)} (h : PA X xs (tMs c W k B)) : PA X xs (tMs c W false B) :=
  PAimp h fun σ H Q ⟨l, T, m, s, q⟩ => ⟨l, T, m, s, Run.mono q (fun rs s1 q => fun vs H1 a b _ => q vs H1 a b fun z => nomatch z) (fun _ _ z => z)⟩
theorem M.bind_assoc' {α β γ : Type} (x : M α) (f : α → M β) (g : β → M γ) : (x >>= f) >>= g = x >>= fun a => f a >>= g := by
  funext s
  show M.bind (M.bind x f) g s = M.bind x (fun a => M.bind (f a) g) s
  unfold M.bind
  cases x s with
  | none => rfl
  | some r =>
    obtain ⟨r, s'⟩ := r
    cases r <;> rfl
theorem ret_bind {α β : Type} (a : α) (f : α → M β) : (M.ret a >>= f) = f a := rfl
theorem truth_not {A : M RV} : truthM (do
    let u ← A
    let t ← M.of u.2.truth
    M.ret (false, .bl (!t))) = (do
    let t ← truthM A
    M.ret (!t)) := by
  unfold truthM
  simp only [M.bind_assoc', ret_bind, D.truth]
  rfl
theorem truth_and {A B : M RV} : truthM (do
    let u ← A
    let t ← M.of u.2.truth
    if t then B else M.ret (false, .bl false)) = (do
    let t ← truthM A
    if t then truthM B else M.ret false) := by
  unfold truthM
  simp only [M.bind_assoc']
  congr 1
  funext u
  congr 1
  funext t
  cases t <;> rfl
theorem truth_or {A B : M RV} : truthM (do
    let u ← A
    let t ← M.of u.2.truth
    if t then M.ret (false, .bl true) else B) = (do
    let t ← truthM A
    if t then M.ret true else truthM B) := by
  unfold truthM
  simp only [M.bind_assoc']
  congr 1
  funext u
  congr 1
  funext t
  cases t <;> rfl
/-- forms that are not checked yet -/
def noE : E → Bool
  | .sset _ | .tset _ | .lset _ | .fld _ _ | .make _ _ | .meth _ _ _ | .key _ _ _ _ | .efld _ _ | .it _ | .rev _ => true
  | _ => false
theorem okE_no {ct : Ct} {a : E} {e : Expr} (hn : noE a = true) : ¬ okE ct a e = true := by
  intro h
  cases a <;> first | cases hn | skip
  all_goals (cases e <;> first | cases h | (simp [okE] at h))
theorem lrng_inv {ct : Ct} {x : E} {e : Expr} (h : okE ct (.lrng x) e = true) : ∃ y p z q f p' pos, e = .Call (.Name y p) [.Call (.Name z q) [f] [] p'] [] pos ∧ (decide (y = "list") && decide (z = "range") && glC ct y && glC ct z && okE ct x f && !star f) = true := by
  unfold okE at h
  split at h <;> first | cases h | skip
  all_goals first | contradiction | skip
  rename_i hx
  cases hx
  exact ⟨_, _, _, _, _, _, _, rfl, h⟩
theorem blt2_inv {ct : Ct} {f : Bf} {a b : E} {e : Expr} (h : okE ct (.blt2 f a b) e = true) : ∃ x p e1 e2 pos, e = .Call (.Name x p) [e1, e2] [] pos ∧ (blt2C f x && glC ct x && okE ct a e1 && okE ct b e2 && !star e1 && !star e2) = true := by
  unfold okE at h
  split at h <;> first | (cases h; done) | skip
  all_goals (rename_i hx; cases hx)
  exact ⟨_, _, _, _, _, rfl, h⟩
theorem trng_inv {ct : Ct} {x : E} {e : Expr} (h : okE ct (.trng x) e = true) : ∃ y p z q f p' pos, e = .Call (.Name y p) [.Call (.Name z q) [f] [] p'] [] pos ∧ (decide (y = "tuple") && decide (z = "range") && glC ct y && glC ct z && okE ct x f && !star f) = true := by
  unfold okE at h
  split at h <;> first | cases h | skip
  all_goals first | contradiction | skip
  rename_i hx
  cases hx
  exact ⟨_, _, _, _, _, _, _, rfl, h⟩
theorem isinst_inv {ct : Ct} {x : E} {ts : List Ty} {e : Expr} (h : okE ct (.isinst x ts) e = true) : ∃ t y p f z q pos, ts = [t] ∧ e = .Call (.Name y p) [f, .Name z q] [] pos ∧ (decide (y = "isinstance") && glC ct y && tyC t z && glC ct z && okE ct x f && !star f) = true := by
  unfold okE at h
  split at h <;> first | cases h | skip
  all_goals first | contradiction | skip
  rename_i hx
  cases hx
  exact ⟨_, _, _, _, _, _, _, rfl, rfl, h⟩
theorem bm1_inv {ct : Ct} {m : Bm} {x y : E} {e : Expr} (h : okE ct (.bm1 m x y) e = true) : ∃ o mn apos f cpos, e = .Call (.Attribute o mn apos) [f] [] cpos ∧ (bm1C m mn && okE ct x o && okE ct y f && !star f && (apos.endLine == cpos.line) && !callNone o) = true := by
  unfold okE at h
  split at h <;> first | cases h | skip
  all_goals first | contradiction | skip
  rename_i hx
  cases hx
  exact ⟨_, _, _, _, _, rfl, h⟩
theorem bm_inv {ct : Ct} {m : Bm} {x : E} {es : List E} {e : Expr} (h : okE ct (.bm m x es) e = true) : ∃ o mn apos xs cpos, e = .Call (.Attribute o mn apos) xs [] cpos ∧ (bmC m mn && okE ct x o && okEs ct es xs && decide (xs.length < 30) && decide (0 < xs.length) && (apos.endLine == cpos.line) && !callNone o) = true := by
  unfold okE at h
  split at h <;> first | cases h | skip
  all_goals first | contradiction | skip
  rename_i hx
  cases hx
  exact ⟨_, _, _, _, _, rfl, h⟩
theorem pop_inv {ct : Ct} {i : Nat} {x : E} {e : Expr} (h : okE ct (.pop i x) e = true) : ∃ y p mn apos f cpos, e = .Call (.Attribute (.Name y p) mn apos) [f] [] cpos ∧ (decide (mn = "pop") && varC ct i y && okE ct x f && !star f && (apos.endLine == cpos.line)) = true := by
  unfold okE at h
  split at h <;> first | cases h | skip
  all_goals first | contradiction | skip
  rename_i hx
  cases hx
  exact ⟨_, _, _, _, _, _, rfl, h⟩
theorem okE_plain {ct : Ct} {a : E} {e : Expr} (h : okE ct a e = true) (hn : (match a with | .not _ | .and _ | .or _ | .cmp _ _ _ | .chain _ _ _ _ _ | .ite _ _ _ => false | _ => true) = true) : plainT e = true := by
  cases a <;> first | cases hn | skip
  case mem a =>
    simp only [okE, Bool.and_eq_true] at h
    exact h.2
  case isinst a ts =>
    obtain ⟨_, _, _, _, _, _, _, _, rfl, _⟩ := isinst_inv h
    rfl
  case pop i a =>
    obtain ⟨_, _, _, _, _, _, rfl, _⟩ := pop_inv h
    rfl
  all_goals (cases e <;> first | rfl | cases h | skip)
  all_goals (rename_i op _ _; cases op <;> first | rfl | cases h)
theorem okDs_len {ct : Ct} : ∀ (es : List E) (keys : List (Option Expr)) (values : List Expr), okDs ct es keys values = true → keys.all (·.isSome) = true ∧ keys.length = values.length ∧ es.length = 2 * values.length
  | [], [], [], h => ⟨rfl, rfl, rfl⟩
  | a :: b :: es, some k :: ks, v :: vs, h => by
    simp only [okDs, Bool.and_eq_true] at h
    obtain ⟨h1, h2, h3⟩ := okDs_len es ks vs h.2
    exact ⟨by simpa using h1, by simp [h2], by simp [h3]; omega⟩
  | [], [], _ :: _, h => by simp [okDs] at h
  | [], _ :: _, _, h => by simp [okDs] at h
  | [_], _, _, h => by simp [okDs] at h
  | _ :: _ :: _, [], _, h => by simp [okDs] at h
  | _ :: _ :: _, none :: _, _, h => by simp [okDs] at h
  | _ :: _ :: _, some _ :: _, [], h => by simp [okDs] at h
def vvIt : It → List Nat
  | .seq (.var i) => [i]
  | _ => []
def tstM (P : Prog) (Γ : Gam) : Option E → Option (M RV)
  | none => none
  | some a => some (ev P Γ true a)
mutual
theorem okE_pe {c : Nm} {P : Prog} {Γ : Gam} {kk : Nat} : ∀ (a : E) (e : Expr) (b : Bool) {X : Cx} {W : WX} {ct : Ct}, Good c X W P Γ kk ct → okE ct a e = true → PE X e (tM c W b a.calm (ev P Γ b a))
  | .con d, e, b, X, W, ct, G, h => by
    cases e <;> first | cases h | skip
    rename_i k j pos
    cases d <;> cases k <;> first | cases h | skip
    · exact x_con_non
    · obtain rfl := of_decide_eq_true h; exact x_con_bl
    · obtain rfl := of_decide_eq_true h; exact x_con_int
    · obtain rfl := of_decide_eq_true h; exact x_con_str
  | .var i, e, b, X, W, ct, G, h => by
    cases e <;> first | cases h | skip
    have v := G.varOk h
    cases b with
    | true => exact x_var_look v.N v.vis v.d1 v.d2
    | false => exact x_var v.N v.vis v.d1 v.d2
  | .take i, e, b, X, W, ct, G, h => by
    cases e <;> first | cases h | skip
    have v := G.varOk h
    exact x_take v.N v.vis v.d1 v.d2
  | .bin o x y, e, b, X, W, ct, G, h => by
    cases e <;> first | cases h | skip
    rename_i e op f pos
    simp only [okE, Bool.and_eq_true] at h
    obtain ⟨⟨h1, h2⟩, h3⟩ := h
    obtain ⟨r, hr, ok⟩ := opC_ok G.sm h1
    exact x_bin (opd_of G h2 (okE_pe x e false G h2)) hr (fun _ _ => rfl) ok (okE_pe y f true G h3) (fun z => by simpa [E.calm] using z)
  | .neg x, e, b, X, W, ct, G, h => by
    cases e <;> first | cases h | skip
    rename_i op f pos
    cases op <;> first | cases h | skip
    exact x_neg (okE_pe x f true G h) (fun z => z)
  | .not x, e, b, X, W, ct, G, h => by
    cases e <;> first | cases h | skip
    rename_i op f pos
    cases op <;> first | cases h | skip
    exact x_notV (okE_pe x f true G h) (fun z => z)
  | .cmp o x y, e, b, X, W, ct, G, h => by
    cases e <;> first | cases h | skip
    rename_i e ops fs pos
    match ops, fs, h with
    | [op], [f], h =>
      simp only [okE, Bool.and_eq_true, Bool.not_eq_true'] at h
      obtain ⟨⟨⟨h1, h2⟩, h3⟩, h4⟩ := h
      obtain ⟨r, hr, ok⟩ := cmC_ok G.sm (by have := G.un; omega) h1
      exact x_cmp (opd_of G h2 (okE_pe x e false G h2)) hr F_cmp ok (okE_pe y f true G h3) (fun z => by simpa [E.calm] using z) h4
  | .tup es, e, b, X, W, ct, G, h => by
    cases e <;> first | cases h | skip
    simp only [okE, Bool.and_eq_true, decide_eq_true_eq] at h
    have hl := (okEs_star h.1).2
    exact x_tup (okEs_pa es _ G h.1) h.2 fun s K X' q => by rw [hl]; exact evs_len es s q
  | .lst es, e, b, X, W, ct, G, h => by
    cases e <;> first | cases h | skip
    simp only [okE, Bool.and_eq_true, decide_eq_true_eq] at h
    have hl := (okEs_star h.1).2
    exact x_lst (paWeak (okEs_pa es _ G h.1)) h.2 fun s K X' q => by rw [hl]; exact evs_len es s q
  | .newl es, e, b, X, W, ct, G, h => by
    cases e <;> first | cases h | skip
    simp only [okE, Bool.and_eq_true, decide_eq_true_eq] at h
    have hl := (okEs_star h.1).2
    exact x_newl (paWeak (okEs_pa es _ G h.1)) h.2 fun s K X' q => by rw [hl]; exact evs_len es s q
  | .sub x i, e, b, X, W, ct, G, h => by
    cases e <;> first | cases h | skip
    rename_i e f pos
    simp only [okE, Bool.and_eq_true, Bool.not_eq_true'] at h
    obtain ⟨⟨⟨h1, h2⟩, h3⟩, h4⟩ := h
    have hs := x_sub (b := b) (k := (E.sub x i).calm) (pos := pos) (opd_of G h3 (okE_pe x e false G h3)) (ix_all G.sm (by have := G.un; omega)) (F := fun p q => M.of ((subscript p q).map fun d => ((false, d) : RV))) (fun _ _ => rfl) (by rw [G.sm.K]; exact ok_ix) (okE_pe i f true G h4) (fun z => by simpa [E.calm] using z) (plainIx_ok h2)
    have e : ev P Γ b (.sub x i) = twoM P Γ x (ev P Γ true i) (fun p q => M.of ((subscript p q).map fun d => ((false, d) : RV))) := by
      show (if x.isFld = true then _ else _) = _
      rw [h1]
      rfl
    rw [e]
    exact hs
  | .call n es, e, b, X, W, ct, G, h => by
    cases e <;> first | cases h | skip
    rename_i fe xs ks pos
    cases fe <;> first | (cases ks <;> cases h) | skip
    cases ks <;> first | cases h | skip
    rename_i x p
    simp only [okE, Bool.and_eq_true, decide_eq_true_eq] at h
    obtain ⟨⟨h1, h2⟩, h3⟩ := h
    obtain ⟨g1, g2⟩ := G.gl h2
    obtain ⟨f, fd, ps, hm, hk, F, hb⟩ := G.fn n x h1
    have st := okEs_star h3
    have pa := okEs_pa es xs G h3
    match xs, es, h3, st, pa with
    | [], [], h3, st, pa => exact x_call0 F G.room g1 hm hk hb G.tk g2
    | e :: xs, a :: es, h3, st, pa =>
      have st := st.1
      simp only [List.all_cons, Bool.and_eq_true, Bool.not_eq_true'] at st
      exact x_call F G.room g1 hm hk hb G.tk pa g2 (star_ok st.1 _ _) (back_any st.2 _ _)
  | .blt f x, e, b, X, W, ct, G, h => by
    cases e <;> first | cases h | skip
    rename_i fe xs ks pos
    cases fe <;> first | cases h | skip
    rename_i nm p
    match xs, ks, h with
    | [e], [], h =>
      simp only [okE, Bool.and_eq_true, decide_eq_true_eq, Bool.not_eq_true'] at h
      obtain ⟨⟨⟨⟨h1, h2⟩, h3⟩, h4⟩, h5⟩ := h
      exact blt_ok G h1 h2 h3 (okE_pe x e true G h4) h5 (fun z => z)
  | .and es, e, b, X, W, ct, G, h => by
    cases e <;> first | cases h | skip
    rename_i op xs pos
    cases op <;> first | cases h | skip
    exact okAnd_pe es xs b pos G h
  | .or es, e, b, X, W, ct, G, h => by
    cases e <;> first | cases h | skip
    rename_i op xs pos
    cases op <;> first | cases h | skip
    exact okOr_pe es xs b pos G h
  | .slice a lo hi, e, b, X, W, ct, G, h => by
    cases e <;> first | cases h | skip
    rename_i e f pos
    cases f <;> first | cases h | skip
    rename_i l u st p2
    cases st <;> first | cases h | skip
    simp only [okE, Bool.and_eq_true] at h
    obtain ⟨⟨h1, h2⟩, h3⟩ := h
    have pl := okO_po lo l G h2
    have pu := okO_po hi u G h3
    cases hv : a.isVar with
    | false =>
      have q := x_slice_held (b := b) (pos := pos) (p2 := p2) G.sm.K hv (okE_pe a e false G h1) pl pu
      have ee : ev P Γ b (.slice a lo hi) = sliceM a (ev P Γ false a) (evO P Γ lo) (evO P Γ hi) := by
        show (do let u ← ev P Γ a.isVar a; _) = _
        rw [hv]
        rfl
      rw [ee]
      exact q
    | true =>
      cases a <;> first | cases hv | skip
      cases e <;> first | cases h1 | skip
      have v := G.varOk h1
      exact x_slice_var G.sm.K v.N v.vis v.d1 v.d2 pl pu
  | .comp x it t e, ex, b, X, W, ct, G, h => by
    cases ex <;> first | cases h | skip
    rename_i elt gs scope pos
    match gs, h with
    | [⟨tg, iter, ifs, 0⟩], h =>
      simp only [okE, Bool.and_eq_true, Bool.not_eq_true'] at h
      obtain ⟨⟨⟨⟨⟨h1, h2⟩, h3⟩, h4⟩, h5⟩, h6⟩ := h
      have ho : (ownOf ct x).map (·.2) = x.slots := by
        unfold ownOf
        rw [List.map_map]
        exact List.map_id _
      have hf : ∀ y, foldedSetIterable iter X.env y = pure y := fun y => folded_ok (by cases iter <;> first | rfl | cases h6) _ y
      have bk : BlkOk X.N X.env.scope scope (ownOf ct x) := blkOk_by (by rw [G.N, G.sc]; exact h2)
      have nd : X.N.Nodup := by rw [G.N]; exact G.nd
      have tt : ∀ s H C cl fp, PTs (X.blk s H scope (compEnvC scope cl C X.env) fp) ifs (tT c W0 (testM (tstM P Γ t))) := fun s H C cl fp => okIf_pts t ifs (G.blk scope s H C cl fp) h4
      have q := x_comp (b := b) (t := tstM P Γ t) (pos := pos) G.calm nd (okIt_pi it tg iter G h1) bk ho (fun s H C cl fp => okTg_pg x tg (G.blk scope s H C cl fp) h3 (fun i hi => hi)) tt (fun s H C cl fp => okE_pe e elt false (G.blk scope s H C cl fp) h5) hf
      have ee : ev P Γ b (.comp x it t e) = (do
          let w ← evIt P Γ it
          wipeM x.slots
          calmM (compL x (tstM P Γ t) (ev P Γ false e) w.ok w.ds [])) := by
        cases t <;> rfl
      rw [ee]
      exact q
  | .mem x, e, b, X, W, ct, G, h => by
    simp only [okE, Bool.and_eq_true] at h
    exact x_mem (okE_pe x e false G h.1)
  | .lrng x, e, b, X, W, ct, G, h => by
    obtain ⟨y, p, z, q, e, p', pos, rfl, hh⟩ := lrng_inv h
    simp only [Bool.and_eq_true, decide_eq_true_eq, Bool.not_eq_true'] at hh
    obtain ⟨⟨⟨⟨⟨h1, h2⟩, h3⟩, h4⟩, h5⟩, h6⟩ := hh
    subst h1 h2
    exact x_lrng rfl rfl G.calm (G.gl h3).1 (G.blt _ (by decide)) (G.gl h4).1 (G.blt _ (by decide)) (okE_pe x e true G h5) (star_ok h6 _ _)
  | .trng x, e, b, X, W, ct, G, h => by
    obtain ⟨y, p, z, q, e, p', pos, rfl, hh⟩ := trng_inv h
    simp only [Bool.and_eq_true, decide_eq_true_eq, Bool.not_eq_true'] at hh
    obtain ⟨⟨⟨⟨⟨h1, h2⟩, h3⟩, h4⟩, h5⟩, h6⟩ := hh
    subst h1 h2
    exact x_trng rfl rfl G.calm (G.gl h3).1 (G.blt _ (by decide)) (G.gl h4).1 (G.blt _ (by decide)) (okE_pe x e true G h5) (star_ok h6 _ _)
  | .isinst x ts, e, b, X, W, ct, G, h => by
    obtain ⟨t, y, p, e, z, q, pos, rfl, rfl, hh⟩ := isinst_inv h
    simp only [Bool.and_eq_true, decide_eq_true_eq, Bool.not_eq_true'] at hh
    obtain ⟨⟨⟨⟨⟨h1, h2⟩, h3⟩, h4⟩, h5⟩, h6⟩ := hh
    subst h1
    obtain ⟨n, q1, q2, q3, q4, q5⟩ := tyC_ok h3
    exact x_isinst q1 q2 q3 (G.gl h4).1 (G.blt _ q4) q5 G.sm (G.gl h2).1 (G.blt _ (by decide)) (by decide +kernel) (by decide) (by decide) (okE_pe x e true G h5) (star_ok h6 _ _) (back_any rfl _ _)
  | .bm1 m x y, e, b, X, W, ct, G, h => by
    obtain ⟨o, mn, apos, e, cpos, rfl, hh⟩ := bm1_inv h
    simp only [Bool.and_eq_true, Bool.not_eq_true'] at hh
    obtain ⟨⟨⟨⟨⟨h1, h2⟩, h3⟩, h4⟩, h5⟩, h6⟩ := hh
    obtain ⟨Ty, id, r, ok⟩ := bm1C_ok G.sm G.un h1
    have pa : PA X [e] (tCons (tM c W true y.calm (ev P Γ true y)) tNil) := pa_cons (okE_pe y e true G h3) pa_nil (star_ok h4 _ _)
    have st : [e].all (fun e => !star e) = true := by simp [h4]
    cases hv : x.isVar with
    | false =>
      have q := pe_ba (name := mn) (apos := apos) (cpos := cpos) (okE_pe x o false G h2) pa (base_ok h6 _ _) (few_ok st (by simp) _ _) h5 (star_ok h4 _ _) (back_any rfl _ _)
      have ee : ev P Γ b (.bm1 m x y) = (do
          let u ← ev P Γ false x
          let p0 ← seen u
          if bmTy m p0 then do
            let qs ← (do
              let v ← ev P Γ true y
              let q ← seen v
              M.ret [q] : M (List D))
            let u ← again x u
            let p ← seen u
            M.of (bmeth m p qs)
          else M.stuck) := by
        show (do let u ← ev P Γ x.isVar x; _) = _
        rw [hv]
      rw [ee]
      exact PEimp q (t_bm_held ok hv as_look)
    | true =>
      cases x <;> first | cases hv | skip
      cases o <;> first | cases h2 | skip
      have v := G.varOk h2
      exact PEimp (pe_ba (name := mn) (apos := apos) (cpos := cpos) (pe_var v.N v.vis v.d1 v.d2) pa (base_ok h6 _ _) (few_ok st (by simp) _ _) h5 (star_ok h4 _ _) (back_any rfl _ _)) (t_bm_var ok as_look)
  | .bm m x es, e, b, X, W, ct, G, h => by
    obtain ⟨o, mn, apos, xs, cpos, rfl, hh⟩ := bm_inv h
    simp only [Bool.and_eq_true, Bool.not_eq_true', decide_eq_true_eq] at hh
    obtain ⟨⟨⟨⟨⟨⟨h1, h2⟩, h3⟩, h4⟩, h7⟩, h5⟩, h6⟩ := hh
    obtain ⟨Ty, id, r, ok⟩ := bmC_ok G.sm G.un h1
    have pa := okEs_pa es xs G h3
    have st := (okEs_star h3).1
    match xs, h4, h7, pa, st with
    | e :: xs, h4, h7, pa, st =>
      have st2 := st
      simp only [List.all_cons, Bool.and_eq_true, Bool.not_eq_true'] at st2
      cases hv : x.isVar with
      | false =>
        have q := pe_ba (name := mn) (apos := apos) (cpos := cpos) (okE_pe x o false G h2) pa (base_ok h6 _ _) (few_ok st h4 _ _) h5 (star_ok st2.1 _ _) (back_any st2.2 _ _)
        have ee : ev P Γ b (.bm m x es) = (do
            let u ← ev P Γ false x
            let p0 ← seen u
            if bmTy m p0 then do
              let qs ← (do
                let vs ← evs P Γ es
                M.ret (vs.map (·.2)) : M (List D))
              let u ← again x u
              let p ← seen u
              M.of (bmeth m p qs)
            else M.stuck) := by
          show (do let u ← ev P Γ x.isVar x; _) = _
          rw [hv]
        rw [ee]
        exact PEimp q (t_bm_held ok hv as_evs)
      | true =>
        cases x <;> first | cases hv | skip
        cases o <;> first | cases h2 | skip
        have v := G.varOk h2
        exact PEimp (pe_ba (name := mn) (apos := apos) (cpos := cpos) (pe_var v.N v.vis v.d1 v.d2) pa (base_ok h6 _ _) (few_ok st h4 _ _) h5 (star_ok st2.1 _ _) (back_any st2.2 _ _)) (t_bm_var ok as_evs)
  | .sset _, e, b, X, W, ct, G, h => absurd h (okE_no rfl)
  | .tset _, e, b, X, W, ct, G, h => absurd h (okE_no rfl)
  | .lset _, e, b, X, W, ct, G, h => absurd h (okE_no rfl)
  | .glob g, e, b, X, W, ct, G, h => by
    cases e <;> first | cases h | skip
    rename_i x pos
    simp only [okE, Bool.and_eq_true, decide_eq_true_eq] at h
    obtain ⟨g1, g2⟩ := G.gl h.2
    obtain ⟨u, v, d, hm, hr, hp, hf⟩ := G.gv g x h.1
    have ee : ev P Γ b (.glob g) = M.ret (false, d) := by
      show M.of ((P.gl g).map fun d => ((false, d) : RV)) = _
      rw [hp]; rfl
    rw [ee]
    exact PEimp (pe_glob g1 hm hr g2) fun σ H Q ⟨l, T, m, s, h⟩ => h _ _ (Aft.atom s fun _ _ => hf _ _ _) fun _ => Ext.refl
  | .pop i x, e, b, X, W, ct, G, h => by
    obtain ⟨y, p, mn, apos, f, cpos, rfl, hh⟩ := pop_inv h
    simp only [Bool.and_eq_true, decide_eq_true_eq, Bool.not_eq_true'] at hh
    obtain ⟨⟨⟨⟨h1, h2⟩, h3⟩, h4⟩, h5⟩ := hh
    subst h1
    have pa : PA X [f] (tMs c W (calmL [x]) (evs P Γ [x])) := x_cons (okE_pe x f false G h3) (show PA X [] (tMs c W (calmL []) (evs P Γ [])) from x_nil) (fun z => by simpa [calmL] using z) (star_ok h4 _ _)
    have st : [f].all (fun e => !star e) = true := by simp [h4]
    have q := x_mut (W := W) (c := c) (b := b) (p := p) (P := P) (Γ := Γ) (mt := .popAt) ch_popAt mt_popAt PySem.F.slot_list_pop PySem.F.type_list_pop (fun ds d rv d' e => by
      unfold change at e
      split at e <;> first | exact ⟨_, rfl⟩ | cases e) (G.varOk h2) pa (few_ok st (by simp) _ _) h5 (star_ok h4 _ _) (back_any rfl _ _)
    exact q
  | .chain o o' x y z, e, b, X, W, ct, G, h => by
    cases e <;> first | cases h | skip
    rename_i e ops fs pos
    match ops, fs, h with
    | [op, op'], [f, g], h =>
      simp only [okE, Bool.and_eq_true, Bool.not_eq_true'] at h
      obtain ⟨⟨⟨⟨⟨h1, h2⟩, h3⟩, h4⟩, h5⟩, h6⟩ := h
      obtain ⟨r, hr, ok⟩ := cmC_ok G.sm (by have := G.un; omega) h1
      obtain ⟨r', hr', ok'⟩ := cmC_ok G.sm (by have := G.un; omega) h2
      exact x_chain hr ok hr' ok' (okE_pe x e false G h3) (okE_pe y f false G h4) (okE_pe z g true G h5) h6
  | .ite x y z, e, b, X, W, ct, G, h => by
    cases e <;> first | cases h | skip
    rename_i pos
    simp only [okE, Bool.and_eq_true] at h
    obtain ⟨⟨h1, h2⟩, h3⟩ := h
    have q := x_ite (pos := pos) (okE_pt x _ G h1) (okE_pe y _ b G h2) (okE_pe z _ b G h3)
    have ee : ev P Γ b (.ite x y z) = (do
        let t ← truthM (ev P Γ true x)
        if t then ev P Γ b y else ev P Γ b z) := by
      unfold truthM
      simp only [ev, M.bind_assoc']
    rw [ee]
    exact q
  | .dict es, e, b, X, W, ct, G, h => by
    cases e <;> first | cases h | skip
    rename_i keys values pos
    simp only [okE, Bool.and_eq_true, decide_eq_true_eq] at h
    obtain ⟨h1, h2⟩ := h
    simp only [ev]
    cases es with
    | nil =>
      cases keys <;> cases values <;> first | simp [okDs] at h1 | skip
      simp only [evs]
      exact x_dict0
    | cons a es =>
      obtain ⟨trs, hp, hB⟩ := okDs_pps (pos := pos) (a :: es) keys values G h1
      obtain ⟨hk, hl, hn⟩ := okDs_len _ _ _ h1
      refine x_dict G.sm (by have := G.un; omega) hp hB hk hl ?_ h2 (fun s K X' q => by rw [← hn]; exact evs_len _ s q)
      intro z
      subst z
      cases keys <;> cases es <;> simp [okDs] at h1
  | .fld _ _, e, b, X, W, ct, G, h => absurd h (okE_no rfl)
  | .make _ _, e, b, X, W, ct, G, h => absurd h (okE_no rfl)
  | .meth _ _ _, e, b, X, W, ct, G, h => absurd h (okE_no rfl)
  | .blt2 f x y, e, b, X, W, ct, G, h => by
    obtain ⟨z, p, e, g, pos, rfl, hh⟩ := blt2_inv h
    simp only [Bool.and_eq_true, Bool.not_eq_true'] at hh
    obtain ⟨⟨⟨⟨⟨h1, h2⟩, h3⟩, h4⟩, h5⟩, h6⟩ := hh
    obtain ⟨g1, g2⟩ := G.gl h2
    have q1 := okE_pe x e false G h3
    have q2 := okE_pe y g false G h4
    cases f <;> first | cases h1 | skip
    · obtain rfl := of_decide_eq_true h1
      exact x_blt2 (call_min2 G.calm) min2_two g1 (G.blt _ (by decide)) boot_min (by decide) g2 q1 q2 (star_ok h5 _ _) (star_ok h6 _ _) (back_any (by simp [h6]) _ _)
    · obtain rfl := of_decide_eq_true h1
      exact x_blt2 (call_max2 G.calm) max2_two g1 (G.blt _ (by decide)) boot_max (by decide) g2 q1 q2 (star_ok h5 _ _) (star_ok h6 _ _) (back_any (by simp [h6]) _ _)
  | .key _ _ _ _, e, b, X, W, ct, G, h => absurd h (okE_no rfl)
  | .efld _ _, e, b, X, W, ct, G, h => absurd h (okE_no rfl)
  | .it _, e, b, X, W, ct, G, h => absurd h (okE_no rfl)
  | .rev _, e, b, X, W, ct, G, h => absurd h (okE_no rfl)
termination_by a => (sizeOf a, 0)
theorem okAnd_pe {c : Nm} {P : Prog} {Γ : Gam} {kk : Nat} : ∀ (es : List E) (xs : List Expr) (b : Bool) (pos : Pos) {X : Cx} {W : WX} {ct : Ct}, Good c X W P Γ kk ct → okBs ct es xs = true → PE X (.BoolOp .And xs pos) (tM c W b false (evAnd P Γ es))
  | [], xs, b, pos, X, W, ct, G, h => by cases xs <;> simp [okBs] at h
  | [a], xs, b, pos, X, W, ct, G, h => by
    match xs, h with
    | [e], h => exact x_boolV (okE_pe a e true G h)
    | e :: e2 :: r, h => simp [okBs] at h
  | a :: a2 :: es, xs, b, pos, X, W, ct, G, h => by
    match xs, h with
    | [e], h => simp [okBs] at h
    | e :: e2 :: r, h =>
      simp only [okBs, Bool.and_eq_true] at h
      exact x_andV (okE_pe a e true G h.1) (okAnd_pe (a2 :: es) (e2 :: r) b pos G (by simpa only [okBs, Bool.and_eq_true] using h.2))
termination_by a => (sizeOf a, 1)
theorem okOr_pe {c : Nm} {P : Prog} {Γ : Gam} {kk : Nat} : ∀ (es : List E) (xs : List Expr) (b : Bool) (pos : Pos) {X : Cx} {W : WX} {ct : Ct}, Good c X W P Γ kk ct → okBs ct es xs = true → PE X (.BoolOp .Or xs pos) (tM c W b false (evOr P Γ es))
  | [], xs, b, pos, X, W, ct, G, h => by cases xs <;> simp [okBs] at h
  | [a], xs, b, pos, X, W, ct, G, h => by
    match xs, h with
    | [e], h => exact x_boolV (okE_pe a e true G h)
    | e :: e2 :: r, h => simp [okBs] at h
  | a :: a2 :: es, xs, b, pos, X, W, ct, G, h => by
    match xs, h with
    | [e], h => simp [okBs] at h
    | e :: e2 :: r, h =>
      simp only [okBs, Bool.and_eq_true] at h
      exact x_orV (okE_pe a e true G h.1) (okOr_pe (a2 :: es) (e2 :: r) b pos G (by simpa only [okBs, Bool.and_eq_true] using h.2))
termination_by a => (sizeOf a, 1)
theorem okO_po {c : Nm} {P : Prog} {Γ : Gam} {kk : Nat} : ∀ (o : Option E) (e : Option Expr) {X : Cx} {W : WX} {ct : Ct}, Good c X W P Γ kk ct → okO ct o e = true → PO X e (tO c W (evO P Γ o))
  | none, none, X, W, ct, G, h => x_onone
  | none, some _, X, W, ct, G, h => by simp [okO] at h
  | some _, none, X, W, ct, G, h => by simp [okO] at h
  | some a, some e, X, W, ct, G, h => x_osome (okE_pe a e true G h)
termination_by a => (sizeOf a, 1)
theorem okEs_pa {c : Nm} {P : Prog} {Γ : Gam} {kk : Nat} : ∀ (es : List E) (xs : List Expr) {X : Cx} {W : WX} {ct : Ct}, Good c X W P Γ kk ct → okEs ct es xs = true → PA X xs (tMs c W (calmL es) (evs P Γ es))
  | [], [], X, W, ct, G, h => x_nil
  | [], _ :: _, X, W, ct, G, h => by simp [okEs] at h
  | _ :: _, [], X, W, ct, G, h => by simp [okEs] at h
  | a :: es, e :: xs, X, W, ct, G, h => by
    simp only [okEs, Bool.and_eq_true, Bool.not_eq_true'] at h
    obtain ⟨⟨h1, h2⟩, h3⟩ := h
    exact x_cons (okE_pe a e false G h1) (okEs_pa es xs G h3) (fun z => by simpa [calmL] using z) (star_ok h2 _ _)
termination_by a => (sizeOf a, 1)
theorem okDs_pps {c : Nm} {P : Prog} {Γ : Gam} {kk : Nat} {pos : Pos} : ∀ (es : List E) (keys : List (Option Expr)) (values : List Expr) {X : Cx} {W : WX} {ct : Ct}, Good c X W P Γ kk ct → okDs ct es keys values = true → ∃ trs, PPs X pos keys values trs ∧ PT' c W trs (evs P Γ es)
  | [], [], [], X, W, ct, G, h => ⟨[], pps_nil, by simp only [evs]; exact pt_nil⟩
  | a :: b :: es, some k :: ks, v :: vs, X, W, ct, G, h => by
    simp only [okDs, Bool.and_eq_true] at h
    obtain ⟨⟨h1, h2⟩, h3⟩ := h
    obtain ⟨trs, hp, hB⟩ := okDs_pps es ks vs G h3
    exact ⟨_, pps_cons (okE_pe a k false G h1) (okE_pe b v false G h2) hp, by simp only [evs]; exact pt_cons hB⟩
  | [], [], _ :: _, X, W, ct, G, h => by simp [okDs] at h
  | [], _ :: _, _, X, W, ct, G, h => by simp [okDs] at h
  | [_], _, _, X, W, ct, G, h => by simp [okDs] at h
  | _ :: _ :: _, [], _, X, W, ct, G, h => by simp [okDs] at h
  | _ :: _ :: _, none :: _, _, X, W, ct, G, h => by simp [okDs] at h
  | _ :: _ :: _, some _ :: _, [], X, W, ct, G, h => by simp [okDs] at h
termination_by a => (sizeOf a, 1)
theorem okE_pt {c : Nm} {P : Prog} {Γ : Gam} {kk : Nat} : ∀ (a : E) (e : Expr) {X : Cx} {W : WX} {ct : Ct}, Good c X W P Γ kk ct → okE ct a e = true → PT X e (tT c W (truthM (ev P Γ true a)))
  | .not x, e, X, W, ct, G, h => by
    cases e <;> first | cases h | skip
    rename_i op f pos
    cases op <;> first | cases h | skip
    have q := x_notT (pos := pos) (okE_pt x f G h)
    rw [← truth_not] at q
    exact q
  | .and es, e, X, W, ct, G, h => by
    cases e <;> first | cases h | skip
    rename_i op xs pos
    cases op <;> first | cases h | skip
    exact (okAnd_pw es xs pos G h).pt
  | .or es, e, X, W, ct, G, h => by
    cases e <;> first | cases h | skip
    rename_i op xs pos
    cases op <;> first | cases h | skip
    exact (okOr_pw es xs pos G h).pt
  | .cmp o x y, e, X, W, ct, G, h => by
    cases e <;> first | cases h | skip
    rename_i e ops fs pos
    match ops, fs, h with
    | [op], [f], h =>
      simp only [okE, Bool.and_eq_true, Bool.not_eq_true'] at h
      obtain ⟨⟨⟨h1, h2⟩, h3⟩, h4⟩ := h
      obtain ⟨r, hr, ok⟩ := cmC_ok G.sm (by have := G.un; omega) h1
      exact x_cmpT (opd_of G h2 (okE_pe x e false G h2)) hr F_cmp ok (okE_pe y f true G h3) h4
  | .con d, e, X, W, ct, G, h => x_test (okE_pe _ e true G h) (isTrue_ok (okE_plain h rfl) _)
  | .glob g, e, X, W, ct, G, h => x_test (okE_pe _ e true G h) (isTrue_ok (okE_plain h rfl) _)
  | .var i, e, X, W, ct, G, h => x_test (okE_pe _ e true G h) (isTrue_ok (okE_plain h rfl) _)
  | .take i, e, X, W, ct, G, h => x_test (okE_pe _ e true G h) (isTrue_ok (okE_plain h rfl) _)
  | .call n es, e, X, W, ct, G, h => x_test (okE_pe _ e true G h) (isTrue_ok (okE_plain h rfl) _)
  | .blt f x, e, X, W, ct, G, h => x_test (okE_pe _ e true G h) (isTrue_ok (okE_plain h rfl) _)
  | .sub x i, e, X, W, ct, G, h => x_test (okE_pe _ e true G h) (isTrue_ok (okE_plain h rfl) _)
  | .bin o x y, e, X, W, ct, G, h => x_test (okE_pe _ e true G h) (isTrue_ok (okE_plain h rfl) _)
  | .neg x, e, X, W, ct, G, h => x_test (okE_pe _ e true G h) (isTrue_ok (okE_plain h rfl) _)
  | .chain o o' x y z, e, X, W, ct, G, h => by
    cases e <;> first | cases h | skip
    rename_i e ops fs pos
    match ops, fs, h with
    | [op, op'], [f, g], h =>
      simp only [okE, Bool.and_eq_true, Bool.not_eq_true'] at h
      obtain ⟨⟨⟨⟨⟨h1, h2⟩, h3⟩, h4⟩, h5⟩, h6⟩ := h
      obtain ⟨r, hr, ok⟩ := cmC_ok G.sm (by have := G.un; omega) h1
      obtain ⟨r', hr', ok'⟩ := cmC_ok G.sm (by have := G.un; omega) h2
      exact x_chainT hr ok hr' ok' (okE_pe x e false G h3) (okE_pe y f false G h4) (okE_pe z g true G h5) h6
  | .ite x y z, e, X, W, ct, G, h => by
    cases e <;> first | cases h | skip
    rename_i pos
    simp only [okE, Bool.and_eq_true] at h
    obtain ⟨⟨h1, h2⟩, h3⟩ := h
    have q := x_iteT (pos := pos) (okE_pt x _ G h1) (okE_pt y _ G h2) (okE_pt z _ G h3)
    have ee : truthM (ev P Γ true (.ite x y z)) = (do
        let t ← truthM (ev P Γ true x)
        if t then truthM (ev P Γ true y) else truthM (ev P Γ true z)) := by
      unfold truthM
      simp only [ev, M.bind_assoc']
      congr 1
      funext u
      congr 1
      funext t
      cases t <;> rfl
    rw [ee]
    exact q
  | .tup _, e, X, W, ct, G, h => x_test (okE_pe _ e true G h) (isTrue_ok (okE_plain h rfl) _)
  | .lst _, e, X, W, ct, G, h => x_test (okE_pe _ e true G h) (isTrue_ok (okE_plain h rfl) _)
  | .newl _, e, X, W, ct, G, h => x_test (okE_pe _ e true G h) (isTrue_ok (okE_plain h rfl) _)
  | .dict _, e, X, W, ct, G, h => x_test (okE_pe _ e true G h) (isTrue_ok (okE_plain h rfl) _)
  | .slice _ _ _, e, X, W, ct, G, h => x_test (okE_pe _ e true G h) (isTrue_ok (okE_plain h rfl) _)
  | .fld _ _, e, X, W, ct, G, h => x_test (okE_pe _ e true G h) (isTrue_ok (okE_plain h rfl) _)
  | .make _ _, e, X, W, ct, G, h => x_test (okE_pe _ e true G h) (isTrue_ok (okE_plain h rfl) _)
  | .meth _ _ _, e, X, W, ct, G, h => x_test (okE_pe _ e true G h) (isTrue_ok (okE_plain h rfl) _)
  | .blt2 _ _ _, e, X, W, ct, G, h => x_test (okE_pe _ e true G h) (isTrue_ok (okE_plain h rfl) _)
  | .bm _ _ _, e, X, W, ct, G, h => x_test (okE_pe _ e true G h) (isTrue_ok (okE_plain h rfl) _)
  | .bm1 _ _ _, e, X, W, ct, G, h => x_test (okE_pe _ e true G h) (isTrue_ok (okE_plain h rfl) _)
  | .comp _ _ _ _, e, X, W, ct, G, h => x_test (okE_pe _ e true G h) (isTrue_ok (okE_plain h rfl) _)
  | .isinst _ _, e, X, W, ct, G, h => x_test (okE_pe _ e true G h) (isTrue_ok (okE_plain h rfl) _)
  | .key _ _ _ _, e, X, W, ct, G, h => x_test (okE_pe _ e true G h) (isTrue_ok (okE_plain h rfl) _)
  | .efld _ _, e, X, W, ct, G, h => x_test (okE_pe _ e true G h) (isTrue_ok (okE_plain h rfl) _)
  | .it _, e, X, W, ct, G, h => x_test (okE_pe _ e true G h) (isTrue_ok (okE_plain h rfl) _)
  | .rev _, e, X, W, ct, G, h => x_test (okE_pe _ e true G h) (isTrue_ok (okE_plain h rfl) _)
  | .mem _, e, X, W, ct, G, h => x_test (okE_pe _ e true G h) (isTrue_ok (okE_plain h rfl) _)
  | .sset _, e, X, W, ct, G, h => x_test (okE_pe _ e true G h) (isTrue_ok (okE_plain h rfl) _)
  | .tset _, e, X, W, ct, G, h => x_test (okE_pe _ e true G h) (isTrue_ok (okE_plain h rfl) _)
  | .lset _, e, X, W, ct, G, h => x_test (okE_pe _ e true G h) (isTrue_ok (okE_plain h rfl) _)
  | .lrng _, e, X, W, ct, G, h => x_test (okE_pe _ e true G h) (isTrue_ok (okE_plain h rfl) _)
  | .trng _, e, X, W, ct, G, h => x_test (okE_pe _ e true G h) (isTrue_ok (okE_plain h rfl) _)
  | .pop _ _, e, X, W, ct, G, h => x_test (okE_pe _ e true G h) (isTrue_ok (okE_plain h rfl) _)
termination_by a => (sizeOf a, 1)
theorem okAnd_pw {c : Nm} {P : Prog} {Γ : Gam} {kk : Nat} : ∀ (es : List E) (xs : List Expr) (pos : Pos) {X : Cx} {W : WX} {ct : Ct}, Good c X W P Γ kk ct → okBs ct es xs = true → PW X (.BoolOp .And xs pos) (tT c W (truthM (evAnd P Γ es)))
  | [], xs, pos, X, W, ct, G, h => by cases xs <;> simp [okBs] at h
  | [a], xs, pos, X, W, ct, G, h => by
    match xs, h with
    | [e], h =>
      have q := x_and1 (pos := pos) (okE_pt a e G h)
      rw [← truth_bool] at q
      exact q
    | e :: e2 :: r, h => simp [okBs] at h
  | a :: a2 :: es, xs, pos, X, W, ct, G, h => by
    match xs, h with
    | [e], h => simp [okBs] at h
    | e :: e2 :: r, h =>
      simp only [okBs, Bool.and_eq_true] at h
      have q := x_and (pos := pos) (okE_pt a e G h.1) (okAnd_pw (a2 :: es) (e2 :: r) pos G (by simpa only [okBs, Bool.and_eq_true] using h.2))
      rw [← truth_and] at q
      exact q
termination_by a => (sizeOf a, 2)
theorem okOr_pw {c : Nm} {P : Prog} {Γ : Gam} {kk : Nat} : ∀ (es : List E) (xs : List Expr) (pos : Pos) {X : Cx} {W : WX} {ct : Ct}, Good c X W P Γ kk ct → okBs ct es xs = true → PW X (.BoolOp .Or xs pos) (tT c W (truthM (evOr P Γ es)))
  | [], xs, pos, X, W, ct, G, h => by cases xs <;> simp [okBs] at h
  | [a], xs, pos, X, W, ct, G, h => by
    match xs, h with
    | [e], h =>
      have q := x_or1 (pos := pos) (okE_pt a e G h)
      rw [← truth_bool] at q
      exact q
    | e :: e2 :: r, h => simp [okBs] at h
  | a :: a2 :: es, xs, pos, X, W, ct, G, h => by
    match xs, h with
    | [e], h => simp [okBs] at h
    | e :: e2 :: r, h =>
      simp only [okBs, Bool.and_eq_true] at h
      have q := x_or (pos := pos) (okE_pt a e G h.1) (okOr_pw (a2 :: es) (e2 :: r) pos G (by simpa only [okBs, Bool.and_eq_true] using h.2))
      rw [← truth_or] at q
      exact q
termination_by a => (sizeOf a, 2)
theorem okIf_pts {c : Nm} {P : Prog} {Γ : Gam} {kk : Nat} : ∀ (t : Option E) (xs : List Expr) {X : Cx} {W : WX} {ct : Ct}, Good c X W P Γ kk ct → okIf ct t xs = true → PTs X xs (tT c W (testM (tstM P Γ t)))
  | none, xs, X, W, ct, G, h => by
    cases xs <;> first | exact pts_none | cases h
  | some a, xs, X, W, ct, G, h => by
    match xs, h with
    | [e], h => exact pts_some (okE_pt a e G h)
termination_by a => (sizeOf a, 2)
theorem okIt_pi {c : Nm} {P : Prog} {Γ : Gam} {kk : Nat} : ∀ (it : It) (tg e : Expr) {X : Cx} {W : WX} {ct : Ct}, Good c X W P Γ kk ct → okIt ct it tg e = true → PI X tg e (tI c W (vvIt it) (evIt P Γ it))
  | .seq a, tg, e, X, W, ct, G, h => by
    have h : okE ct a e = true := h
    cases hv : a.isVar with
    | false =>
      have q := x_seq_held (tg := tg) (vv := vvIt (.seq a)) G.sm.K hv (okE_pe a e false G h)
      have ee : evIt P Γ (.seq a) = seqW a (ev P Γ false a) := by
        show (do let u ← ev P Γ a.isVar a; _) = _
        rw [hv]
        rfl
      rw [ee]
      exact q
    | true =>
      cases a <;> first | cases hv | skip
      cases e <;> first | cases h | skip
      have v := G.varOk h
      exact x_seq_var G.sm.K v.N v.vis v.d1 v.d2 (by simp [vvIt])
  | .range1 a, tg, e, X, W, ct, G, h => by
    cases e <;> first | cases h | skip
    rename_i fe xs ks pos
    cases fe <;> first | cases h | skip
    match xs, ks, h with
    | [e], [], h =>
      simp only [okIt, Bool.and_eq_true, decide_eq_true_eq, Bool.not_eq_true'] at h
      obtain ⟨⟨⟨h1, h2⟩, h3⟩, h4⟩ := h
      subst h1
      exact x_range1 (G.gl h2).1 (G.blt _ (by decide)) (okE_pe a e true G h3) (star_ok h4 _ _) (star_ok h4 _ _)
  | .range2 a b, tg, e, X, W, ct, G, h => by
    cases e <;> first | cases h | skip
    rename_i fe xs ks pos
    cases fe <;> first | cases h | skip
    match xs, ks, h with
    | [e, f], [], h =>
      simp only [okIt, Bool.and_eq_true, decide_eq_true_eq, Bool.not_eq_true'] at h
      obtain ⟨⟨⟨⟨⟨h1, h2⟩, h3⟩, h4⟩, h5⟩, h6⟩ := h
      subst h1
      exact x_range2 (G.gl h2).1 (G.blt _ (by decide)) (okE_pe a e false G h3) (okE_pe b f false G h4) (by rw [star_ok h5, star_ok h6]; rfl) (star_ok h6 _ _) (star_ok h5 _ _) (star_ok h6 _ _)
  | .enum a, tg, e, X, W, ct, G, h => by
    cases tg <;> first | cases h | skip
    cases e <;> first | cases h | skip
    rename_i fe xs ks pos
    cases fe <;> first | cases h | skip
    match xs, ks, h with
    | [e], [], h =>
      simp only [okIt, Bool.and_eq_true, decide_eq_true_eq, Bool.not_eq_true'] at h
      obtain ⟨⟨⟨h1, h2⟩, h3⟩, h4⟩ := h
      subst h1
      exact x_enum G.sm.K (G.gl h2).1 (G.blt _ (by decide)) (okE_pe a e false G h3) (star_ok h4 _ _) (star_ok h4 _ _)
  | .range3 a b d, tg, e, X, W, ct, G, h => by
    cases e <;> first | cases h | skip
    rename_i fe xs ks pos
    cases fe <;> first | cases h | skip
    match xs, ks, h with
    | [e, f, g], [], h =>
      simp only [okIt, Bool.and_eq_true, decide_eq_true_eq, Bool.not_eq_true'] at h
      obtain ⟨⟨⟨⟨⟨⟨⟨h1, h2⟩, h3⟩, h4⟩, h5⟩, h6⟩, h7⟩, h8⟩ := h
      subst h1
      exact x_range3 (G.gl h2).1 (G.blt _ (by decide)) (okE_pe a e false G h3) (okE_pe b f false G h4) (okE_pe d g false G h5) (star_ok h6 _ _) (star_ok h7 _ _) (star_ok h8 _ _) (back_any (by simp [h7, h8]) _ _)
  | .zip a b, tg, e, X, W, ct, G, h => by
    cases tg <;> first | cases h | skip
    cases e <;> first | cases h | skip
    rename_i fe xs ks pos
    cases fe <;> first | cases h | skip
    match xs, ks, h with
    | [e, f], [], h =>
      simp only [okIt, Bool.and_eq_true, decide_eq_true_eq, Bool.not_eq_true'] at h
      obtain ⟨⟨⟨⟨⟨h1, h2⟩, h3⟩, h4⟩, h5⟩, h6⟩ := h
      subst h1
      exact x_zip G.sm.K (G.gl h2).1 (G.blt _ (by decide)) (okE_pe a e false G h3) (okE_pe b f false G h4) (star_ok h5 _ _) (star_ok h6 _ _) (back_any (by simp [h6]) _ _)
  | .zip3 a b d, tg, e, X, W, ct, G, h => by cases tg <;> cases e <;> cases h
  | .enzip a b, tg, e, X, W, ct, G, h => by cases tg <;> cases e <;> cases h
termination_by a => (sizeOf a, 1)
end
end G

set_option linter.all false
set_option maxRecDepth 100000
set_option maxHeartbeats 1000000
namespace G
open PySem PySem.Spec PyProof.Rows L2
/-! statements -/
mutual
def taTg : Ta → Option Tg
  | .var i => some (.var i)
  | .tup ts => (taTgs ts).map Tg.tup
  | _ => none
def taTgs : List Ta → Option (List Tg)
  | [] => some []
  | t :: ts => match taTg t, taTgs ts with
    | some g, some gs => some (g :: gs)
    | _, _ => none
end
def wrTa : Ta → List Nat
  | .var i => [i]
  | .tup ts => match taTgs ts with
    | some gs => Tg.slotsL gs
    | none => []
  | _ => []
mutual
def wrS : Sm → List Nat
  | .asg t _ => wrTa t
  | .ite _ a b => wrSs a ++ wrSs b
  | .for_ x _ b => x.slots ++ wrSs b
  | .while_ _ b => wrSs b
  | .par ts _ => ts
  | _ => []
def wrSs : List Sm → List Nat
  | [] => []
  | s :: r => wrS s ++ wrSs r
end
def isComp : E → Bool
  | .comp _ _ _ _ => true
  | _ => false
def lcE : Expr → Option (Scope × Pos)
  | .ListComp _ _ sc pos => some (sc, pos)
  | _ => none
/-- is the assignment of a comprehension one that swaps? -/
def swC (ct : Ct) (y : Str) (py : Pos) (sc : Scope) (pos : Pos) : Bool := (match ct.sc.names.lookup y with | some .local => true | _ => false) && (py.line == pos.line) && !(sc.names.any fun (n, k) => n == y && (k == .local || k == .cell))
/-- two unlike names of the function's own, in one line -/
def parC (ct : Ct) (i j : Nat) (x y : Str) (px py : Pos) : Bool := decide (ct.N[i]? = some x) && decide (ct.N[j]? = some y) && !(decide (i = j)) && (match ct.sc.names.lookup x with | some .local => true | _ => false) && (match ct.sc.names.lookup y with | some .local => true | _ => false) && (py.line == px.line) && !(x == y)
def okTa (ct : Ct) : Ta → Expr → Bool
  | .var i, .Name x _ => locC ct i x
  | .tup ts, e => match taTgs ts with
    | some gs => okTg ct (.tup gs) e
    | none => false
  | .sub (.var i) k, .Subscript (.Name x _) ke _ => varC ct i x && okE ct k ke && !sliceE ke
  | _, _ => false
def mutC : Mm → Str → Bool
  | .append, mn => decide (mn = "append")
  | .extend, mn => decide (mn = "extend")
  | .clear, mn => decide (mn = "clear")
  | _, _ => false
def dsj (xs ys : List Nat) : Bool := xs.all fun i => !ys.contains i
mutual
def okS (ct : Ct) : Sm → Stmt → Bool
  | .asg t e, .Assign [tg] ex pos => okTa ct t tg && okE ct e ex && !star tg && (!tupE ex || !tupE tg) && (!compE ex || (isComp e && (match t, tg with | .var _, .Name _ _ => true | .sub _ _, .Subscript _ _ _ => true | _, _ => false)))
  | .par [i, j] [e1, e2], .Assign [.Tuple [.Name x px, .Name y py] _ _] (.Tuple [a, b] _ _) _ => parC ct i j x y px py && okEs ct [e1, e2] [a, b] && !([a, b].all (foldedForSure 8)) && !([a, b].all (constantsAlone 8))
  | .par [i, j, n] [e1, e2, e3], .Assign [.Tuple [.Name x px, .Name y py, .Name z pz] _ _] (.Tuple [a, b, d] _ _) _ => parC ct i j x y px py && parC ct i n x z px pz && parC ct j n y z px px && okEs ct [e1, e2, e3] [a, b, d] && !([a, b, d].all (foldedForSure 8)) && !([a, b, d].all (constantsAlone 8))
  | .mut (.var i) m es, .Expr (.Call (.Attribute (.Name x _) mn apos) xs [] cpos) _ => mutC m mn && varC ct i x && okEs ct es xs && decide (xs.length < 30) && (apos.endLine == cpos.line)
  | .ite c a b, .If ce ae be _ => okE ct c ce && okSs ct a ae && okSs ct b be
  | .for_ x it b, .For tg iter body [] _ => okTg ct x tg && okIt ct it tg iter && okSs ct b body && !setE iter && dsj (vvIt it) (x.slots ++ wrSs b)
  | .while_ c b, .While ce body [] _ => okE ct c ce && okSs ct b body
  | .ret e, .Return (some ex) _ => okE ct e ex
  | .ret0, .Return none _ => true
  | .expr e, .Expr ex _ => okE ct e ex && !compE ex
  | .pass, .Pass _ => true
  | .pass, .Expr (.Constant (.str _) _ _) _ => true
  | .brk, .Break _ => true
  | .dead, _ => true
  | _, _ => false
def okSs (ct : Ct) : List Sm → List Stmt → Bool
  | [], [] => true
  | s :: r, st :: rest => okS ct s st && okSs ct r rest
  | _, _ => false
end
section
variable {c : Nm} {fr fr' : Addr → Prop} {m : List Addr} {H H' : Hp} {ms : Ms} {σ σ' : L2.St} {l : List (Option RV)} {T U : List (V × RV)} {mm : Mem} {W : WX} {X : Cx} {b k : Bool} {wr wr' : List Nat} {P : Prog} {Γ : Gam} {kk : Nat} {ct : Ct}
theorem OutS.wider {D : Ends} {f : Fl} {s : S} (h : OutS c wr' σ T D f s) (hw : ∀ i ∈ wr, i ∈ wr') : OutS c wr σ T D f s := by
  cases f with
  | next => exact fun σ2 H2 si k2 => h σ2 H2 si (k2.mono hw)
  | brk => exact fun σ2 H2 si k2 => h σ2 H2 si (k2.mono hw)
  | ret r => exact h
theorem psWider {st : Stmt} {x : M Fl} (h : PS X st (tS c W wr x)) (hw : ∀ i ∈ wr, i ∈ wr') : PS X st (tS c W wr' x) :=
  PSimp h fun D σ H ⟨l, T, m, s, q⟩ => ⟨l, T, m, s, Run.mono q (fun f s1 z => z.wider hw) (fun e s1 z => fun cls d σ2 H' q si k2 => z cls d σ2 H' q si (k2.mono hw))⟩
mutual
theorem store_tg : ∀ {t : Ta} {g : Tg} (d : D), taTg t = some g → store P Γ t (false, d) = tgStore g d
  | .var i, g, d, h => by
    cases h
    unfold store tgStore
    rfl
  | .tup ts, g, d, h => by
    unfold taTg at h
    cases e : taTgs ts with
    | none => rw [e] at h; cases h
    | some gs =>
      rw [e] at h
      cases h
      unfold store tgStore
      cases d <;> first | rfl | skip
      exact storeL_tg _ e
  | .fld _ _, g, d, h => by cases h
  | .sub _ _, g, d, h => by cases h
theorem storeL_tg : ∀ {ts : List Ta} {gs : List Tg} (ds : List D), taTgs ts = some gs → storeL P Γ ts ds = tgStoreL gs ds
  | [], gs, ds, h => by
    cases h
    cases ds <;> (unfold storeL tgStoreL; rfl)
  | t :: ts, gs, ds, h => by
    unfold taTgs at h
    cases e1 : taTg t with
    | none => rw [e1] at h; cases h
    | some g =>
      cases e2 : taTgs ts with
      | none => rw [e1, e2] at h; cases h
      | some gs' =>
        rw [e1, e2] at h
        cases h
        cases ds with
        | nil => unfold storeL tgStoreL; rfl
        | cons d ds =>
          unfold storeL tgStoreL
          rw [store_tg d e1]
          congr 1
          funext _
          exact storeL_tg ds e2
end
structure GoodS (c : Nm) (X : Cx) (W : WX) (P : Prog) (Γ : Gam) (kk : Nat) (ct : Ct) : Prop extends Good c X W P Γ kk ct where
  kind : X.env.scope.kind = .function
  pass : PassesOwn (model X.prog X.w) X.A X.env X.xe
theorem okTa_pg {t : Ta} {e : Expr} (G : Good c X W P Γ kk ct) (h : okTa ct t e = true) (hw : ∀ i ∈ wrTa t, i ∈ wr) : PG X e (tG c W wr fun r => store P Γ t r) := by
  cases t with
  | var i =>
    cases e <;> first | cases h | skip
    obtain ⟨h1, h2, h3⟩ := G.loc h
    exact g_var (c := c) (W := W) (by rw [G.N]; exact G.nd) h1 h2 h3 (hw i (by simp [wrTa]))
  | tup ts =>
    have h : (match taTgs ts with
      | some gs => okTg ct (.tup gs) e
      | none => false) = true := by
      unfold okTa at h
      exact h
    simp only [wrTa] at hw
    cases eg : taTgs ts with
    | none => rw [eg] at h; cases h
    | some gs =>
      rw [eg] at h hw
      have q := okTg_pg (wr := wr) (.tup gs) e G h (fun i hi => hw i (by simpa [Tg.slots] using hi))
      have ee : (fun r : RV => store P Γ (.tup ts) r) = fun r => tgStore (.tup gs) r.2 := by
        funext r
        unfold store tgStore
        obtain ⟨o, d⟩ := r
        cases d <;> first | rfl | skip
        exact storeL_tg _ eg
      rw [ee]
      exact q
  | sub p ke =>
    cases p <;> first | (cases e <;> cases h) | skip
    rename_i i
    cases e <;> first | cases h | skip
    rename_i o ke' pos
    cases o <;> first | cases h | skip
    simp only [okTa, Bool.and_eq_true, Bool.not_eq_true'] at h
    obtain ⟨⟨h1, h2⟩, h3⟩ := h
    have v := G.varOk h1
    exact g_subVar G.sm (by have := G.un; omega) v.N v.vis v.d1 v.d2 (okE_pe ke ke' false G h2) (sub_ok _ h3 _ _)
  | fld _ _ => cases e <;> cases h
theorem swaps_eq {elt : Expr} {gs : List Comprehension} {scope : Scope} {pos py : Pos} {y : Str} {l : Nat} {env : Env} (hk : env.scope.kind = .function) (hs : env.scope = ct.sc) : swapsWith (.ListComp elt gs scope pos) (some (.Name y py)) l env = pure (swC ct y py scope pos) := by
  have hb : (env.blockKind == .function) = true := by unfold Env.blockKind; rw [hk]; rfl
  have ky : (env.kindOf y == some .local) = (match ct.sc.names.lookup y with | some .local => true | _ => false) := by
    show (env.scope.names.lookup y == some .local) = _
    rw [hs]
    cases ct.sc.names.lookup y with
    | none => rfl
    | some k => cases k <;> rfl
  unfold swapsWith swC
  simp only [hb, ky, Expr.pos, Bool.true_and]
theorem mutC_ok {mt : Mm} {mn : Str} (h : mutC mt mn = true) : ∃ id r, ChL c (fun vs d => change mt d vs) r ∧ MtR X id r ∧ Slot "list" mn id ∧ typeOf (.builtin id) = pure (.type "method_descriptor") ∧ ∀ ds d rv d', change mt d ds = some (rv, d') → ∃ xs, d = .lst xs := by
  cases mt <;> first | cases h | skip
  all_goals (obtain rfl := of_decide_eq_true h)
  · refine ⟨_, _, ch_append, mt_append, PySem.F.slot_list_append, PySem.F.type_list_append, fun ds d rv d' e => ?_⟩
    unfold change at e
    split at e <;> first | exact ⟨_, rfl⟩ | cases e
  · refine ⟨_, _, ch_extend, mt_extend, PySem.F.slot_list_extend, PySem.F.type_list_extend, fun ds d rv d' e => ?_⟩
    unfold change at e
    split at e <;> first | exact ⟨_, rfl⟩ | cases e
  · refine ⟨_, _, ch_clear, mt_clear, PySem.F.slot_list_clear, PySem.F.type_list_clear, fun ds d rv d' e => ?_⟩
    unfold change at e
    split at e <;> first | exact ⟨_, rfl⟩ | cases e
theorem setE_fold {iter : Expr} (h : setE iter = false) (env : Env) (y : Value) : foldedSetIterable iter env y = pure y := folded_ok (by cases iter <;> first | rfl | cases h) _ y
theorem truth_ite {A : M RV} {B C : M Fl} : (do
    let u ← A
    let t ← M.of u.2.truth
    if t then B else C) = (do
    let t ← truthM A
    if t then B else C) := by
  unfold truthM
  simp only [M.bind_assoc']
theorem mut_inv {i : Nat} {m : Mm} {es : List E} {st : Stmt} (h : okS ct (.mut (.var i) m es) st = true) : ∃ x p mn apos xs cpos pos, st = .Expr (.Call (.Attribute (.Name x p) mn apos) xs [] cpos) pos ∧ (mutC m mn && varC ct i x && okEs ct es xs && decide (xs.length < 30) && (apos.endLine == cpos.line)) = true := by
  unfold okS at h
  split at h <;> first | cases h | skip
  all_goals first | contradiction | skip
  rename_i hx
  cases hx
  exact ⟨_, _, _, _, _, _, _, rfl, h⟩
theorem par_inv {ts : List Nat} {es : List E} {st : Stmt} (h : okS ct (.par ts es) st = true) : (∃ i j e1 e2 x y px py kt pt a b k2 pt2 pos, ts = [i, j] ∧ es = [e1, e2] ∧ st = .Assign [.Tuple [.Name x px, .Name y py] kt pt] (.Tuple [a, b] k2 pt2) pos ∧ (parC ct i j x y px py && okEs ct [e1, e2] [a, b] && !([a, b].all (foldedForSure 8)) && !([a, b].all (constantsAlone 8))) = true) ∨
    ∃ i j n e1 e2 e3 x y z px py pz kt pt a b d k2 pt2 pos, ts = [i, j, n] ∧ es = [e1, e2, e3] ∧ st = .Assign [.Tuple [.Name x px, .Name y py, .Name z pz] kt pt] (.Tuple [a, b, d] k2 pt2) pos ∧ (parC ct i j x y px py && parC ct i n x z px pz && parC ct j n y z px px && okEs ct [e1, e2, e3] [a, b, d] && !([a, b, d].all (foldedForSure 8)) && !([a, b, d].all (constantsAlone 8))) = true := by
  unfold okS at h
  split at h <;> first | cases h | skip
  all_goals first | contradiction | skip
  · rename_i hx
    cases hx
    exact .inl ⟨_, _, _, _, _, _, _, _, _, _, _, _, _, _, _, rfl, rfl, rfl, h⟩
  · rename_i hx
    cases hx
    exact .inr ⟨_, _, _, _, _, _, _, _, _, _, _, _, _, _, _, _, _, _, _, _, rfl, rfl, rfl, h⟩
theorem parC_ok {i j : Nat} {x y : Str} {px py : Pos} (h : parC ct i j x y px py = true) : ct.N[i]? = some x ∧ ct.N[j]? = some y ∧ i ≠ j ∧ ct.sc.names.lookup x = some .local ∧ ct.sc.names.lookup y = some .local ∧ (py.line == px.line) = true ∧ (x == y) = false := by
  unfold parC at h
  simp only [Bool.and_eq_true, Bool.not_eq_true', decide_eq_true_eq, decide_eq_false_iff_not] at h
  obtain ⟨⟨⟨⟨⟨⟨n1, n2⟩, n3⟩, n4⟩, n5⟩, n6⟩, n7⟩ := h
  refine ⟨n1, n2, n3, ?_, ?_, n6, n7⟩
  · split at n4 <;> first | assumption | cases n4
  · split at n5 <;> first | assumption | cases n5
/-- what is never come to -/
theorem s_dead {st : Stmt} : PS X st (tS c W wr (M.stuck : M Fl)) := ⟨fun _ _ _ _ _ _ ⟨_, _, _, _, h⟩ => h.elim⟩
mutual
theorem okS_ps : ∀ (s : Sm) (st : Stmt) {wr : List Nat}, GoodS c X W P Γ kk ct → okS ct s st = true → (∀ i ∈ wrS s, i ∈ wr) → PS X st (tS c W wr (ex P Γ s))
  | .asg t e, st, wr, G, h, hw => by
    cases st <;> first | cases h | skip
    rename_i tgs ex pos
    match tgs, h with
    | [tg], h =>
      simp only [okS, Bool.and_eq_true, Bool.or_eq_true, Bool.not_eq_true'] at h
      obtain ⟨⟨⟨⟨h1, h2⟩, h3⟩, h4⟩, h5⟩ := h
      have pe := okE_pe e ex false G.toGood h2
      have pg := okTa_pg (P := P) (Γ := Γ) (wr := wr) G.toGood h1 (fun i hi => hw i (by simpa [wrS] using hi))
      have sw : swappedStores [tg] ex X.env = pure none := by
        rcases h4 with h4 | h4
        · exact stores_ok (.inl h4) _
        · refine stores_ok (.inr ⟨h4, fun es p z => ?_⟩) _
          subst z
          cases t with
          | var i => cases h1
          | tup ts =>
            simp only [okTa] at h1
            cases hq : taTgs ts <;> simp [hq, okTg] at h1
          | sub p k => cases p <;> cases h1
          | fld i k => cases h1
      have fin : swapsWithSole [tg] ex pos.line X.env = pure false → PS X (.Assign [tg] ex pos) (tS c W wr (_root_.G.ex P Γ (.asg t e))) := fun hs => by
        have q := s_asg pe pg hs sw (each1_ok _ h3)
        have ee : _root_.G.ex P Γ (.asg t e) = (do
            let v ← ev P Γ false e
            store P Γ t v
            M.ret .next) := by
          conv => lhs; unfold _root_.G.ex
        rw [ee]
        exact q
      rcases h5 with h5 | ⟨h5, h6⟩
      · exact fin (sole_ok h5 _ _)
      · by_cases ht : ∃ p k, t = .sub p k
        · obtain ⟨p, k, rfl⟩ := ht
          cases tg <;> first | cases h6 | skip
          refine fin ?_
          cases ex <;> rfl
        cases t <;> first | cases h6 | exact absurd ⟨_, _, rfl⟩ ht | skip
        rename_i i
        cases tg <;> first | cases h6 | skip
        rename_i y py
        obtain ⟨l1, l2, l3⟩ := G.loc h1
        have nd : X.N.Nodup := by rw [G.N]; exact G.nd
        have hi : i ∈ wr := hw i (by simp [wrS, wrTa])
        have ee : _root_.G.ex P Γ (.asg (.var i) e) = (do
            let v ← ev P Γ false e
            setS i v
            M.ret .next) := by
          conv => lhs; unfold _root_.G.ex
          rfl
        rw [ee]
        cases e <;> first | cases h5 | skip
        rename_i x it t e
        cases ex <;> first | cases h2 | skip
        rename_i elt gs scope p2
        match gs, h2, pe with
        | [⟨tg, iter, ifs, 0⟩], h2, pe =>
          have sw2 : swapsWith (.ListComp elt [⟨tg, iter, ifs, 0⟩] scope p2) (some (.Name y py)) pos.line X.env = pure (swC ct y py scope p2) := swaps_eq G.kind G.sc
          cases hs : swC ct y py scope p2 with
          | false =>
            rw [hs] at sw2
            exact s_set nd l1 l2 pe sw2 l3 hi
          | true =>
            rw [hs] at sw2
            have hl : X.env.scope.names.lookup y = some .local := by
              rw [G.sc]
              unfold swC at hs
              simp only [Bool.and_eq_true] at hs
              have := hs.1.1
              split at this <;> first | assumption | cases this
            simp only [okE, Bool.and_eq_true, Bool.not_eq_true'] at h2
            obtain ⟨⟨⟨⟨⟨h1, h2⟩, h3⟩, h4⟩, h5⟩, h6⟩ := h2
            have ho : (ownOf ct x).map (·.2) = x.slots := by
              unfold ownOf
              rw [List.map_map]
              exact List.map_id _
            have bk : BlkOk X.N X.env.scope scope (ownOf ct x) := blkOk_by (by rw [G.N, G.sc]; exact h2)
            have q := s_setLc (t := tstM P Γ t) (wr := wr) G.calm nd l1 hl sw2 (okIt_pi it tg iter G.toGood h1) bk ho (fun s H C cl fp => okTg_pg x tg (G.toGood.blk scope s H C cl fp) h3 (fun i hi => hi)) (fun s H C cl fp => okIf_pts t ifs (G.toGood.blk scope s H C cl fp) h4) (fun s H C cl fp => okE_pe e elt false (G.toGood.blk scope s H C cl fp) h5) (setE_fold h6 _) hi
            have e2 : ev P Γ false (.comp x it t e) = (do
                let w ← evIt P Γ it
                wipeM x.slots
                calmM (compL x (tstM P Γ t) (ev P Γ false e) w.ok w.ds [])) := by
              cases t <;> rfl
            rw [e2]
            exact q
  | .par ts es, st, wr, G, h, hw => by
    rcases par_inv h with ⟨i, j, e1, e2, x, y, px, py, kt, pt, a, b, k2, pt2, pos, rfl, rfl, rfl, hh⟩ | ⟨i, j, n, e1, e2, e3, x, y, z, px, py, pz, kt, pt, a, b, d, k2, pt2, pos, rfl, rfl, rfl, hh⟩
    · simp only [Bool.and_eq_true, Bool.not_eq_true'] at hh
      obtain ⟨⟨⟨h1, h2⟩, h3⟩, h4⟩ := hh
      obtain ⟨n1, n2, n3, l1, l2, n6, n7⟩ := parC_ok h1
      rw [← G.sc] at l1 l2
      have st2 := h2
      simp only [okEs, Bool.and_eq_true, Bool.not_eq_true'] at st2
      have q := s_par2 (pos := pos) (wr := wr) G.calm (by rw [G.N]; exact G.nd) (by rw [G.N]; exact n1) (by rw [G.N]; exact n2) n3 l1 l2 (okEs_pa [e1, e2] [a, b] G.toGood h2) (par_sw (kt := kt) (k2 := k2) (pt := pt) (pt2 := pt2) G.kind l1 l2 n6 n7 st2.1.2 st2.2.1.2 h3 h4) (hw i (by simp [wrS])) (hw j (by simp [wrS])) (fun s K X' q => evs_len [e1, e2] s q)
      have ee : _root_.G.ex P Γ (.par [i, j] [e1, e2]) = (do
          let vs ← evs P Γ [e1, e2]
          if [i, j].length = vs.length then
            ([i, j].zip vs).foldlM (fun _ p => setS p.1 p.2) ()
            M.ret .next
          else M.stuck) := by
        conv => lhs; unfold _root_.G.ex
      rw [ee]
      exact q
    · simp only [Bool.and_eq_true, Bool.not_eq_true'] at hh
      obtain ⟨⟨⟨⟨⟨h1, h1b⟩, h1c⟩, h2⟩, h3⟩, h4⟩ := hh
      obtain ⟨n1, n2, n3, l1, l2, n6, n7⟩ := parC_ok h1
      obtain ⟨_, m2, m3, _, l3, m6, m7⟩ := parC_ok h1b
      obtain ⟨_, _, o3, _, _, _, o7⟩ := parC_ok h1c
      rw [← G.sc] at l1 l2 l3
      have st2 := h2
      simp only [okEs, Bool.and_eq_true, Bool.not_eq_true'] at st2
      have q := s_par3 (pos := pos) (wr := wr) G.calm (by rw [G.N]; exact G.nd) (by rw [G.N]; exact n1) (by rw [G.N]; exact n2) (by rw [G.N]; exact m2) n3 m3 o3 l1 l2 l3 (okEs_pa [e1, e2, e3] [a, b, d] G.toGood h2) (par_sw3 (kt := kt) (k2 := k2) (pt := pt) (pt2 := pt2) G.kind l1 l2 l3 n6 m6 n7 m7 o7 st2.1.2 st2.2.1.2 st2.2.2.1.2 h3 h4) (hw i (by simp [wrS])) (hw j (by simp [wrS])) (hw n (by simp [wrS])) (fun s K X' q => evs_len [e1, e2, e3] s q)
      have ee : _root_.G.ex P Γ (.par [i, j, n] [e1, e2, e3]) = (do
          let vs ← evs P Γ [e1, e2, e3]
          if [i, j, n].length = vs.length then
            ([i, j, n].zip vs).foldlM (fun _ p => setS p.1 p.2) ()
            M.ret .next
          else M.stuck) := by
        conv => lhs; unfold _root_.G.ex
      rw [ee]
      exact q
  | .mut p m es, st, wr, G, h, hw => by
    cases p <;> first | (cases st <;> cases h) | skip
    rename_i i
    obtain ⟨x, p1, mn, apos, xs, cpos, pos, rfl, hh⟩ := mut_inv h
    simp only [Bool.and_eq_true, decide_eq_true_eq] at hh
    obtain ⟨⟨⟨⟨h1, h2⟩, h3⟩, h4⟩, h6⟩ := hh
    obtain ⟨id, r, ok, hm, slot, hty, hch⟩ := mutC_ok (c := c) (X := X) h1
    have pa := okEs_pa es xs G.toGood h3
    have st := (okEs_star h3).1
    match xs, h3, h4, pa, st with
    | [], h3, h4, pa, st =>
      cases es with
      | nil =>
        have q := x_mut0 (W := W) (c := c) (b := true) (p := p1) (P := P) (Γ := Γ) ok hm slot hty hch (G.varOk h2) h6
        exact s_expr (pos := pos) q (swaps_ok rfl _ _ _)
      | cons a es => simp [okEs] at h3
    | e :: xs, h3, h4, pa, st =>
      have st2 := st
      simp only [List.all_cons, Bool.and_eq_true, Bool.not_eq_true'] at st2
      have q := x_mut (b := true) (p := p1) ok hm slot hty hch (G.varOk h2) pa (few_ok st h4 _ _) h6 (star_ok st2.1 _ _) (back_any st2.2 _ _)
      exact s_expr (pos := pos) q (swaps_ok rfl _ _ _)
  | .ite cnd a b, st, wr, G, h, hw => by
    cases st <;> first | cases h | skip
    rename_i ce ae be pos
    simp only [okS, Bool.and_eq_true] at h
    obtain ⟨⟨h1, h2⟩, h3⟩ := h
    have q := s_if (pos := pos) (okE_pt cnd ce G.toGood h1) (okSs_ps a ae G h2 fun i hi => hw i (by simp [wrS, hi])) (okSs_ps b be G h3 fun i hi => hw i (by simp [wrS, hi]))
    rw [← truth_ite] at q
    exact q
  | .for_ x it bd, st, wr, G, h, hw => by
    cases st <;> first | cases h | skip
    rename_i tg iter body orelse pos
    cases orelse <;> first | cases h | skip
    simp only [okS, Bool.and_eq_true, Bool.not_eq_true'] at h
    obtain ⟨⟨⟨⟨h1, h2⟩, h3⟩, h4⟩, h5⟩ := h
    have q := s_for (pos := pos) (wr := x.slots ++ wrSs bd) G.pass G.calm (okIt_pi it tg iter G.toGood h2) (okTg_pg x tg G.toGood h1 fun i hi => List.mem_append_left _ hi) (okSs_ps bd body G h3 fun i hi => List.mem_append_right _ hi) (setE_fold h4 _) (fun i hi hm => ?_)
    · exact psWider q fun i hi => hw i (by simpa [wrS] using hi)
    · have := (List.all_eq_true.mp h5) i hi
      simp only [Bool.not_eq_true'] at this
      rw [List.contains_iff_mem.mpr hm] at this
      cases this
  | .while_ cnd bd, st, wr, G, h, hw => by
    cases st <;> first | cases h | skip
    rename_i ce body orelse pos
    cases orelse <;> first | cases h | skip
    simp only [okS, Bool.and_eq_true] at h
    exact s_while (pos := pos) P.fuel G.pass (okE_pt cnd ce G.toGood h.1) (okSs_ps bd body G h.2 fun i hi => hw i (by simpa [wrS] using hi))
  | .ret e, st, wr, G, h, hw => by
    cases st <;> first | cases h | skip
    rename_i ex pos
    cases ex <;> first | cases h | skip
    exact s_ret (okE_pe e _ false G.toGood h)
  | .ret0, st, wr, G, h, hw => by
    cases st <;> first | cases h | skip
    rename_i ex pos
    cases ex <;> first | cases h | skip
    exact s_ret0
  | .expr e, st, wr, G, h, hw => by
    cases st <;> first | cases h | skip
    rename_i ex pos
    simp only [okS, Bool.and_eq_true, Bool.not_eq_true'] at h
    exact s_expr (okE_pe e _ true G.toGood h.1) (swaps_ok h.2 _ _ _)
  | .pass, st, wr, G, h, hw => by
    cases st <;> first | cases h | skip
    · rename_i e pos
      cases e <;> first | cases h | skip
      rename_i k j p
      cases k <;> first | cases h | skip
      exact s_doc
    · exact s_pass
  | .brk, st, wr, G, h, hw => by
    cases st <;> first | cases h | skip
    exact s_brk
  | .asgmut _ _ _ _, st, wr, G, h, hw => by cases st <;> cases h
  | .raise _ _, st, wr, G, h, hw => by cases st <;> cases h
  | .try_ _ _, st, wr, G, h, hw => by cases st <;> cases h
  | .dead, st, wr, G, h, hw => s_dead
theorem okSs_ps : ∀ (s : List Sm) (st : List Stmt) {wr : List Nat}, GoodS c X W P Γ kk ct → okSs ct s st = true → (∀ i ∈ wrSs s, i ∈ wr) → PSs X st (tS c W wr (exs P Γ s))
  | [], [], wr, G, h, hw => s_nil
  | [], _ :: _, wr, G, h, hw => by simp [okSs] at h
  | _ :: _, [], wr, G, h, hw => by simp [okSs] at h
  | s :: r, st :: rest, wr, G, h, hw => by
    simp only [okSs, Bool.and_eq_true] at h
    exact s_cons (okS_ps s st G h.1 fun i hi => hw i (by simp [wrSs, hi])) (okSs_ps r rest G h.2 fun i hi => hw i (by simp [wrSs, hi]))
end
end
end G

set_option linter.all false
set_option maxRecDepth 100000
set_option maxHeartbeats 1000000
namespace G
open PySem PySem.Spec PyProof.Rows L2
section
variable {c : Nm} {fr fr' : Addr → Prop} {m : List Addr} {H H' : Hp} {ms : Ms} {σ σ' : L2.St} {l : List (Option RV)} {T U : List (V × RV)} {mm : Mem} {W : WX} {X : Cx}
def slots0 (k : Nat) (rs : List RV) : List (Option RV) := rs.map some ++ List.replicate k none
theorem slotsL_none : ∀ (a b : Nat), slotsL (List.replicate a (none : Option V)) (List.replicate b (none : Option RV)) = []
  | 0, b => by cases b <;> rfl
  | a + 1, 0 => rfl
  | a + 1, b + 1 => by
    rw [List.replicate_succ, List.replicate_succ]
    exact slotsL_none a b
theorem slotsL_start : ∀ (vs : List V) (rs : List RV) (a b : Nat), vs.length = rs.length → slotsL (vs.map some ++ List.replicate a none) (slots0 b rs) = vs.zip rs
  | [], [], a, b, _ => slotsL_none a b
  | v :: vs, r :: rs, a, b, h => by
    show (v, r) :: slotsL (vs.map some ++ List.replicate a none) (slots0 b rs) = _
    rw [slotsL_start vs rs a b (by simpa using h)]
    rfl
  | [], _ :: _, _, _, h => by simp at h
  | _ :: _, [], _, _, h => by simp at h
theorem form_start : ∀ (vs : List V) (rs : List RV) (a : Nat), vs.length = rs.length → Form (vs.map some ++ List.replicate a none) (slots0 a rs) := by
  intro vs rs a h
  refine ⟨by simp [slots0, h], fun i x e => ?_⟩
  unfold slots0 at e
  by_cases hi : i < rs.length
  · refine ⟨vs[i]'(by omega), ?_⟩
    rw [List.getElem?_append_left (by rw [List.length_map]; omega)]
    simp [hi, h]
  · rw [List.getElem?_append_right (by rw [List.length_map]; omega), List.getElem?_replicate] at e
    split at e <;> cases e
theorem SI.enter {N : List Str} {vs : List V} {rs : List RV} {k : Nat} (s : SI c [] [] (stack vs rs T) mm H) (hl : vs.length = rs.length) (hk : N.length - rs.length = k) : SI c (L2.start N vs) (slots0 k rs) T mm H := by
  have hk2 : N.length - vs.length = k := by rw [hl]; exact hk
  unfold L2.start
  rw [hk2]
  refine SI.back ?_ (form_start vs rs k hl)
  rw [slotsL_start vs rs k k hl]
  obtain ⟨fr, ms, s⟩ := s
  refine ⟨fr, ms, s.reorder (fun r hr => ?_) fun a => ?_⟩
  · rw [mem_stack]
    rcases List.mem_append.mp hr with hr | hr
    · exact .inr hr
    · exact .inl hr
  · rw [ownT_stack, ownT_append]
    omega
/-- a def of a law's text -/
structure DefE where
  d : He.DefD
  N : List Str
  ps : List Str
structure Tb where
  fns : List (Nat × DefE)
  gls : List (Nat × Str × D) := []
def Tb.ct (tb : Tb) (e : DefE) : Ct := { N := e.N, sc := e.d.scope, fnx := fun _ => true, fn := tb.fns.map fun q => (q.1, q.2.d.name), cl := [], gl := tb.gls.map fun q => (q.1, q.2.1), fl := [], mt := [] }
/-- what is checked of a def: scope, slots, body -/
def scC (e : DefE) : Bool := (match e.d.scope.kind with | .function => true | _ => false) && !e.d.scope.isCoroutine && !e.d.scope.isGenerator && decide e.N.Nodup && decide (e.N.take e.ps.length = e.ps) &&
  e.ps.all (fun x => match e.d.scope.names.lookup x with | some .local => true | some .cell => true | _ => false) && e.d.scope.names.all fun y => match y.2 with | .free => false | _ => true
theorem scC_ok {e : DefE} (h : scC e = true) : FnScope e.N e.ps e.d.scope := by
  unfold scC at h
  simp only [Bool.and_eq_true, Bool.not_eq_true', decide_eq_true_eq, List.all_eq_true] at h
  obtain ⟨⟨⟨⟨⟨⟨h1, h2⟩, h3⟩, h4⟩, h5⟩, h6⟩, h7⟩ := h
  refine ⟨?_, h2, h3, h4, h5, fun x hx => ?_, fun y hy z => ?_⟩
  · split at h1 <;> first | assumption | cases h1
  · have := h6 x hx
    split at this <;> first | exact .inl (by assumption) | exact .inr (by assumption) | cases this
  · have := h7 y hy
    rw [z] at this
    cases this
def okD (tb : Tb) (P : Prog) (q : Nat × DefE) : Bool := scC q.2 && (match P.df q.1 with
  | some df => decide (df.params = q.2.ps.length) && decide (df.slots = q.2.N.length) && okSs (tb.ct q.2) df.body q.2.d.body
  | none => false)
def BindOk (e : DefE) : Prop := ∀ (kV doc pm : Value) (an : Option Addr) (cdv ct : Value) (us : List Value), us.length = e.ps.length → bindArgs (PySem.W.fnOf e.d.name e.d.qual e.d.params e.d.body e.d.scope .none kV doc pm an cdv ct) ⟨us, []⟩ = pure (e.ps.zip us)
variable {P0 : Program} {w : World} {K : PySem.W.Frag} {mg : Str → Option Value} {base : Heap}
/-- what is known of the module -/
structure ModOk (tb : Tb) (P : Prog) (c : Nm) (P0 : Program) (w : World) (K : PySem.W.Frag) (mg : Str → Option Value) : Prop where
  prog : c.prog = P0
  w_ : c.w = w
  K_ : c.K = K
  dn : ∀ q ∈ tb.fns, okD tb P q = true ∧ BindOk q.2 ∧ ∃ f fd, FunD K q.2.d.name q.2.d.qual q.2.d.params q.2.d.body q.2.d.scope [] [] f fd ∧ mg q.2.d.name = some (.ref f)
  blt : ∀ x ∈ bltNames, mg x = none
  gv : ∀ q ∈ tb.gls, P.gl q.1 = some q.2.2 ∧ ∃ u v, mg q.2.1 = some u ∧ RelV v u ∧ ∀ fr mu H, FR c fr mu H q.2.2 v
theorem lookup_map {α : Type} {g : DefE → α} : ∀ {l : List (Nat × DefE)} {n : Nat} {x : α}, (l.map fun q => (q.1, g q.2)).lookup n = some x → ∃ e, (n, e) ∈ l ∧ g e = x
  | [], n, x, h => by simp at h
  | q :: l, n, x, h => by
    rw [List.map_cons, List.lookup_cons] at h
    by_cases e : n = q.1
    · subst e
      simp only [beq_self_eq_true] at h
      cases h
      exact ⟨q.2, List.mem_cons_self, rfl⟩
    · have e1 : (n == q.1) = false := beq_eq_false_iff_ne.mpr e
      rw [e1] at h
      obtain ⟨e, h1, h2⟩ := lookup_map (l := l) h
      exact ⟨e, List.mem_cons_of_mem _ h1, h2⟩
theorem lookup_map2 {α β : Type} {g : α → β} : ∀ {l : List (Nat × α)} {n : Nat} {x : β}, (l.map fun q => (q.1, g q.2)).lookup n = some x → ∃ e, (n, e) ∈ l ∧ g e = x
  | [], n, x, h => by simp at h
  | q :: l, n, x, h => by
    rw [List.map_cons, List.lookup_cons] at h
    by_cases e : n = q.1
    · subst e
      simp only [beq_self_eq_true] at h
      cases h
      exact ⟨q.2, List.mem_cons_self, rfl⟩
    · have e1 : (n == q.1) = false := beq_eq_false_iff_ne.mpr e
      rw [e1] at h
      obtain ⟨e, h1, h2⟩ := lookup_map2 (l := l) h
      exact ⟨e, List.mem_cons_of_mem _ h1, h2⟩
def FnP (P : Prog) (c : Nm) (P0 : Program) (w : World) (K : PySem.W.Frag) (mg : Str → Option Value) (base : Heap) (k : Nat) (q : Nat × DefE) : Prop :=
  ∃ f fd, mg q.2.d.name = some (.ref f) ∧ PySem.W.keepIn K (.ref f) = true ∧ FnOk P0 w K mg base (L2.CX P0 w) k f fd q.2.ps (spC c (callN P k q.1)) ∧ Binds K fd q.2.ps [] ∧ FunD K q.2.d.name q.2.d.qual q.2.d.params q.2.d.body q.2.d.scope [] [] f fd
theorem runDef_of {P : Prog} {Γ : Gam} {df : Def} {rs : List RV} {m : Mem} {Q : VK} {E : XK} {T : List (V × RV)} {W : WX} {N : List Str} {vs : List V} {wr : List Nat} (hW : ∀ cls d σ H, E cls d H → W cls d σ H) (hn : df.slots = N.length) (hl : vs.length = rs.length) (s : SI c [] [] (stack vs rs T) m H)
    (h : match runDef P Γ df rs m with
      | some (.ok r, m') => ∀ v H', SI c [] [] ((v, r) :: T) m' H' → Q v H'
      | some (.exn x, m') => ∀ cls d H', XRel c x cls d H' → SI c [] [] T m' H' → E cls d H'
      | none => False) : tS c W wr (exs P Γ df.body) { nx := fun _ H' => Q .non H', rt := Q } (L2.start N vs) H := by
  unfold runDef at h
  by_cases hp : rs.length = df.params
  · rw [if_pos hp] at h
    have si := SI.enter (N := N) (k := df.slots - df.params) s hl (by rw [hn, hp])
    have und := si.under
    refine ⟨_, T, m, si, ?_⟩
    unfold Run
    have e0 : (⟨rs.map some ++ List.replicate (df.slots - df.params) none, m⟩ : S) = ⟨slots0 (df.slots - df.params) rs, m⟩ := rfl
    rw [e0] at h
    cases he : exs P Γ df.body ⟨slots0 (df.slots - df.params) rs, m⟩ with
    | none => rw [he] at h; exact h.elim
    | some z =>
      obtain ⟨z, s'⟩ := z
      rw [he] at h
      cases z with
      | exn x =>
        intro cls d σ2 H2 hx s2 _
        refine hW _ _ _ _ (h cls d H2 hx ?_)
        have s3 : SI c [] [] ((V.non, (false, D.non)) :: T) s'.m H2 := by
          obtain ⟨fr, ms, s4⟩ := s2.bare
          exact s4.anon
        exact SI.pop (gc_ok s3 und)
      | ok f =>
        cases f with
        | next =>
          intro σ2 H2 s2 _
          have s3 : SI c [] [] ((V.non, (false, D.non)) :: T) s'.m H2 := by
            obtain ⟨fr, ms, s4⟩ := s2.bare
            exact s4.anon
          exact h .non H2 (gc_ok s3 und)
        | brk => exact h.elim
        | ret r =>
          intro σ2 v H2 s2
          exact h v H2 (gc_ok s2.bare und)
  · rw [if_neg hp] at h
    exact h.elim
def gamN (P : Prog) (k : Nat) : Gam := ⟨callN P k, fun cc us m' => match k with
  | 0 => none
  | j + 1 => make P (callN P j) cc us m'⟩
theorem callN_succ {P : Prog} {k n : Nat} {df : Def} (hd : P.df n = some df) {rs : List RV} {m : Mem} : callN P (k + 1) n rs m = runDef P (gamN P k) df rs m := by
  conv => lhs; unfold callN
  rw [hd]
  rfl
theorem fnP_all {tb : Tb} {P : Prog} (M : ModOk tb P c P0 w K mg) : ∀ (k : Nat), ∀ q ∈ tb.fns, FnP P c P0 w K mg base k q := by
  intro k
  induction k with
  | zero =>
    intro q hq
    obtain ⟨h1, hb, f, fd, F, hm⟩ := M.dn q hq
    refine ⟨f, fd, hm, F.kp, ⟨fun vs H Q E h => ?_, fun A outer s H args us vs Q E _ _ _ _ h => ?_⟩, F.bindsN hb, F⟩
    · obtain ⟨rs, T, m, _, _, h⟩ := h
      exact h.elim
    · obtain ⟨rs, T, m, _, _, h⟩ := h
      exact h.elim
  | succ k ih =>
    intro q hq
    obtain ⟨h1, hb, f, fd, F, hm⟩ := M.dn q hq
    unfold okD at h1
    simp only [Bool.and_eq_true] at h1
    obtain ⟨h1, h2⟩ := h1
    have S := scC_ok h1
    cases hd : P.df q.1 with
    | none => rw [hd] at h2; cases h2
    | some df =>
      rw [hd] at h2
      simp only [Bool.and_eq_true, decide_eq_true_eq] at h2
      obtain ⟨⟨p1, p2⟩, p3⟩ := h2
      have un : ∀ rs m, callN P (k + 1) q.1 rs m = runDef P (gamN P k) df rs m := fun rs m => callN_succ hd
      refine ⟨f, fd, hm, F.kp, F.ok S (fun vs H Q E h => ?_) (fun cdv A outer s H vs Q E hr h => ?_), F.bindsN hb, F⟩
      · obtain ⟨rs, T, m, hl, _, h⟩ := h
        rw [un] at h
        unfold runDef at h
        by_cases hp : rs.length = df.params
        · rw [hl, hp, p1]
        · rw [if_neg hp] at h
          exact h.elim
      · obtain ⟨rs, T, m, hl, si, h⟩ := h
        rw [un] at h
        refine ⟨tS c (fun cls d _ H => E cls d H) (wrSs df.body) (exs P (gamN P k) df.body), ?_, runDef_of (fun _ _ _ _ h => h) p2 hl si h⟩
        refine okSs_ps (kk := k) (ct := tb.ct q.2) df.body q.2.d.body ?_ p3 (fun _ h => h)
        refine { sm := ⟨M.prog.symm, M.w_.symm, M.K_.symm⟩, calm := rfl, N := rfl, nd := S.nd, sc := rfl, fnx := fun _ => rfl, room := hr, tk := takes_of rfl rfl rfl rfl, fn := fun n x hx => ?_, blt := M.blt, gv := fun g x hx => ?_, kind := S.kind, pass := passes_of rfl }
        rotate_left
        · obtain ⟨e, he, hx⟩ := lookup_map2 (g := fun e : Str × D => e.1) (l := tb.gls) hx
          subst hx
          obtain ⟨hp, u, v, h1, h2, h3⟩ := M.gv (g, e) he
          exact ⟨u, v, e.2, h1, h2, hp, h3⟩
        obtain ⟨e, he, hx⟩ := lookup_map (g := fun e => e.d.name) (l := tb.fns) hx
        subst hx
        obtain ⟨f', fd', g1, g2, g3, g4, _⟩ := ih (n, e) he
        exact ⟨f', fd', e.ps, g1, g2, g3, g4⟩
end
end G

set_option linter.all false
set_option maxRecDepth 100000
set_option maxHeartbeats 1000000
namespace G
open PySem PySem.Spec PyProof.Rows L2
def Tb.fa (tb : Tb) : List He.Fa := tb.fns.map (fun q => He.Fa.glo q.2.d.name) ++ bltNames.map He.Fa.free
def Tb.fd (tb : Tb) : List He.DefD := tb.fns.map fun q => q.2.d
/-- a def stands under its own name, without defaults -/
def Own (e : DefE) : Prop := e.d.at_ = (e.d.name, none) ∧ e.d.dfl = [] ∧ e.d.kwd = []
/-! constants of the module -/
mutual
/-- the value stands for these data, in what never changes -/
def repK (K : PySem.W.Frag) : D → Value → Bool
  | .non, .none => true
  | .bl b, .bool e => b == e
  | .int i, .int j _ => decide (i = j)
  | .str s, .str t _ => decide (s = t)
  | .tup ds, .ref a => match K.lookup a with
    | some ⟨cl, dc, .seq its _, _⟩ => decide (cl = .type "tuple") && dc.isNone && decide (its.size ≤ sizeLine) && repKL K ds its.toList
    | _ => false
  | _, _ => false
def repKL (K : PySem.W.Frag) : List D → List Value → Bool
  | [], [] => true
  | d :: ds, v :: vs => repK K d v && repKL K ds vs
  | _, _ => false
end
mutual
theorem repK_ok {c : Nm} : ∀ (d : D) (u : Value), repK c.K d u = true → ∃ v, RelV v u ∧ ∀ fr mu H, FR c fr mu H d v
  | .non, .none, _ => ⟨.non, rfl, fun _ _ _ => by simp only [FR]⟩
  | .bl b, .bool e, h => by
    have : b = e := by simpa [repK] using h
    subst this
    exact ⟨.bl b, rfl, fun _ _ _ => by simp only [FR]⟩
  | .int i, .int j t, h => by
    have : i = j := by simpa [repK] using h
    subst this
    exact ⟨.int i, ⟨t, rfl⟩, fun _ _ _ => by simp only [FR]⟩
  | .str s, .str t k, h => by
    have : s = t := by simpa [repK] using h
    subst this
    exact ⟨.str s, ⟨k, rfl⟩, fun _ _ _ => by simp only [FR]⟩
  | .tup ds, .ref a, h => by
    unfold repK at h
    cases hl : c.K.lookup a with
    | none => rw [hl] at h; cases h
    | some o =>
      rw [hl] at h
      obtain ⟨cl, dc, da, sl⟩ := o
      cases da <;> first | cases h | skip
      rename_i its n
      simp only [Bool.and_eq_true, decide_eq_true_eq] at h
      obtain ⟨⟨⟨h1, hd⟩, h2⟩, h3⟩ := h
      have hd : dc = none := Option.isNone_iff_eq_none.mp hd
      obtain ⟨vs, hv, hf⟩ := repKL_ok ds its.toList h3
      refine ⟨.ref a, rfl, fun fr mu H => ?_⟩
      simp only [FR]
      exact ⟨a, vs, rfl, .inr ⟨_, its, n, hl, h1, hd, rfl, h2, hv⟩, hf fr mu H⟩
  | .non, .bool _, h => by simp [repK] at h
  | .non, .int _ _, h => by simp [repK] at h
  | .non, .float _ _, h => by simp [repK] at h
  | .non, .str _ _, h => by simp [repK] at h
  | .non, .bytes _ _, h => by simp [repK] at h
  | .non, .ref _, h => by simp [repK] at h
  | .non, .type _, h => by simp [repK] at h
  | .non, .builtin _, h => by simp [repK] at h
theorem repKL_ok {c : Nm} : ∀ (ds : List D) (us : List Value), repKL c.K ds us = true → ∃ vs, Vals vs us ∧ ∀ fr mu H, FRs c fr mu H ds vs
  | [], [], _ => ⟨[], .nil, fun _ _ _ => by simp only [FRs]⟩
  | d :: ds, u :: us, h => by
    simp only [repKL, Bool.and_eq_true] at h
    obtain ⟨v, r, f⟩ := repK_ok d u h.1
    obtain ⟨vs, rs, fs⟩ := repKL_ok ds us h.2
    exact ⟨v :: vs, .cons r rs, fun fr mu H => by simp only [FRs]; exact ⟨v, vs, rfl, f fr mu H, fs fr mu H⟩⟩
  | [], _ :: _, h => by simp [repKL] at h
  | _ :: _, [], h => by simp [repKL] at h
end
/-- a name of the module stands for these data -/
def glK (K : PySem.W.Frag) (q : Nat × Str × D) : Bool := match PySem.W.nsIn K mainGlobals q.2.1 with
  | some (some u) => repK K q.2.2 u
  | _ => false
def hookG (n : Nat) (fa : List He.Fa) (fn : List He.DefD) (gs : List (Nat × Str × D)) : PySem.W.Hook where
  α := Bool × He.AlD
  obs := fun s => (gs.all (glK (He.frG s.heap.get? (He.asD s.heap.get? n))), He.obsDG n fa fn s.heap.get?)
  val := fun _ => (true, He.valD fn)
  says := fun _ h => ∃ K : PySem.W.Frag, K.In h ∧ He.SaysD fa fn K ∧ gs.all (glK K) = true
  of := fun _ _ e => ⟨_, He.frG_in, congrArg (fun z : Bool × He.AlD => z.2) e, congrArg (fun z : Bool × He.AlD => z.1) e⟩
  keeps := fun _ _ _ ⟨K, hK, e⟩ k => ⟨K, PySem.W.Frag.In.keeps hK k, e⟩
def obsG (n : Nat) (fa : List He.Fa) (fn : List He.DefD) (gs : List (Nat × Str × D)) (g : Addr → Option Obj) : Bool × He.AlD := (gs.all (glK (He.frG g (He.asD g n))), He.obsDG n fa fn g)
theorem obsG_eq {n : Nat} {fa : List He.Fa} {fn : List He.DefD} {gs : List (Nat × Str × D)} {g : Addr → Option Obj} {s : Shared} (h : ∀ a, g a = s.heap.get? a) : obsG n fa fn gs g = (hookG n fa fn gs).obs s := by
  have e : g = s.heap.get? := funext h
  rw [e] <;> rfl
section
variable {P0 : Program} {w : World} {K : PySem.W.Frag} {mg : Str → Option Value} {h : Heap} {tb : Tb} {P : Prog} {c : Nm}
theorem facts_ok (X : K.In h) (G : h.Ns mainGlobals mg) (s : He.SaysD tb.fa tb.fd K) (h1 : tb.fns.all (okD tb P) = true) (h2 : ∀ q ∈ tb.fns, BindOk q.2) (h3 : ∀ q ∈ tb.fns, Own q.2) (h4 : ∀ q ∈ tb.gls, P.gl q.1 = some q.2.2) (sg : tb.gls.all (glK K) = true)
    (hp : c.prog = P0) (hw : c.w = w) (hK : c.K = K) : ModOk tb P c P0 w K mg where
  prog := hp
  w_ := hw
  K_ := hK
  dn := fun q hq => by
    refine ⟨List.all_eq_true.mp h1 q hq, h2 q hq, ?_⟩
    obtain ⟨i, hi⟩ := List.getElem?_of_mem (show q.2.d ∈ tb.fd from List.mem_map.mpr ⟨q, hq, rfl⟩)
    obtain ⟨j, hj⟩ := List.getElem?_of_mem (show He.Fa.glo q.2.d.name ∈ tb.fa from List.mem_append_left _ (List.mem_map.mpr ⟨q, hq, rfl⟩))
    obtain ⟨fd, F⟩ := s.def_ i hi
    have g := He.glo_ok X G (s.fact j hj)
    obtain ⟨o1, o2, o3⟩ := h3 q hq
    have e1 : He.DefD.dvs K q.2.d = [] := by unfold He.DefD.dvs; rw [o2]; rfl
    have e2 : He.DefD.kws K q.2.d = [] := by unfold He.DefD.kws; rw [o3]; rfl
    rw [e1, e2, o1] at F
    exact ⟨_, fd, F, g⟩
  blt := fun x hx => by
    obtain ⟨j, hj⟩ := List.getElem?_of_mem (show He.Fa.free x ∈ tb.fa from List.mem_append_right _ (List.mem_map.mpr ⟨x, hx, rfl⟩))
    exact He.free_ok X G (s.fact j hj)
  gv := fun q hq => by
    refine ⟨h4 q hq, ?_⟩
    have z := List.all_eq_true.mp sg q hq
    unfold glK at z
    cases e : PySem.W.nsIn K mainGlobals q.2.1 with
    | none => rw [e] at z; cases z
    | some o =>
      rw [e] at z
      cases o with
      | none => cases z
      | some u =>
        subst hK
        obtain ⟨v, r, f⟩ := repK_ok q.2.2 u z
        exact ⟨u, v, PySem.W.mg_of X G e, r, f⟩
theorem SI.first {c : Nm} {H : Hp} {a : Addr} {ns : List Int} (hO : Only H) (h : SqL c.K H a (ns.map V.int)) : SI c [] [] [(.ref a, (false, .scr ns))] [] H := by
  refine ⟨fun _ => False, [], ⟨rfl, fun i x e => by simp at e, fun r hr => ?_, rfl, fun b => ?_, fun b f => f.elim, fun b f => f.elim⟩⟩
  · obtain rfl := List.mem_singleton.mp hr
    show FR c (fun _ => False) (mu []) H (.scr ns) (.ref a)
    simp only [FR]
    refine ⟨a, rfl, ?_⟩
    rcases h with (h | ⟨o, h⟩) | h
    · rcases hO a with z | ⟨o, xs, z⟩
      · rw [h] at z; cases z
      · rw [h] at z; cases z
    · exact .inl ⟨o, h⟩
    · exact .inr h
  · simp [ownS, ownT, ownM, own1]
theorem cx_no {P : Program} {w : World} {o : List Env} {H : Hp} {s s' : Shared} {e : Value} (h : L2.CX P w o H s (fun _ _ _ => False) e s') : False := by
  obtain ⟨_, _, _, _, _, _, _, _, _, _, _, _, z⟩ := h
  exact z
/-- from the plain law to what the head asks -/
theorem lawF {fa : Addr} {k num n : Nat} {e : DefE} {x : Str} (h1 : tb.fns.all (okD tb P) = true) (h2 : ∀ q ∈ tb.fns, BindOk q.2) (h3 : ∀ q ∈ tb.fns, Own q.2) (h4 : ∀ q ∈ tb.gls, P.gl q.1 = some q.2.2) (hm : (num, e) ∈ tb.fns) (hx : e.ps = [x])
    (hplain : ∀ ns : List Int, ns.length ≤ n → ∃ o m, callN P k num [(false, .scr ns)] [] = some (.ok (o, .bl true), m))
    (hY : ∃ K : PySem.W.Frag, K.In h ∧ He.SaysD tb.fa tb.fd K ∧ tb.gls.all (glK K) = true) (G : h.Ns mainGlobals mg) (hmg : mg e.d.name = some (.ref fa)) :
    ∃ (K : PySem.W.Frag) (fd : FuncData) (sp : Sp), K.In h ∧ (∀ (s : Shared) (u : Value), BindsTo s fd ⟨[u], []⟩ [(x, u)]) ∧
      (∀ (H : Hp) (a : Addr) (ns : List Int), ns.length ≤ n → Only H → SqL K H a (ns.map V.int) → sp [.ref a] H (fun v _ => v = .bl true) fun _ _ _ => False) ∧
      ∀ base : Heap, K.In base → base.Ns mainGlobals mg → FnOk P0 w K mg base (L2.CX P0 w) k fa fd [x] sp := by
  obtain ⟨K, X, s, sg⟩ := hY
  let c : Nm := ⟨K, fun _ => 0, fun _ => Str.empty, P0, w⟩
  have M : ModOk tb P c P0 w K mg := facts_ok X G s h1 h2 h3 h4 sg rfl rfl rfl
  obtain ⟨_, hb, f, fd, F, hf⟩ := M.dn _ hm
  have hf : mg e.d.name = some (.ref f) := hf
  rw [hmg] at hf
  cases hf
  have bA := F.bindsA hb
  refine ⟨K, fd, spC c (callN P k num), X, fun s u => ?_, fun H a ns hl hO hS => ?_, fun base KB GB => ?_⟩
  · have := bA s [u] (by rw [hx]; rfl)
    rw [hx] at this
    exact this
  · obtain ⟨o, m, hq⟩ := hplain ns hl
    refine ⟨[(false, .scr ns)], [], [], rfl, SI.first hO hS, ?_⟩
    rw [hq]
    intro v H' s'
    obtain ⟨fr, ms, s'⟩ := s'
    exact (s'.temps _ List.mem_cons_self).rd.bl
  · obtain ⟨f', fd', g1, g2, g3, g4, F'⟩ := fnP_all (base := base) M k _ hm
    have g1 : mg e.d.name = some (.ref f') := g1
    rw [hmg] at g1
    cases g1
    have g3 : FnOk P0 w K mg base (L2.CX P0 w) k fa fd' e.ps (spC c (callN P k num)) := g3
    have ef : fd' = fd := by
      obtain ⟨oc, od, _, _, _, _, _, _, _, osl, _, lk, _⟩ := F.ex
      obtain ⟨oc', od', _, _, _, _, _, _, _, osl', _, lk', _⟩ := F'.ex
      rw [lk] at lk'
      cases lk'
      rfl
    subst ef
    rw [hx] at g3
    exact g3
end
theorem walk_ofG {l : PySem.W.OpenLaw} {n k : Nat} {q : Program} {loose : List Str} {XP : (Str → Option Value) → Heap → Prop} {YP : World → Heap → Prop} {d : DefRec} {x : Str}
    (hn : l.most = some n) (hn2 : n ≤ sizeLine) (hdf : d.params.defaults = []) (hr : Room k callerA)
    (F : ∀ (w : World) (mg : Str → Option Value) (fa : Addr) (h : Heap), YP w h → h.Ns mainGlobals mg → mg d.name = some (.ref fa) →
      ∃ (K : PySem.W.Frag) (fd : FuncData) (sp : Sp), K.In h ∧ (∀ (s : Shared) (u : Value), BindsTo s fd ⟨[u], []⟩ [(x, u)]) ∧
        (∀ (H : Hp) (a : Addr) (ns : List Int), ns.length ≤ n → Only H → SqL K H a (ns.map V.int) → sp [.ref a] H (fun v _ => v = .bl true) fun _ _ _ => False) ∧
        ∀ base : Heap, K.In base → base.Ns mainGlobals mg → FnOk l.prog w K mg base (L2.CX l.prog w) k fa fd [x] sp) :
    PySem.W.WalkO q loose XP YP l.row.toRowW d [] (fun f vs => PySem.call f vs) := by
  refine Att.attach_call hn hdf fun w s₀ s₁ mg mb fa o pm cd doc a vs ns G Y ho hd hcd hmg hobj hints hlen hg => ?_
  obtain ⟨K, fd, sp, KX, hb, hsp, hF⟩ := F w mg fa _ Y G.T.g hmg
  exact law_call KX G.T.g G.T.b G.T.builtins G.T.nolimit hg hobj hints (Nat.le_trans hlen hn2) hr hF hb (fun H hO hS => hsp H a ns hlen hO hS) fun H e s' => cx_no
end G

set_option linter.all false
set_option maxRecDepth 100000
set_option maxHeartbeats 0
namespace K07
open PySem PySem.Spec PyProof.Rows L2 G
def prog_df : List (Nat × Def) := [(36, { params := 2, slots := 5, body := [.asg (.tup [.var 2, .var 3]) (.var 1), .ret (.bm1 .join (.con (.str " ")) (.bin .add (.lst [.sub (.sub (.var 0) (.con (.int 0))) (.var 2)]) (.comp (.var 4) (.seq (.var 3)) none (.sub (.sub (.sub (.var 0) (.con (.int 1))) (.var 4)) (.con (.int 0))))))] }),
  (40, { params := 2, slots := 3, body := [.ret (.bm1 .join (.con (.str " ; ")) (.comp (.var 2) (.seq (.var 1)) none (.call 36 [.var 0, .var 2])))] }),
  (37, { params := 4, slots := 9, body := [.asg (.var 4) (.bm1 .split (.var 1) (.con (.str " "))), .asg (.var 5) (.comp (.tup [.var 6, .var 7]) (.seq (.sub (.var 0) (.con (.int 1)))) none (.var 6)), .ite (.or [.cmp .notin (.sub (.var 4) (.con (.int 0))) (.sub (.var 0) (.con (.int 0))), .cmp .ne (.blt .len (.var 4)) (.bin .add (.var 2) (.con (.int 1)))]) [.dead] [], .ite (.not (.blt .all (.comp (.var 8) (.seq (.slice (.var 4) (some (.con (.int 1))) none)) none (.cmp .in_ (.var 8) (.var 5))))) [.dead] [], .ret (.tup [.bm1 .indexT (.sub (.var 0) (.con (.int 0))) (.sub (.var 4) (.con (.int 0))), .blt .tuple (.comp (.var 8) (.seq (.slice (.var 4) (some (.con (.int 1))) none)) none (.bm1 .index (.var 5) (.var 8)))])] }),
  (38, { params := 3, slots := 5, body := [.ite (.cmp .eq (.var 1) (.con (.str ""))) [.ret (.tup [])] [], .asg (.var 3) (.bm1 .split (.var 1) (.con (.str " ; "))), .ret (.blt .tuple (.comp (.var 4) (.range1 (.blt .len (.var 3))) none (.call 37 [.var 0, .sub (.var 3) (.var 4), .var 4, .var 2])))] }),
  (41, { params := 2, slots := 2, body := [.ite (.not (.isinst (.var 1) [.str])) [.dead] [], .ret (.call 38 [.var 0, .var 1, .con (.int 0)])] }),
  (17, { params := 1, slots := 1, body := [.ret (.newl [.blt .list (.var 0), .con (.int 0), .con (.int 0), .con (.int 1), .con (.int 0)])] }),
  (2, { params := 2, slots := 4, body := [.ite (.and [.cmp .eq (.sub (.var 0) (.con (.int 2))) (.con (.int 0)), .cmp .lt (.sub (.var 0) (.con (.int 1))) (.blt .len (.sub (.var 0) (.con (.int 0))))]) [.asg (.var 2) (.sub (.sub (.var 0) (.con (.int 0))) (.sub (.var 0) (.con (.int 1)))), .asg (.sub (.var 0) (.con (.int 1))) (.bin .add (.sub (.var 0) (.con (.int 1))) (.con (.int 1))), .ite (.cmp .ge (.var 2) (.bin .pow (.con (.int 10)) (.con (.int 18)))) [.asg (.sub (.var 0) (.con (.int 2))) (.var 2)] [.asg (.sub (.var 0) (.con (.int 3))) (.bin .mod (.bin .add (.bin .add (.bin .mul (.sub (.var 0) (.con (.int 3))) (.con (.int 40013))) (.bin .mod (.var 2) (.con (.int 1000003)))) (.con (.int 1))) (.con (.int 2147483647)))]] [], .ite (.cmp .gt (.sub (.var 0) (.con (.int 2))) (.con (.int 0))) [.asg (.var 3) (.bin .mod (.sub (.var 0) (.con (.int 2))) (.var 1)), .asg (.sub (.var 0) (.con (.int 2))) (.bin .fdiv (.sub (.var 0) (.con (.int 2))) (.var 1)), .ret (.take 3)] [], .asg (.sub (.var 0) (.con (.int 4))) (.bin .add (.sub (.var 0) (.con (.int 4))) (.con (.int 1))), .asg (.sub (.var 0) (.con (.int 3))) (.bin .mod (.bin .add (.bin .add (.bin .mul (.sub (.var 0) (.con (.int 3))) (.con (.int 48271))) (.con (.int 12820163))) (.sub (.var 0) (.con (.int 4)))) (.con (.int 2147483647))), .ret (.bin .mod (.bin .fdiv (.bin .mod (.bin .mul (.bin .add (.bin .mod (.sub (.var 0) (.con (.int 3))) (.con (.int 65521))) (.con (.int 1))) (.bin .add (.bin .fdiv (.sub (.var 0) (.con (.int 3))) (.con (.int 65521))) (.con (.int 7919)))) (.con (.int 1000003))) (.con (.int 7))) (.var 1))] }),
  (3, { params := 2, slots := 3, body := [.ret (.bm1 .join (.con (.str "")) (.comp (.var 2) (.range1 (.var 1)) none (.sub (.con (.str "abcdefghijklmnopqrstuvwxyz")) (.call 2 [.var 0, .con (.int 26)]))))] }),
  (4, { params := 2, slots := 3, body := [.ite (.cmp .ne (.var 1) (.con (.str ""))) [.ret (.bin .add (.var 1) (.call 3 [.var 0, .bin .add (.con (.int 1)) (.call 2 [.var 0, .con (.int 2)])]))] [], .ite (.cmp .eq (.call 2 [.var 0, .con (.int 6)]) (.con (.int 0))) [.asg (.var 2) (.lst [.con (.str "markss"), .con (.str "mark"), .con (.str "way"), .con (.str "wayss"), .con (.str "bars"), .con (.str "ba"), .con (.str "somex")]), .asg (.var 2) (.bin .add (.var 2) (.lst [.con (.str "eachx"), .con (.str "note"), .con (.str "no"), .con (.str "ands"), .con (.str "ors"), .con (.str "o"), .con (.str "iss")])), .ret (.sub (.var 2) (.call 2 [.var 0, .con (.int 14)]))] [], .ret (.call 3 [.var 0, .bin .add (.con (.int 1)) (.call 2 [.var 0, .con (.int 8)])])] }),
  (8, { params := 2, slots := 7, body := [.asg (.var 2) (.con (.str "")), .ite (.cmp .eq (.call 2 [.var 0, .con (.int 3)]) (.con (.int 0))) [.asg (.var 2) (.call 3 [.var 0, .bin .add (.con (.int 1)) (.call 2 [.var 0, .con (.int 6)])])] [], .asg (.var 3) (.lst [.con (.str "marks"), .con (.str "ways"), .con (.str "bar"), .con (.str "some"), .con (.str "each"), .con (.str "not"), .con (.str "and"), .con (.str "or"), .con (.str "is")]), .for_ (.var 4) (.range1 (.var 1)) [.asg (.var 5) (.call 4 [.var 0, .var 2]), .asg (.var 6) (.con (.int 0)), .while_ (.cmp .in_ (.var 5) (.var 3)) [.asg (.var 5) (.bin .mul (.sub (.con (.str "abcdefghijklmnopqrstuvwxyz")) (.bin .mod (.var 6) (.con (.int 26)))) (.bin .add (.con (.int 1)) (.bin .fdiv (.var 6) (.con (.int 26))))), .asg (.var 6) (.bin .add (.var 6) (.con (.int 1)))], .mut (.var 3) .append [.var 5]], .ret (.blt .tuple (.slice (.var 3) (some (.con (.int 9))) none))] }),
  (5, { params := 4, slots := 4, body := [.ite (.cmp .lt (.var 3) (.var 2)) [.ret (.sub (.sub (.sub (.var 1) (.var 2)) (.con (.int 1))) (.var 3))] [], .ret (.sub (.sub (.sub (.var 0) (.con (.int 1))) (.sub (.sub (.sub (.var 1) (.var 3)) (.con (.int 1))) (.var 2))) (.con (.int 1)))] }),
  (7, { params := 3, slots := 7, body := [.asg (.var 3) (.lst []), .for_ (.var 4) (.range1 (.blt .len (.var 2))) [.asg (.var 5) (.sub (.var 2) (.var 4)), .mut (.var 3) .append [.tup [.sub (.sub (.var 1) (.var 5)) (.con (.int 0)), .blt .tuple (.comp (.var 6) (.seq (.slice (.var 2) none (some (.var 4)))) none (.call 5 [.var 0, .var 1, .var 5, .var 6]))]]], .ret (.blt .tuple (.var 3))] }),
  (6, { params := 0, slots := 0, body := [.ret (.lst [.tup [.con (.int 0), .con (.int 1), .con (.int 2)], .tup [.con (.int 0), .con (.int 2), .con (.int 1)], .tup [.con (.int 1), .con (.int 0), .con (.int 2)], .tup [.con (.int 1), .con (.int 2), .con (.int 0)], .tup [.con (.int 2), .con (.int 0), .con (.int 1)], .tup [.con (.int 2), .con (.int 1), .con (.int 0)]])] }),
  (13, { params := 2, slots := 3, body := [.ret (.blt .min1 (.comp (.var 2) (.seq (.call 6 [])) none (.call 7 [.var 0, .var 1, .var 2])))] }),
  (12, { params := 2, slots := 3, body := [.asg (.var 2) (.sub (.lst [.lst [.tup [.con (.int 0)]], .lst [.tup [.con (.int 0), .con (.int 1)], .tup [.con (.int 1), .con (.int 0)]], .lst [.tup [.con (.int 0), .con (.int 1), .con (.int 2)], .tup [.con (.int 1), .con (.int 0), .con (.int 2)], .tup [.con (.int 0), .con (.int 2), .con (.int 1)]]]) (.bin .sub (.var 1) (.con (.int 1)))), .ret (.sub (.var 2) (.call 2 [.var 0, .blt .len (.var 2)]))] }),
  (11, { params := 4, slots := 7, body := [.asg (.var 4) (.call 8 [.var 0, .bin .add (.var 1) (.blt .len (.var 2))]), .asg (.var 5) (.blt .tuple (.comp (.var 6) (.range1 (.blt .len (.var 2))) none (.tup [.sub (.var 4) (.bin .add (.var 1) (.var 6)), .sub (.var 2) (.var 6)]))), .ret (.tup [.slice (.var 4) none (some (.var 1)), .var 5, .blt .tuple (.blt .sorted (.var 3))])] }),
  (14, { params := 3, slots := 6, body := [.asg (.var 3) (.lst []), .for_ (.var 4) (.range1 (.con (.int 3))) [.mut (.var 3) .append [.tup [.call 2 [.var 0, .var 1], .blt .tuple (.comp (.var 5) (.range1 (.var 4)) none (.call 2 [.var 0, .var 2]))]]], .ret (.blt .tuple (.var 3))] }),
  (10, { params := 1, slots := 2, body := [.asg (.var 1) (.lst [.tup [.con (.int 1), .con (.int 1)], .tup [.con (.int 2), .con (.int 1)], .tup [.con (.int 3), .con (.int 1)], .tup [.con (.int 1), .con (.int 2)], .tup [.con (.int 1), .con (.int 2)], .tup [.con (.int 2), .con (.int 2)], .tup [.con (.int 2), .con (.int 2)], .tup [.con (.int 3), .con (.int 2)], .tup [.con (.int 1), .con (.int 3)], .tup [.con (.int 1), .con (.int 3)], .tup [.con (.int 2), .con (.int 3)]]), .ret (.sub (.var 1) (.call 2 [.var 0, .con (.int 11)]))] }),
  (33, { params := 1, slots := 6, body := [.asg (.tup [.var 1, .var 2]) (.call 10 [.var 0]), .asg (.var 3) (.call 11 [.var 0, .var 1, .call 12 [.var 0, .var 2], .tup []]), .asg (.var 4) (.dict []), .for_ (.var 5) (.range1 (.call 2 [.var 0, .con (.int 9)])) [.asg (.sub (.var 4) (.call 13 [.var 3, .call 14 [.var 0, .var 1, .var 2]])) (.con (.bl true))], .ret (.tup [.sub (.var 3) (.con (.int 0)), .sub (.var 3) (.con (.int 1)), .blt .tuple (.blt .sorted (.var 4))])] }),
  (27, { params := 1, slots := 2, body := [.asg (.var 1) (.lst [.tup [.tup [.con (.int 1), .con (.int 0)], .dict [.tup [.con (.int 0), .con (.int 0)], .lst [.con (.int 0)]], .con (.int 3)], .tup [.tup [.con (.int 0), .con (.int 2), .con (.int 1)], .dict [.tup [.con (.int 1), .con (.int 1)], .lst [.con (.int 1)]], .con (.int 2)], .tup [.tup [.con (.int 0), .con (.int 1)], .dict [.tup [.con (.int 1), .con (.int 1)], .lst [.con (.int 1)]], .con (.int 3)]]), .mut (.var 1) .append [.tup [.tup [.con (.int 0), .con (.int 1)], .dict [.tup [.con (.int 1), .con (.int 1)], .lst [.con (.int 1)], .tup [.con (.int 0), .con (.int 0)], .lst [.con (.int 1)]], .con (.int 3)]], .mut (.var 1) .append [.tup [.tup [.con (.int 0), .con (.int 1)], .dict [.tup [.con (.int 1), .con (.int 1)], .lst []], .con (.int 1)]], .mut (.var 1) .append [.tup [.tup [.con (.int 0), .con (.int 2), .con (.int 1)], .dict [.tup [.con (.int 0), .con (.int 0)], .lst [.con (.int 0)], .tup [.con (.int 0), .con (.int 1)], .lst [.con (.int 1)], .tup [.con (.int 1), .con (.int 0)], .lst [.con (.int 1)], .tup [.con (.int 1), .con (.int 1)], .lst [.con (.int 1)]], .con (.int 2)]], .mut (.var 1) .append [.tup [.tup [.con (.int 1), .con (.int 0)], .dict [], .con (.int 3)]], .mut (.var 1) .append [.tup [.tup [.con (.int 0), .con (.int 1), .con (.int 2)], .dict [.tup [.con (.int 2), .con (.int 2)], .lst [.con (.int 2)], .tup [.con (.int 1), .con (.int 2)], .lst [.con (.int 1)], .tup [.con (.int 2), .con (.int 1)], .lst [.con (.int 1)], .tup [.con (.int 1), .con (.int 1)], .lst [.con (.int 1), .con (.int 2)]], .con (.int 2)]], .mut (.var 1) .append [.tup [.tup [.con (.int 0), .con (.int 1), .con (.int 2)], .dict [.tup [.con (.int 0), .con (.int 0)], .lst [.con (.int 0), .con (.int 1)]], .con (.int 2)]], .ret (.sub (.var 1) (.call 2 [.var 0, .con (.int 9)]))] }),
  (29, { params := 5, slots := 10, body := [.asg (.var 5) (.dict [.tup [.con (.int 1), .con (.int 0)], .var 2, .tup [.con (.int 2), .con (.int 0)], .var 3, .tup [.con (.int 2), .con (.int 1)], .var 4]), .for_ (.var 6) (.seq (.blt .list (.var 5))) [.asg (.sub (.var 5) (.tup [.sub (.var 6) (.con (.int 1)), .sub (.var 6) (.con (.int 0))])) (.sub (.var 0) (.sub (.var 5) (.var 6)))], .for_ (.tup [.var 7, .var 8, .var 9]) (.seq (.call 6 [])) [.ite (.cmp .notin (.sub (.var 5) (.tup [.var 7, .var 9])) (.bm .get2 (.var 1) [.tup [.sub (.var 5) (.tup [.var 7, .var 8]), .sub (.var 5) (.tup [.var 8, .var 9])], .lst [.sub (.var 5) (.tup [.var 7, .var 9])]])) [.ret (.con (.bl true))] []], .ret (.con (.bl false))] }),
  (28, { params := 3, slots := 13, body := [.asg (.var 3) (.blt .len (.var 1)), .asg (.var 4) (.lst [.lst [.tup [.con (.int 0)]], .lst [.tup [.con (.int 0), .con (.int 1)], .tup [.con (.int 1), .con (.int 0)]]]), .mut (.var 4) .append [.lst [.tup [.con (.int 0), .con (.int 1), .con (.int 2)], .tup [.con (.int 0), .con (.int 2), .con (.int 1)], .tup [.con (.int 2), .con (.int 0), .con (.int 1)], .tup [.con (.int 2), .con (.int 1), .con (.int 0)]]], .asg (.var 5) (.sub (.var 4) (.bin .sub (.var 3) (.con (.int 1)))), .ite (.cmp .eq (.var 1) (.tup [.con (.int 0), .con (.int 1), .con (.int 2)])) [.asg (.var 5) (.call 6 [])] [], .asg (.var 6) (.sub (.var 5) (.call 2 [.var 0, .blt .len (.var 5)])), .asg (.var 7) (.bin .mul (.lst [.con (.int 0)]) (.var 3)), .for_ (.var 8) (.range1 (.var 3)) [.asg (.sub (.var 7) (.sub (.var 6) (.var 8))) (.sub (.var 6) (.sub (.var 1) (.var 8)))], .asg (.var 9) (.dict []), .for_ (.tup [.var 10, .var 11]) (.seq (.var 2)) [.asg (.sub (.var 9) (.tup [.sub (.var 6) (.var 10), .sub (.var 6) (.var 11)])) (.comp (.var 12) (.seq (.sub (.var 2) (.tup [.var 10, .var 11]))) none (.sub (.var 6) (.var 12)))], .ret (.tup [.blt .tuple (.var 7), .var 9])] }),
  (31, { params := 1, slots := 15, body := [.asg (.var 1) (.call 2 [.var 0, .con (.int 7)]), .ite (.cmp .eq (.var 1) (.con (.int 0))) [.ret (.call 25 [.var 0])] [], .ite (.cmp .eq (.var 1) (.con (.int 1))) [.ret (.call 26 [.var 0])] [], .asg (.tup [.var 2, .var 3, .var 4]) (.call 27 [.var 0]), .asg (.var 5) (.bin .add (.con (.int 1)) (.call 2 [.var 0, .var 4])), .asg (.tup [.var 2, .var 3]) (.call 28 [.var 0, .var 2, .var 3]), .asg (.var 6) (.call 11 [.var 0, .var 5, .var 2, .tup []]), .asg (.var 7) (.dict []), .asg (.var 8) (.blt .len (.var 2)), .for_ (.var 9) (.range1 (.bin .mul (.bin .mul (.var 8) (.var 8)) (.var 8))) [.par [10, 11] [.bin .mod (.var 9) (.var 8), .bin .mod (.bin .fdiv (.var 9) (.var 8)) (.var 8)], .asg (.var 12) (.bin .fdiv (.bin .fdiv (.var 9) (.var 8)) (.var 8)), .ite (.call 29 [.var 2, .var 3, .var 10, .var 11, .var 12]) [.for_ (.var 13) (.seq (.call 30 [.var 5])) [.asg (.var 14) (.tup [.tup [.sub (.var 13) (.con (.int 0)), .tup []], .tup [.sub (.var 13) (.con (.int 1)), .tup [.var 10]]]), .asg (.sub (.var 7) (.call 13 [.var 6, .bin .add (.var 14) (.tup [.tup [.sub (.var 13) (.con (.int 2)), .tup [.var 11, .var 12]]])])) (.con (.bl true))]] []], .ret (.tup [.sub (.var 6) (.con (.int 0)), .sub (.var 6) (.con (.int 1)), .blt .tuple (.blt .sorted (.var 7))])] }),
  (30, { params := 1, slots := 5, body := [.asg (.var 1) (.lst []), .for_ (.var 2) (.range1 (.var 0)) [.for_ (.var 3) (.range2 (.var 2) (.var 0)) [.asg (.var 1) (.bin .add (.var 1) (.comp (.var 4) (.range2 (.var 3) (.var 0)) none (.tup [.var 2, .var 3, .var 4])))]], .ret (.take 1)] }),
  (25, { params := 1, slots := 9, body := [.asg (.tup [.var 1, .var 2]) (.call 10 [.var 0]), .asg (.var 3) (.call 11 [.var 0, .var 1, .call 12 [.var 0, .var 2], .tup []]), .asg (.var 4) (.comp (.var 7) (.range1 (.var 2)) (some (.cmp .eq (.sub (.sub (.sub (.var 3) (.con (.int 1))) (.var 7)) (.con (.int 1))) (.var 7))) (.var 7)), .ite (.or [.cmp .eq (.var 4) (.lst []), .cmp .eq (.var 2) (.con (.int 1))]) [.ret (.take 3)] [], .asg (.var 5) (.sub (.var 4) (.call 2 [.var 0, .blt .len (.var 4)])), .asg (.var 6) (.dict []), .for_ (.var 7) (.range1 (.call 2 [.var 0, .con (.int 9)])) [.asg (.var 8) (.call 14 [.var 0, .var 1, .var 2]), .ite (.and [.cmp .ne (.sub (.sub (.sub (.var 8) (.con (.int 1))) (.con (.int 1))) (.con (.int 0))) (.var 5), .cmp .notin (.var 5) (.sub (.sub (.var 8) (.con (.int 2))) (.con (.int 1)))]) [.asg (.sub (.var 6) (.call 13 [.var 3, .var 8])) (.con (.bl true))] []], .ret (.tup [.sub (.var 3) (.con (.int 0)), .sub (.var 3) (.con (.int 1)), .blt .tuple (.blt .sorted (.var 6))])] }),
  (26, { params := 1, slots := 4, body := [.asg (.var 1) (.bin .add (.con (.int 1)) (.call 2 [.var 0, .con (.int 3)])), .asg (.var 2) (.comp (.var 3) (.range1 (.var 1)) (some (.cmp .eq (.call 2 [.var 0, .con (.int 2)]) (.con (.int 0)))) (.tup [.tup [.var 3, .tup []], .tup [.var 3, .tup [.con (.int 0)]], .tup [.var 3, .tup [.con (.int 0), .con (.int 0)]]])), .ret (.call 11 [.var 0, .var 1, .tup [.con (.int 0)], .var 2])] }),
  (32, { params := 1, slots := 11, body := [.asg (.var 1) (.call 2 [.var 0, .con (.int 3)]), .ite (.cmp .eq (.var 1) (.con (.int 0))) [.ret (.call 11 [.var 0, .con (.int 1), .tup [.con (.int 0), .con (.int 1)], .comp (.var 10) (.range1 (.con (.int 2))) none (.tup [.tup [.con (.int 0), .tup []], .tup [.con (.int 0), .tup [.var 10]], .tup [.con (.int 0), .tup [.var 10, .var 10]]])])] [], .ite (.cmp .eq (.var 1) (.con (.int 1))) [.asg (.var 2) (.call 11 [.var 0, .con (.int 2), .tup [.con (.int 0), .con (.int 1)], .tup []]), .asg (.var 3) (.dict []), .for_ (.var 4) (.seq (.call 30 [.con (.int 2)])) [.for_ (.tup [.var 5, .var 6, .var 7]) (.seq (.lst [.tup [.con (.int 1), .con (.int 1), .con (.int 0)], .tup [.con (.int 1), .con (.int 1), .con (.int 1)], .tup [.con (.int 1), .con (.int 0), .con (.int 1)], .tup [.con (.int 0), .con (.int 1), .con (.int 1)]])) [.asg (.var 8) (.tup [.tup [.sub (.var 4) (.con (.int 0)), .tup []], .tup [.sub (.var 4) (.con (.int 1)), .tup [.var 5]]]), .asg (.sub (.var 3) (.call 13 [.var 2, .bin .add (.var 8) (.tup [.tup [.sub (.var 4) (.con (.int 2)), .tup [.var 6, .var 7]]])])) (.con (.bl true))]], .ret (.tup [.sub (.var 2) (.con (.int 0)), .sub (.var 2) (.con (.int 1)), .blt .tuple (.blt .sorted (.var 3))])] [], .asg (.var 9) (.bin .add (.con (.int 2)) (.call 2 [.var 0, .con (.int 2)])), .asg (.var 3) (.comp (.var 4) (.range1 (.var 9)) none (.tup [.tup [.con (.int 0), .tup []], .tup [.var 4, .tup [.con (.int 0)]], .tup [.bin .sub (.var 9) (.con (.int 1)), .tup [.con (.int 0), .con (.int 0)]]])), .ret (.call 11 [.var 0, .var 9, .tup [.con (.int 0)], .slice (.var 3) none (some (.bin .add (.con (.int 1)) (.call 2 [.var 0, .var 9])))])] }),
  (19, { params := 3, slots := 7, body := [.asg (.var 3) (.lst []), .for_ (.var 4) (.range1 (.var 2)) [.asg (.var 5) (.call 2 [.var 0, .blt .len (.sub (.var 1) (.con (.int 0)))]), .mut (.var 3) .append [.tup [.var 5, .blt .tuple (.comp (.var 6) (.range1 (.var 4)) none (.call 2 [.var 0, .blt .len (.sub (.var 1) (.con (.int 1)))]))]]], .ret (.blt .tuple (.var 3))] }),
  (9, { params := 2, slots := 3, body := [.ite (.cmp .is_ (.var 1) (.con .non)) [.ret (.cmp .is_ (.var 0) (.con .non))] [], .ite (.or [.isinst (.var 1) [.bool], .isinst (.var 0) [.bool]]) [.ret (.and [.isinst (.var 1) [.bool], .isinst (.var 0) [.bool], .cmp .eq (.var 0) (.var 1)])] [], .ite (.isinst (.var 1) [.int]) [.ret (.and [.isinst (.var 0) [.int], .cmp .eq (.var 0) (.var 1)])] [], .ite (.isinst (.var 1) [.str]) [.ret (.and [.isinst (.var 0) [.str], .cmp .eq (.var 0) (.var 1)])] [], .ite (.or [.cmp .ne (.isinst (.var 1) [.tuple]) (.isinst (.var 0) [.tuple]), .cmp .ne (.isinst (.var 1) [.list]) (.isinst (.var 0) [.list])]) [.ret (.con (.bl false))] [], .ret (.and [.cmp .eq (.blt .len (.var 0)) (.blt .len (.var 1)), .blt .all (.comp (.var 2) (.range1 (.blt .len (.var 1))) none (.call 9 [.sub (.var 0) (.var 2), .sub (.var 1) (.var 2)]))])] }),
  (39, { params := 2, slots := 6, body := [.asg (.var 2) (.lst []), .for_ (.tup [.var 3, .var 4]) (.seq (.var 1)) [.mut (.var 2) .append [.bm1 .join (.con (.str " ")) (.bin .add (.lst [.sub (.sub (.var 0) (.con (.int 0))) (.var 3)]) (.comp (.var 5) (.seq (.var 4)) none (.sub (.sub (.sub (.var 0) (.con (.int 1))) (.var 5)) (.con (.int 0)))))]], .ret (.bm1 .join (.con (.str " ; ")) (.var 2))] }),
  (18, { params := 1, slots := 2, body := [.asg (.var 1) (.call 2 [.var 0, .con (.int 4)]), .ite (.cmp .eq (.var 1) (.con (.int 0))) [.ret (.call 31 [.var 0])] [], .ite (.cmp .eq (.var 1) (.con (.int 1))) [.ret (.call 32 [.var 0])] [], .ret (.call 33 [.var 0])] }),
  (35, { params := 2, slots := 3, body := [.asg (.var 2) (.call 39 [.var 0, .var 1]), .ret (.and [.call 9 [.call 40 [.var 0, .var 1], .var 2], .call 9 [.call 41 [.var 0, .var 2], .var 1]])] }),
  (42, { params := 1, slots := 3, body := [.asg (.var 1) (.call 18 [.var 0]), .asg (.var 2) (.call 2 [.var 0, .con (.int 10)]), .ite (.cmp .eq (.call 2 [.var 0, .con (.int 8)]) (.con (.int 0))) [.asg (.var 2) (.call 2 [.var 0, .con (.int 25)])] [], .ret (.tup [.var 1, .call 19 [.var 0, .var 1, .var 2]])] }),
  (354, { params := 1, slots := 7, body := [.asg (.var 1) (.call 17 [.var 0]), .asg (.tup [.var 2, .var 3]) (.call 42 [.var 1]), .asg (.tup [.var 4, .var 5]) (.call 42 [.var 1]), .for_ (.var 6) (.range1 (.bin .add (.blt2 .min2 (.con (.int 4)) (.blt .len (.var 3))) (.con (.int 1)))) [.ite (.not (.call 35 [.var 2, .slice (.var 3) none (some (.var 6))])) [.ret (.con (.bl false))] []], .ite (.or [.not (.call 35 [.var 2, .var 3]), .not (.call 35 [.var 4, .var 5])]) [.ret (.con (.bl false))] [], .ite (.and [.cmp .eq (.blt .len (.sub (.var 4) (.con (.int 0)))) (.blt .len (.sub (.var 2) (.con (.int 0)))), .cmp .eq (.blt .len (.sub (.var 4) (.con (.int 1)))) (.blt .len (.sub (.var 2) (.con (.int 1)))), .not (.call 35 [.var 4, .var 3])]) [.ret (.con (.bl false))] [], .ret (.call 35 [.var 2, .var 3])] })]
def prog_mth : List ((Nat × Nat) × Nat) := []
def prog_ini : List (Nat × Nat) := []
def prog_gl : List (Nat × D) := []
def prog_exb : List (Nat × List Nat) := [(1, [1, 2]),
  (3, [3, 1, 2])]
def prog_exf : List (Nat × List Nat) := [(1, []),
  (3, [1])]
def prog : Prog := ⟨fun n => prog_df.lookup n, fun c m => prog_mth.lookup (c, m), fun c => prog_ini.lookup c, fun g => prog_gl.lookup g, fun c => (prog_exb.lookup c).getD [], fun c => (prog_exf.lookup c).getD [], 1000000⟩

def top (i : Nat) : Stmt := PySem.Challenge.pw_layworld_k07_worlds_written_and_read.main.body.getD i (.Pass ⟨0, 0, 0, 0⟩)
abbrev e_show_point : DefE := ⟨⟨("show_point", none), "show_point", "show_point", defArgs (top 4), defBody (top 4), defScope (top 4), [], []⟩, ["rule", "point", "mark", "ways", "way"], ["rule", "point"]⟩
theorem b_show_point : BindOk e_show_point := fun _ _ _ _ _ _ us hl => match us, hl with | [_, _], _ => rfl
abbrev e_show_world : DefE := ⟨⟨("show_world", none), "show_world", "show_world", defArgs (top 5), defBody (top 5), defScope (top 5), [], []⟩, ["rule", "world", "point"], ["rule", "world"]⟩
theorem b_show_world : BindOk e_show_world := fun _ _ _ _ _ _ us hl => match us, hl with | [_, _], _ => rfl
abbrev e_read_point : DefE := ⟨⟨("read_point", none), "read_point", "read_point", defArgs (top 6), defBody (top 6), defScope (top 6), [], []⟩, ["rule", "text", "many", "row", "words", "names", "name", "there", "word"], ["rule", "text", "many", "row"]⟩
theorem b_read_point : BindOk e_read_point := fun _ _ _ _ _ _ us hl => match us, hl with | [_, _, _, _], _ => rfl
abbrev e_read_points : DefE := ⟨⟨("read_points", none), "read_points", "read_points", defArgs (top 7), defBody (top 7), defScope (top 7), [], []⟩, ["rule", "text", "row", "points", "k"], ["rule", "text", "row"]⟩
theorem b_read_points : BindOk e_read_points := fun _ _ _ _ _ _ us hl => match us, hl with | [_, _, _], _ => rfl
abbrev e_read_world : DefE := ⟨⟨("read_world", none), "read_world", "read_world", defArgs (top 8), defBody (top 8), defScope (top 8), [], []⟩, ["rule", "text"], ["rule", "text"]⟩
theorem b_read_world : BindOk e_read_world := fun _ _ _ _ _ _ us hl => match us, hl with | [_, _], _ => rfl
abbrev e_law_flow : DefE := ⟨⟨("_law_flow", none), "_law_flow", "_law_flow", defArgs (top 10), defBody (top 10), defScope (top 10), [], []⟩, ["_law_script"], ["_law_script"]⟩
theorem b_law_flow : BindOk e_law_flow := fun _ _ _ _ _ _ us hl => match us, hl with | [_], _ => rfl
abbrev e_law_pick : DefE := ⟨⟨("_law_pick", none), "_law_pick", "_law_pick", defArgs (top 11), defBody (top 11), defScope (top 11), [], []⟩, ["_law_flow_here", "_law_many", "_law_cell", "_law_digit"], ["_law_flow_here", "_law_many"]⟩
theorem b_law_pick : BindOk e_law_pick := fun _ _ _ _ _ _ us hl => match us, hl with | [_, _], _ => rfl
abbrev e_law_letters : DefE := ⟨⟨("_law_letters", none), "_law_letters", "_law_letters", defArgs (top 12), defBody (top 12), defScope (top 12), [], []⟩, ["_law_flow_here", "_law_many", "_law_k"], ["_law_flow_here", "_law_many"]⟩
theorem b_law_letters : BindOk e_law_letters := fun _ _ _ _ _ _ us hl => match us, hl with | [_, _], _ => rfl
abbrev e_law_name : DefE := ⟨⟨("_law_name", none), "_law_name", "_law_name", defArgs (top 13), defBody (top 13), defScope (top 13), [], []⟩, ["_law_flow_here", "_law_stem", "_law_near"], ["_law_flow_here", "_law_stem"]⟩
theorem b_law_name : BindOk e_law_name := fun _ _ _ _ _ _ us hl => match us, hl with | [_, _], _ => rfl
abbrev e_law_names : DefE := ⟨⟨("_law_names", none), "_law_names", "_law_names", defArgs (top 14), defBody (top 14), defScope (top 14), [], []⟩, ["_law_flow_here", "_law_many", "_law_stem", "_law_names_here", "_law_k", "_law_name_here", "_law_spare"], ["_law_flow_here", "_law_many"]⟩
theorem b_law_names : BindOk e_law_names := fun _ _ _ _ _ _ us hl => match us, hl with | [_, _], _ => rfl
abbrev e_law_between : DefE := ⟨⟨("_law_between", none), "_law_between", "_law_between", defArgs (top 15), defBody (top 15), defScope (top 15), [], []⟩, ["_law_rule_here", "_law_world", "_law_i", "_law_j"], ["_law_rule_here", "_law_world", "_law_i", "_law_j"]⟩
theorem b_law_between : BindOk e_law_between := fun _ _ _ _ _ _ us hl => match us, hl with | [_, _, _, _], _ => rfl
abbrev e_law_part : DefE := ⟨⟨("_law_part", none), "_law_part", "_law_part", defArgs (top 16), defBody (top 16), defScope (top 16), [], []⟩, ["_law_rule_here", "_law_world", "_law_points", "_law_told", "_law_k", "_law_i", "_law_j"], ["_law_rule_here", "_law_world", "_law_points"]⟩
theorem b_law_part : BindOk e_law_part := fun _ _ _ _ _ _ us hl => match us, hl with | [_, _, _], _ => rfl
abbrev e_law_turns : DefE := ⟨⟨("_law_turns", none), "_law_turns", "_law_turns", defArgs (top 17), defBody (top 17), defScope (top 17), [], []⟩, [], []⟩
theorem b_law_turns : BindOk e_law_turns := fun _ _ _ _ _ _ us hl => match us, hl with | [], _ => rfl
abbrev e_law_figure : DefE := ⟨⟨("_law_figure", none), "_law_figure", "_law_figure", defArgs (top 18), defBody (top 18), defScope (top 18), [], []⟩, ["_law_rule_here", "_law_three", "_law_points"], ["_law_rule_here", "_law_three"]⟩
theorem b_law_figure : BindOk e_law_figure := fun _ _ _ _ _ _ us hl => match us, hl with | [_, _], _ => rfl
abbrev e_law_backs : DefE := ⟨⟨("_law_backs", none), "_law_backs", "_law_backs", defArgs (top 19), defBody (top 19), defScope (top 19), [], []⟩, ["_law_flow_here", "_law_many", "_law_menu"], ["_law_flow_here", "_law_many"]⟩
theorem b_law_backs : BindOk e_law_backs := fun _ _ _ _ _ _ us hl => match us, hl with | [_, _], _ => rfl
abbrev e_law_rule_of : DefE := ⟨⟨("_law_rule_of", none), "_law_rule_of", "_law_rule_of", defArgs (top 20), defBody (top 20), defScope (top 20), [], []⟩, ["_law_flow_here", "_law_marks", "_law_backs_here", "_law_barred", "_law_names_here", "_law_ways", "_law_k"], ["_law_flow_here", "_law_marks", "_law_backs_here", "_law_barred"]⟩
theorem b_law_rule_of : BindOk e_law_rule_of := fun _ _ _ _ _ _ us hl => match us, hl with | [_, _, _, _], _ => rfl
abbrev e_law_free_three : DefE := ⟨⟨("_law_free_three", none), "_law_free_three", "_law_free_three", defArgs (top 21), defBody (top 21), defScope (top 21), [], []⟩, ["_law_flow_here", "_law_marks", "_law_ways", "_law_told", "_law_k", "_law_j"], ["_law_flow_here", "_law_marks", "_law_ways"]⟩
theorem b_law_free_three : BindOk e_law_free_three := fun _ _ _ _ _ _ us hl => match us, hl with | [_, _, _], _ => rfl
abbrev e_law_sizes : DefE := ⟨⟨("_law_sizes", none), "_law_sizes", "_law_sizes", defArgs (top 22), defBody (top 22), defScope (top 22), [], []⟩, ["_law_flow_here", "_law_menu"], ["_law_flow_here"]⟩
theorem b_law_sizes : BindOk e_law_sizes := fun _ _ _ _ _ _ us hl => match us, hl with | [_], _ => rfl
abbrev e_law_any_rule : DefE := ⟨⟨("_law_any_rule", none), "_law_any_rule", "_law_any_rule", defArgs (top 23), defBody (top 23), defScope (top 23), [], []⟩, ["_law_flow_here", "_law_marks", "_law_ways", "_law_rule_here", "_law_barred", "_law_k"], ["_law_flow_here"]⟩
theorem b_law_any_rule : BindOk e_law_any_rule := fun _ _ _ _ _ _ us hl => match us, hl with | [_], _ => rfl
abbrev e_law_laying_kind : DefE := ⟨⟨("_law_laying_kind", none), "_law_laying_kind", "_law_laying_kind", defArgs (top 24), defBody (top 24), defScope (top 24), [], []⟩, ["_law_flow_here", "_law_menu"], ["_law_flow_here"]⟩
theorem b_law_laying_kind : BindOk e_law_laying_kind := fun _ _ _ _ _ _ us hl => match us, hl with | [_], _ => rfl
abbrev e_law_breaks : DefE := ⟨⟨("_law_breaks", none), "_law_breaks", "_law_breaks", defArgs (top 25), defBody (top 25), defScope (top 25), [], []⟩, ["_law_backs_here", "_law_must", "_law_to_one", "_law_to_two", "_law_between_here", "_law_to", "_law_pair", "_law_x", "_law_y", "_law_z"], ["_law_backs_here", "_law_must", "_law_to_one", "_law_to_two", "_law_between_here"]⟩
theorem b_law_breaks : BindOk e_law_breaks := fun _ _ _ _ _ _ us hl => match us, hl with | [_, _, _, _, _], _ => rfl
abbrev e_law_numbered : DefE := ⟨⟨("_law_numbered", none), "_law_numbered", "_law_numbered", defArgs (top 26), defBody (top 26), defScope (top 26), [], []⟩, ["_law_flow_here", "_law_backs_here", "_law_must", "_law_many", "_law_menu", "_law_some", "_law_numbers", "_law_told", "_law_k", "_law_other", "_law_u", "_law_v", "_law_w"], ["_law_flow_here", "_law_backs_here", "_law_must"]⟩
theorem b_law_numbered : BindOk e_law_numbered := fun _ _ _ _ _ _ us hl => match us, hl with | [_, _, _], _ => rfl
abbrev e_law_laying_rule : DefE := ⟨⟨("_law_laying_rule", none), "_law_laying_rule", "_law_laying_rule", defArgs (top 27), defBody (top 27), defScope (top 27), [], []⟩, ["_law_flow_here", "_law_form", "_law_backs_here", "_law_must", "_law_most", "_law_marks", "_law_rule_here", "_law_barred", "_law_many", "_law_at", "_law_one", "_law_two", "_law_between_here", "_law_some", "_law_first"], ["_law_flow_here"]⟩
theorem b_law_laying_rule : BindOk e_law_laying_rule := fun _ _ _ _ _ _ us hl => match us, hl with | [_], _ => rfl
abbrev e_law_rising : DefE := ⟨⟨("_law_rising", none), "_law_rising", "_law_rising", defArgs (top 28), defBody (top 28), defScope (top 28), [], []⟩, ["_law_marks", "_law_told", "_law_i", "_law_j", "_law_k"], ["_law_marks"]⟩
theorem b_law_rising : BindOk e_law_rising := fun _ _ _ _ _ _ us hl => match us, hl with | [_], _ => rfl
abbrev e_law_free_rule : DefE := ⟨⟨("_law_free_rule", none), "_law_free_rule", "_law_free_rule", defArgs (top 29), defBody (top 29), defScope (top 29), [], []⟩, ["_law_flow_here", "_law_marks", "_law_ways", "_law_rule_here", "_law_own", "_law_free", "_law_barred", "_law_k", "_law_three"], ["_law_flow_here"]⟩
theorem b_law_free_rule : BindOk e_law_free_rule := fun _ _ _ _ _ _ us hl => match us, hl with | [_], _ => rfl
abbrev e_law_one_way_rule : DefE := ⟨⟨("_law_one_way_rule", none), "_law_one_way_rule", "_law_one_way_rule", defArgs (top 30), defBody (top 30), defScope (top 30), [], []⟩, ["_law_flow_here", "_law_marks", "_law_barred", "_law_k"], ["_law_flow_here"]⟩
theorem b_law_one_way_rule : BindOk e_law_one_way_rule := fun _ _ _ _ _ _ us hl => match us, hl with | [_], _ => rfl
abbrev e_law_unlaying_rule : DefE := ⟨⟨("_law_unlaying_rule", none), "_law_unlaying_rule", "_law_unlaying_rule", defArgs (top 31), defBody (top 31), defScope (top 31), [], []⟩, ["_law_flow_here", "_law_form", "_law_rule_here", "_law_barred", "_law_some", "_law_one", "_law_two", "_law_between_here", "_law_first", "_law_marks", "_law_k"], ["_law_flow_here"]⟩
theorem b_law_unlaying_rule : BindOk e_law_unlaying_rule := fun _ _ _ _ _ _ us hl => match us, hl with | [_], _ => rfl
abbrev e_law_any_world : DefE := ⟨⟨("_law_any_world", none), "_law_any_world", "_law_any_world", defArgs (top 32), defBody (top 32), defScope (top 32), [], []⟩, ["_law_flow_here", "_law_rule_here", "_law_many", "_law_told", "_law_k", "_law_mark", "_law_j"], ["_law_flow_here", "_law_rule_here", "_law_many"]⟩
theorem b_law_any_world : BindOk e_law_any_world := fun _ _ _ _ _ _ us hl => match us, hl with | [_, _, _], _ => rfl
abbrev e_law_alike : DefE := ⟨⟨("_law_alike", none), "_law_alike", "_law_alike", defArgs (top 33), defBody (top 33), defScope (top 33), [], []⟩, ["_law_found", "_law_due", "_law_k"], ["_law_found", "_law_due"]⟩
theorem b_law_alike : BindOk e_law_alike := fun _ _ _ _ _ _ us hl => match us, hl with | [_, _], _ => rfl
abbrev e_law_world_text : DefE := ⟨⟨("_law_world_text", none), "_law_world_text", "_law_world_text", defArgs (top 34), defBody (top 34), defScope (top 34), [], []⟩, ["_law_rule_here", "_law_world", "_law_points", "_law_mark", "_law_to", "_law_k"], ["_law_rule_here", "_law_world"]⟩
theorem b_law_world_text : BindOk e_law_world_text := fun _ _ _ _ _ _ us hl => match us, hl with | [_, _], _ => rfl
abbrev e_law_rule : DefE := ⟨⟨("_law_rule", none), "_law_rule", "_law_rule", defArgs (top 35), defBody (top 35), defScope (top 35), [], []⟩, ["_law_flow_here", "_law_form"], ["_law_flow_here"]⟩
theorem b_law_rule : BindOk e_law_rule := fun _ _ _ _ _ _ us hl => match us, hl with | [_], _ => rfl
abbrev e_law_holds : DefE := ⟨⟨("_law_holds", none), "_law_holds", "_law_holds", defArgs (top 36), defBody (top 36), defScope (top 36), [], []⟩, ["_law_rule_here", "_law_world", "_law_due"], ["_law_rule_here", "_law_world"]⟩
theorem b_law_holds : BindOk e_law_holds := fun _ _ _ _ _ _ us hl => match us, hl with | [_, _], _ => rfl
abbrev e_law_drawn : DefE := ⟨⟨("_law_drawn", none), "_law_drawn", "_law_drawn", defArgs (top 37), defBody (top 37), defScope (top 37), [], []⟩, ["_law_flow_here", "_law_rule_here", "_law_many"], ["_law_flow_here"]⟩
theorem b_law_drawn : BindOk e_law_drawn := fun _ _ _ _ _ _ us hl => match us, hl with | [_], _ => rfl
abbrev e_law : DefE := ⟨⟨("law", none), "law", "law", defArgs (top 38), defBody (top 38), defScope (top 38), [], []⟩, ["_law_script", "_law_flow_here", "_law_one", "_law_world", "_law_other", "_law_second", "_law_k"], ["_law_script"]⟩
theorem b_law : BindOk e_law := fun _ _ _ _ _ _ us hl => match us, hl with | [_], _ => rfl
def tb : Tb := ⟨[(36, e_show_point), (40, e_show_world), (37, e_read_point), (38, e_read_points), (41, e_read_world), (17, e_law_flow), (2, e_law_pick), (3, e_law_letters), (4, e_law_name), (8, e_law_names), (5, e_law_between), (7, e_law_part), (6, e_law_turns), (13, e_law_figure), (12, e_law_backs), (11, e_law_rule_of), (14, e_law_free_three), (10, e_law_sizes), (33, e_law_any_rule), (27, e_law_laying_kind), (29, e_law_breaks), (28, e_law_numbered), (31, e_law_laying_rule), (30, e_law_rising), (25, e_law_free_rule), (26, e_law_one_way_rule), (32, e_law_unlaying_rule), (19, e_law_any_world), (9, e_law_alike), (39, e_law_world_text), (18, e_law_rule), (35, e_law_holds), (42, e_law_drawn), (354, e_law)], []⟩
theorem h1 : tb.fns.all (okD tb prog) = true := by decide +kernel
theorem all_cons {α : Type} {p : α → Prop} {x : α} {l : List α} (h : p x) (t : ∀ y ∈ l, p y) : ∀ y ∈ x :: l, p y := fun y hy => (List.mem_cons.mp hy).elim (fun e => e ▸ h) (t y)
theorem h2 : ∀ q ∈ tb.fns, BindOk q.2 := (all_cons b_show_point (all_cons b_show_world (all_cons b_read_point (all_cons b_read_points (all_cons b_read_world (all_cons b_law_flow (all_cons b_law_pick (all_cons b_law_letters (all_cons b_law_name (all_cons b_law_names (all_cons b_law_between (all_cons b_law_part (all_cons b_law_turns (all_cons b_law_figure (all_cons b_law_backs (all_cons b_law_rule_of (all_cons b_law_free_three (all_cons b_law_sizes (all_cons b_law_any_rule (all_cons b_law_laying_kind (all_cons b_law_breaks (all_cons b_law_numbered (all_cons b_law_laying_rule (all_cons b_law_rising (all_cons b_law_free_rule (all_cons b_law_one_way_rule (all_cons b_law_unlaying_rule (all_cons b_law_any_world (all_cons b_law_alike (all_cons b_law_world_text (all_cons b_law_rule (all_cons b_law_holds (all_cons b_law_drawn (all_cons b_law (fun _ z => nomatch z)))))))))))))))))))))))))))))))))))
theorem h3 : ∀ q ∈ tb.fns, Own q.2 := (all_cons ⟨rfl, rfl, rfl⟩ (all_cons ⟨rfl, rfl, rfl⟩ (all_cons ⟨rfl, rfl, rfl⟩ (all_cons ⟨rfl, rfl, rfl⟩ (all_cons ⟨rfl, rfl, rfl⟩ (all_cons ⟨rfl, rfl, rfl⟩ (all_cons ⟨rfl, rfl, rfl⟩ (all_cons ⟨rfl, rfl, rfl⟩ (all_cons ⟨rfl, rfl, rfl⟩ (all_cons ⟨rfl, rfl, rfl⟩ (all_cons ⟨rfl, rfl, rfl⟩ (all_cons ⟨rfl, rfl, rfl⟩ (all_cons ⟨rfl, rfl, rfl⟩ (all_cons ⟨rfl, rfl, rfl⟩ (all_cons ⟨rfl, rfl, rfl⟩ (all_cons ⟨rfl, rfl, rfl⟩ (all_cons ⟨rfl, rfl, rfl⟩ (all_cons ⟨rfl, rfl, rfl⟩ (all_cons ⟨rfl, rfl, rfl⟩ (all_cons ⟨rfl, rfl, rfl⟩ (all_cons ⟨rfl, rfl, rfl⟩ (all_cons ⟨rfl, rfl, rfl⟩ (all_cons ⟨rfl, rfl, rfl⟩ (all_cons ⟨rfl, rfl, rfl⟩ (all_cons ⟨rfl, rfl, rfl⟩ (all_cons ⟨rfl, rfl, rfl⟩ (all_cons ⟨rfl, rfl, rfl⟩ (all_cons ⟨rfl, rfl, rfl⟩ (all_cons ⟨rfl, rfl, rfl⟩ (all_cons ⟨rfl, rfl, rfl⟩ (all_cons ⟨rfl, rfl, rfl⟩ (all_cons ⟨rfl, rfl, rfl⟩ (all_cons ⟨rfl, rfl, rfl⟩ (all_cons ⟨rfl, rfl, rfl⟩ (fun _ z => nomatch z)))))))))))))))))))))))))))))))))))
theorem h4 : ∀ q ∈ tb.gls, prog.gl q.1 = some q.2.2 := (fun _ z => nomatch z)
abbrev R : PySem.W.OpenRow := PySem.W.OpenLaw.row PySem.Challenge.rw_layworld_k07_worlds_written_and_read
abbrev hk : PySem.W.Hook := hookG 4 tb.fa tb.fd tb.gls
def ob (s : PySem.W.SharedT) : Bool × He.AlD := obsG 4 tb.fa tb.fd tb.gls (HandSHeadRun.getT s)
theorem ob_eq (s : PySem.W.SharedT) : ob s = hk.obs s.abs := obsG_eq (HandSHeadRun.getT_eq s)
theorem run (w : World) : HandSHeadRun.RunEq R (PySem.W.view R.prog [38]) hk ob 4000 ("LayError" :: "BadText" :: "show_point" :: "show_world" :: "read_point" :: "read_points" :: "read_world" :: "_law_flow" :: "_law_pick" :: "_law_letters" :: "_law_name" :: "_law_names" :: "_law_between" :: "_law_part" :: "_law_turns" :: "_law_figure" :: "_law_backs" :: "_law_rule_of" :: "_law_free_three" :: "_law_sizes" :: "_law_any_rule" :: "_law_laying_kind" :: "_law_breaks" :: "_law_numbered" :: "_law_laying_rule" :: "_law_rising" :: "_law_free_rule" :: "_law_one_way_rule" :: "_law_unlaying_rule" :: "_law_any_world" :: "_law_alike" :: "_law_world_text" :: "_law_rule" :: "_law_holds" :: "_law_drawn" :: []) w := by
  intro os
  kernel_rfl
end K07
open PySem PySem.W PySem.Calls PyProof.Rows
theorem K07.holds (hplain : ∀ ns : List Int, ns.length ≤ 63 → ∃ o m, G.callN K07.prog 100 354 [(false, .scr ns)] [] = some (.ok (o, .bl true), m)) : PySem.Challenge.rw_layworld_k07_worlds_written_and_read.Holds := by
  w_on; o_law
  refine HandSHeadRun.head_any (r := OpenLaw.row PySem.Challenge.rw_layworld_k07_worlds_written_and_read) (q := view (OpenLaw.row PySem.Challenge.rw_layworld_k07_worlds_written_and_read).prog [38]) (H := K07.hk) (ob := K07.ob) (M := 4000) (loose := ("LayError" :: "BadText" :: "show_point" :: "show_world" :: "read_point" :: "read_points" :: "read_world" :: "_law_flow" :: "_law_pick" :: "_law_letters" :: "_law_name" :: "_law_names" :: "_law_between" :: "_law_part" :: "_law_turns" :: "_law_figure" :: "_law_backs" :: "_law_rule_of" :: "_law_free_three" :: "_law_sizes" :: "_law_any_rule" :: "_law_laying_kind" :: "_law_breaks" :: "_law_numbered" :: "_law_laying_rule" :: "_law_rising" :: "_law_free_rule" :: "_law_one_way_rule" :: "_law_unlaying_rule" :: "_law_any_world" :: "_law_alike" :: "_law_world_text" :: "_law_rule" :: "_law_holds" :: "_law_drawn" :: [])) (d := HandSHeadRun.topDef (OpenLaw.row PySem.Challenge.rw_layworld_k07_worlds_written_and_read).prog 38) (kwd := []) K07.ob_eq
    (by kernel_rfl) (fun s => by kernel_rfl) K07.run (by kernel_rfl) (by kernel_rfl) (by kernel_rfl) (by rfl) (by first | assumption | decide +kernel) (by decide +kernel) ⟨rfl, rfl, rfl, rfl, rfl, by decide +kernel⟩ ?hw ?hc
  case hw => w_witness2
  case hc =>
    refine G.walk_ofG (l := PySem.Challenge.rw_layworld_k07_worlds_written_and_read) (n := 63) (k := 100) (x := "_law_script") rfl (by decide) (by kernel_rfl) ⟨rfl, by decide, by decide⟩ ?F
    intro w mg fa h Y G0 hmg0
    exact G.lawF (num := 354) (e := K07.e_law) K07.h1 K07.h2 K07.h3 K07.h4 (List.mem_of_getElem? (i := 33) rfl) rfl hplain Y G0 hmg0


theorem PySem.Challenge.cw_layworld_k07_worlds_written_and_read_holds : PySem.Challenge.rw_layworld_k07_worlds_written_and_read.Holds := by
  refine K07.holds fun ns _ => ?_
  have h := G.Pl.law07_ok (P := K07.prog) (n := 88) { hN := fun n f m many K ok h0 h1 hK => G.Pl.names1_ok (P := K07.prog) rfl rfl rfl rfl (by decide) ok h0 (by omega) hK, h2 := rfl, h5 := rfl, h6 := rfl, h7 := rfl, h13 := rfl, h12 := rfl, h11 := rfl, h14 := rfl, h10 := rfl, h25 := rfl, h26 := rfl, h27 := rfl, h28 := rfl, h29 := rfl, h30 := rfl, h31 := rfl, h33 := rfl, h32 := rfl, h18 := rfl, h17 := rfl, h19 := rfl, h42 := rfl, h9 := rfl, h35 := rfl, h36 := rfl, h37 := rfl, h38 := rfl, h39 := rfl, h40 := rfl, h41 := rfl, hlaw := rfl } ns
  obtain ⟨r, m, e, hr⟩ := h
  subst hr
  exact ⟨_, m, e⟩
