import PyProof.Rows.All
import Wide.All
import OpenK.AllK
import Wide.FinOn
import PySem.Syntax
import PySem.Sem
import PySem.Entry
import HandS.Comp
import PyProof.P3Eq
import PyProof.EqLayable
import KE.DataCmp
import KE.SortData
import HandS.ForMost
import HandS.TupAny
import HandS.Wide
import HandS.Style
import HandS.Strs
import HandS.TupSets
import KE.KeyNested
import HandS.AnyAll
import HandS.Conv
import HandS.IsInst
import HandS.Iter
import HandS.Zip
import HandS.GenOver
import PyProof.GenRules
import PyProof.GenQ
import HandS.GenList
import HandS.List
import HandS.Codes
import HandS.Dict
import HandS.Deep
import HandS.TupLen
import HandS.WordsDict
import PyProof.Rows.TupDisplay
import HandS.Small
import HandS.SetFor
import PyProof.SetRoads
import HandS.SortInts
import KE.LtSeq
import HandS.SortOrd
import HandS.Words
import HandS.Defaults
import HandS.HeadHook4
import HandS.HeadWalk
import HandS.EndTab
import KE.KStateDown
import HandS.Head0
import HandS.Head1
import HandS.Head2
import HandS.HeadEnd
import HandS.HeadHook1
import HandS.HeadHook2
import PySem.Challenge.RW_answertests_k83_mutants_killed
set_option Elab.async false
set_option linter.all false
section
/-! Ev: a small language of defs (terms E, statements S), and what it computes on plain data: no heap of the machine, tuples are values, lists, dicts and sets stand in a store. -/
namespace Ev
open PySem

/-! ### values -/
inductive Val where
  | non | bl (b : Bool) | int (i : Int) | str (s : Str) | tup (xs : List Val) | ref (n : Nat) | fn (f : Nat) | scr (ns : List Int)
  deriving Inhabited, Repr

mutual
def Val.beq : Val → Val → Bool
  | .non, .non => true
  | .bl a, .bl b => a == b
  | .int a, .int b => a == b
  | .str a, .str b => decide (a = b)
  | .tup a, .tup b => Val.beqs a b
  | .ref a, .ref b => a == b
  | .fn a, .fn b => a == b
  | .scr a, .scr b => decide (a = b)
  | _, _ => false
def Val.beqs : List Val → List Val → Bool
  | [], [] => true
  | x :: xs, y :: ys => Val.beq x y && Val.beqs xs ys
  | _, _ => false
end
mutual
theorem Val.beq_iff : ∀ (a b : Val), Val.beq a b = true ↔ a = b
  | .non, b => by cases b <;> simp [Val.beq]
  | .bl a, b => by cases b <;> simp [Val.beq]
  | .int a, b => by cases b <;> simp [Val.beq]
  | .str a, b => by cases b <;> simp [Val.beq]
  | .tup a, b => by
    cases b <;> simp [Val.beq]
    exact Val.beqs_iff a _
  | .ref a, b => by cases b <;> simp [Val.beq]
  | .fn a, b => by cases b <;> simp [Val.beq]
  | .scr a, b => by cases b <;> simp [Val.beq]
theorem Val.beqs_iff : ∀ (a b : List Val), Val.beqs a b = true ↔ a = b
  | [], [] => by simp [Val.beqs]
  | [], _ :: _ => by simp [Val.beqs]
  | _ :: _, [] => by simp [Val.beqs]
  | x :: xs, y :: ys => by simp [Val.beqs, Val.beq_iff x y, Val.beqs_iff xs ys]
end
instance : DecidableEq Val := fun a b => decidable_of_iff _ (Val.beq_iff a b)

mutual
/-- no object, no def within -/
def Val.flat : Val → Bool
  | .ref _ => false
  | .fn _ => false
  | .scr _ => false
  | .tup xs => Val.flats xs
  | _ => true
def Val.flats : List Val → Bool
  | [] => true
  | x :: xs => Val.flat x && Val.flats xs
end
def sOk (s : Str) : Bool := s.cps.all (· < 0x110000)
mutual
/-- the texts within are right -/
def Val.sok : Val → Bool
  | .str s => sOk s
  | .tup xs => Val.soks xs
  | _ => true
def Val.soks : List Val → Bool
  | [] => true
  | x :: xs => Val.sok x && Val.soks xs
end
mutual
/-- a key: ints, texts, None, tuples of them -/
def kd : Val → Bool
  | .non => true
  | .int _ => true
  | .str _ => true
  | .tup xs => kds xs
  | _ => false
def kds : List Val → Bool
  | [] => true
  | x :: xs => kd x && kds xs
end
mutual
/-- how deep -/
def Val.dep : Val → Nat
  | .tup xs => Val.deps xs + 1
  | _ => 0
def Val.deps : List Val → Nat
  | [] => 0
  | x :: xs => max (Val.dep x) (Val.deps xs)
end
mutual
/-- Python's == of flat values: True is 1 -/
def Val.eqv : Val → Val → Bool
  | .non, .non => true
  | .bl a, .bl b => a == b
  | .bl a, .int j => (if a then 1 else 0) == j
  | .int i, .bl b => i == (if b then 1 else 0)
  | .int i, .int j => i == j
  | .str x, .str y => decide (x = y)
  | .tup xs, .tup ys => Val.eqvs xs ys
  | _, _ => false
def Val.eqvs : List Val → List Val → Bool
  | [], [] => true
  | x :: xs, y :: ys => Val.eqv x y && Val.eqvs xs ys
  | _, _ => false
end
def bint (b : Bool) : Int := if b then 1 else 0
mutual
/-- Python's <; none where it would raise -/
def Val.lt : Val → Val → Option Bool
  | .bl a, .bl b => some (decide (bint a < bint b))
  | .bl a, .int j => some (decide (bint a < j))
  | .int i, .bl b => some (decide (i < bint b))
  | .int i, .int j => some (decide (i < j))
  | .str x, .str y => some (decide (x.cps.toList < y.cps.toList))
  | .tup xs, .tup ys => Val.lts xs ys
  | _, _ => none
def Val.lts : List Val → List Val → Option Bool
  | [], [] => some false
  | [], _ :: _ => some true
  | _ :: _, [] => some false
  | x :: xs, y :: ys => if Val.eqv x y then Val.lts xs ys else Val.lt x y
end
mutual
/-- the two can be compared place by place -/
def alk : Val → Val → Bool
  | .non, .non => true
  | .bl _, .bl _ => true
  | .int _, .int _ => true
  | .str _, .str _ => true
  | .tup xs, .tup ys => alks xs ys
  | _, _ => false
def alks : List Val → List Val → Bool
  | x :: xs, y :: ys => alk x y && alks xs ys
  | _, _ => true
end
mutual
/-- < of such two -/
def ltB : Val → Val → Bool
  | .bl a, .bl b => decide (bint a < bint b)
  | .int i, .int j => decide (i < j)
  | .str x, .str y => decide (x.cps.toList < y.cps.toList)
  | .tup xs, .tup ys => ltBs xs ys
  | _, _ => false
def ltBs : List Val → List Val → Bool
  | [], [] => false
  | [], _ :: _ => true
  | _ :: _, [] => false
  | x :: xs, y :: ys => if Val.eqv x y then ltBs xs ys else ltB x y
end
/-- data, not too deep -/
def datOk (x : Val) : Bool := x.flat && x.sok && decide (x.dep ≤ 50)

/-! ### the store -/
inductive Obj where
  | lst (xs : List Val) | dct (kvs : List (Val × Val)) | set (xs : List Val) | ins (c : Nat) (fs : List (Nat × Val))
  deriving DecidableEq, Repr, Inhabited
abbrev Store := List Obj

inductive R (α : Type) where
  | ok (a : α) (m : Store)
  | exc (c : Nat) (v : Val) (m : Store)
  | stuck
  deriving Repr, Inhabited
abbrev M (α : Type) := Store → R α
@[reducible] def M.pure {α : Type} (a : α) : M α := fun m => .ok a m
@[reducible] def M.bind {α β : Type} (x : M α) (f : α → M β) : M β := fun m => match x m with
  | .ok a m' => f a m'
  | .exc c v m' => .exc c v m'
  | .stuck => .stuck
instance : Monad M where
  pure := M.pure
  bind := M.bind
@[reducible] def stuck {α : Type} : M α := fun _ => .stuck
/-- where c holds -/
@[reducible] def must {α : Type} (c : Prop) [Decidable c] (x : M α) : M α := if c then x else stuck
def alloc (o : Obj) : M Val := fun m => .ok (.ref m.length) (m ++ [o])
def lim : Nat := 16777216
def newTup (xs : List Val) : M Val := must (xs.length ≤ lim) (pure (.tup xs))
def newLst (xs : List Val) : M Val := must (xs.length ≤ lim) (alloc (.lst xs))

/-! ### the language -/
inductive Bop | add | sub | mul | mod | fdiv | pow
  deriving DecidableEq, Repr
inductive Cop | eq | ne | lt | le | gt | ge | mem | nmem
  deriving DecidableEq, Repr
inductive Blt | len | int | max2 | min2 | sum | list | tuple | sorted | set | repr | str | max1
  deriving DecidableEq, Repr
inductive Mth | append | extend | pop | pop1 | get | get2 | index | values | items | setdefault | join | split | partition
  deriving DecidableEq, Repr
inductive Ty | int | bool | str | tuple
  deriving DecidableEq, Repr
inductive T | name (i : Nat) | nil | cons (t r : T)
  deriving DecidableEq, Repr
mutual
inductive E
  | non | bl (b : Bool) | int (i : Int) | str (s : Str)
  | loc (i : Nat) | con (k : Nat)
  | bin (o : Bop) (a b : E) | neg (a : E) | nt (a : E) | and (a b : E) | or (a b : E)
  | cmp (o : Cop) (a b : E) | cmp2 (o p : Cop) (a b c : E) | isN (a : E) | notN (a : E) | isB (a : E) (b : Bool) | notB (a : E) (b : Bool)
  | ite (c a b : E)
  | tup (es : Es) | lst (es : Es) | dct0 | dct1 (k v : E)
  | idx (a i : E) | sl (a lo hi : E) | sl3 (a lo hi st : E)
  | call (f : Nat) (es : Es) | callK (f : Nat) (es : Es) (perm : List Nat) | lrange (a b : E) | blt (f : Blt) (es : Es) | mth (m : Mth) (o : E) (es : Es) | isin (a : E) (t : Ty)
  | lc (elt : E) (g : Gs) | sc (elt : E) (g : Gs) | dc (k v : E) (g : Gs)
  | all (elt : E) (g : Gs) | any (elt : E) (g : Gs)
inductive Es
  | nil | cons (e : E) (r : Es)
/-- clauses: for t in it if ifs .. -/
inductive Gs
  | nil | cons (t : T) (it : It) (ifs : Es) (r : Gs)
inductive It
  | seq (e : E) | range (a b : E) | enum (e : E) | zip (a b : E) | items (e : E) | values (e : E) | rev (e : E)
end
mutual
inductive S
  | asg (t : T) (e : E) | sub (a i e : E) | aug (i : Nat) (o : Bop) (e : E) | ex (e : E) | ret (e : E)
  | ite (c : E) (a b : Ss) | whl (c : E) (b : Ss) | for (t : T) (it : It) (b : Ss) | brk | cnt | pass | never
inductive Ss
  | nil | cons (s : S) (r : Ss)
end
structure Fn where
  np : Nat
  ns : Nat
  body : Ss

/-! ### what it computes -/
abbrev Env := List (Option Val)
/-- as == tells, None where it is not served -/
def eqM (m : Store) (x y : Val) : Option Bool :=
  if x.flat && y.flat && x.sok && y.sok && decide (x.dep ≤ 60) && decide (y.dep ≤ 60) then some (Val.eqv x y) else
  match x, y with
  | .ref a, .ref b => (match m[a]?, m[b]? with
    | some (.lst xs), some (.lst ys) => if Val.flats xs && Val.flats ys && Val.soks xs && Val.soks ys && decide (Val.deps xs ≤ 50) && decide (Val.deps ys ≤ 50) then some (Val.eqvs xs ys) else none
    | _, _ => none)
  | _, _ => none
/-- a whole number, a text -/
def isIS : Val → Bool
  | .int _ => true
  | .str _ => true
  | _ => false
def isTup : Val → Bool
  | .tup _ => true
  | _ => false
/-- a key of a dict: a number, a text, a tuple of such -/
def okKey (k : Val) : Bool := match k with
  | .int _ => true
  | .str _ => true
  | .tup xs => xs.all isIS
  | _ => false
/-- a key that goes with those of a dict -/
def keyFor (ks : List Val) (k : Val) : Bool := okKey k && (ks.all fun a => isTup a == isTup k) && (!isTup k || !ks.isEmpty)
/-- a tuple of whole numbers -/
def isInt : Val → Bool
  | .int _ => true
  | _ => false
def okMem (k : Val) : Bool := match k with
  | .int _ => true
  | .tup xs => xs.all isInt
  | _ => false
/-- a thing that goes with those of a set -/
def memFor (ks : List Val) (k : Val) : Bool := okMem k && ks.all fun a => isTup a == isTup k
def findK (kvs : List (Val × Val)) (k : Val) : Option Val := match kvs with
  | [] => none
  | (a, v) :: r => if a = k then some v else findK r k
def hasK (kvs : List (Val × Val)) (k : Val) : Bool := (findK kvs k).isSome
def putKs (kvs : List (Val × Val)) (k v : Val) : List (Val × Val) := if kvs.any (fun p => decide (p.1 = k)) = true then kvs.map (fun p => if p.1 = k then (p.1, v) else p) else kvs ++ [(k, v)]
def inVs (xs : List Val) (x : Val) : Bool := xs.any fun y => Val.eqv y x
def addV (xs : List Val) (x : Val) : List Val := if x ∈ xs then xs else xs ++ [x]
/-- where an index lies -/
def ixOf (n : Nat) (i : Int) : Option Nat := if 0 ≤ i then (if i < n then some i.toNat else none) else if -(n : Int) ≤ i then some (i + n).toNat else none
/-- a slice's bound as a place among n (d where it is left out) -/
def sIx (n d : Nat) : Option Int → Nat
  | none => d
  | some v => if v < 0 then (v + (n : Int)).toNat else min v.toNat n
def partOf : Val → Option (Option Int)
  | .non => some none
  | .int i => some (some i)
  | _ => none
def cutV (xs : List Val) (lo hi : Option Int) : List Val := (xs.drop (sIx xs.length 0 lo)).take (sIx xs.length xs.length hi - sIx xs.length 0 lo)
/-- a slice with a step, from lo to the end -/
def stepV (xs : List Val) (lo st : Int) : List Val := (PySem.sliceRange (max 0 (min lo xs.length)) xs.length st).filterMap (xs[·]?)
def small (i : Int) : Bool := decide (i.natAbs < 2 ^ 62)
/-- the product is let: one factor is small, or both together are not too great -/
def mulOk (i j : Int) : Bool := decide ((-(2 ^ 64) < i ∧ i < 2 ^ 64) ∨ (-(2 ^ 64) < j ∧ j < 2 ^ 64)) || decide (i.natAbs.log2 + j.natAbs.log2 < 1000000)
def binV (o : Bop) (x y : Val) : M Val := match o, x, y with
  | .add, .int i, .int j => pure (.int (i + j))
  | .sub, .int i, .int j => pure (.int (i - j))
  | .mul, .int i, .int j => must (mulOk i j = true) (pure (.int (i * j)))
  | .mod, .int i, .int j => must (0 < j) (pure (.int (i % j)))
  | .fdiv, .int i, .int j => must (0 < j ∧ j.natAbs.log2 < 9000) (pure (.int (i / j)))
  | .pow, .int i, .int j => must (0 ≤ j ∧ j ≤ 1000000 ∧ i.natAbs < 2 ^ 64) (pure (.int (i ^ j.toNat)))
  | .add, .tup xs, .tup ys => must (xs.length + ys.length ≤ lim) (pure (.tup (xs ++ ys)))
  | .add, .str a, .str b => must (a.cps.size + b.cps.size ≤ lim) (pure (.str ⟨a.cps ++ b.cps⟩))
  | .add, .ref a, .ref b => fun m => (match m[a]?, m[b]? with
    | some (.lst xs), some (.lst ys) => newLst (xs ++ ys) m
    | _, _ => .stuck)
  | _, _, _ => stuck
def truth (m : Store) : Val → Option Bool
  | .bl b => some b
  | _ => none
def memM (m : Store) (x c : Val) : Option Bool := match c with
  | .tup xs => if x.flat && x.sok && Val.flats xs && Val.soks xs && decide (x.dep ≤ 50) && decide (Val.deps xs ≤ 50) then some (inVs xs x) else none
  | .ref a => (match m[a]? with
    | some (.lst xs) => if x.flat && x.sok && Val.flats xs && Val.soks xs && decide (x.dep ≤ 50) && decide (Val.deps xs ≤ 50) then some (inVs xs x) else none
    | some (.dct kvs) => if keyFor (kvs.map (·.1)) x then some (hasK kvs x) else none
    | _ => none)
  | _ => none
def cmpV (o : Cop) (x y : Val) : M Bool := fun m => match o with
  | .eq => (match eqM m x y with | some b => .ok b m | none => .stuck)
  | .ne => (match eqM m x y with | some b => .ok (!b) m | none => .stuck)
  | .mem => (match memM m x y with | some b => .ok b m | none => .stuck)
  | .nmem => (match memM m x y with | some b => .ok (!b) m | none => .stuck)
  | .lt => (match x, y with
    | .int i, .int j => .ok (decide (i < j)) m
    | .tup xs, .tup ys => if datOk (.tup xs) && datOk (.tup ys) && alks xs ys then .ok (ltBs xs ys) m else .stuck
    | _, _ => .stuck)
  | .le => (match x, y with | .int i, .int j => .ok (decide (i ≤ j)) m | _, _ => .stuck)
  | .gt => (match x, y with | .int i, .int j => .ok (decide (j < i)) m | _, _ => .stuck)
  | .ge => (match x, y with | .int i, .int j => .ok (decide (j ≤ i)) m | _, _ => .stuck)
/-- isinstance of what is no object, or a list -/
def isV (m : Store) (v : Val) (t : Ty) : Option Bool := match v with
  | .non => some false
  | .bl _ => some (t == .int || t == .bool)
  | .int _ => some (t == .int)
  | .str _ => some (t == .str)
  | .tup _ => some (t == .tuple)
  | .ref n => (match m[n]? with
    | some (.lst _) => some false
    | _ => none)
  | .fn _ => none
  | .scr _ => none
/-- the things of a list, a tuple, a set of a store -/
def itemsM (m : Store) : Val → Option (List Val)
  | .tup xs => some xs
  | .ref a => (match m[a]? with
    | some (.lst xs) => some xs
    | _ => none)
  | _ => none
def insSorted (x : Val) : List Val → Option (List Val)
  | [] => some [x]
  | y :: r => match Val.lt x y with
    | some true => some (x :: y :: r)
    | some false => (insSorted x r).map (y :: ·)
    | none => none
def sortV : List Val → Option (List Val)
  | [] => some []
  | x :: r => match sortV r with
    | none => none
    | some s => insSorted x s
def sumI : List Val → Option Int
  | [] => some 0
  | .int i :: r => (sumI r).map (i + ·)
  | _ :: _ => none
def setOf : List Val → List Val → List Val
  | acc, [] => acc
  | acc, x :: r => setOf (addV acc x) r
def isIT : Val → Bool
  | .tup xs => xs.all isInt
  | _ => false
/-- things of one kind: ints, tuples of ints; t: of a tuple -/
def setOk (t : Bool) (xs : List Val) : Bool := (xs.all isInt && decide (xs.length + 1 < 4096)) || (!t && xs.all isIT && decide (xs.length < 64))
/-- what sorted is served for: ints -/
def sortOk (xs : List Val) : Bool := xs.all isInt
def sortOkS (xs : List Val) : Bool := xs.all isInt && decide (xs.length < 64)
/-- .. tuples that are data, of one shape -/
def sortOkT (xs : List Val) : Bool := xs.all (fun x => isTup x && datOk x) && xs.all fun x => xs.all fun y => alk x y
def leV (a b : Val) : Bool := !(ltB b a)
def sortedL (ok : List Val → Bool) (xs : List Val) : Option (List Val) := if ok xs then sortV xs else if sortOkT xs then some (xs.mergeSort leV) else none
def sortedM (m : Store) (a : Nat) : Option (List Val) := match m[a]? with
  | some (.lst xs) => sortedL sortOk xs
  | some (.set xs) => sortedL sortOkS xs
  | _ => none
def lenM (m : Store) : Val → Option Nat
  | .tup xs => some xs.length
  | .str s => if s.cps.size ≤ lim then some s.cps.size else none
  | .ref a => (match m[a]? with
    | some (.lst xs) => some xs.length
    | some (.dct kvs) => some kvs.length
    | some (.set xs) => some xs.length
    | _ => none)
  | .scr ns => some ns.length
  | _ => none
def bltV (f : Blt) (vs : List Val) : M Val := match f, vs with
  | .len, [v] => fun m => (match lenM m v with | some n => .ok (.int n) m | none => .stuck)
  | .int, [.int i] => pure (.int i)
  | .int, [.bl b] => pure (.int (bint b))
  | .max2, [.int i, .int j] => pure (.int (if j > i then j else i))
  | .min2, [.int i, .int j] => pure (.int (if j < i then j else i))
  | .sum, [.ref a] => fun m => (match m[a]? with
    | some (.lst xs) => (match sumI xs with | some i => .ok (.int i) m | none => .stuck)
    | _ => .stuck)
  | .list, [v] => fun m => (match itemsM m v with | some xs => newLst xs m | none => .stuck)
  | .tuple, [v] => fun m => (match itemsM m v with | some xs => newTup xs m | none => .stuck)
  | .sorted, [.ref a] => fun m => (match sortedM m a with | some ys => newLst ys m | none => .stuck)
  | .repr, [.bl b] => pure (.str (if b then "True" else "False"))
  | .set, [v] => fun m => (match itemsM m v with | some xs => if setOk (isTup v) xs then alloc (.set (setOf [] xs)) m else .stuck | none => .stuck)
  | _, _ => stuck
def mthV (f : Mth) (o : Val) (vs : List Val) : M Val := match f, o, vs with
  | .append, .ref a, [v] => fun m => (match m[a]? with
    | some (.lst xs) => if xs.length < lim then .ok .non (m.set a (.lst (xs ++ [v]))) else .stuck
    | _ => .stuck)
  | .extend, .ref a, [.ref b] => fun m => (match m[a]?, m[b]? with
    | some (.lst xs), some (.lst ys) => if xs.length + ys.length ≤ lim then .ok .non (m.set a (.lst (xs ++ ys))) else .stuck
    | _, _ => .stuck)
  | .pop, .ref a, [] => fun m => (match m[a]? with
    | some (.lst xs) => (match xs.getLast? with | some v => .ok v (m.set a (.lst xs.dropLast)) | none => .stuck)
    | _ => .stuck)
  | .pop1, .ref a, [.int i] => fun m => (match m[a]? with
    | some (.lst xs) => if small i = false then .stuck else (match ixOf xs.length i with
      | some k => (match xs[k]? with | some v => .ok v (m.set a (.lst (xs.eraseIdx k))) | none => .stuck)
      | none => .stuck)
    | _ => .stuck)
  | .get, .ref a, [k] => fun m => (match m[a]? with
    | some (.dct kvs) => if keyFor (kvs.map (·.1)) k then .ok ((findK kvs k).getD .non) m else .stuck
    | _ => .stuck)
  | _, _, _ => stuck
/-- the receiver is of the method's kind -/
def kindM (f : Mth) (o : Val) : M Unit := fun m => match f, o with
  | .get, .ref a | .get2, .ref a | .values, .ref a | .items, .ref a | .setdefault, .ref a => (match m[a]? with | some (.dct _) => .ok () m | _ => .stuck)
  | .join, .str _ | .split, .str _ | .partition, .str _ => .ok () m
  | .append, .ref a | .extend, .ref a | .pop, .ref a | .pop1, .ref a => (match m[a]? with | some (.lst _) => .ok () m | _ => .stuck)
  | _, _ => .stuck
def idxV (o i : Val) : M Val := fun m => match o, i with
  | .tup xs, .int i => (match ixOf xs.length i with | some k => (match xs[k]? with | some v => .ok v m | none => .stuck) | none => .stuck)
  | .ref a, i => (match m[a]? with
    | some (.lst xs) => (match i with
      | .int i => (match ixOf xs.length i with | some k => (match xs[k]? with | some v => .ok v m | none => .stuck) | none => .stuck)
      | _ => .stuck)
    | some (.dct kvs) => if keyFor (kvs.map (·.1)) i then (match findK kvs i with | some v => .ok v m | none => .stuck) else .stuck
    | _ => .stuck)
  | _, _ => .stuck
def slV (o lo hi : Val) : M Val := fun m => match partOf lo, partOf hi with
  | some a, some b => (match o with
    | .tup xs => .ok (.tup (cutV xs a b)) m
    | .ref p => (match m[p]? with
      | some (.lst xs) => .ok (.ref m.length) (m ++ [.lst (cutV xs a b)])
      | _ => .stuck)
    | _ => .stuck)
  | _, _ => .stuck
/-- a slice with a step that is positive, without an end -/
def sl3V (o lo hi st : Val) : M Val := fun m => match o, lo, hi, st with
  | .ref a, .int lo, .non, .int st => (match m[a]? with
    | some (.lst xs) => if 0 ≤ lo ∧ 0 < st then newLst (stepV xs lo st) m else .stuck
    | _ => .stuck)
  | .scr ns, .int lo, .non, .int st => if 0 ≤ lo ∧ 0 < st then newLst (stepV (ns.map .int) lo st) m else .stuck
  | _, _, _, _ => .stuck
def subV (o i v : Val) : M Unit := fun m => match o with
  | .ref a => (match m[a]? with
    | some (.lst xs) => (match i with
      | .int i => (match ixOf xs.length i with | some k => .ok () (m.set a (.lst (xs.set k v))) | none => .stuck)
      | _ => .stuck)
    | some (.dct kvs) => if keyFor (kvs.map (·.1)) i = true ∧ kvs.length < lim then .ok () (m.set a (.dct (putKs kvs i v))) else .stuck
    | _ => .stuck)
  | _ => .stuck
/-- what is walked: the things, and the objects that must stay as they are -/
abbrev Walk := List Val × List (Nat × Obj)
def guardOk (m : Store) (g : List (Nat × Obj)) : Bool := g.all fun p => decide (m[p.1]? = some p.2)
def seqW (m : Store) : Val → Option Walk
  | .tup xs => some (xs, [])
  | .ref a => (match m[a]? with
    | some (.lst xs) => some (xs, [(a, .lst xs)])
    | _ => none)
  | _ => none
/-- a list -/
def lstW (m : Store) : Val → Option Walk
  | .ref a => (match m[a]? with
    | some (.lst xs) => some (xs, [(a, .lst xs)])
    | _ => none)
  | _ => none
def rangeL (lo : Int) : Nat → List Val
  | 0 => []
  | n + 1 => .int lo :: rangeL (lo + 1) n
def enumL (i : Nat) : List Val → List Val
  | [] => []
  | x :: r => .tup [.int i, x] :: enumL (i + 1) r
def zipL : List Val → List Val → List Val
  | x :: xs, y :: ys => .tup [x, y] :: zipL xs ys
  | _, _ => []
mutual
/-- a target takes a value -/
def bindT : T → Val → Env → Option Env
  | .name i, v, ρ => some (ρ.set i (some v))
  | .nil, .tup [], ρ => some ρ
  | .cons t r, .tup (v :: vs), ρ => (match bindT t v ρ with | some ρ' => bindT r (.tup vs) ρ' | none => none)
  | _, _, _ => none
end
mutual
/-- the slots of a target -/
def slT : T → List Nat
  | .name i => [i]
  | .nil => []
  | .cons t r => slT t ++ slT r
end
/-- .. of all targets -/
def slG : Gs → List Nat
  | .nil => []
  | .cons t _ _ r => slT t ++ slG r
def wipeE (ρ : Env) : List Nat → Env
  | [] => ρ
  | v :: vs => (wipeE ρ vs).set v none
inductive Fl | nx (ρ : Env) | bk (ρ : Env) | ct (ρ : Env) | rt (v : Val)
  deriving Repr, Inhabited
def ofO {α : Type} : Option α → M α
  | some a => pure a
  | none => stuck
def asB (v : Val) : M Bool := match v with
  | .bl b => pure b
  | _ => stuck
def toB (x : M Val) : M Bool := do let v ← x; asB v
/-- the loop over the things that are left -/
def loopF (t : T) (g : List (Nat × Obj)) (b : Env → M Fl) : List Val → Env → M Fl
  | [], ρ => fun m => if guardOk m g then .ok (.nx ρ) m else .stuck
  | x :: xs, ρ => fun m => if guardOk m g then (match bindT t x ρ with
    | none => .stuck
    | some ρ' => (match b ρ' m with
      | .ok (.nx ρ2) m2 => loopF t g b xs ρ2 m2
      | .ok (.ct ρ2) m2 => loopF t g b xs ρ2 m2
      | .ok (.bk ρ2) m2 => .ok (.nx ρ2) m2
      | .ok (.rt v) m2 => .ok (.rt v) m2
      | .exc c v m2 => .exc c v m2
      | .stuck => .stuck)) else .stuck
def loopW (c : Env → M Bool) (b : Env → M Fl) : Nat → Env → M Fl
  | 0, _ => stuck
  | n + 1, ρ => do
    if (← c ρ) then
      match (← b ρ) with
      | .nx ρ2 => loopW c b n ρ2
      | .ct ρ2 => loopW c b n ρ2
      | .bk ρ2 => pure (.nx ρ2)
      | .rt v => pure (.rt v)
    else pure (.nx ρ)
/-- a comprehension's clause over the things that are left: f makes the values of one thing -/
def loopC (t : T) (g : List (Nat × Obj)) (ρ : Env) (f : Env → M (List Val)) : List Val → M (List Val)
  | [] => fun m => if guardOk m g then .ok [] m else .stuck
  | x :: xs => fun m => if guardOk m g then (match bindT t x ρ with
    | none => .stuck
    | some ρ' => M.bind (f ρ') (fun a => M.bind (loopC t g ρ f xs) fun b => pure (a ++ b)) m) else .stuck
/-- .. for all, any: stops at the first that is `stop` -/
def loopA (t : T) (g : List (Nat × Obj)) (ρ : Env) (stop : Bool) (f : Env → M Bool) : List Val → M Bool
  | [] => fun m => if guardOk m g then .ok (!stop) m else .stuck
  | x :: xs => fun m => if guardOk m g then (match bindT t x ρ with
    | none => .stuck
    | some ρ' => M.bind (f ρ') (fun a => if a == stop then pure stop else loopA t g ρ stop f xs) m) else .stuck
@[irreducible] def fuelW : Nat := 100000000

structure Sys where
  G : Nat → List Val → M Val
  con : Nat → Option Val

section
variable (Y : Sys)
mutual
def evE : E → Env → M Val
  | .non, _ => pure .non
  | .bl b, _ => pure (.bl b)
  | .int i, _ => pure (.int i)
  | .str s, _ => pure (.str s)
  | .loc i, ρ => ofO ((ρ[i]?).join)
  | .con k, _ => ofO (Y.con k)
  | .bin o a b, ρ => do let x ← evE a ρ; let y ← evE b ρ; binV o x y
  | .neg a, ρ => do match (← evE a ρ) with | .int i => pure (.int (-i)) | _ => stuck
  | .nt a, ρ => do let b ← toB (evE a ρ); pure (.bl (!b))
  | .and a b, ρ => do match (← evE a ρ) with | .bl true => evE b ρ | .bl false => pure (.bl false) | _ => stuck
  | .or a b, ρ => do match (← evE a ρ) with | .bl true => pure (.bl true) | .bl false => evE b ρ | _ => stuck
  | .cmp o a b, ρ => do let x ← evE a ρ; let y ← evE b ρ; let r ← cmpV o x y; pure (.bl r)
  | .cmp2 o p a b c, ρ => do
    let x ← evE a ρ; let y ← evE b ρ; let r ← cmpV o x y
    if r then do let z ← evE c ρ; let r2 ← cmpV p y z; pure (.bl r2) else pure (.bl false)
  | .isN a, ρ => do let x ← evE a ρ; pure (.bl (decide (x = .non)))
  | .notN a, ρ => do let x ← evE a ρ; pure (.bl (!decide (x = .non)))
  | .isB a b, ρ => do let x ← evE a ρ; pure (.bl (decide (x = .bl b)))
  | .notB a b, ρ => do let x ← evE a ρ; pure (.bl (!decide (x = .bl b)))
  | .ite c a b, ρ => do if (← toB (evE c ρ)) then evE a ρ else evE b ρ
  | .tup es, ρ => do let vs ← evEs es ρ; newTup vs
  | .lst es, ρ => do let vs ← evEs es ρ; newLst vs
  | .dct0, _ => alloc (.dct [])
  | .dct1 k v, ρ => do let x ← evE k ρ; let y ← evE v ρ; must (okKey x = true) (alloc (.dct [(x, y)]))
  | .idx a i, ρ => do let x ← evE a ρ; let y ← evE i ρ; idxV x y
  | .sl a lo hi, ρ => do let x ← evE a ρ; let y ← evE lo ρ; let z ← evE hi ρ; slV x y z
  | .sl3 a lo hi st, ρ => do let x ← evE a ρ; let y ← evE lo ρ; let z ← evE hi ρ; let u ← evE st ρ; sl3V x y z u
  | .call f es, ρ => do let vs ← evEs es ρ; Y.G f vs
  | .callK f es perm, ρ => do let vs ← evEs es ρ; Y.G f (perm.filterMap fun i => vs[i]?)
  | .lrange a b, ρ => do
    let x ← evE a ρ; let y ← evE b ρ
    match x, y with
    | .int i, .int j => must (small i = true ∧ small j = true) (newLst (rangeL i (j - i).toNat))
    | _, _ => stuck
  | .blt f es, ρ => do let vs ← evEs es ρ; bltV f vs
  | .mth f o es, ρ => do let x ← evE o ρ; kindM f x; let vs ← evEs es ρ; mthV f x vs
  | .isin a t, ρ => do let x ← evE a ρ; fun m => (match isV m x t with | some b => .ok (.bl b) m | none => .stuck)
  | .lc e g, ρ => do let vs ← evC (evE e) g ρ; newLst vs
  | .sc e g, ρ => do let vs ← evC (evE e) g ρ; must (setOk false vs = true) (alloc (.set (setOf [] vs)))
  | .dc _ _ _, _ => stuck
  | .all e g, ρ => do let b ← evA false (evE e) g ρ; pure (.bl b)
  | .any e g, ρ => do let b ← evA true (evE e) g ρ; pure (.bl b)
def evEs : Es → Env → M (List Val)
  | .nil, _ => pure []
  | .cons e r, ρ => do let v ← evE e ρ; let vs ← evEs r ρ; pure (v :: vs)
def evIt : It → Env → M Walk
  | .seq e, ρ => do let v ← evE e ρ; fun m => ofO (seqW m v) m
  | .range a b, ρ => do
    let x ← evE a ρ; let y ← evE b ρ
    match x, y with
    | .int i, .int j => must (small i = true ∧ small j = true) (pure (rangeL i (j - i).toNat, []))
    | _, _ => stuck
  | .enum e, ρ => do let v ← evE e ρ; fun m => ofO ((lstW m v).map fun w => (enumL 0 w.1, w.2)) m
  | .zip a b, ρ => do
    let x ← evE a ρ; let y ← evE b ρ
    fun m => (match seqW m x, seqW m y with
      | some u, some w => if isTup x == isTup y then .ok (zipL u.1 w.1, u.2 ++ w.2) m else .stuck
      | _, _ => .stuck)
  | .items e, ρ => do
    let v ← evE e ρ
    match v with
    | .ref a => fun m => (match m[a]? with
      | some (.dct kvs) => .ok (kvs.map fun p => .tup [p.1, p.2], [(a, .dct kvs)]) m
      | _ => .stuck)
    | _ => stuck
  | .values e, ρ => do
    let v ← evE e ρ
    match v with
    | .ref a => fun m => (match m[a]? with
      | some (.dct kvs) => .ok (kvs.map (·.2), [(a, .dct kvs)]) m
      | _ => .stuck)
    | _ => stuck
  | .rev e, ρ => do let v ← evE e ρ; fun m => ofO ((seqW m v).map fun w => (w.1.reverse, w.2)) m
/-- tests of a clause, one after another -/
def evIfs : Es → Env → M Bool
  | .nil, _ => pure true
  | .cons e r, ρ => do if (← toB (evE e ρ)) then evIfs r ρ else pure false
def evC (f : Env → M Val) : Gs → Env → M (List Val)
  | .nil, ρ => do let v ← f ρ; pure [v]
  | .cons t it ifs r, ρ => do
    let w ← evIt it ρ
    loopC t w.2 (wipeE ρ (slT t ++ slG r)) (fun ρ' => do if (← evIfs ifs ρ') then evC f r ρ' else pure []) w.1
def evA (stop : Bool) (f : Env → M Val) : Gs → Env → M Bool
  | .nil, ρ => toB (f ρ)
  | .cons t it ifs r, ρ => do
    let w ← evIt it ρ
    loopA t w.2 (wipeE ρ (slT t ++ slG r)) stop (fun ρ' => do if (← evIfs ifs ρ') then evA stop f r ρ' else pure (!stop)) w.1
end
mutual
def evS : S → Env → M Fl
  | .asg t e, ρ => do let v ← evE Y e ρ; let ρ' ← ofO (bindT t v ρ); pure (.nx ρ')
  | .sub a i e, ρ => do let v ← evE Y e ρ; let x ← evE Y a ρ; let y ← evE Y i ρ; subV x y v; pure (.nx ρ)
  | .aug i o e, ρ => do
    let x ← ofO ((ρ[i]?).join); let y ← evE Y e ρ
    match x with
    | .int _ => do let v ← binV o x y; pure (.nx (ρ.set i (some v)))
    | _ => stuck
  | .ex e, ρ => do let _ ← evE Y e ρ; pure (.nx ρ)
  | .ret e, ρ => do let v ← evE Y e ρ; pure (.rt v)
  | .ite c a b, ρ => do if (← toB (evE Y c ρ)) then evSs a ρ else evSs b ρ
  | .whl c b, ρ => loopW (fun ρ => toB (evE Y c ρ)) (evSs b) fuelW ρ
  | .for t it b, ρ => do let w ← evIt Y it ρ; loopF t w.2 (evSs b) w.1 ρ
  | .brk, ρ => pure (.bk ρ)
  | .cnt, ρ => pure (.ct ρ)
  | .pass, ρ => pure (.nx ρ)
  | .never, _ => stuck
def evSs : Ss → Env → M Fl
  | .nil, ρ => pure (.nx ρ)
  | .cons s r, ρ => fun m => match evS s ρ m with
    | .ok (.nx ρ') m' => evSs r ρ' m'
    | x => x
end
def start (n : Nat) (vs : List Val) : Env := vs.map some ++ List.replicate (n - vs.length) none
def runFn (f : Fn) (vs : List Val) : M Val := must (vs.length = f.np) fun m => match evSs Y f.body (start f.ns vs) m with
  | .ok (.rt v) m' => .ok v m'
  | .ok (.nx _) m' => .ok .non m'
  | .exc c v m' => .exc c v m'
  | _ => .stuck
end
/-- the defs P, calls at most n deep -/
def evF (P : Nat → Option Fn) (con : Nat → Option Val) : Nat → Nat → List Val → M Val
  | 0, _, _ => stuck
  | n + 1, f, vs => match P f with
    | some d => runFn ⟨evF P con n, con⟩ d vs
    | none => stuck
end Ev
end

section
/-! Cp: from the row's terms to Ev's language. -/
namespace Ev
open PySem

def Es.app : Es → Es → Es
  | .nil, b => b
  | .cons e r, b => .cons e (Es.app r b)
def slot : List Str → Str → Option Nat
  | [], _ => none
  | y :: r, x => if y = x then some 0 else (slot r x).map (· + 1)
theorem slot_get : ∀ {N : List Str} {x : Str} {i : Nat}, slot N x = some i → N[i]? = some x
  | [], _, _, h => by simp [slot] at h
  | y :: r, x, i, h => by
    unfold slot at h
    split at h
    · cases h; simp_all
    · cases e : slot r x with
      | none => rw [e] at h; cases h
      | some j => rw [e] at h; cases h; simpa using slot_get e

/-- a def of the top: its number, its parameters -/
structure Df where
  id : Nat
  ps : List Str
  kws : List (List Str) := []
  deriving DecidableEq, Repr
/-- where a term stands: the slots' names, the block's own names, what the top holds -/
structure CC where
  N : List Str
  sc : Scope
  fns : List (Str × Df)
  cons : List (Str × Nat)
  bt : List Str
  /-- here generator expressions may be made -/
  tb : Bool := true

def isVis (c : CC) (x : Str) : Bool := match c.sc.names.lookup x with
  | some .local => true
  | some .cell => true
  | some .free => true
  | _ => false
def isGlo (c : CC) (x : Str) : Bool := match c.sc.names.lookup x with
  | some .globalImplicit => true
  | _ => false
def isBt (c : CC) (x y : Str) : Bool := decide (x = y) && isGlo c x && decide (x ∈ c.bt)
def okName (x : Str) : Bool := !(x == ("__debug__" : Str)) && !(x == ("__classdict__" : Str))
def isStar : Expr → Bool
  | .Starred _ _ => true
  | _ => false
def isSetE : Expr → Bool
  | .Set _ _ _ => true
  | _ => false
def isSl : Expr → Bool
  | .Slice _ _ _ _ => true
  | _ => false
def isCall : Expr → Bool
  | .Call _ _ _ _ => true
  | _ => false
def isComp : Expr → Bool
  | .ListComp _ _ _ _ => true
  | .SetComp _ _ _ _ => true
  | .DictComp _ _ _ _ _ => true
  | _ => false
def cConst : Const → Option E
  | .none => some .non
  | .bool b => some (.bl b)
  | .int i => some (.int i)
  | .str s => some (.str s)
  | _ => none
def cName (c : CC) (x : Str) : Option E :=
  if okName x then
    if isVis c x then (slot c.N x).map .loc
    else if isGlo c x then (c.cons.lookup x).map .con else none
  else none
def cOp : Operator → Option Bop
  | .Add => some .add
  | .Sub => some .sub
  | .Mult => some .mul
  | .Mod => some .mod
  | .FloorDiv => some .fdiv
  | .Pow => some .pow
  | _ => none
def cCop : CmpOp → Option Cop
  | .Eq => some .eq
  | .NotEq => some .ne
  | .Lt => some .lt
  | .LtE => some .le
  | .Gt => some .gt
  | .GtE => some .ge
  | .In => some .mem
  | .NotIn => some .nmem
  | _ => none
section
variable (r : Expr → Option E)
def cEs : List Expr → Option Es
  | [] => some .nil
  | e :: es => if isStar e then none else match r e, cEs es with
    | some a, some b => some (.cons a b)
    | _, _ => none
def cBool (o : BoolOp) : List Expr → Option E
  | [] => none
  | [e] => r e
  | e :: es => match r e, cBool o es with
    | some a, some b => some (match o with | .And => .and a b | .Or => .or a b)
    | _, _ => none
def cCmp1 (o : CmpOp) (a b : Expr) : Option E := match o, b with
  | .Is, .Constant .none _ _ => (r a).map .isN
  | .IsNot, .Constant .none _ _ => (r a).map .notN
  | o, b => if isSetE b then none else match cCop o, r a, r b with
    | some o', some x, some y => some (.cmp o' x y)
    | _, _, _ => none
def cCmp2 (o p : CmpOp) (a b d : Expr) : Option E := if isSetE b || isSetE d then none else match cCop o, cCop p, r a, r b, r d with
  | some o', some p', some x, some y, some z => some (.cmp2 o' p' x y z)
  | _, _, _, _, _ => none
def cOpt : Option Expr → Option E
  | none => some .non
  | some e => r e
def cSub (a i : Expr) : Option E := match i with
  | .Slice lo hi none _ => (match r a, cOpt r lo, cOpt r hi with
    | some x, some y, some z => some (.sl x y z)
    | _, _, _ => none)
  | .Slice lo hi (some st) _ => (match r a, cOpt r lo, cOpt r hi, r st with
    | some x, some y, some z, some u => some (.sl3 x y z u)
    | _, _, _, _ => none)
  | i => (match r a, r i with
    | some x, some y => some (.idx x y)
    | _, _ => none)
/-- built-ins by their names and how many things they take -/
def cBlt (c : CC) (f : Str) (n : Nat) : Option Blt :=
  if isBt c f "len" && n == 1 then some .len
  else if isBt c f "int" && n == 1 then some .int
  else if isBt c f "max" && n == 2 then some .max2
  else if isBt c f "min" && n == 2 then some .min2
  else if isBt c f "sum" && n == 1 then some .sum
  else if isBt c f "list" && n == 1 then some .list
  else if isBt c f "tuple" && n == 1 then some .tuple
  else if isBt c f "sorted" && n == 1 then some .sorted
  else if isBt c f "set" && n == 1 then some .set
  else if isBt c f "repr" && n == 1 then some .repr
  else none
def cTy (c : CC) : Expr → Option Ty
  | .Name x _ => if isBt c x "int" then some .int else if isBt c x "bool" then some .bool else if isBt c x "str" then some .str else if isBt c x "tuple" then some .tuple else none
  | _ => none
def cMth (m : Str) (n : Nat) : Option Mth :=
  if m = "append" ∧ n = 1 then some .append
  else if m = "extend" ∧ n = 1 then some .extend
  else if m = "pop" ∧ n = 0 then some .pop
  else if m = "pop" ∧ n = 1 then some .pop1
  else if m = "get" ∧ n = 1 then some .get
  else none
end
section
variable (r : CC → Expr → Option E)
def cTgt (c : CC) : Expr → Option Nat
  | .Name x _ => if okName x then (match c.sc.names.lookup x with
    | some .local => slot c.N x
    | some .cell => slot c.N x
    | _ => none) else none
  | _ => none
def cTgts (f : Expr → Option T) : List Expr → Option T
  | [] => some .nil
  | e :: es => if isStar e then none else match f e, cTgts f es with
    | some a, some b => some (.cons a b)
    | _, _ => none
/-- a target: a name, or names in tuples, two deep -/
def cT (c : CC) : Nat → Expr → Option T
  | 0, e => (cTgt c e).map .name
  | n + 1, .Tuple es _ _ => cTgts (cT c n) es
  | n + 1, e => (cTgt c e).map .name
def isTupE : Expr → Bool
  | .Tuple _ _ _ => true
  | _ => false
/-- what a for walks; tt: the target is a tuple of names -/
def cIt (c : CC) (tt : Bool) (e : Expr) : Option It := match e with
  | .Call (.Name f _) [a] [] _ =>
    if isBt c f "range" then (if isStar a then none else (r c a).map fun x => .range (.int 0) x)
    else if isBt c f "enumerate" then (if isStar a || !tt then none else (r c a).map .enum)
    else (r c e).map .seq
  | .Call (.Name f _) [a, b] [] _ =>
    if isBt c f "range" then (if isStar a || isStar b then none else match r c a, r c b with
      | some x, some y => some (.range x y)
      | _, _ => none)
    else if isBt c f "zip" then (if isStar a || isStar b || !tt then none else match r c a, r c b with
      | some x, some y => some (.zip x y)
      | _, _ => none)
    else (r c e).map .seq
  | e => if isSetE e then none else (r c e).map .seq
/-- the block's own names: those of its targets -/
def ownV (N : List Str) (vs : List Nat) : List (Str × Nat) := vs.filterMap fun i => (N[i]?).map fun x => (x, i)
def blkB (N : List Str) (sc scope : Scope) (vs : List Nat) : Bool := L2.blkC N sc scope (ownV N vs) && decide ((ownV N vs).map (·.2) = vs)
def cIfs (r : Expr → Option E) : List Expr → Option Es
  | [] => some .nil
  | [e] => (r e).map fun x => .cons x .nil
  | _ => none
/-- clauses behind the first one's walk: in the block -/
def cGs (c' : CC) : List Comprehension → Option Gs
  | [] => some .nil
  | ⟨t, it, ifs, a⟩ :: rest => if a = 0 then (match cT c' 2 t, cIt r c' (isTupE t) it, cIfs (r c') ifs, cGs c' rest with
    | some t', some it', some fs, some g => some (.cons t' it' fs g)
    | _, _, _, _ => none) else none
/-- all clauses: the first one's walk is reckoned outside -/
def cGens (c c' : CC) : List Comprehension → Option Gs
  | ⟨t, it, ifs, a⟩ :: rest => if a = 0 then (match cT c' 2 t, cIt r c (isTupE t) it, cIfs (r c') ifs, cGs r c' rest with
    | some t', some it', some fs, some g => some (.cons t' it' fs g)
    | _, _, _, _ => none) else none
  | _ => none
/-- a generator expression's own scope -/
def genB (scope : Scope) : Bool := !scope.isCoroutine && (scope.names.all fun y => match y.2 with | .cell => false | _ => true) && decide (scope.names.lookup (".0" : Str) = some .local)
def isLst : Expr → Bool
  | .List _ _ => true
  | _ => false
def firstOk : List Comprehension → Bool
  | [⟨_, it, _, _⟩] => !isLst it
  | [⟨_, it, _, _⟩, _] => !isLst it
  | _ => false
def cGx (c : CC) (elt : Expr) (gens : List Comprehension) (scope : Scope) : Option (E × Gs) := match r { c with sc := scope, tb := false } elt, cGens r c { c with sc := scope, tb := false } gens with
  | some e, some g => if c.tb && firstOk gens && genB scope && blkB c.N c.sc scope (slG g) && decide ((".0" : Str) ∉ c.N) then some (e, g) else none
  | _, _ => none
def cCall (c : CC) (f : Str) (args : List Expr) : Option E :=
  match c.fns.lookup f with
  | some d => if isGlo c f && okName f && decide (args.length = d.ps.length) then (cEs (r c) args).map (.call d.id) else none
  | none => match args with
    | [.GeneratorExp elt gens scope _] =>
      if isBt c f "all" then (cGx r c elt gens scope).map fun p => .all p.1 p.2
      else if isBt c f "any" then (cGx r c elt gens scope).map fun p => .any p.1 p.2
      else none
    | [a, t] => if isBt c f "isinstance" then (match r c a, cTy c t with
        | some x, some ty => if isStar a then none else some (.isin x ty)
        | _, _ => none)
      else (match cBlt c f 2, cEs (r c) args with
        | some b, some es => some (.blt b es)
        | _, _ => none)
    | [.Call (.Name g _) [a] [] _] =>
      if isBt c f "list" && isBt c g "range" then (if isStar a then none else (r c a).map fun x => .lrange (.int 0) x)
      else (match cBlt c f 1, cEs (r c) args with
      | some b, some es => some (.blt b es)
      | _, _ => none)
    | args => (match cBlt c f args.length, cEs (r c) args with
      | some b, some es => some (.blt b es)
      | _, _ => none)
/-- the parameters' places among the keywords -/
def permOf (ps ks : List Str) : List Nat := ps.filterMap fun x => slot ks x
def kwNames (kws : List Keyword) : List Str := kws.filterMap (·.arg)
def cCallK (c : CC) (f : Str) (kws : List Keyword) : Option E :=
  match c.fns.lookup f with
  | some d => if isGlo c f && okName f && kws.all (fun k => k.arg.isSome) && decide (kwNames kws ∈ d.kws) then (cEs (r c) (kws.map (·.value))).map fun a => .callK d.id a (permOf d.ps (kwNames kws)) else none
  | none => none
def cLc (c : CC) (elt : Expr) (gens : List Comprehension) (scope : Scope) : Option E := match r { c with sc := scope } elt, cGens r c { c with sc := scope } gens with
  | some e, some g => if gens.length ≤ 2 ∧ blkB c.N c.sc scope (slG g) = true then some (.lc e g) else none
  | _, _ => none
def cStep (c : CC) (e : Expr) : Option E := match e with
  | .Constant k _ _ => cConst k
  | .Name x _ => cName c x
  | .BinOp a o b _ => (match cOp o, r c a, r c b with
    | some o', some x, some y => some (.bin o' x y)
    | _, _, _ => none)
  | .UnaryOp .Not a _ => (r c a).map .nt
  | .UnaryOp .USub a _ => (r c a).map .neg
  | .BoolOp o vs _ => cBool (r c) o vs
  | .IfExp t a b _ => (match r c t, r c a, r c b with
    | some x, some y, some z => some (.ite x y z)
    | _, _, _ => none)
  | .Tuple es _ _ => (cEs (r c) es).map .tup
  | .List es _ => (cEs (r c) es).map .lst
  | .Compare a [o] [b] _ => cCmp1 (r c) o a b
  | .Compare a [o, p] [b, d] _ => cCmp2 (r c) o p a b d
  | .Subscript a i _ => cSub (r c) a i
  | .Call (.Name f _) args [] _ => cCall r c f args
  | .Call (.Name f _) [] kws _ => cCallK r c f kws
  | .Call (.Attribute o m apos) args [] cpos => (match r c o, cMth m args.length, cEs (r c) args with
    | some x, some f, some es => if isCall o || !(apos.endLine == cpos.line) then none else some (.mth f x es)
    | _, _, _ => none)
  | .ListComp elt gens scope _ => cLc r c elt gens scope
  | .Dict [] [] _ => some .dct0
  | .Dict [some k] [v] _ => (match r c k, r c v with
    | some x, some y => some (.dct1 x y)
    | _, _ => none)
  | _ => none
end
def cE : Nat → CC → Expr → Option E
  | 0 => fun _ _ => none
  | n + 1 => cStep (cE n)
/-! ### statements -/
section
variable (r : List Stmt → Option Ss) (c : CC)
def fuelE : Nat := 40
def nameOf : Expr → Option (Str × Pos)
  | .Name x p => some (x, p)
  | _ => none
/-- the stores of a, b = x, y are known: from the right with plain names, or in their sequence -/
def parOk (ts vs : List Expr) : Bool := match ts, vs with
  | [.Name x px, .Name y py], [a, b] => decide (c.sc.names.lookup x = some .local) && decide (c.sc.names.lookup y = some .local) && (py.line == px.line) && !(x == y) && !(isStar a) && !(isStar b) && !([a, b].all (foldedForSure 8)) && !([a, b].all (constantsAlone 8))
  | [.Name x px, .Name y py, .Name z pz], [a, b, d] => decide (c.sc.names.lookup x = some .local) && decide (c.sc.names.lookup y = some .local) && decide (c.sc.names.lookup z = some .local) && (py.line == px.line) && (pz.line == px.line) && !(x == y) && !(x == z) && !(y == z) &&
    !(isStar a) && !(isStar b) && !(isStar d) && !([a, b, d].all (foldedForSure 8)) && !([a, b, d].all (constantsAlone 8))
  | _, _ => false
/-- one of two names is a cell: the stores are made in their sequence -/
def celOk (ts : List Expr) : Bool := match ts with
  | [.Name x _, .Name y _] => decide (c.sc.names.lookup x = some .cell) || decide (c.sc.names.lookup y = some .cell)
  | _ => false
def asgOk (t e : Expr) : Bool := match t, e with
  | .Tuple ts _ _, .Tuple vs _ _ => (parOk c ts vs || celOk c ts) || vs.all (foldedForSure 8)
  | _, _ => true
def cAsg (t e : Expr) : Option S := match t with
  | .Subscript a i _ => if isSl i then none else (match cE fuelE c a, cE fuelE c i, cE fuelE c e with
    | some x, some y, some z => some (.sub x y z)
    | _, _, _ => none)
  | t => if asgOk c t e then (match cT c 2 t, cE fuelE c e with
    | some t', some e' => some (.asg t' e')
    | _, _ => none) else none
def isDoc : Expr → Bool
  | .Constant (.str _) _ _ => true
  | _ => false
def cStmt (s : Stmt) : Option S := match s with
  | .Expr e _ => if isComp e then none else if isDoc e then some .pass else (cE fuelE c e).map .ex
  | .Pass _ => some .pass
  | .Break _ => some .brk
  | .Continue _ => some .cnt
  | .Return none _ => some (.ret .non)
  | .Return (some e) _ => (cE fuelE c e).map .ret
  | .Assign [t] e _ => cAsg c t e
  | .AugAssign t o e _ => (match cTgt c t, o, cE fuelE c e with
    | some i, .Add, some x => some (.aug i .add x)
    | some i, .Sub, some x => some (.aug i .sub x)
    | _, _, _ => none)
  | .If t a b _ => (match cE fuelE c t, r a, r b with
    | some x, some y, some z => some (.ite x y z)
    | _, _, _ => none)
  | .While t b [] _ => (match cE fuelE c t, r b with
    | some x, some y => some (.whl x y)
    | _, _ => none)
  | .For t it b [] _ => (match cT c 2 t, cIt (cE fuelE) c (isTupE t) it, r b with
    | some x, some y, some z => some (.for x y z)
    | _, _, _ => none)
  | .Raise _ _ _ => some .never
  | _ => none
def cStmts (f : Stmt → Option S) : List Stmt → Option Ss
  | [] => some .nil
  | s :: rest => match f s, cStmts f rest with
    | some a, some b => some (.cons a b)
    | _, _ => none
end
def cS : Nat → CC → Stmt → Option S
  | 0 => fun _ _ => none
  | n + 1 => fun c s => cStmt (cStmts (cS n c)) c s
/-! ### a def -/
def annOk (a : Arguments) : Bool := a.posonlyargs.isEmpty && a.vararg.isNone && a.kwonlyargs.isEmpty && a.kwarg.isNone && a.defaults.isEmpty
mutual
/-- the names that the comprehensions of a term have of their own -/
def ownE : Nat → Expr → List Str
  | 0, _ => []
  | n + 1, e => match e with
    | .BoolOp _ vs _ => ownEs n vs
    | .BinOp a _ b _ => ownE n a ++ ownE n b
    | .UnaryOp _ a _ => ownE n a
    | .IfExp a b d _ => ownE n a ++ ownE n b ++ ownE n d
    | .Dict ks vs _ => ownEs n (ks.filterMap id) ++ ownEs n vs
    | .ListComp e gs sc _ => ownSc sc ++ ownE n e ++ ownGs n gs
    | .SetComp e gs sc _ => ownSc sc ++ ownE n e ++ ownGs n gs
    | .DictComp k e gs sc _ => ownSc sc ++ ownE n k ++ ownE n e ++ ownGs n gs
    | .GeneratorExp e gs sc _ => ownSc sc ++ ownE n e ++ ownGs n gs
    | .Compare a _ cs _ => ownE n a ++ ownEs n cs
    | .Call f as ks _ => ownE n f ++ ownEs n as ++ ownEs n (ks.map (·.value))
    | .Attribute a _ _ => ownE n a
    | .Subscript a i _ => ownE n a ++ ownE n i
    | .List es _ => ownEs n es
    | .Tuple es _ _ => ownEs n es
    | .Slice a b d _ => ownEs n (a.toList ++ b.toList ++ d.toList)
    | .JoinedStr vs _ => ownEs n vs
    | .FormattedValue v _ _ _ => ownE n v
    | _ => []
def ownEs : Nat → List Expr → List Str
  | 0, _ => []
  | _, [] => []
  | n + 1, e :: es => ownE n e ++ ownEs n es
def ownGs : Nat → List Comprehension → List Str
  | 0, _ => []
  | _, [] => []
  | n + 1, ⟨_, it, ifs, _⟩ :: gs => ownE n it ++ ownEs n ifs ++ ownGs n gs
def ownSc (sc : Scope) : List Str := sc.names.filterMap fun y => match y.2 with | .local => (if y.1 = ".0" then none else some y.1) | .cell => some y.1 | _ => none
end
def ownS : Nat → List Stmt → List Str
  | 0, _ => []
  | _, [] => []
  | n + 1, s :: rest => (match s with
    | .Expr e _ => ownE 40 e
    | .Return (some e) _ => ownE 40 e
    | .Assign ts e _ => ownEs 40 ts ++ ownE 40 e
    | .AugAssign _ _ e _ => ownE 40 e
    | .If t a b _ => ownE 40 t ++ ownS n a ++ ownS n b
    | .While t a b _ => ownE 40 t ++ ownS n a ++ ownS n b
    | .For t it a b _ => ownE 40 t ++ ownE 40 it ++ ownS n a ++ ownS n b
    | .Try b hs o f _ => ownS n b ++ ownH n hs ++ ownS n o ++ ownS n f
    | _ => []) ++ ownS n rest
where ownH : Nat → List ExceptHandler → List Str
  | 0, _ => []
  | _, [] => []
  | n + 1, .ExceptHandler _ _ b _ :: rest => ownS n b ++ ownH n rest
def addNew : List Str → List Str → List Str
  | acc, [] => acc
  | acc, x :: r => if x ∈ acc then addNew acc r else addNew (acc ++ [x]) r
/-- all names with a slot: the parameters, the other locals, the comprehensions' own -/
def slotsOf (ps : List Str) (sc : Scope) (body : List Stmt) : List Str :=
  addNew (addNew ps (sc.names.filterMap fun y => match y.2 with | .local => some y.1 | .cell => some y.1 | _ => none)) (ownS 60 body)
end Ev
end

section
/-! Dk: flat values as the library's data. -/
namespace Ev
open PySem

mutual
def pyd : Val → PyData
  | .non => .none
  | .bl b => .bool b
  | .int i => .int i
  | .str s => .str s
  | .tup xs => .tuple (pyds xs)
  | .ref _ => .none
  | .fn _ => .none
  | .scr _ => .none
def pyds : List Val → List PyData
  | [] => []
  | x :: xs => pyd x :: pyds xs
end
mutual
theorem eqv_pyd : ∀ (x y : Val), x.flat = true → y.flat = true → PyData.eqv (pyd x) (pyd y) = Val.eqv x y
  | .non, y, _, hy => by cases y <;> simp [pyd, PyData.eqv, Val.eqv, Val.flat] at hy ⊢
  | .bl _, y, _, hy => by cases y <;> simp [pyd, PyData.eqv, Val.eqv, Val.flat] at hy ⊢
  | .int _, y, _, hy => by cases y <;> simp [pyd, PyData.eqv, Val.eqv, Val.flat] at hy ⊢
  | .str a, y, _, hy => by
    cases y <;> simp [pyd, PyData.eqv, Val.eqv, Val.flat] at hy ⊢
    rename_i b
    by_cases e : a = b
    · subst e; simp
    · simp [e]
  | .tup xs, y, hx, hy => by
    cases y <;> simp [pyd, PyData.eqv, Val.eqv, Val.flat] at hx hy ⊢
    exact eqvs_pyd xs _ hx hy
  | .ref _, _, hx, _ => by simp [Val.flat] at hx
  | .fn _, _, hx, _ => by simp [Val.flat] at hx
  | .scr _, _, hx, _ => by simp [Val.flat] at hx
theorem eqvs_pyd : ∀ (xs ys : List Val), Val.flats xs = true → Val.flats ys = true → PyData.eqvAll (pyds xs) (pyds ys) = Val.eqvs xs ys
  | [], [], _, _ => by simp [pyds, PyData.eqvAll, Val.eqvs]
  | [], _ :: _, _, _ => by simp [pyds, PyData.eqvAll, Val.eqvs]
  | _ :: _, [], _, _ => by simp [pyds, PyData.eqvAll, Val.eqvs]
  | x :: xs, y :: ys, hx, hy => by
    simp only [Val.flats, Bool.and_eq_true] at hx hy
    simp only [pyds, PyData.eqvAll, Val.eqvs]
    rw [eqv_pyd x y hx.1 hy.1, eqvs_pyd xs ys hx.2 hy.2]
end
mutual
theorem depth_pyd : ∀ (x : Val), (pyd x).depth = x.dep
  | .non => by simp [pyd, PyData.depth, Val.dep]
  | .bl _ => by simp [pyd, PyData.depth, Val.dep]
  | .int _ => by simp [pyd, PyData.depth, Val.dep]
  | .str _ => by simp [pyd, PyData.depth, Val.dep]
  | .tup xs => by simp [pyd, PyData.depth, Val.dep, depths_pyd xs]
  | .ref _ => by simp [pyd, PyData.depth, Val.dep]
  | .fn _ => by simp [pyd, PyData.depth, Val.dep]
  | .scr _ => by simp [pyd, PyData.depth, Val.dep]
theorem depths_pyd : ∀ (xs : List Val), PyData.depthAll (pyds xs) = Val.deps xs
  | [] => by simp [pyds, PyData.depthAll, Val.deps]
  | x :: xs => by simp [pyds, PyData.depthAll, Val.deps, depth_pyd x, depths_pyd xs]
end
mutual
theorem canLay_pyd : ∀ (x : Val), x.sok = true → (pyd x).canLay0 = true
  | .non, _ => by simp [pyd, PyData.canLay0]
  | .bl _, _ => by simp [pyd, PyData.canLay0]
  | .int _, _ => by simp [pyd, PyData.canLay0]
  | .str s, h => by
    have h' : sOk s = true := by simpa [Val.sok] using h
    simp only [pyd, PyData.canLay0]
    exact h'
  | .tup xs, h => by
    simp only [pyd, PyData.canLay0]
    exact canLays_pyd xs (by simpa [Val.sok] using h)
  | .ref _, _ => by simp [pyd, PyData.canLay0]
  | .fn _, _ => by simp [pyd, PyData.canLay0]
  | .scr _, _ => by simp [pyd, PyData.canLay0]
theorem canLays_pyd : ∀ (xs : List Val), Val.soks xs = true → PyData.canLayAll0 (pyds xs) = true
  | [], _ => by simp [pyds, PyData.canLayAll0]
  | x :: xs, h => by
    simp only [Val.soks, Bool.and_eq_true] at h
    simp [pyds, PyData.canLayAll0, canLay_pyd x h.1, canLays_pyd xs h.2]
end
end Ev
end

section
/-! Od: the order of flat values is the library's. -/
namespace Ev
open PySem PySem.W PyProof.Rows

mutual
theorem alk_pyd : ∀ (x y : Val), x.flat = true → y.flat = true → alike (pyd x) (pyd y) = alk x y
  | .non, y, _, hy => by cases y <;> simp [pyd, alike, alk, Val.flat] at hy ⊢
  | .bl _, y, _, hy => by cases y <;> simp [pyd, alike, alk, Val.flat] at hy ⊢
  | .int _, y, _, hy => by cases y <;> simp [pyd, alike, alk, Val.flat] at hy ⊢
  | .str _, y, _, hy => by cases y <;> simp [pyd, alike, alk, Val.flat] at hy ⊢
  | .tup xs, y, hx, hy => by
    cases y <;> simp [pyd, alike, alk, Val.flat] at hx hy ⊢
    exact alks_pyd xs _ hx hy
  | .ref _, _, hx, _ => by simp [Val.flat] at hx
  | .fn _, _, hx, _ => by simp [Val.flat] at hx
  | .scr _, _, hx, _ => by simp [Val.flat] at hx
theorem alks_pyd : ∀ (xs ys : List Val), Val.flats xs = true → Val.flats ys = true → alikeAll (pyds xs) (pyds ys) = alks xs ys
  | [], _, _, _ => by simp [pyds, alikeAll, alks]
  | _ :: _, [], _, _ => by simp [pyds, alikeAll, alks]
  | x :: xs, y :: ys, hx, hy => by
    simp only [Val.flats, Bool.and_eq_true] at hx hy
    simp only [pyds, alikeAll, alks]
    rw [alk_pyd x y hx.1 hy.1, alks_pyd xs ys hx.2 hy.2]
end
theorem alks_cons {x y : Val} {xs ys : List Val} (h : alks (x :: xs) (y :: ys) = true) : alk x y = true ∧ alks xs ys = true := by
  simpa [alks] using h
mutual
theorem lt_pyd : ∀ (x y : Val), x.flat = true → y.flat = true → alk x y = true → dataLt (pyd x) (pyd y) = ltB x y
  | .non, y, _, _, h => by
    cases y <;> simp [alk] at h
    simp [pyd, ltB, dataLt, keyToks, lex_irrefl]
  | .bl a, y, _, _, h => by
    cases y <;> simp [alk] at h
    simp only [pyd, ltB]
    exact dataLt_bool _ _
  | .int a, y, _, _, h => by
    cases y <;> simp [alk] at h
    simp only [pyd, ltB]
    exact dataLt_int _ _
  | .str a, y, _, _, h => by
    cases y <;> simp [alk] at h
    simp only [pyd, ltB]
    exact dataLt_str _ _
  | .tup xs, y, hx, hy, h => by
    cases y <;> simp [alk, Val.flat] at hx hy h
    simp only [pyd, ltB, dataLt_tuple]
    exact lts_pyd xs _ hx hy h
  | .ref _, _, hx, _, _ => by simp [Val.flat] at hx
  | .fn _, _, hx, _, _ => by simp [Val.flat] at hx
  | .scr _, _, hx, _, _ => by simp [Val.flat] at hx
theorem lts_pyd : ∀ (xs ys : List Val), Val.flats xs = true → Val.flats ys = true → alks xs ys = true → PyProof.Rows.lexLt itemOrd (keyToksAll (pyds xs)) (keyToksAll (pyds ys)) = ltBs xs ys
  | [], [], _, _, _ => by simp only [pyds, ltBs]; exact lex_irrefl _
  | [], y :: ys, _, _, _ => by
    simp only [pyds, ltBs, keyToksAll]
    rw [lex_diff (O := itemOrd) (by simp)]
    simp [itemLt]
  | x :: xs, [], _, _, _ => by
    simp only [pyds, ltBs, keyToksAll]
    rw [lex_diff (O := itemOrd) (by simp)]
    simp [itemLt]
  | x :: xs, y :: ys, hx, hy, h => by
    simp only [Val.flats, Bool.and_eq_true] at hx hy
    obtain ⟨h1, h2⟩ := alks_cons h
    have ha : alike (pyd x) (pyd y) = true := by rw [alk_pyd x y hx.1 hy.1]; exact h1
    simp only [pyds]
    rw [dataLt_cons ha, eqv_pyd x y hx.1 hy.1, lts_pyd xs ys hx.2 hy.2 h2, lt_pyd x y hx.1 hy.1 h1, ltBs]
end
end Ev
end

section
set_option maxRecDepth 100000
/-! Rp: how the plain data of Ev stand in the layer's abstract heap. -/
namespace Ev
open PySem L2

/-- where the things of the top stand: defs by their numbers -/
structure Wh where
  P : Program
  w : World
  K : PySem.W.Frag
  fa : Nat → Addr
  tb : List Addr

/-- tuples stay -/
structure HExt (K : PySem.W.Frag) (H H' : Hp) : Prop where
  t : ∀ a vs, H a = some (.tup vs) → H' a = some (.tup vs)
  z : ∀ a o u, H a = some (.frz o u) → H' a = some (.frz o u)
theorem HExt.trans {K : PySem.W.Frag} {H H1 H2 : Hp} (a : HExt K H H1) (b : HExt K H1 H2) : HExt K H H2 := ⟨fun c vs h => b.t c vs (a.t c vs h), fun c o u h => b.z c o u (a.z c o u h)⟩
theorem HExt.refl {K : PySem.W.Frag} {H : Hp} : HExt K H H := ⟨fun _ _ h => h, fun _ _ _ h => h⟩
/-- the script: known to the object, or written in the top's part -/
def ScrR (K : PySem.W.Frag) (H : Hp) (a : Addr) (xs : List V) : Prop := (∃ o, H a = some (.frz o (.lst xs))) ∨
  ∃ (o : PySem.Obj) (its : Array Value) (n : Nat), K.lookup a = some o ∧ o.cls = .type "list" ∧ o.dict = none ∧ o.data = .seq its n ∧ its.size ≤ sizeLine ∧ Vals xs its.toList
theorem ScrR.sql {K : PySem.W.Frag} {H : Hp} {a : Addr} {xs : List V} (h : ScrR K H a xs) : SqL K H a xs := by
  rcases h with h | h
  · exact .inl (.inr h)
  · exact .inr h
theorem ScrR.ext {K : PySem.W.Frag} {H H' : Hp} {a : Addr} {xs : List V} (h : ScrR K H a xs) (e : HExt K H H') : ScrR K H' a xs := by
  rcases h with ⟨o, h⟩ | h
  · exact .inl ⟨o, e.z _ _ _ h⟩
  · exact .inr h

section
variable (Z : Wh)
mutual
def VR (φ : List Addr) (H : Hp) : Val → V → Prop
  | .non, v => v = .non
  | .bl b, v => v = .bl b
  | .int i, v => v = .int i
  | .str s, v => v = .str s
  | .tup xs, v => ∃ a vs, v = .ref a ∧ H a = some (.tup vs) ∧ VRs φ H xs vs
  | .ref n, v => ∃ a, φ[n]? = some a ∧ v = .ref a
  | .fn f, v => v = .ref (Z.fa f)
  | .scr ns, v => ∃ a, v = .ref a ∧ ScrR Z.K H a (ns.map V.int)
def VRs (φ : List Addr) (H : Hp) : List Val → List V → Prop
  | [], vs => vs = []
  | x :: xs, vs => ∃ v r, vs = v :: r ∧ VR φ H x v ∧ VRs φ H xs r
end
end

/-- what is told stays known; tuples stay -/
structure Ex0 (K : PySem.W.Frag) (φ : List Addr) (H : Hp) (φ' : List Addr) (H' : Hp) : Prop where
  pre : φ <+: φ'
  tup : HExt K H H'
/-- .. and what is no object of the store stays as it is -/
structure Ext (K : PySem.W.Frag) (φ : List Addr) (H : Hp) (φ' : List Addr) (H' : Hp) : Prop extends Ex0 K φ H φ' H' where
  frm : ∀ b u, H b = some u → b ∉ φ → (∀ q, u ≠ .tbl q) → H' b = some u
  tbs : ∀ b q, H b = some (.tbl q) → ∃ q', H' b = some (.tbl q')
  fre : ∀ b, b ∈ φ' → b ∉ φ → H b = none
theorem Ex0.refl {K : PySem.W.Frag} {φ : List Addr} {H : Hp} : Ex0 K φ H φ H := ⟨List.prefix_refl _, .refl⟩
theorem Ex0.trans {K : PySem.W.Frag} {φ φ1 φ2 : List Addr} {H H1 H2 : Hp} (a : Ex0 K φ H φ1 H1) (b : Ex0 K φ1 H1 φ2 H2) : Ex0 K φ H φ2 H2 :=
  ⟨a.pre.trans b.pre, a.tup.trans b.tup⟩
theorem Ext.refl {K : PySem.W.Frag} {φ : List Addr} {H : Hp} : Ext K φ H φ H := ⟨.refl, fun _ _ h _ _ => h, fun _ q h => ⟨q, h⟩, fun _ h h' => absurd h h'⟩
theorem Ext.held {K : PySem.W.Frag} {φ φ1 : List Addr} {H H1 : Hp} (a : Ext K φ H φ1 H1) {b : Addr} {u : HO} (h : H b = some u) (hb : b ∉ φ) : ∃ u', H1 b = some u' := by
  by_cases hq : ∃ q, u = .tbl q
  · obtain ⟨q, rfl⟩ := hq
    obtain ⟨q', h'⟩ := a.tbs b q h
    exact ⟨_, h'⟩
  · exact ⟨u, a.frm b u h hb fun q e => hq ⟨q, e⟩⟩
theorem Ext.trans {K : PySem.W.Frag} {φ φ1 φ2 : List Addr} {H H1 H2 : Hp} (a : Ext K φ H φ1 H1) (b : Ext K φ1 H1 φ2 H2) : Ext K φ H φ2 H2 :=
  ⟨a.toEx0.trans b.toEx0, fun c u h hc nt => b.frm c u (a.frm c u h hc nt) (fun hm => by rw [a.fre c hm hc] at h; cases h) nt,
    fun c q h => let ⟨q1, h1⟩ := a.tbs c q h; b.tbs c q1 h1, fun c hm hc => by
    by_cases h1 : c ∈ φ1
    · exact a.fre c h1 hc
    · have h2 := b.fre c hm h1
      cases h : H c with
      | none => rfl
      | some u =>
        obtain ⟨u', h'⟩ := a.held h hc
        rw [h'] at h2; cases h2⟩
/-- no tuple, no table -/
structure Pl (u : HO) : Prop where
  t : ∀ vs, u ≠ .tup vs
  f : ∀ ob u', u ≠ .frz ob u'
  q : ∀ q, u ≠ .tbl q
theorem Pl.lst {vs : List V} : Pl (.lst vs) := ⟨(fun _ z => by cases z), (fun _ _ z => by cases z), (fun _ z => by cases z)⟩

section
variable {Z : Wh} {φ φ' : List Addr} {H H' : Hp}
theorem pre_get {φ φ' : List Addr} (h : φ <+: φ') {n : Nat} {a : Addr} (e : φ[n]? = some a) : φ'[n]? = some a := by
  obtain ⟨t, rfl⟩ := h
  have := (List.getElem?_eq_some_iff.mp e).1
  rw [List.getElem?_append_left this]; exact e
mutual
theorem VR.ext0 (e : Ex0 Z.K φ H φ' H') : ∀ (x : Val) (v : V), VR Z φ H x v → VR Z φ' H' x v
  | .non, _, h => h
  | .bl _, _, h => h
  | .int _, _, h => h
  | .str _, _, h => h
  | .tup xs, _, ⟨a, vs, h1, h2, h3⟩ => ⟨a, vs, h1, e.tup.t _ _ h2, VRs.ext0 e xs vs h3⟩
  | .ref n, _, ⟨a, h1, h2⟩ => ⟨a, pre_get e.pre h1, h2⟩
  | .fn _, _, h => h
  | .scr _, _, ⟨a, h1, h2⟩ => ⟨a, h1, h2.ext e.tup⟩
theorem VRs.ext0 (e : Ex0 Z.K φ H φ' H') : ∀ (xs : List Val) (vs : List V), VRs Z φ H xs vs → VRs Z φ' H' xs vs
  | [], _, h => h
  | x :: xs, _, ⟨v, r, h1, h2, h3⟩ => ⟨v, r, h1, VR.ext0 e x v h2, VRs.ext0 e xs r h3⟩
end
theorem VR.ext (e : Ext Z.K φ H φ' H') (x : Val) (v : V) (h : VR Z φ H x v) : VR Z φ' H' x v := VR.ext0 e.toEx0 x v h
theorem VRs.ext (e : Ext Z.K φ H φ' H') (xs : List Val) (vs : List V) (h : VRs Z φ H xs vs) : VRs Z φ' H' xs vs := VRs.ext0 e.toEx0 xs vs h
theorem VRs.len : ∀ {xs : List Val} {vs : List V}, VRs Z φ H xs vs → vs.length = xs.length
  | [], _, h => by rw [show _ = [] from h]; rfl
  | x :: xs, _, ⟨v, r, h1, _, h3⟩ => by subst h1; simp [VRs.len h3]
theorem VRs.get : ∀ {xs : List Val} {vs : List V} {i : Nat} {x : Val}, VRs Z φ H xs vs → xs[i]? = some x → ∃ v, vs[i]? = some v ∧ VR Z φ H x v
  | [], _, _, _, _, e => by simp at e
  | y :: xs, _, 0, x, ⟨v, r, h1, h2, _⟩, e => by subst h1; simp at e; subst e; exact ⟨v, by simp, h2⟩
  | y :: xs, _, i + 1, x, ⟨v, r, h1, _, h3⟩, e => by
    subst h1
    obtain ⟨u, a, b⟩ := VRs.get h3 (i := i) (x := x) (by simpa using e)
    exact ⟨u, by simpa using a, b⟩
theorem VRs.append : ∀ {xs ys : List Val} {vs us : List V}, VRs Z φ H xs vs → VRs Z φ H ys us → VRs Z φ H (xs ++ ys) (vs ++ us)
  | [], _, _, _, h, h' => by rw [show _ = [] from h]; exact h'
  | x :: xs, _, _, _, ⟨v, r, h1, h2, h3⟩, h' => by subst h1; exact ⟨v, r ++ _, rfl, h2, VRs.append h3 h'⟩
theorem VRs.single {x : Val} {v : V} (h : VR Z φ H x v) : VRs Z φ H [x] [v] := ⟨v, [], rfl, h, rfl⟩
theorem VRs.take : ∀ {xs : List Val} {vs : List V} (n : Nat), VRs Z φ H xs vs → VRs Z φ H (xs.take n) (vs.take n)
  | [], _, n, h => by rw [show _ = [] from h]; simp [VRs]
  | x :: xs, _, 0, h => by simp [VRs]
  | x :: xs, _, n + 1, ⟨v, r, h1, h2, h3⟩ => by subst h1; exact ⟨v, _, rfl, h2, VRs.take n h3⟩
theorem VRs.drop : ∀ {xs : List Val} {vs : List V} (n : Nat), VRs Z φ H xs vs → VRs Z φ H (xs.drop n) (vs.drop n)
  | [], _, n, h => by rw [show _ = [] from h]; simp [VRs]
  | x :: xs, _, 0, h => h
  | x :: xs, _, n + 1, ⟨v, r, h1, h2, h3⟩ => by subst h1; exact VRs.drop n h3
theorem VRs.set : ∀ {xs : List Val} {vs : List V} (i : Nat) {x : Val} {v : V}, VRs Z φ H xs vs → VR Z φ H x v → VRs Z φ H (xs.set i x) (vs.set i v)
  | [], _, n, _, _, h, _ => by rw [show _ = [] from h]; simp [VRs]
  | x :: xs, _, 0, _, _, ⟨v, r, h1, h2, h3⟩, h => by subst h1; exact ⟨_, _, rfl, h, h3⟩
  | x :: xs, _, n + 1, _, _, ⟨v, r, h1, h2, h3⟩, h => by subst h1; exact ⟨_, _, rfl, h2, VRs.set n h3 h⟩
theorem VRs.eraseIdx : ∀ {xs : List Val} {vs : List V} (i : Nat), VRs Z φ H xs vs → VRs Z φ H (xs.eraseIdx i) (vs.eraseIdx i)
  | [], _, n, h => by rw [show _ = [] from h]; simp [VRs]
  | x :: xs, _, 0, ⟨v, r, h1, h2, h3⟩ => by subst h1; exact h3
  | x :: xs, _, n + 1, ⟨v, r, h1, h2, h3⟩ => by subst h1; exact ⟨_, _, rfl, h2, VRs.eraseIdx n h3⟩
theorem VRs.dropLast {xs : List Val} {vs : List V} (h : VRs Z φ H xs vs) : VRs Z φ H xs.dropLast vs.dropLast := by
  rw [List.dropLast_eq_take, List.dropLast_eq_take, h.len]; exact h.take _
theorem VRs.reverse : ∀ {xs : List Val} {vs : List V}, VRs Z φ H xs vs → VRs Z φ H xs.reverse vs.reverse
  | [], _, h => by rw [show _ = [] from h]; rfl
  | x :: xs, _, ⟨v, r, h1, h2, h3⟩ => by subst h1; simp only [List.reverse_cons]; exact VRs.append (VRs.reverse h3) (.single h2)
/-- of one value no two texts -/
theorem VR.int_inv {v : V} {x : Val} {i : Int} (h : VR Z φ H x v) (e : v = .int i) : x = .int i := by
  subst e
  cases x <;> simp [VR] at h
  · rw [h]
end

/-! ### the store -/
section
variable (Z : Wh)
def keyV : Key → Val
  | .inl i => .int i
  | .inr x => .str x
def KRs (φ : List Addr) (H : Hp) : List (Val × Val) → List (Key × V) → Prop
  | [], kk => kk = []
  | (k, v) :: r, kk => ∃ key V rest, kk = (key, V) :: rest ∧ k = keyV key ∧ VR Z φ H v V ∧ KRs φ H r rest
/-- .. keys that are tuples -/
def TRs (φ : List Addr) (H : Hp) : List (Val × Val) → List (List Key × V) → Prop
  | [], kk => kk = []
  | (k, v) :: r, kk => ∃ key V rest, kk = (key, V) :: rest ∧ k = .tup (key.map keyV) ∧ VR Z φ H v V ∧ TRs φ H r rest
/-- the members of a set of tuples of ints -/
def SRs (φ : List Addr) (H : Hp) (xs : List Val) (L : List (Addr × List Int)) : Prop :=
  (∀ x, x ∈ xs ↔ ∃ p ∈ L, x = .tup (p.2.map Val.int)) ∧ (∀ p ∈ L, H p.1 = some (.tup (p.2.map V.int))) ∧ xs.length = L.length ∧ (L.map (·.2)).Nodup
def OR (φ : List Addr) (H : Hp) (a : Addr) : Ev.Obj → Prop
  | .lst xs => ∃ vs, H a = some (.lst vs) ∧ VRs Z φ H xs vs
  | .dct kvs => (∃ kk, H a = some (.dK kk) ∧ KRs Z φ H kvs kk) ∨ kvs ≠ [] ∧ ∃ kt, H a = some (.dT kt) ∧ TRs Z φ H kvs kt
  | .set xs => xs.Nodup ∧ ((∃ (ns : List Int) (S : Int → Bool), xs = ns.map Val.int ∧ H a = some (SetO Z.w a S ns.length) ∧ ∀ k, S k = true ↔ k ∈ ns) ∨
      ∃ L, H a = some (SetTO Z.P Z.w a L) ∧ SRs φ H xs L)
  | .ins _ _ => False
structure Rep (φ : List Addr) (μ : Store) (H : Hp) : Prop where
  len : φ.length = μ.length
  nd : φ.Nodup
  obj : ∀ (n : Nat) (o : Ev.Obj) (a : Addr), μ[n]? = some o → φ[n]? = some a → OR Z φ H a o
  tab : ∀ P ∈ Z.tb, GxR.TabG H P
end
section
variable {Z : Wh} {φ φ' : List Addr} {μ : Store} {H H' : Hp} {p a : Addr} {o : HO} {n : Nat}
theorem HExt.new {K : PySem.W.Frag} (hp : H p = none) : HExt K H (upd H p o) := ⟨fun b vs h => by
  rw [upd_ne (ne_of_none h hp)]; exact h, fun b vs u h => by
  rw [upd_ne (ne_of_none h hp)]; exact h⟩
theorem Ext.new {K : PySem.W.Frag} (hp : H p = none) : Ext K φ H φ (upd H p o) := ⟨⟨List.prefix_refl _, .new hp⟩, fun b u h _ _ => by rw [upd_ne (ne_of_none h hp)]; exact h, fun b q h => ⟨q, by rw [upd_ne (ne_of_none h hp)]; exact h⟩, fun _ h h' => absurd h h'⟩
theorem KRs.ext (e : Ex0 Z.K φ H φ' H') : ∀ {kvs : List (Val × Val)} {kk : List (Key × V)}, KRs Z φ H kvs kk → KRs Z φ' H' kvs kk
  | [], _, h => h
  | (k, v) :: r, _, ⟨key, V, rest, h1, h2, h3, h4⟩ => ⟨key, V, rest, h1, h2, VR.ext0 e v V h3, KRs.ext e h4⟩
theorem TRs.ext (e : Ex0 Z.K φ H φ' H') : ∀ {kvs : List (Val × Val)} {kk : List (List Key × V)}, TRs Z φ H kvs kk → TRs Z φ' H' kvs kk
  | [], _, h => h
  | (k, v) :: r, _, ⟨key, V, rest, h1, h2, h3, h4⟩ => ⟨key, V, rest, h1, h2, VR.ext0 e v V h3, TRs.ext e h4⟩
theorem OR.ext_ne0 {b : Addr} {ob : Ev.Obj} (h : OR Z φ H b ob) (e : Ex0 Z.K φ H φ' H') (hb : H' b = H b) : OR Z φ' H' b ob := by
  cases ob with
  | lst xs => obtain ⟨vs, h1, h2⟩ := h; exact ⟨vs, by rw [hb]; exact h1, VRs.ext0 e xs vs h2⟩
  | dct kvs =>
    rcases h with ⟨kk, h1, h2⟩ | ⟨hn, xs, h1, h2⟩
    · exact .inl ⟨kk, by rw [hb]; exact h1, h2.ext e⟩
    · exact .inr ⟨hn, xs, by rw [hb]; exact h1, h2.ext e⟩
  | set xs =>
    obtain ⟨nd, h⟩ := h
    refine ⟨nd, ?_⟩
    rcases h with ⟨ns, S, h1, h2, h3⟩ | ⟨L, h1, h2, h3, h4⟩
    · exact .inl ⟨ns, S, h1, by rw [hb]; exact h2, h3⟩
    · exact .inr ⟨L, by rw [hb]; exact h1, h2, fun p hp => e.tup.t _ _ (h3 p hp), h4⟩
  | ins _ _ => exact h.elim
theorem OR.ext_ne {b : Addr} {ob : Ev.Obj} (h : OR Z φ H b ob) (e : Ext Z.K φ H φ' H') (hb : H' b = H b) : OR Z φ' H' b ob := OR.ext_ne0 h e.toEx0 hb
theorem OR.some {b : Addr} {ob : Ev.Obj} (h : OR Z φ H b ob) : ∃ u, H b = .some u := by
  cases ob with
  | lst xs => obtain ⟨vs, h1, _⟩ := h; exact ⟨_, h1⟩
  | dct kvs =>
    rcases h with ⟨kk, h1, h2⟩ | ⟨hn, xs, h1, h2⟩
    · exact ⟨_, h1⟩
    · exact ⟨_, h1⟩
  | set xs =>
    rcases h.2 with ⟨ns, S, h1, h2, h3⟩ | ⟨L, h1, h2⟩
    · exact ⟨_, h2⟩
    · exact ⟨_, h1⟩
  | ins _ _ => exact h.elim
theorem Rep.at_ (R : Rep Z φ μ H) {ob : Ev.Obj} (e : μ[n]? = some ob) : ∃ a, φ[n]? = some a ∧ OR Z φ H a ob := by
  have h1 := (List.getElem?_eq_some_iff.mp e).1
  have h2 : n < φ.length := by rw [R.len]; exact h1
  exact ⟨φ[n], List.getElem?_eq_getElem h2, R.obj n ob _ e (List.getElem?_eq_getElem h2)⟩
theorem Rep.lst (R : Rep Z φ μ H) {xs : List Val} (e : μ[n]? = some (.lst xs)) (ha : φ[n]? = some a) : ∃ vs, H a = some (.lst vs) ∧ VRs Z φ H xs vs := R.obj n _ a e ha
theorem Rep.has (R : Rep Z φ μ H) {b : Addr} (hb : φ[n]? = some b) : ∃ u, H b = .some u := by
  have h1 := (List.getElem?_eq_some_iff.mp hb).1
  have h2 : n < μ.length := by rw [← R.len]; exact h1
  exact (R.obj n _ b (List.getElem?_eq_getElem h2) hb).some
/-- an untold thing is new -/
theorem tab_ne {P : Addr} (h : GxR.TabG H P) (hn : P ≠ a) : GxR.TabG (L2.upd H a o) P := by
  obtain ⟨q, h1, h2⟩ := h
  exact ⟨q, by rw [upd_ne hn]; exact h1, h2⟩
theorem tab_new {P : Addr} (h : GxR.TabG H P) (hp : H p = none) : GxR.TabG (L2.upd H p o) P := tab_ne h fun e => by
  obtain ⟨q, h1, h2⟩ := h
  rw [e, hp] at h1; cases h1
theorem tab_pl {P : Addr} {u : HO} (h : GxR.TabG H P) (ha : H a = some u) (hu : Pl u) : GxR.TabG (L2.upd H a o) P := tab_ne h fun e => by
  obtain ⟨q, h1, h2⟩ := h
  rw [e, ha] at h1
  exact hu.q q (Option.some.inj h1)
theorem Rep.new (R : Rep Z φ μ H) (hp : H p = none) : Rep Z φ μ (upd H p o) :=
  ⟨R.len, R.nd, fun n ob b e hb => (R.obj n ob b e hb).ext_ne (.new hp) (by
    obtain ⟨u, hu⟩ := R.has hb
    exact upd_ne (ne_of_none hu hp)), fun P hP => tab_new (R.tab P hP) hp⟩
theorem Rep.fresh (R : Rep Z φ μ H) (hp : H p = none) : p ∉ φ := fun hm => by
  obtain ⟨n, hn⟩ := List.mem_iff_getElem?.mp hm
  obtain ⟨u, hu⟩ := R.has hn
  rw [hp] at hu; cases hu
theorem Ext.push {K : PySem.W.Frag} (hp : H p = none) : Ext K φ H (φ ++ [p]) (upd H p o) := ⟨⟨List.prefix_append _ _, .new hp⟩, fun b u h _ _ => by rw [upd_ne (ne_of_none h hp)]; exact h, fun b q h => ⟨q, by rw [upd_ne (ne_of_none h hp)]; exact h⟩, fun b h h' => by
  rcases List.mem_append.mp h with h | h
  · exact absurd h h'
  · rw [List.mem_singleton.mp h]; exact hp⟩
/-- a new object of the store -/
theorem Rep.push (R : Rep Z φ μ H) (hp : H p = none) {ob : Ev.Obj} (h : OR Z (φ ++ [p]) (upd H p o) p ob) : Rep Z (φ ++ [p]) (μ ++ [ob]) (upd H p o) := by
  refine ⟨by simp [R.len], ?_, fun n u b e hb => ?_, ?_⟩
  · rw [List.nodup_append]
    exact ⟨R.nd, by simp, fun x hx y hy => by simp at hy; subst hy; exact fun e => R.fresh hp (e ▸ hx)⟩
  · by_cases hn : n < μ.length
    · rw [List.getElem?_append_left hn] at e
      rw [List.getElem?_append_left (by rw [R.len]; exact hn)] at hb
      obtain ⟨w, hw⟩ := R.has hb
      exact (R.obj n u b e hb).ext_ne (.push hp) (upd_ne (ne_of_none hw hp))
    · have hl : n = μ.length := by
        have := (List.getElem?_eq_some_iff.mp e).1
        simp at this; omega
      subst hl
      rw [List.getElem?_append_right (Nat.le_refl _)] at e
      rw [List.getElem?_append_right (by rw [R.len]; exact Nat.le_refl _)] at hb
      rw [R.len] at hb
      simp at e hb
      subst e; subst hb
      exact h
  · exact fun P hP => tab_new (R.tab P hP) hp
theorem Rep.pushL (R : Rep Z φ μ H) (hp : H p = none) {xs : List Val} {vs : List V} (h : VRs Z φ H xs vs) : Rep Z (φ ++ [p]) (μ ++ [.lst xs]) (upd H p (.lst vs)) :=
  R.push hp ⟨vs, upd_same, VRs.ext (.push hp) xs vs h⟩
theorem HExt.upd {K : PySem.W.Frag} {u : HO} (ha : H a = some u) (h1 : ∀ vs, u ≠ .tup vs) (h2 : ∀ ob u', u ≠ .frz ob u') : HExt K H (upd H a o) := ⟨fun b vs h => by
  rw [upd_ne (fun e => by subst e; rw [ha] at h; exact h1 _ (Option.some.inj h))]; exact h, fun b ob u' h => by
  rw [upd_ne (fun e => by subst e; rw [ha] at h; exact h2 _ _ (Option.some.inj h))]; exact h⟩
theorem Ext.upd {K : PySem.W.Frag} {u : HO} (hn : φ[n]? = some a) (ha : H a = some u) (hu : Pl u) : Ext K φ H φ (L2.upd H a o) :=
  ⟨⟨List.prefix_refl _, .upd ha hu.t hu.f⟩, fun b u h hb _ => by
    have hm : a ∈ φ := List.mem_of_getElem? hn
    rw [upd_ne (fun e => hb (by rw [e]; exact hm))]; exact h, fun b q h => ⟨q, by rw [upd_ne (fun e => by rw [e, ha] at h; exact hu.q q (Option.some.inj h))]; exact h⟩, fun _ h h' => absurd h h'⟩
/-- an object of the store is changed -/
theorem Rep.upd {u : HO} (R : Rep Z φ μ H) (hn : φ[n]? = some a) (ha : H a = some u) (hu : Pl u) {ob : Ev.Obj} (h : OR Z φ (upd H a o) a ob) :
    Rep Z φ (μ.set n ob) (L2.upd H a o) := by
  refine ⟨by simp [R.len], R.nd, fun k w b e hb => ?_, fun P hP => tab_pl (R.tab P hP) ha hu⟩
  have hl : n < φ.length := (List.getElem?_eq_some_iff.mp hn).1
  by_cases hk : k = n
  · subst hk
    rw [hn] at hb; cases hb
    rw [List.getElem?_set_self (by rw [← R.len]; exact hl)] at e
    cases e; exact h
  · rw [List.getElem?_set_ne (Ne.symm hk)] at e
    refine (R.obj k w b e hb).ext_ne (.upd hn ha hu) (upd_ne fun z => ?_)
    subst z
    obtain ⟨h3, e3⟩ := List.getElem?_eq_some_iff.mp hb
    obtain ⟨h4, e4⟩ := List.getElem?_eq_some_iff.mp hn
    exact hk ((List.getElem_inj R.nd).mp (e3.trans e4.symm))
theorem Rep.updL (R : Rep Z φ μ H) (hn : φ[n]? = some a) {us : List V} (ha : H a = some (.lst us)) {xs : List Val} {vs : List V} (h : VRs Z φ H xs vs) :
    Rep Z φ (μ.set n (.lst xs)) (L2.upd H a (.lst vs)) ∧ Ext Z.K φ H φ (L2.upd H a (.lst vs)) := by
  have e : Ext Z.K φ H φ (L2.upd H a (.lst vs)) := .upd hn ha .lst
  exact ⟨R.upd hn ha .lst ⟨vs, upd_same, VRs.ext e xs vs h⟩, e⟩
end

section
variable {Z : Wh} {φ φ' φ1 : List Addr} {μ : Store} {H H' H1 : Hp} {p a D : Addr} {o u : HO} {n : Nat}
/-- an object that is none of the store's is changed -/
theorem Rep.hid (R : Rep Z φ μ H) (hD : D ∉ φ) (ha : H D = some u) (hu : Pl u) : Rep Z φ μ (L2.upd H D o) ∧ Ex0 Z.K φ H φ (L2.upd H D o) := by
  have e : Ex0 Z.K φ H φ (L2.upd H D o) := ⟨List.prefix_refl _, .upd ha hu.t hu.f⟩
  exact ⟨⟨R.len, R.nd, fun k w b eb hb => (R.obj k w b eb hb).ext_ne0 e (upd_ne fun z => hD (by rw [← z]; exact List.mem_of_getElem? hb)), fun P hP => tab_pl (R.tab P hP) ha hu⟩, e⟩
theorem Ext.hid {K : PySem.W.Frag} (e : Ext K φ1 H1 φ H) (hD : H1 D = none) (ha : H D = some u) (hu : Pl u) : Ext K φ1 H1 φ (L2.upd H D o) :=
  ⟨e.toEx0.trans ⟨List.prefix_refl _, .upd ha hu.t hu.f⟩, fun b w hb hm nt => by rw [upd_ne (ne_of_none hb hD)]; exact e.frm b w hb hm nt, fun b q h => by rw [upd_ne (ne_of_none h hD)]; exact e.tbs b q h, e.fre⟩
/-- .. comes into the store -/
theorem Rep.adopt (R : Rep Z φ μ H) (hD : D ∉ φ) {xs : List Val} {vs : List V} (hl : H D = some (.lst vs)) (h : VRs Z φ H xs vs) : Rep Z (φ ++ [D]) (μ ++ [.lst xs]) H := by
  have e : Ex0 Z.K φ H (φ ++ [D]) H := ⟨List.prefix_append _ _, .refl⟩
  refine ⟨by simp [R.len], ?_, fun n w b eb hb => ?_, R.tab⟩
  · rw [List.nodup_append]
    exact ⟨R.nd, by simp, fun x hx y hy => by simp at hy; subst hy; exact fun e => hD (e ▸ hx)⟩
  · by_cases hn : n < μ.length
    · rw [List.getElem?_append_left hn] at eb
      rw [List.getElem?_append_left (by rw [R.len]; exact hn)] at hb
      exact (R.obj n w b eb hb).ext_ne0 e rfl
    · have hl' : n = μ.length := by
        have := (List.getElem?_eq_some_iff.mp eb).1
        simp at this; omega
      subst hl'
      rw [List.getElem?_append_right (Nat.le_refl _)] at eb
      rw [List.getElem?_append_right (by rw [R.len]; exact Nat.le_refl _)] at hb
      rw [R.len] at hb
      simp at eb hb
      subst eb; subst hb
      exact ⟨vs, hl, VRs.ext0 e xs vs h⟩
theorem Ext.adopt {K : PySem.W.Frag} (e : Ext K φ1 H1 φ H) (hD : H1 D = none) : Ext K φ1 H1 (φ ++ [D]) H :=
  ⟨⟨e.pre.trans (List.prefix_append _ _), e.tup⟩, e.frm, e.tbs, fun b hb hm => by
    rcases List.mem_append.mp hb with h | h
    · exact e.fre b h hm
    · rw [List.mem_singleton.mp h]; exact hD⟩
theorem Ext.none_of {K : PySem.W.Frag} (e : Ext K φ H φ1 H1) (R1 : Rep Z φ1 μ H1) (hD : H1 D = none) : H D = none := by
  cases h : H D with
  | none => rfl
  | some u =>
    by_cases hm : D ∈ φ
    · obtain ⟨n, hn⟩ := List.mem_iff_getElem?.mp hm
      obtain ⟨w, hw⟩ := R1.has (pre_get e.pre hn)
      rw [hD] at hw; cases hw
    · obtain ⟨u', h'⟩ := e.held h hm
      rw [h'] at hD; cases hD
/-- an untold object stays untold, and as it is -/
theorem Ext.stay {K : PySem.W.Frag} (e : Ext K φ H φ1 H1) (hD : D ∉ φ) (h : H D = some u) (hu : Pl u) : D ∉ φ1 ∧ H1 D = some u := ⟨(fun hm => by rw [e.fre D hm hD] at h; cases h), e.frm D u h hD hu.q⟩
end

/-! ### names' values -/
structure StR (Z : Wh) (φ : List Addr) (H : Hp) (ρ : Env) (σ : L2.St) : Prop where
  len : ρ.length = σ.length
  get : ∀ (i : Nat) (x : Val), ρ[i]? = some (some x) → ∃ v, σ[i]? = some (some v) ∧ VR Z φ H x v
section
variable {Z : Wh} {φ φ' : List Addr} {H H' : Hp} {ρ : Env} {σ : L2.St}
theorem StR.ext (s : StR Z φ H ρ σ) (e : Ext Z.K φ H φ' H') : StR Z φ' H' ρ σ := ⟨s.len, fun i x h => let ⟨v, a, b⟩ := s.get i x h; ⟨v, a, VR.ext e x v b⟩⟩
theorem StR.set (s : StR Z φ H ρ σ) {i : Nat} {x : Val} {v : V} (h : VR Z φ H x v) : StR Z φ H (ρ.set i (some x)) (σ.set i (some v)) := by
  refine ⟨by simp [s.len], fun j y e => ?_⟩
  by_cases hj : j = i
  · subst hj
    by_cases hl : j < ρ.length
    · rw [List.getElem?_set_self hl] at e
      cases e
      exact ⟨v, List.getElem?_set_self (by rw [← s.len]; exact hl), h⟩
    · rw [List.getElem?_eq_none (by simpa using hl)] at e; cases e
  · rw [List.getElem?_set_ne (Ne.symm hj)] at e
    rw [List.getElem?_set_ne (Ne.symm hj)]
    exact s.get j y e
end
end Ev
end

section
set_option maxRecDepth 100000
set_option maxHeartbeats 1000000
/-! Sn1: the language is sound over the layer: values, terms without blocks. -/
namespace Ev
open PySem L2

/-! ### what is promised of a def -/
def spG (Z : Wh) (g : List Val → M Val) (np : Nat) : Sp := fun vs H Q _ => ∃ args μ φ, args.length = np ∧ Rep Z φ μ H ∧ VRs Z φ H args vs ∧ ∃ v μ', g args μ = .ok v μ' ∧
  ∀ V H' φ', Ext Z.K φ H φ' H' → Rep Z φ' μ' H' → VR Z φ' H' v V → Q V H'
/-- how keywords alone bind -/
def KwB (fd : FuncData) (d : Df) : Prop := ∀ ks ∈ d.kws, (permOf d.ps ks).length = d.ps.length ∧ (∀ i ∈ permOf d.ps ks, i < ks.length) ∧ ∀ us : List Value, us.length = ks.length → bindArgs fd ⟨[], ks.zip us⟩ = pure (d.ps.zip ((permOf d.ps ks).filterMap fun i => us[i]?))
structure FnC (Y : Sys) (Z : Wh) (P : Program) (w : World) (mg : Str → Option Value) (base : Heap) (k : Nat) (x : Str) (d : Df) : Prop where
  at_ : mg x = some (.ref (Z.fa d.id))
  kp : PySem.W.keepIn Z.K (.ref (Z.fa d.id)) = true
  ok : ∃ fd, FnOk P w Z.K mg base CX0 k (Z.fa d.id) fd d.ps (spG Z (Y.G d.id) d.ps.length) ∧ Binds Z.K fd d.ps [] ∧ KwB fd d
structure Mo (Y : Sys) (Z : Wh) (P : Program) (w : World) (mg : Str → Option Value) (base : Heap) (k : Nat) (c : CC) : Prop where
  con : ∀ x j, c.cons.lookup x = some j → ∃ i t, Y.con j = some (.int i) ∧ mg x = some (Value.int i t)
  bt : ∀ x, x ∈ c.bt → mg x = none
  fn : ∀ x d, c.fns.lookup x = some d → FnC Y Z P w mg base k x d
structure Good (Y : Sys) (Z : Wh) (k : Nat) (c : CC) (X : Cx) : Prop where
  P : X.prog = Z.P
  w : X.w = Z.w
  K : X.K = Z.K
  N : X.N = c.N
  nd : c.N.Nodup
  calm : X.calm = true
  room : Room k X.A
  room1 : c.tb = true → Room (k + 1) X.A
  tab : c.tb = true → ∃ cc PP, X.env.code = .ref cc ∧ GxR.TabB X.base X.mg cc PP ∧ PP ∈ Z.tb
  vis : ∀ x, isVis c x = true → Vis X.env.scope x
  glo : ∀ x, isGlo c x = true → Gl X x
  sto : ∀ x, (c.sc.names.lookup x = some .local ∨ c.sc.names.lookup x = some .cell) → Loc X.env.scope x ∧ (X.fn x = true ∨ X.env.scope.names.lookup x = some .local)
  mo : Mo Y Z X.prog X.w X.mg X.base k c
  fre : ∀ x, (c.sc.names.lookup x = some .cell ∨ c.sc.names.lookup x = some .free) → X.env.scope.names.lookup x = some .cell ∨ X.env.scope.names.lookup x = some .free

/-! ### the readings -/
section
variable (Y : Sys) (Z : Wh)
/-- what follows a value -/
def Kv (φ : List Addr) (H : Hp) (μ' : Store) (v : Val) (Q : VK) : Prop := ∀ V H' φ', Ext Z.K φ H φ' H' → Rep Z φ' μ' H' → VR Z φ' H' v V → Q V H'
def tE (e : E) : TE := fun σ H Q => ∃ ρ μ φ, StR Z φ H ρ σ ∧ Rep Z φ μ H ∧ ∃ v μ', evE Y e ρ μ = .ok v μ' ∧ Kv Z φ H μ' v Q
def Kb (φ : List Addr) (H : Hp) (μ' : Store) (b : Bool) (Q : Bool → Hp → Prop) : Prop := ∀ H' φ', Ext Z.K φ H φ' H' → Rep Z φ' μ' H' → Q b H'
def tT (e : E) : TT := fun σ H Q => ∃ ρ μ φ, StR Z φ H ρ σ ∧ Rep Z φ μ H ∧ ∃ b μ', toB (evE Y e ρ) μ = .ok b μ' ∧ Kb Z φ H μ' b Q
def Ks (φ : List Addr) (H : Hp) (μ' : Store) (vs : List Val) (Q : List V → Hp → Prop) : Prop := ∀ Vs H' φ', Ext Z.K φ H φ' H' → Rep Z φ' μ' H' → VRs Z φ' H' vs Vs → Q Vs H'
def tA (es : Es) : TA := fun σ H Q => ∃ ρ μ φ, StR Z φ H ρ σ ∧ Rep Z φ μ H ∧ ∃ vs μ', evEs Y es ρ μ = .ok vs μ' ∧ Ks Z φ H μ' vs Q
end

/-! ### the monad -/
theorem bind_ok {α β : Type} {x : M α} {f : α → M β} {μ μ' : Store} {b : β} (h : (x >>= f) μ = .ok b μ') : ∃ a μ1, x μ = .ok a μ1 ∧ f a μ1 = .ok b μ' := by
  change M.bind x f μ = _ at h
  unfold M.bind at h
  split at h
  · rename_i a m1 e; exact ⟨a, m1, e, h⟩
  · cases h
  · cases h
theorem pure_ok {α : Type} {a b : α} {μ μ' : Store} (h : (pure a : M α) μ = .ok b μ') : a = b ∧ μ = μ' := by
  change R.ok a μ = _ at h
  cases h; exact ⟨rfl, rfl⟩
theorem ofO_ok {α : Type} {o : Option α} {b : α} {μ μ' : Store} (h : ofO o μ = .ok b μ') : o = some b ∧ μ = μ' := by
  cases o with
  | none => cases h
  | some a => obtain ⟨rfl, rfl⟩ := pure_ok h; exact ⟨rfl, rfl⟩
theorem must_ok {α : Type} {c : Prop} [Decidable c] {x : M α} {b : α} {μ μ' : Store} (h : must c x μ = .ok b μ') : c ∧ x μ = .ok b μ' := by
  unfold must at h
  split at h
  · exact ⟨by assumption, h⟩
  · cases h
theorem asB_ok {v : Val} {b : Bool} {μ μ' : Store} (h : asB v μ = .ok b μ') : v = .bl b ∧ μ = μ' := by
  cases v <;> first | (obtain ⟨rfl, rfl⟩ := pure_ok h; exact ⟨rfl, rfl⟩) | cases h
theorem toB_ok {x : M Val} {b : Bool} {μ μ' : Store} (h : toB x μ = .ok b μ') : x μ = .ok (.bl b) μ' := by
  obtain ⟨v, m1, h1, h2⟩ := bind_ok h
  obtain ⟨rfl, rfl⟩ := asB_ok h2
  exact h1
theorem toB_of {x : M Val} {b : Bool} {μ μ' : Store} (h : x μ = .ok (.bl b) μ') : toB x μ = .ok b μ' := by
  show M.bind x (fun v => asB v) μ = _
  unfold M.bind
  rw [h]; rfl

/-! ### from one reading to another -/
theorem PE.imp {X : Cx} {e : Expr} {t u : TE} (h : PE X e t) (f : ∀ σ H Q, u σ H Q → t σ H Q) : PE X e u := ⟨fun pins s σ H Q I q => h.run pins s σ H Q I (f σ H Q q)⟩
theorem PT.imp {X : Cx} {e : Expr} {t u : TT} (h : PT X e t) (f : ∀ σ H Q, u σ H Q → t σ H Q) : PT X e u := ⟨fun pins s σ H Q I q => h.run pins s σ H Q I (f σ H Q q)⟩

section
variable {Y : Sys} {Z : Wh} {φ : List Addr} {H : Hp} {ρ : Env} {σ : L2.St} {μ μ1 μ2 μ3 : Store}
theorem tE_mk {e : E} {Q : VK} {v : Val} (st : StR Z φ H ρ σ) (rp : Rep Z φ μ H) (h : evE Y e ρ μ = .ok v μ1) (k : Kv Z φ H μ1 v Q) : tE Y Z e σ H Q := ⟨ρ, μ, φ, st, rp, v, μ1, h, k⟩
/-- two terms in a row -/
theorem two {a b : E} {x y : Val} {R : V → V → Hp → Prop} (st : StR Z φ H ρ σ) (rp : Rep Z φ μ H) (ha : evE Y a ρ μ = .ok x μ1) (hb : evE Y b ρ μ1 = .ok y μ2)
    (k : ∀ U W H' φ', Ext Z.K φ H φ' H' → Rep Z φ' μ2 H' → VR Z φ' H' x U → VR Z φ' H' y W → R U W H') : tE Y Z a σ H fun U H1 => tE Y Z b σ H1 fun W H2 => R U W H2 :=
  tE_mk st rp ha fun U H1 φ1 e1 r1 v1 => tE_mk (st.ext e1) r1 hb fun W H2 φ2 e2 r2 v2 => k U W H2 φ2 (e1.trans e2) r2 (VR.ext e2 _ _ v1) v2
theorem Kv.same {v : Val} {V : V} {Q : VK} (k : Kv Z φ H μ v Q) (rp : Rep Z φ μ H) (h : VR Z φ H v V) : Q V H := k V H φ .refl rp h
theorem Kv.ext {v : Val} {Q : VK} {φ1 : List Addr} {H1 : Hp} (k : Kv Z φ H μ v Q) (e : Ext Z.K φ H φ1 H1) : Kv Z φ1 H1 μ v Q := fun V H' φ' e' r' v' => k V H' φ' (e.trans e') r' v'
end

/-! ### terms by their heads -/
section
variable {Y : Sys} {Z : Wh} {k : Nat} {c : CC} {X : Cx} {a b d e : Expr} {x y z : E} {pos : Pos}
theorem s_const {kk : Const} {j : Nat} {E' : E} (h : cConst kk = some E') : PE X (.Constant kk j pos) (tE Y Z E') := by
  cases kk <;> simp [cConst] at h <;> subst h
  · exact PE.imp pe_non fun σ H Q ⟨ρ, μ, φ, st, rp, v, μ', hv, q⟩ => by
      obtain ⟨rfl, rfl⟩ := pure_ok hv
      exact q.same rp rfl
  · exact PE.imp pe_bl fun σ H Q ⟨ρ, μ, φ, st, rp, v, μ', hv, q⟩ => by
      obtain ⟨rfl, rfl⟩ := pure_ok hv
      exact q.same rp rfl
  · exact PE.imp pe_int fun σ H Q ⟨ρ, μ, φ, st, rp, v, μ', hv, q⟩ => by
      obtain ⟨rfl, rfl⟩ := pure_ok hv
      exact q.same rp rfl
  · exact PE.imp pe_str fun σ H Q ⟨ρ, μ, φ, st, rp, v, μ', hv, q⟩ => by
      obtain ⟨rfl, rfl⟩ := pure_ok hv
      exact q.same rp rfl
theorem okName_db {x : Str} (h : okName x = true) : (x == ("__debug__" : Str)) = false := by
  unfold okName at h
  simp at h
  simpa using h.1
theorem okName_cd {x : Str} (h : okName x = true) : (x == ("__classdict__" : Str)) = false := by
  unfold okName at h
  simp at h
  simpa using h.2
theorem s_name (G : Good Y Z k c X) {n : Str} {E' : E} (h : cName c n = some E') : PE X (.Name n pos) (tE Y Z E') := by
  unfold cName at h
  split at h
  · rename_i ok
    split at h
    · rename_i hv
      cases hs : slot c.N n with
      | none => rw [hs] at h; cases h
      | some i =>
        rw [hs] at h; cases h
        refine PE.imp (pe_var (i := i) (by rw [G.N]; exact slot_get hs) (G.vis n hv) (okName_db ok) (okName_cd ok)) fun σ H Q ⟨ρ, μ, φ, st, rp, v, μ', hv, q⟩ => ?_
        obtain ⟨e1, rfl⟩ := ofO_ok hv
        have e2 : ρ[i]? = some (some v) := by
          cases hr : ρ[i]? with
          | none => rw [hr] at e1; cases e1
          | some o => rw [hr] at e1; simp at e1; rw [e1]
        obtain ⟨V, h1, h2⟩ := st.get i v e2
        exact ⟨V, h1, q.same rp h2⟩
    · split at h
      · rename_i hg
        cases hs : c.cons.lookup n with
        | none => rw [hs] at h; cases h
        | some j =>
          rw [hs] at h; cases h
          obtain ⟨i, t, h1, h2⟩ := G.mo.con n j hs
          refine PE.imp (pe_glob (v := V.int i) (G.glo n hg) h2 ⟨t, rfl⟩ (okName_db ok)) fun σ H Q ⟨ρ, μ, φ, st, rp, v, μ', hv, q⟩ => ?_
          obtain ⟨e1, rfl⟩ := ofO_ok hv
          rw [h1] at e1; cases e1
          exact q.same rp rfl
      · cases h
  · cases h
theorem Rep.newT {φ : List Addr} {μ : Store} {H : Hp} {p : Addr} {xs : List Val} {vs : List V} {Q : VK} (rp : Rep Z φ μ H) (hp : H p = none) (h : VRs Z φ H xs vs) (q : Kv Z φ H μ (.tup xs) Q) : Q (.ref p) (L2.upd H p (.tup vs)) :=
  q _ _ φ (.new hp) (rp.new hp) ⟨p, vs, rfl, upd_same, VRs.ext (.new hp) xs vs h⟩
theorem Rep.newL {φ : List Addr} {μ : Store} {H : Hp} {p : Addr} {xs : List Val} {vs : List V} {Q : VK} (rp : Rep Z φ μ H) (hp : H p = none) (h : VRs Z φ H xs vs) (q : Kv Z φ H (μ ++ [.lst xs]) (.ref μ.length) Q) : Q (.ref p) (L2.upd H p (.lst vs)) :=
  q _ _ (φ ++ [p]) (.push hp) (rp.pushL hp h) ⟨p, by rw [List.getElem?_append_right (by rw [rp.len]; exact Nat.le_refl _), rp.len]; simp, rfl⟩
theorem lim_eq : lim = sizeLine := by decide
theorem newLst_ok {xs : List Val} {v : Val} {μ μ' : Store} (h : newLst xs μ = .ok v μ') : xs.length ≤ sizeLine ∧ v = .ref μ.length ∧ μ' = μ ++ [.lst xs] := by
  obtain ⟨h1, h2⟩ := must_ok h
  rw [lim_eq] at h1
  change R.ok _ _ = _ at h2
  cases h2
  exact ⟨h1, rfl, rfl⟩
theorem newTup_ok {xs : List Val} {v : Val} {μ μ' : Store} (h : newTup xs μ = .ok v μ') : xs.length ≤ sizeLine ∧ v = .tup xs ∧ μ' = μ := by
  obtain ⟨h1, h2⟩ := must_ok h
  rw [lim_eq] at h1
  obtain ⟨rfl, rfl⟩ := pure_ok h2
  exact ⟨h1, rfl, rfl⟩
/-- the object behind a reference -/
theorem Rep.ref_lst {φ : List Addr} {μ : Store} {H : Hp} {n : Nat} {xs : List Val} {U : V} (rp : Rep Z φ μ H) (h : VR Z φ H (.ref n) U) (e : μ[n]? = some (.lst xs)) : ∃ p vs, U = .ref p ∧ φ[n]? = some p ∧ H p = some (.lst vs) ∧ VRs Z φ H xs vs := by
  obtain ⟨p, h1, h2⟩ := h
  obtain ⟨vs, h3, h4⟩ := rp.lst e h1
  exact ⟨p, vs, h2, h1, h3, h4⟩
theorem s_bin (G : Good Y Z k c X) {o : Operator} {o' : Bop} (ho : cOp o = some o') (ha : PE X a (tE Y Z x)) (hb : PE X b (tE Y Z y)) : PE X (.BinOp a o b pos) (tE Y Z (.bin o' x y)) := by
  refine ⟨fun pins s σ H Q I h => ?_⟩
  obtain ⟨ρ, μ, φ, st, rp, v, μ', hv, q⟩ := h
  obtain ⟨u, m1, h1, hv1⟩ := bind_ok hv
  obtain ⟨w, m2, h2, hv2⟩ := bind_ok hv1
  clear hv hv1
  have hv := hv2
  clear hv2
  -- ints
  have hI : ∀ {i j : Int} {r : Int} {C : Int → Int → Prop} {g : Int → Int → V}, u = .int i → w = .int j → OpR X (binaryOp o) (rI C g) → C i j → g i j = .int r → v = .int r → m2 = μ' → wpAny (model X.prog X.w) X.A (eval (.BinOp a o b pos) X.env) (EP X pins σ Q) X.xe s := by
    rintro i j r C g rfl rfl hr hc hg rfl rfl
    refine (pe_op hr ha hb).run pins s σ H Q I (two st rp h1 h2 fun U W H' φ' e' r' vu vw => ?_)
    exact ⟨i, j, vu, vw, hc, by rw [hg]; exact q.ext e' |>.same r' rfl⟩
  have hI0 : ∀ {i j : Int} {r : Int} {g : Int → Int → V}, u = .int i → w = .int j → OpR X (binaryOp o) (rI0 g) → g i j = .int r → v = .int r → m2 = μ' → wpAny (model X.prog X.w) X.A (eval (.BinOp a o b pos) X.env) (EP X pins σ Q) X.xe s := by
    rintro i j r g rfl rfl hr hg rfl rfl
    refine (pe_op hr ha hb).run pins s σ H Q I (two st rp h1 h2 fun U W H' φ' e' r' vu vw => ?_)
    exact ⟨i, j, vu, vw, by rw [hg]; exact q.ext e' |>.same r' rfl⟩
  unfold binV at hv
  split at hv
  · obtain ⟨rfl, rfl⟩ := pure_ok hv
    cases o <;> simp [cOp] at ho
    exact hI0 rfl rfl op_add rfl rfl rfl
  · obtain ⟨rfl, rfl⟩ := pure_ok hv
    cases o <;> simp [cOp] at ho
    exact hI0 rfl rfl op_sub rfl rfl rfl
  · obtain ⟨hc, hv⟩ := must_ok hv
    obtain ⟨rfl, rfl⟩ := pure_ok hv
    cases o <;> simp [cOp] at ho
    unfold mulOk at hc
    rw [Bool.or_eq_true, decide_eq_true_eq, decide_eq_true_eq] at hc
    rcases hc with hc | hc
    · exact hI rfl rfl op_mul hc rfl rfl rfl
    · exact hI rfl rfl op_mulW hc rfl rfl rfl
  · obtain ⟨hc, hv⟩ := must_ok hv
    obtain ⟨rfl, rfl⟩ := pure_ok hv
    cases o <;> simp [cOp] at ho
    exact hI rfl rfl op_mod hc rfl rfl rfl
  · obtain ⟨hc, hv⟩ := must_ok hv
    obtain ⟨rfl, rfl⟩ := pure_ok hv
    cases o <;> simp [cOp] at ho
    exact hI rfl rfl op_fdivW hc rfl rfl rfl
  · obtain ⟨hc, hv⟩ := must_ok hv
    obtain ⟨rfl, rfl⟩ := pure_ok hv
    cases o <;> simp [cOp] at ho
    exact hI rfl rfl op_pow hc rfl rfl rfl
  · rename_i xs ys
    obtain ⟨hc, hv2⟩ := must_ok hv
    rw [lim_eq] at hc
    obtain ⟨rfl, rfl⟩ := pure_ok hv2
    cases o <;> simp [cOp] at ho
    refine (pe_op op_catA ha hb).run pins s σ H Q I (two st rp h1 h2 fun U W H' φ' e' r' vu vw => ?_)
    obtain ⟨p1, us, rfl, t1, r1⟩ := vu
    obtain ⟨p2, ws, rfl, t2, r2⟩ := vw
    have q' := q.ext e'
    refine ⟨p1, p2, us, ws, rfl, rfl, .of t1, .of t2, by rw [r1.len, r2.len]; exact hc, fun z => ?_, fun z1 z2 => ?_, fun z1 z2 p hp => ?_⟩
    · subst z
      have : xs = [] := List.eq_nil_of_length_eq_zero (by have := r1.len; simp at this; exact this.symm)
      subst this
      exact q'.same r' ⟨p2, ws, rfl, t2, r2⟩
    · subst z2
      have : ys = [] := List.eq_nil_of_length_eq_zero (by have := r2.len; simp at this; exact this.symm)
      subst this
      exact q'.same r' ⟨p1, us, rfl, t1, by rw [List.append_nil]; exact r1⟩
    · exact r'.newT hp (r1.append r2) q'
  · rename_i i j
    obtain ⟨hc, hv2⟩ := must_ok hv
    rw [lim_eq] at hc
    obtain ⟨rfl, rfl⟩ := pure_ok hv2
    cases o <;> simp [cOp] at ho
    refine (pe_op op_add_str ha hb).run pins s σ H Q I (two st rp h1 h2 fun U W H' φ' e' r' vu vw => ?_)
    exact ⟨i, j, vu, vw, hc, q.ext e' |>.same r' rfl⟩
  · rename_i n1 n2
    cases o <;> simp [cOp] at ho
    split at hv
    · rename_i xs ys g1 g2
      obtain ⟨hz, rfl, rfl⟩ := newLst_ok hv
      refine (pe_op op_cat ha hb).run pins s σ H Q I (two st rp h1 h2 fun U W H' φ' e' r' vu vw => ?_)
      obtain ⟨p1, us, rfl, _, t1, r1⟩ := r'.ref_lst vu g1
      obtain ⟨p2, ws, rfl, _, t2, r2⟩ := r'.ref_lst vw g2
      exact ⟨p1, p2, us, ws, rfl, rfl, t1, t2, by rw [r1.len, r2.len]; simpa using hz, fun p hp => r'.newL hp (r1.append r2) (q.ext e')⟩
    · cases hv
  · cases hv
end
end Ev
end

section
set_option maxRecDepth 100000
set_option maxHeartbeats 1000000
/-! Sn2: comparisons, tests, displays, subscripts. -/
namespace Ev
open PySem L2

/-! ### data -/
section
variable {Z : Wh} {φ : List Addr} {H : Hp}
mutual
theorem VR.dp : ∀ (x : Val) (v : V), x.flat = true → VR Z φ H x v → Dp Z.K H v (pyd x)
  | .non, _, _, h => by rw [show _ = V.non from h]; simp only [pyd]; exact .non
  | .bl _, _, _, h => by rw [show _ = V.bl _ from h]; simp only [pyd]; exact .bl _
  | .int _, _, _, h => by rw [show _ = V.int _ from h]; simp only [pyd]; exact .int _
  | .str _, _, _, h => by rw [show _ = V.str _ from h]; simp only [pyd]; exact .str _
  | .tup xs, _, hf, ⟨a, vs, h1, h2, h3⟩ => by
    subst h1
    simp only [pyd]
    exact .tup (.of h2) (VRs.dp xs vs (by simpa [Val.flat] using hf) h3)
  | .ref _, _, hf, _ => by simp [Val.flat] at hf
  | .fn _, _, hf, _ => by simp [Val.flat] at hf
theorem VRs.dp : ∀ (xs : List Val) (vs : List V), Val.flats xs = true → VRs Z φ H xs vs → DpAll Z.K H vs (pyds xs)
  | [], _, _, h => by rw [show _ = [] from h]; simp only [pyds]; exact .nil
  | x :: xs, _, hf, ⟨v, r, h1, h2, h3⟩ => by
    subst h1
    simp only [Val.flats, Bool.and_eq_true] at hf
    simp only [pyds]
    exact .cons (VR.dp x v hf.1 h2) (VRs.dp xs r hf.2 h3)
end
end
theorem shaped_of {x : Val} (h : x.sok = true) (hd : x.dep ≤ 60) : SeqAt.shaped (pyd x) = true := by
  unfold SeqAt.shaped
  rw [canLay_pyd x h, Bool.true_and, decide_eq_true_eq, depth_pyd]
  omega
theorem shapedL_of {xs : List Val} (h : Val.soks xs = true) (hd : Val.deps xs ≤ 50) : SeqAt.shaped (.list (pyds xs)) = true := by
  unfold SeqAt.shaped
  have : PyData.canLay0 (.list (pyds xs)) = true := by
    simp only [PyData.canLay0]; exact canLays_pyd xs h
  rw [this, Bool.true_and, decide_eq_true_eq]
  simp only [PyData.depth, depths_pyd]
  omega

/-- two things that == is asked of -/
theorem eq_data {Z : Wh} {φ : List Addr} {μ : Store} {H : Hp} {x y : Val} {U W : V} {b : Bool} (rp : Rep Z φ μ H) (hu : VR Z φ H x U) (hw : VR Z φ H y W) (h : eqM μ x y = some b) :
    ∃ d e, Dp Z.K H U d ∧ Dp Z.K H W e ∧ SeqAt.shaped d = true ∧ SeqAt.shaped e = true ∧ PyData.eqv d e = b := by
  unfold eqM at h
  split at h
  · rename_i hc
    simp only [Bool.and_eq_true, decide_eq_true_eq] at hc
    obtain ⟨⟨⟨⟨⟨h1, h2⟩, h3⟩, h4⟩, h5⟩, h6⟩ := hc
    cases h
    exact ⟨pyd x, pyd y, hu.dp _ _ h1, hw.dp _ _ h2, shaped_of h3 h5, shaped_of h4 h6, eqv_pyd x y h1 h2⟩
  · split at h
    · split at h
      · rename_i a b' xs ys g1 g2
        split at h
        · rename_i hc
          simp only [Bool.and_eq_true, decide_eq_true_eq] at hc
          obtain ⟨⟨⟨⟨⟨h1, h2⟩, h3⟩, h4⟩, h5⟩, h6⟩ := hc
          cases h
          obtain ⟨p, us, rfl, _, t1, r1⟩ := rp.ref_lst hu g1
          obtain ⟨q, ws, rfl, _, t2, r2⟩ := rp.ref_lst hw g2
          exact ⟨_, _, .lst (.of t1) (r1.dp _ _ h1), .lst (.of t2) (r2.dp _ _ h2), shapedL_of h3 h5, shapedL_of h4 h6, by simp only [PyData.eqv]; exact eqvs_pyd xs ys h1 h2⟩
        · cases h
      · cases h
    · cases h

/-- what a comparison promises, by values -/
def CmpR (Z : Wh) (X : Cx) (o : CmpOp) (o' : Cop) : Prop := ∀ (φ : List Addr) (μ μ' : Store) (H : Hp) (x y : Val) (b : Bool), cmpV o' x y μ = .ok b μ' →
  μ' = μ ∧ ∃ r : R2, OpR X (compareOp o) r ∧ ∀ U W H' φ' Q, Rep Z φ' μ H' → VR Z φ' H' x U → VR Z φ' H' y W → Q (.bl b) H' → r U W H' Q
section
variable {Y : Sys} {Z : Wh} {k : Nat} {c : CC} {X : Cx} {a b d e : Expr} {x y z : E} {pos : Pos}
theorem cmp_eq (G : Good Y Z k c X) : CmpR Z X .Eq .eq := by
  intro φ μ μ' H x y b h
  simp only [cmpV] at h
  split at h
  · rename_i b' hb
    cases h
    refine ⟨rfl, _, op_eqD G.room.units, fun U W H' φ' Q rp hu hw q => ?_⟩
    obtain ⟨d, e, h1, h2, h3, h4, h5⟩ := eq_data rp hu hw hb
    exact ⟨d, e, G.K ▸ h1, G.K ▸ h2, h3, h4, by rw [h5]; exact q⟩
  · cases h
theorem cmp_ne (G : Good Y Z k c X) : CmpR Z X .NotEq .ne := by
  intro φ μ μ' H x y b h
  simp only [cmpV] at h
  split at h
  · rename_i b' hb
    cases h
    refine ⟨rfl, _, op_neD G.room.units, fun U W H' φ' Q rp hu hw q => ?_⟩
    obtain ⟨d, e, h1, h2, h3, h4, h5⟩ := eq_data rp hu hw hb
    exact ⟨d, e, G.K ▸ h1, G.K ▸ h2, h3, h4, by rw [h5]; exact q⟩
  · cases h
/-- < of two data of one shape -/
def rLtD (K : PySem.W.Frag) : R2 := fun x y H Q => ∃ d e, Dp K H x d ∧ Dp K H y e ∧ PySem.W.alike d e = true ∧ d ≠ .none ∧ d.depth ≤ 60 ∧ Q (.bl (PySem.W.dataLt d e)) H
theorem op_ltD (hu : X.A.units + 64 < cLine) : OpR X (compareOp .Lt) (rLtD X.K) := by
  intro pins s σ H x y v u Q I rx ry h
  obtain ⟨d, e, hd, he, sd, se, dd, q⟩ := h
  obtain ⟨as, r1⟩ := Dp.reads I d x v hd rx
  obtain ⟨bs, r2⟩ := Dp.reads I e y u he ry
  exact PySem.W.lt_data r1 r2 sd se (by omega) ⟨.bl _, H, I, rfl, q⟩
theorem datOk_inv {x : Val} (h : datOk x = true) : x.flat = true ∧ x.sok = true ∧ x.dep ≤ 50 := by
  unfold datOk at h
  simp only [Bool.and_eq_true, decide_eq_true_eq] at h
  exact ⟨h.1.1, h.1.2, h.2⟩
theorem cmp_lt (G : Good Y Z k c X) : CmpR Z X .Lt .lt := by
  intro φ μ μ' H x y b h
  simp only [cmpV] at h
  split at h
  · cases h
    exact ⟨rfl, _, op_lt, fun U W H' φ' Q rp hu hw q => ⟨_, _, hu, hw, q⟩⟩
  · rename_i xs ys
    split at h
    · rename_i hc
      cases h
      simp only [Bool.and_eq_true] at hc
      obtain ⟨⟨h1, h2⟩, h3⟩ := hc
      obtain ⟨f1, s1, d1⟩ := datOk_inv h1
      obtain ⟨f2, s2, d2⟩ := datOk_inv h2
      refine ⟨rfl, _, op_ltD G.room.units, fun U W H' φ' Q rp hu hw q => ?_⟩
      have ha : alk (.tup xs) (.tup ys) = true := by simpa [alk] using h3
      have e1 := lt_pyd _ _ f1 f2 ha
      refine ⟨pyd (.tup xs), pyd (.tup ys), G.K ▸ hu.dp _ _ f1, G.K ▸ hw.dp _ _ f2, by rw [alk_pyd _ _ f1 f2]; exact ha, by simp [pyd], by rw [depth_pyd]; omega, ?_⟩
      rw [e1]
      simpa [ltB] using q
    · cases h
  · cases h
theorem cmp_le : CmpR Z X .LtE .le := by
  intro φ μ μ' H x y b h
  simp only [cmpV] at h
  split at h
  · cases h
    exact ⟨rfl, _, op_le, fun U W H' φ' Q rp hu hw q => ⟨_, _, hu, hw, q⟩⟩
  · cases h
theorem cmp_gt : CmpR Z X .Gt .gt := by
  intro φ μ μ' H x y b h
  simp only [cmpV] at h
  split at h
  · cases h
    exact ⟨rfl, _, op_gt, fun U W H' φ' Q rp hu hw q => ⟨_, _, hu, hw, q⟩⟩
  · cases h
theorem cmp_ge : CmpR Z X .GtE .ge := by
  intro φ μ μ' H x y b h
  simp only [cmpV] at h
  split at h
  · cases h
    exact ⟨rfl, _, op_ge, fun U W H' φ' Q rp hu hw q => ⟨_, _, hu, hw, q⟩⟩
  · cases h
/-- in, not in: asked for later -/
structure MemR (Z : Wh) (X : Cx) : Prop where
  mem : CmpR Z X .In .mem
  nmem : CmpR Z X .NotIn .nmem
theorem cmp_all (G : Good Y Z k c X) (m : MemR Z X) {o : CmpOp} {o' : Cop} (h : cCop o = some o') : CmpR Z X o o' := by
  cases o <;> simp [cCop] at h <;> subst h
  · exact cmp_eq G
  · exact cmp_ne G
  · exact cmp_lt G
  · exact cmp_le
  · exact cmp_gt
  · exact cmp_ge
  · exact m.mem
  · exact m.nmem
theorem nomarkB {o : CmpOp} {b : Expr} (h : isSetE b = false) : behindInMarks o b = false := by
  cases b <;> first | rfl | simp [isSetE] at h
theorem s_cmp {o : CmpOp} {o' : Cop} (C : CmpR Z X o o') (hs : isSetE b = false) (ha : PE X a (tE Y Z x)) (hb : PE X b (tE Y Z y)) :
    PE X (.Compare a [o] [b] pos) (tE Y Z (.cmp o' x y)) ∧ PT X (.Compare a [o] [b] pos) (tT Y Z (.cmp o' x y)) := by
  constructor
  · refine ⟨fun pins s σ H Q I h => ?_⟩
    obtain ⟨ρ, μ, φ, st, rp, v, μ', hv, q⟩ := h
    obtain ⟨u, m1, h1, hv1⟩ := bind_ok hv
    obtain ⟨w, m2, h2, hv2⟩ := bind_ok hv1
    obtain ⟨r, m3, h3, hv3⟩ := bind_ok hv2
    obtain ⟨rfl, rfl⟩ := pure_ok hv3
    obtain ⟨rfl, R, hR, f⟩ := C φ m2 m3 H u w r h3
    exact (pe_cmpR hR ha hb (nomarkB hs)).run pins s σ H Q I (two st rp h1 h2 fun U W H' φ' e' r' vu vw => f U W H' φ' Q r' vu vw (q _ _ _ e' r' rfl))
  · refine ⟨fun pins s σ H Q I h => ?_⟩
    obtain ⟨ρ, μ, φ, st, rp, bb, μ', hv, q⟩ := h
    obtain ⟨u, m1, h1, hv1⟩ := bind_ok (toB_ok hv)
    obtain ⟨w, m2, h2, hv2⟩ := bind_ok hv1
    obtain ⟨r, m3, h3, hv3⟩ := bind_ok hv2
    obtain ⟨e3, rfl⟩ := pure_ok hv3
    cases e3
    obtain ⟨rfl, R, hR, f⟩ := C φ m2 m3 H u w _ h3
    exact (pt_cmpR hR ha hb (nomarkB hs)).run pins s σ H Q I (two st rp h1 h2 fun U W H' φ' e' r' vu vw => f U W H' φ' _ r' vu vw ⟨_, rfl, q _ _ e' r'⟩)
theorem s_isN (ha : PE X a (tE Y Z x)) {j : Nat} {p2 : Pos} : PE X (.Compare a [.Is] [.Constant .none j p2] pos) (tE Y Z (.isN x)) ∧ PT X (.Compare a [.Is] [.Constant .none j p2] pos) (tT Y Z (.isN x)) := by
  have dec : ∀ {φ : List Addr} {H : Hp} {v : Val} {U : V}, VR Z φ H v U → decide (U = V.non) = decide (v = .non) := fun {φ H v U} h => by
    cases v with
    | non => rw [show U = V.non from h]; simp
    | bl _ => rw [show U = V.bl _ from h]; simp
    | int _ => rw [show U = V.int _ from h]; simp
    | str _ => rw [show U = V.str _ from h]; simp
    | tup _ => obtain ⟨_, _, e, _⟩ := h; rw [e]; simp
    | ref _ => obtain ⟨_, _, e⟩ := h; rw [e]; simp
    | fn _ => rw [show U = V.ref _ from h]; simp
    | scr _ => obtain ⟨_, e, _⟩ := h; rw [e]; simp
  constructor
  · refine PE.imp (pe_cmp (pc_isN ha)) fun σ H Q h => ?_
    obtain ⟨ρ, μ, φ, st, rp, v, μ', hv, q⟩ := h
    obtain ⟨u, m1, h1, hv1⟩ := bind_ok hv
    obtain ⟨rfl, rfl⟩ := pure_ok hv1
    exact tE_mk st rp h1 fun U H1 φ1 e1 r1 v1 => q _ _ _ e1 r1 (by show _ = V.bl _; rw [dec v1])
  · refine PT.imp (pt_cmp (pc_isN ha)) fun σ H Q h => ?_
    obtain ⟨ρ, μ, φ, st, rp, bb, μ', hv, q⟩ := h
    obtain ⟨u, m1, h1, hv1⟩ := bind_ok (toB_ok hv)
    obtain ⟨e3, rfl⟩ := pure_ok hv1
    cases e3
    exact tE_mk st rp h1 fun U H1 φ1 e1 r1 v1 => ⟨_, rfl, by rw [dec v1]; exact q _ _ e1 r1⟩
theorem s_notN (ha : PE X a (tE Y Z x)) {j : Nat} {p2 : Pos} : PE X (.Compare a [.IsNot] [.Constant .none j p2] pos) (tE Y Z (.notN x)) ∧ PT X (.Compare a [.IsNot] [.Constant .none j p2] pos) (tT Y Z (.notN x)) := by
  have dec : ∀ {φ : List Addr} {H : Hp} {v : Val} {U : V}, VR Z φ H v U → decide (U = V.non) = decide (v = .non) := fun {φ H v U} h => by
    cases v with
    | non => rw [show U = V.non from h]; simp
    | bl _ => rw [show U = V.bl _ from h]; simp
    | int _ => rw [show U = V.int _ from h]; simp
    | str _ => rw [show U = V.str _ from h]; simp
    | tup _ => obtain ⟨_, _, e, _⟩ := h; rw [e]; simp
    | ref _ => obtain ⟨_, _, e⟩ := h; rw [e]; simp
    | fn _ => rw [show U = V.ref _ from h]; simp
    | scr _ => obtain ⟨_, e, _⟩ := h; rw [e]; simp
  constructor
  · refine PE.imp (pe_cmp (pc_notN ha)) fun σ H Q h => ?_
    obtain ⟨ρ, μ, φ, st, rp, v, μ', hv, q⟩ := h
    obtain ⟨u, m1, h1, hv1⟩ := bind_ok hv
    obtain ⟨rfl, rfl⟩ := pure_ok hv1
    exact tE_mk st rp h1 fun U H1 φ1 e1 r1 v1 => q _ _ _ e1 r1 (by show _ = V.bl _; rw [dec v1])
  · refine PT.imp (pt_cmp (pc_notN ha)) fun σ H Q h => ?_
    obtain ⟨ρ, μ, φ, st, rp, bb, μ', hv, q⟩ := h
    obtain ⟨u, m1, h1, hv1⟩ := bind_ok (toB_ok hv)
    obtain ⟨e3, rfl⟩ := pure_ok hv1
    cases e3
    exact tE_mk st rp h1 fun U H1 φ1 e1 r1 v1 => ⟨_, rfl, by rw [dec v1]; exact q _ _ e1 r1⟩
theorem op_no {f : Value → Value → Sem Value} : OpR X f (fun _ _ _ _ => False) := fun _ _ _ _ _ _ _ _ _ _ _ _ h => h.elim
theorem s_cmp2 {o o2 : CmpOp} {o' p' : Cop} (C : CmpR Z X o o') (C2 : CmpR Z X o2 p') (hs2 : isSetE d = false) (ha : PE X a (tE Y Z x)) (hb : PE X b (tE Y Z y)) (hd : PE X d (tE Y Z z)) :
    PE X (.Compare a [o, o2] [b, d] pos) (tE Y Z (.cmp2 o' p' x y z)) ∧ PT X (.Compare a [o, o2] [b, d] pos) (tT Y Z (.cmp2 o' p' x y z)) := by
  have hm : lastMarks [o, o2] [b, d] = false := nomarkB hs2
  constructor
  · refine ⟨fun pins s σ H Q I h => ?_⟩
    obtain ⟨ρ, μ, φ, st, rp, v, μ', hv, q⟩ := h
    obtain ⟨u, m1, h1, hv1⟩ := bind_ok hv
    obtain ⟨w, m2, h2, hv2⟩ := bind_ok hv1
    obtain ⟨r, m3, h3, hv3⟩ := bind_ok hv2
    clear hv hv1 hv2
    obtain ⟨rfl, R, hR, f⟩ := C φ m2 m3 H u w r h3
    cases r with
    | false =>
      simp only [Bool.false_eq_true, if_false] at hv3
      obtain ⟨rfl, rfl⟩ := pure_ok hv3
      exact (pe_chain hR op_no ha hb hd hm).run pins s σ H Q I (two st rp h1 h2 fun U W H' φ' e' r' vu vw => f U W H' φ' _ r' vu vw ⟨false, rfl, by
        rw [if_neg Bool.false_ne_true]; exact q _ _ _ e' r' rfl⟩)
    | true =>
      simp only [if_true] at hv3
      obtain ⟨w2, m4, h4, hv4⟩ := bind_ok hv3
      obtain ⟨r2, m5, h5, hv5⟩ := bind_ok hv4
      obtain ⟨rfl, rfl⟩ := pure_ok hv5
      obtain ⟨rfl, R2', hR2, f2⟩ := C2 φ m4 m5 H w w2 r2 h5
      exact (pe_chain hR hR2 ha hb hd hm).run pins s σ H Q I (two st rp h1 h2 fun U W H' φ' e' r' vu vw => f U W H' φ' _ r' vu vw ⟨true, rfl, by
        rw [if_pos rfl]
        exact tE_mk (st.ext e') r' h4 fun T H4 φ4 e4 r4 v4 => f2 W T H4 φ4 Q r4 (VR.ext e4 _ _ vw) v4 (q _ _ _ (e'.trans e4) r4 rfl)⟩)
  · refine ⟨fun pins s σ H Q I h => ?_⟩
    obtain ⟨ρ, μ, φ, st, rp, bb, μ', hv, q⟩ := h
    obtain ⟨u, m1, h1, hv1⟩ := bind_ok (toB_ok hv)
    obtain ⟨w, m2, h2, hv2⟩ := bind_ok hv1
    obtain ⟨r, m3, h3, hv3⟩ := bind_ok hv2
    clear hv hv1 hv2
    obtain ⟨rfl, R, hR, f⟩ := C φ m2 m3 H u w r h3
    cases r with
    | false =>
      simp only [Bool.false_eq_true, if_false] at hv3
      obtain ⟨e3, rfl⟩ := pure_ok hv3
      cases e3
      exact (pt_chain hR op_no ha hb hd hm).run pins s σ H Q I (two st rp h1 h2 fun U W H' φ' e' r' vu vw => f U W H' φ' _ r' vu vw ⟨false, rfl, by
        rw [if_neg Bool.false_ne_true]; exact ⟨_, rfl, q _ _ e' r'⟩⟩)
    | true =>
      simp only [if_true] at hv3
      obtain ⟨w2, m4, h4, hv4⟩ := bind_ok hv3
      obtain ⟨r2, m5, h5, hv5⟩ := bind_ok hv4
      obtain ⟨e3, rfl⟩ := pure_ok hv5
      cases e3
      obtain ⟨rfl, R2', hR2, f2⟩ := C2 φ m4 m5 H w w2 _ h5
      exact (pt_chain hR hR2 ha hb hd hm).run pins s σ H Q I (two st rp h1 h2 fun U W H' φ' e' r' vu vw => f U W H' φ' _ r' vu vw ⟨true, rfl, by
        rw [if_pos rfl]
        exact tE_mk (st.ext e') r' h4 fun T H4 φ4 e4 r4 v4 => f2 W T H4 φ4 _ r4 (VR.ext e4 _ _ vw) v4 ⟨_, rfl, q _ _ (e'.trans e4) r4⟩⟩)

/-! ### tests -/
/-- a term whose test is its value's truth -/
def plainT : Expr → Bool
  | .UnaryOp .Not _ _ => false
  | .BoolOp _ _ _ => false
  | .IfExp _ _ _ _ => false
  | .Compare _ _ _ _ => false
  | _ => true
theorem s_test (h : plainT a = true) (ha : PE X a (tE Y Z x)) : PT X a (tT Y Z x) := by
  refine PT.imp (pt_val ha fun whole => ?_) fun σ H Q h => ?_
  · cases a <;> first | rfl | (simp [plainT] at h) | skip
    rename_i op o p
    cases op <;> first | rfl | (simp [plainT] at h)
  · obtain ⟨ρ, μ, φ, st, rp, bb, μ', hv, q⟩ := h
    exact tE_mk st rp (toB_ok hv) fun U H1 φ1 e1 r1 v1 => ⟨bb, v1, q _ _ e1 r1⟩
theorem s_not (ha : PT X a (tT Y Z x)) (hv : PE X a (tE Y Z x)) : PE X (.UnaryOp .Not a pos) (tE Y Z (.nt x)) ∧ PT X (.UnaryOp .Not a pos) (tT Y Z (.nt x)) := by
  constructor
  · refine PE.imp (pe_not hv) fun σ H Q h => ?_
    obtain ⟨ρ, μ, φ, st, rp, v, μ', hv, q⟩ := h
    obtain ⟨b, m1, h1, hv1⟩ := bind_ok hv
    obtain ⟨rfl, rfl⟩ := pure_ok hv1
    exact tE_mk st rp (toB_ok h1) fun U H1 φ1 e1 r1 v1 => ⟨b, v1, q _ _ _ e1 r1 rfl⟩
  · refine PT.imp (pt_not ha) fun σ H Q h => ?_
    obtain ⟨ρ, μ, φ, st, rp, bb, μ', hv, q⟩ := h
    obtain ⟨b, m1, h1, hv1⟩ := bind_ok (toB_ok hv)
    obtain ⟨e3, rfl⟩ := pure_ok hv1
    cases e3
    exact ⟨ρ, μ, φ, st, rp, b, m1, h1, fun H' φ' e' r' => q _ _ e' r'⟩
theorem s_neg (ha : PE X a (tE Y Z x)) : PE X (.UnaryOp .USub a pos) (tE Y Z (.neg x)) := by
  refine PE.imp (pe_un un_neg ha) fun σ H Q h => ?_
  obtain ⟨ρ, μ, φ, st, rp, v, μ', hv, q⟩ := h
  obtain ⟨u, m1, h1, hv1⟩ := bind_ok hv
  cases u <;> first | (cases hv1; done) | skip
  obtain ⟨rfl, rfl⟩ := pure_ok hv1
  exact tE_mk st rp h1 fun U H1 φ1 e1 r1 v1 => ⟨_, v1, q _ _ _ e1 r1 rfl⟩
theorem s_ite (hd : PT X d (tT Y Z z)) (ha : PE X a (tE Y Z x)) (hb : PE X b (tE Y Z y)) : PE X (.IfExp d a b pos) (tE Y Z (.ite z x y)) := by
  refine PE.imp (pe_ifExp hd ha hb) fun σ H Q h => ?_
  obtain ⟨ρ, μ, φ, st, rp, v, μ', hv, q⟩ := h
  obtain ⟨b, m1, h1, hv1⟩ := bind_ok hv
  refine ⟨ρ, μ, φ, st, rp, b, m1, h1, fun H' φ' e' r' => ?_⟩
  cases b with
  | true => rw [if_pos rfl]; exact tE_mk (st.ext e') r' hv1 (q.ext e')
  | false => rw [if_neg Bool.false_ne_true]; exact tE_mk (st.ext e') r' hv1 (q.ext e')
theorem s_iteT (hd : PT X d (tT Y Z z)) (ha : PT X a (tT Y Z x)) (hb : PT X b (tT Y Z y)) : PT X (.IfExp d a b pos) (tT Y Z (.ite z x y)) := by
  refine ⟨fun pins s σ H Q I h => ?_⟩
  obtain ⟨ρ, μ, φ, st, rp, bb, μ', hv, q⟩ := h
  obtain ⟨b', m1, h1, hv1⟩ := bind_ok (toB_ok hv)
  show wpAny _ _ (do if ← isTrue d X.env (eval d X.env) then isTrue a X.env (eval a X.env) else isTrue b X.env (eval b X.env)) _ _ _
  refine wpAny_bind (thn (hd.run pins s σ H (fun c H1 => c = b' ∧ ∃ φ1, Ext Z.K φ H φ1 H1 ∧ Rep Z φ1 m1 H1) I ⟨ρ, μ, φ, st, rp, b', m1, h1, fun H' φ' e' r' => And.intro (Eq.refl b') ⟨φ', e', r'⟩⟩) fun c s1 hc => ?_)
  obtain ⟨H1, I1, rfl, φ1, e1, r1⟩ := hc
  cases c with
  | true =>
    rw [if_pos rfl]
    exact ha.run pins s1 σ H1 Q I1 ⟨ρ, m1, φ1, st.ext e1, r1, bb, μ', toB_of hv1, fun H' φ' e' r' => q _ _ (e1.trans e') r'⟩
  | false =>
    rw [if_neg Bool.false_ne_true]
    exact hb.run pins s1 σ H1 Q I1 ⟨ρ, m1, φ1, st.ext e1, r1, bb, μ', toB_of hv1, fun H' φ' e' r' => q _ _ (e1.trans e') r'⟩
/-- and, or: the last one -/
theorem s_bool1 {o : BoolOp} (ha : PE X a (tE Y Z x) ∧ PT X a (tT Y Z x)) : PE X (.BoolOp o [a] pos) (tE Y Z x) ∧ PW X (.BoolOp o [a] pos) (tT Y Z x) := by
  cases o
  · exact ⟨pe_one ha.1, pw_and1 ha.2⟩
  · exact ⟨pe_one ha.1, pw_or1 ha.2⟩
theorem s_and {es : List Expr} (ha : PE X a (tE Y Z x) ∧ PT X a (tT Y Z x)) (hb : PE X (.BoolOp .And (b :: es) pos) (tE Y Z y) ∧ PW X (.BoolOp .And (b :: es) pos) (tT Y Z y)) :
    PE X (.BoolOp .And (a :: b :: es) pos) (tE Y Z (.and x y)) ∧ PW X (.BoolOp .And (a :: b :: es) pos) (tT Y Z (.and x y)) := by
  constructor
  · refine PE.imp (pe_and ha.1 hb.1) fun σ H Q h => ?_
    obtain ⟨ρ, μ, φ, st, rp, v, μ', hv, q⟩ := h
    obtain ⟨u, m1, h1, hv1⟩ := bind_ok hv
    refine tE_mk st rp h1 fun U H1 φ1 e1 r1 v1 => ?_
    cases u <;> first | (cases hv1; done) | skip
    rename_i c
    refine ⟨c, v1, ?_⟩
    cases c with
    | true => rw [if_pos rfl]; exact tE_mk (st.ext e1) r1 hv1 (q.ext e1)
    | false =>
      rw [if_neg Bool.false_ne_true]
      obtain ⟨rfl, rfl⟩ := pure_ok hv1
      exact q _ _ _ e1 r1 rfl
  · refine ⟨fun wh pins s σ H Q I h => (pw_and ha.2 hb.2).run wh pins s σ H Q I ?_⟩
    obtain ⟨ρ, μ, φ, st, rp, bb, μ', hv, q⟩ := h
    obtain ⟨u, m1, h1, hv1⟩ := bind_ok (toB_ok hv)
    cases u <;> first | (cases hv1; done) | skip
    rename_i c
    refine ⟨ρ, μ, φ, st, rp, c, m1, toB_of h1, fun H1 φ1 e1 r1 => ?_⟩
    cases c with
    | true => rw [if_pos rfl]; exact ⟨ρ, m1, φ1, st.ext e1, r1, bb, μ', toB_of hv1, fun H' φ' e' r' => q _ _ (e1.trans e') r'⟩
    | false =>
      rw [if_neg Bool.false_ne_true]
      obtain ⟨e3, rfl⟩ := pure_ok hv1
      cases e3
      exact q _ _ e1 r1
theorem s_or {es : List Expr} (ha : PE X a (tE Y Z x) ∧ PT X a (tT Y Z x)) (hb : PE X (.BoolOp .Or (b :: es) pos) (tE Y Z y) ∧ PW X (.BoolOp .Or (b :: es) pos) (tT Y Z y)) :
    PE X (.BoolOp .Or (a :: b :: es) pos) (tE Y Z (.or x y)) ∧ PW X (.BoolOp .Or (a :: b :: es) pos) (tT Y Z (.or x y)) := by
  constructor
  · refine PE.imp (pe_or ha.1 hb.1) fun σ H Q h => ?_
    obtain ⟨ρ, μ, φ, st, rp, v, μ', hv, q⟩ := h
    obtain ⟨u, m1, h1, hv1⟩ := bind_ok hv
    refine tE_mk st rp h1 fun U H1 φ1 e1 r1 v1 => ?_
    cases u <;> first | (cases hv1; done) | skip
    rename_i c
    refine ⟨c, v1, ?_⟩
    cases c with
    | false => rw [if_neg Bool.false_ne_true]; exact tE_mk (st.ext e1) r1 hv1 (q.ext e1)
    | true =>
      rw [if_pos rfl]
      obtain ⟨rfl, rfl⟩ := pure_ok hv1
      exact q _ _ _ e1 r1 rfl
  · refine ⟨fun wh pins s σ H Q I h => (pw_or ha.2 hb.2).run wh pins s σ H Q I ?_⟩
    obtain ⟨ρ, μ, φ, st, rp, bb, μ', hv, q⟩ := h
    obtain ⟨u, m1, h1, hv1⟩ := bind_ok (toB_ok hv)
    cases u <;> first | (cases hv1; done) | skip
    rename_i c
    refine ⟨ρ, μ, φ, st, rp, c, m1, toB_of h1, fun H1 φ1 e1 r1 => ?_⟩
    cases c with
    | false => rw [if_neg Bool.false_ne_true]; exact ⟨ρ, m1, φ1, st.ext e1, r1, bb, μ', toB_of hv1, fun H' φ' e' r' => q _ _ (e1.trans e') r'⟩
    | true =>
      rw [if_pos rfl]
      obtain ⟨e3, rfl⟩ := pure_ok hv1
      cases e3
      exact q _ _ e1 r1

/-! ### argument lists, displays -/
theorem star_cons {es : List Expr} {env : PySem.Env} (h : isStar a = false) : starEach (a :: es) env = (false, eval a env) :: starEach es env := by
  cases a <;> first | rfl | (simp [isStar] at h)
theorem s_nil : PA X [] (tA Y Z .nil) := ⟨fun pos pins s σ H Q I h => by
  obtain ⟨ρ, μ, φ, st, rp, vs, μ', hv, q⟩ := h
  obtain ⟨rfl, rfl⟩ := pure_ok hv
  exact pa_nil.run pos pins s σ H Q I (q _ _ _ .refl rp rfl)⟩
theorem s_cons {es : List Expr} {xs : Es} (hs : isStar a = false) (ha : PE X a (tE Y Z x)) (hr : PA X es (tA Y Z xs)) : PA X (a :: es) (tA Y Z (.cons x xs)) := ⟨fun pos pins s σ H Q I h => by
  obtain ⟨ρ, μ, φ, st, rp, vs, μ', hv, q⟩ := h
  obtain ⟨u, m1, h1, hv1⟩ := bind_ok hv
  obtain ⟨ws, m2, h2, hv2⟩ := bind_ok hv1
  obtain ⟨rfl, rfl⟩ := pure_ok hv2
  refine (pa_cons ha hr (star_cons hs)).run pos pins s σ H Q I (tE_mk st rp h1 fun U H1 φ1 e1 r1 v1 => ?_)
  exact ⟨ρ, m1, φ1, st.ext e1, r1, ws, m2, h2, fun Ws H2 φ2 e2 r2 v2 => q _ _ _ (e1.trans e2) r2 ⟨U, Ws, rfl, VR.ext e2 _ _ v1, v2⟩⟩⟩
theorem s_tup {es : List Expr} {xs : Es} {kk : Nat} (h : PA X es (tA Y Z xs)) : PE X (.Tuple es kk pos) (tE Y Z (.tup xs)) := by
  refine PE.imp (pe_tup h) fun σ H Q h => ?_
  obtain ⟨ρ, μ, φ, st, rp, v, μ', hv, q⟩ := h
  obtain ⟨vs, m1, h1, hv1⟩ := bind_ok hv
  obtain ⟨hz, rfl, rfl⟩ := newTup_ok hv1
  exact ⟨ρ, μ, φ, st, rp, vs, _, h1, fun Vs H1 φ1 e1 r1 v1 => ⟨by rw [v1.len]; exact hz, fun p hp => r1.newT hp v1 (q.ext e1)⟩⟩
theorem s_lst {es : List Expr} {xs : Es} (h : PA X es (tA Y Z xs)) : PE X (.List es pos) (tE Y Z (.lst xs)) := by
  refine PE.imp (pe_lst h) fun σ H Q h => ?_
  obtain ⟨ρ, μ, φ, st, rp, v, μ', hv, q⟩ := h
  obtain ⟨vs, m1, h1, hv1⟩ := bind_ok hv
  obtain ⟨hz, rfl, rfl⟩ := newLst_ok hv1
  exact ⟨ρ, μ, φ, st, rp, vs, _, h1, fun Vs H1 φ1 e1 r1 v1 => ⟨by rw [v1.len]; exact hz, fun p hp => r1.newL hp v1 (q.ext e1)⟩⟩
end
end Ev
end

section
set_option maxRecDepth 100000
set_option maxHeartbeats 1000000
/-! Sn3: subscripts, calls of defs and built-ins. -/
namespace Ev
open PySem L2

section
variable {Y : Sys} {Z : Wh} {k : Nat} {c : CC} {X : Cx} {a b d e : Expr} {x y z : E} {pos : Pos}
/-! ### subscripts -/
theorem plainIx_of (h : isSl b = false) : PlainIx b := fun o i => by
  cases b <;> first | rfl | (simp [isSl] at h)
theorem ixOf_eq (n : Nat) (i : Int) : ixOf n i = ixN n i := rfl
theorem atI_of {xs : List Val} {vs : List V} {φ : List Addr} {H : Hp} {i : Int} {j : Nat} {v : Val} (r : VRs Z φ H xs vs) (h : ixOf xs.length i = some j) (hv : xs[j]? = some v) : ∃ V, atI vs i = some V ∧ VR Z φ H v V := by
  obtain ⟨V, h1, h2⟩ := r.get hv
  refine ⟨V, ?_, h2⟩
  unfold atI
  rw [r.len, ← ixOf_eq, h]
  exact h1
/-- a dict's subscript, asked for later -/
def DgetR (Z : Wh) (X : Cx) : Prop := ∀ (φ : List Addr) (μ : Store) (n : Nat) (kvs : List (Val × Val)) (i v : Val), μ[n]? = some (.dct kvs) → keyFor (kvs.map (·.1)) i = true → findK kvs i = some v →
  ∃ r : R2, IxR X r ∧ ∀ U W H' φ' Q, Rep Z φ' μ H' → VR Z φ' H' (.ref n) U → VR Z φ' H' i W → (∀ V, VR Z φ' H' v V → Q V H') → r U W H' Q
theorem s_idx (G : Good Y Z k c X) (D : DgetR Z X) (hs : isSl b = false) (ha : PE X a (tE Y Z x)) (hb : PE X b (tE Y Z y)) : PE X (.Subscript a b pos) (tE Y Z (.idx x y)) := by
  refine ⟨fun pins s σ H Q I h => ?_⟩
  obtain ⟨ρ, μ, φ, st, rp, v, μ', hv, q⟩ := h
  obtain ⟨u, m1, h1, hv1⟩ := bind_ok hv
  obtain ⟨w, m2, h2, hv2⟩ := bind_ok hv1
  clear hv hv1
  unfold idxV at hv2
  split at hv2
  · rename_i xs i
    split at hv2
    · rename_i j hj
      split at hv2
      · rename_i v' hx
        cases hv2
        refine (pe_ix ix_tup ha hb (plainIx_of hs)).run pins s σ H Q I (two st rp h1 h2 fun U W H' φ' e' r' vu vw => ?_)
        obtain ⟨p, us, rfl, t, rr⟩ := vu
        obtain ⟨V, g1, g2⟩ := atI_of rr hj hx
        exact ⟨p, us, i, V, rfl, vw, .of t, g1, q _ _ _ e' r' g2⟩
      · cases hv2
    · cases hv2
  · rename_i n
    split at hv2
    · rename_i xs hm
      split at hv2
      · rename_i i
        split at hv2
        · rename_i j hj
          split at hv2
          · rename_i v' hx
            cases hv2
            refine (pe_ix ix_list ha hb (plainIx_of hs)).run pins s σ H Q I (two st rp h1 h2 fun U W H' φ' e' r' vu vw => ?_)
            obtain ⟨p, us, rfl, _, t, rr⟩ := r'.ref_lst vu hm
            obtain ⟨V, g1, g2⟩ := atI_of rr hj hx
            exact ⟨p, us, i, V, rfl, vw, .of t, g1, q _ _ _ e' r' g2⟩
          · cases hv2
        · cases hv2
      · cases hv2
    · rename_i kvs hm
      split at hv2
      · rename_i hk
        split at hv2
        · rename_i v' hx
          obtain ⟨r, hr, f⟩ := D φ m2 n kvs w v' hm hk hx
          cases hv2
          exact (pe_ix hr ha hb (plainIx_of hs)).run pins s σ H Q I (two st rp h1 h2 fun U W H' φ' e' r' vu vw => f U W H' φ' Q r' vu vw fun V hV => q _ _ _ e' r' hV)
        · cases hv2
      · cases hv2
    · cases hv2
  · cases hv2
/-- a slice's part -/
theorem s_part {o : Option Expr} {r : Expr → Option E} (h : cOpt r o = some x) (ho : ∀ e', o = some e' → PE X e' (tE Y Z x)) :
    PO X o (fun σ H Q => ∃ ρ μ φ, StR Z φ H ρ σ ∧ Rep Z φ μ H ∧ ∃ v μ' p, evE Y x ρ μ = .ok v μ' ∧ partOf v = some p ∧ ∀ H' φ', Ext Z.K φ H φ' H' → Rep Z φ' μ' H' → Q p H') := by
  cases o with
  | none =>
    cases h
    refine ⟨fun pins s σ H Q I h => ?_⟩
    obtain ⟨ρ, μ, φ, st, rp, v, μ', p, hv, hp, q⟩ := h
    obtain ⟨rfl, rfl⟩ := pure_ok hv
    cases hp
    exact po_none.run pins s σ H Q I (q _ _ .refl rp)
  | some e =>
    have he := ho e rfl
    refine ⟨fun pins s σ H Q I h => ?_⟩
    obtain ⟨ρ, μ, φ, st, rp, v, μ', p, hv, hp, q⟩ := h
    cases v with
    | int i =>
      cases hp
      exact (po_some he).run pins s σ H Q I (tE_mk st rp hv fun U H1 φ1 e1 r1 v1 => ⟨i, v1, q _ _ e1 r1⟩)
    | non =>
      cases hp
      rw [evalPart_some]
      exact thn (he.run pins s σ H _ I (tE_mk st rp hv fun U H1 φ1 e1 r1 v1 => (show U = V.non ∧ Q none H1 from ⟨v1, q _ _ e1 r1⟩))) fun u s1 hu => by
        obtain ⟨U, H1, I1, ru, rfl, q1⟩ := hu
        cases (show u = Value.none from ru)
        exact ⟨none, H1, I1, .none, q1⟩
    | _ => cases hp
theorem L2cut {xs : List Val} {vs : List V} {φ : List Addr} {H : Hp} (r : VRs Z φ H xs vs) (lo hi : Option Int) : VRs Z φ H (cutV xs lo hi) (L2.cutV vs lo hi) := by
  have e1 : L2.cutV vs lo hi = (vs.drop (HT.sIx vs.length 0 lo)).take (HT.sIx vs.length vs.length hi - HT.sIx vs.length 0 lo) := rfl
  rw [e1, r.len]
  exact (r.drop _).take _
theorem cut_all {xs : List Val} {lo hi : Option Int} (h1 : sIx xs.length 0 lo = 0) (h2 : sIx xs.length xs.length hi = xs.length) : cutV xs lo hi = xs := by
  unfold cutV
  rw [h1, h2]; simp
theorem s_sl (G : Good Y Z k c X) {lo hi : Option Expr} {r : Expr → Option E} {p2 : Pos} (hy : cOpt r lo = some y) (hz : cOpt r hi = some z) (ho1 : ∀ e', lo = some e' → PE X e' (tE Y Z y)) (ho2 : ∀ e', hi = some e' → PE X e' (tE Y Z z)) (ha : PE X a (tE Y Z x)) :
    PE X (.Subscript a (.Slice lo hi none p2) pos) (tE Y Z (.sl x y z)) := by
  refine ⟨fun pins s σ H Q I h => ?_⟩
  obtain ⟨ρ, μ, φ, st, rp, v, μ', hv, q⟩ := h
  obtain ⟨u, m1, h1, hv1⟩ := bind_ok hv
  obtain ⟨w, m2, h2, hv2⟩ := bind_ok hv1
  obtain ⟨w2, m3, h3, hv3⟩ := bind_ok hv2
  clear hv hv1 hv2
  unfold slV at hv3
  split at hv3
  · rename_i pa pb g1 g2
    have go : ∀ {R : V → Option Int → Option Int → Hp → VK → Prop}, SlR X R → (∀ U H' φ', Ext Z.K φ H φ' H' → Rep Z φ' m3 H' → VR Z φ' H' u U → R U pa pb H' Q) → wpAny (model X.prog X.w) X.A (eval (.Subscript a (.Slice lo hi none p2) pos) X.env) (EP X pins σ Q) X.xe s := fun {R} hR f =>
      (pe_slice hR ha (s_part hy ho1) (s_part hz ho2)).run pins s σ H Q I (tE_mk st rp h1 fun U H1 φ1 e1 r1 v1 =>
        ⟨ρ, m1, φ1, st.ext e1, r1, w, m2, pa, h2, g1, fun H2 φ2 e2 r2 => ⟨ρ, m2, φ2, st.ext (e1.trans e2), r2, w2, m3, pb, h3, g2, fun H3 φ3 e3 r3 => f U H3 φ3 ((e1.trans e2).trans e3) r3 (VR.ext (e2.trans e3) _ _ v1)⟩⟩)
    split at hv3
    · rename_i xs
      cases hv3
      refine go sl_tupA fun U H' φ' e' r' vu => ?_
      obtain ⟨p, us, rfl, t, rr⟩ := vu
      refine ⟨p, us, rfl, .of t, fun z => ?_, fun z p' hp => ?_⟩
      · rw [rr.len] at z
        have z' := cut_all (xs := xs) (lo := pa) (hi := pb) z.1 z.2
        rw [z'] at q
        exact q _ _ _ e' r' ⟨p, us, rfl, t, rr⟩
      · exact r'.newT hp (L2cut rr pa pb) (q.ext e')
    · rename_i n
      split at hv3
      · rename_i xs hm
        cases hv3
        refine go sl_list fun U H' φ' e' r' vu => ?_
        obtain ⟨p, us, rfl, _, t, rr⟩ := r'.ref_lst vu hm
        exact ⟨p, us, rfl, .of t, fun p' hp => r'.newL hp (L2cut rr pa pb) (q.ext e')⟩
      · cases hv3
    · cases hv3
  · cases hv3

/-! ### lists of arguments without stars -/
theorem cEs_plain {r : Expr → Option E} : ∀ {es : List Expr} {xs : Es}, cEs r es = some xs → ∀ e ∈ es, isStar e = false
  | [], _, _, _, h => by simp at h
  | e :: es, xs, h, e', hm => by
    unfold cEs at h
    split at h
    · cases h
    · rename_i hs
      split at h
      · rename_i a b h1 h2
        rcases List.mem_cons.mp hm with rfl | hm
        · simpa using hs
        · exact cEs_plain h2 e' hm
      · cases h
theorem plain_any {env : PySem.Env} {cpos : Pos} : ∀ {es : List Expr}, (∀ e ∈ es, isStar e = false) → (backTo cpos (starEach es env)).any (·.1) = false
  | [], _ => rfl
  | e :: es, h => by
    rw [star_cons (h e List.mem_cons_self)]
    show (false || (backTo cpos (starEach es env)).any (·.1)) = false
    rw [plain_any fun e he => h e (List.mem_cons_of_mem _ he)]; rfl
theorem plain_all {env : PySem.Env} {cpos : Pos} : ∀ {es : List Expr}, (∀ e ∈ es, isStar e = false) → (backTo cpos (starEach es env)).all (fun x => !x.1) = true
  | [], _ => rfl
  | e :: es, h => by
    rw [star_cons (h e List.mem_cons_self)]
    show (true && (backTo cpos (starEach es env)).all (fun x => !x.1)) = true
    rw [plain_all fun e he => h e (List.mem_cons_of_mem _ he)]; rfl
theorem evEs_len : ∀ {es : List Expr} {xs : Es} {r : Expr → Option E} {ρ : Env} {μ μ' : Store} {vs : List Val}, cEs r es = some xs → evEs Y xs ρ μ = .ok vs μ' → vs.length = es.length
  | [], xs, r, ρ, μ, μ', vs, h, hv => by
    cases h
    obtain ⟨rfl, rfl⟩ := pure_ok hv
    rfl
  | e :: es, xs, r, ρ, μ, μ', vs, h, hv => by
    unfold cEs at h
    split at h
    · cases h
    · split at h
      · rename_i a b h1 h2
        cases h
        obtain ⟨u, m1, g1, hv1⟩ := bind_ok hv
        obtain ⟨ws, m2, g2, hv2⟩ := bind_ok hv1
        obtain ⟨rfl, rfl⟩ := pure_ok hv2
        simp [evEs_len h2 g2]
      · cases h

/-! ### a def's call -/
theorem s_call (G : Good Y Z k c X) {f : Str} {df : Df} {es : List Expr} {xs : Es} {r : Expr → Option E} {p : Pos} (hf : c.fns.lookup f = some df) (hg : isGlo c f = true) (hn : okName f = true) (hl : es.length = df.ps.length) (hc : cEs r es = some xs) (ha : PA X es (tA Y Z xs)) :
    PE X (.Call (.Name f p) es [] pos) (tE Y Z (.call df.id xs)) := by
  obtain ⟨at_, kp, fd, ok, bi, _⟩ := G.mo.fn f df hf
  have hp := cEs_plain hc
  have ok' : FnOk X.prog X.w X.K X.mg X.base CX0 k (Z.fa df.id) fd df.ps (spG Z (Y.G df.id) df.ps.length) := G.K ▸ ok
  have kp' : PySem.W.keepIn X.K (.ref (Z.fa df.id)) = true := G.K ▸ kp
  have bi' : Binds X.K fd df.ps [] := G.K ▸ bi
  have rd : ∀ σ H Q, tE Y Z (.call df.id xs) σ H Q → tCall (spG Z (Y.G df.id) df.ps.length) [] E0 (tA Y Z xs) σ H Q := fun σ H Q h => by
    obtain ⟨ρ, μ, φ, st, rp, v, μ', hv, q⟩ := h
    obtain ⟨vs, m1, h1, hv1⟩ := bind_ok hv
    refine ⟨ρ, μ, φ, st, rp, vs, m1, h1, fun Vs H1 φ1 e1 r1 v1 => ?_⟩
    show spG Z (Y.G df.id) df.ps.length (Vs ++ []) H1 Q E0
    rw [List.append_nil]
    exact ⟨vs, m1, φ1, by rw [evEs_len hc h1]; exact hl, r1, v1, v, μ', hv1, fun V H' φ' e' r' v' => q _ _ _ (e1.trans e') r' v'⟩
  cases es with
  | nil =>
    cases hc
    refine PE.imp (pe_call0 ok' G.room (G.glo f hg) at_ kp' bi' .nil pass0 (okName_db hn)) fun σ H Q h => ?_
    have := rd σ H Q h
    obtain ⟨ρ, μ, φ, st, rp, vs, m1, h1, kk⟩ := this
    obtain ⟨rfl, rfl⟩ := pure_ok h1
    exact kk [] H φ .refl rp rfl
  | cons e es => exact PE.imp (pe_call ok' G.room (G.glo f hg) at_ kp' bi' .nil pass0 ha (okName_db hn) (star_cons (hp e List.mem_cons_self)) (plain_any fun e' he => hp e' (List.mem_cons_of_mem _ he))) rd

/-! ### .. with keywords alone -/
theorem sk_cons {nm : Option Str} {v0 : Expr} {kp : Pos} {kws : List Keyword} {xs : Es} (ha : PE X v0 (tE Y Z x)) (hr : PK X kws (tA Y Z xs)) : PK X (⟨nm, v0, kp⟩ :: kws) (tA Y Z (.cons x xs)) := ⟨fun pos pins s σ H Q I h => by
  obtain ⟨ρ, μ, φ, st, rp, vs, μ', hv, q⟩ := h
  obtain ⟨u, m1, h1, hv1⟩ := bind_ok hv
  obtain ⟨ws, m2, h2, hv2⟩ := bind_ok hv1
  obtain ⟨rfl, rfl⟩ := pure_ok hv2
  refine (pk_cons ha hr).run pos pins s σ H Q I (tE_mk st rp h1 fun U H1 φ1 e1 r1 v1 => ?_)
  exact ⟨ρ, m1, φ1, st.ext e1, r1, ws, m2, h2, fun Ws H2 φ2 e2 r2 v2 => q _ _ _ (e1.trans e2) r2 ⟨U, Ws, rfl, VR.ext e2 _ _ v1, v2⟩⟩⟩
theorem sk_nil : PK X [] (tA Y Z .nil) := ⟨fun pos pins s σ H Q I h => by
  obtain ⟨ρ, μ, φ, st, rp, vs, μ', hv, q⟩ := h
  obtain ⟨rfl, rfl⟩ := pure_ok hv
  exact pk_nil.run pos pins s σ H Q I (q _ _ _ .refl rp rfl)⟩
theorem kw_each {env : PySem.Env} {pos : Pos} : ∀ {kws : List Keyword}, kws.all (fun k => k.arg.isSome) = true → (backToKw pos (keywordEach kws env)).all (·.1.isSome) = true ∧ (backToKw pos (keywordEach kws env)).filterMap (·.1) = kwNames kws ∧ (backToKw pos (keywordEach kws env)).any (·.1.isNone) = false ∧ (kwNames kws).length = kws.length
  | [], _ => ⟨rfl, rfl, rfl, rfl⟩
  | ⟨a, v, kp⟩ :: kws, h => by
    simp only [List.all_cons, Bool.and_eq_true] at h
    obtain ⟨h1, h2, h3, h4⟩ := kw_each (env := env) (pos := pos) h.2
    cases a with
    | none => simp at h
    | some n =>
      refine ⟨?_, ?_, ?_, ?_⟩
      · show (true && (backToKw pos (keywordEach kws env)).all (·.1.isSome)) = true
        rw [h1]; rfl
      · show n :: (backToKw pos (keywordEach kws env)).filterMap (·.1) = n :: kwNames kws
        rw [h2]
      · show (false || (backToKw pos (keywordEach kws env)).any (·.1.isNone)) = false
        rw [h3]; rfl
      · show (kwNames kws).length + 1 = kws.length + 1
        rw [h4]
theorem vals_pick {vs : List V} {us : List Value} (h : Vals vs us) : ∀ (p : List Nat), Vals (p.filterMap fun i => vs[i]?) (p.filterMap fun i => us[i]?)
  | [] => .nil
  | i :: p => by
    have hl := h.length
    by_cases hi : i < vs.length
    · have hu : i < us.length := by omega
      have e1 : vs[i]? = some vs[i] := List.getElem?_eq_getElem hi
      obtain ⟨u, e2, r⟩ := h.get e1
      rw [List.filterMap_cons_some e1, List.filterMap_cons_some e2]
      exact .cons r (vals_pick h p)
    · have e1 : vs[i]? = none := List.getElem?_eq_none (by omega)
      have e2 : us[i]? = none := List.getElem?_eq_none (by omega)
      rw [List.filterMap_cons_none e1, List.filterMap_cons_none e2]
      exact vals_pick h p
theorem VRs.pickp {φ : List Addr} {H : Hp} {vs : List Val} {Vs : List V} (h : VRs Z φ H vs Vs) : ∀ (p : List Nat), VRs Z φ H (p.filterMap fun i => vs[i]?) (p.filterMap fun i => Vs[i]?)
  | [] => rfl
  | i :: p => by
    have hl := h.len
    by_cases hi : i < vs.length
    · have e1 : vs[i]? = some vs[i] := List.getElem?_eq_getElem hi
      obtain ⟨V, h1, h2⟩ := h.get e1
      rw [List.filterMap_cons_some e1, List.filterMap_cons_some h1]
      exact ⟨V, _, rfl, h2, VRs.pickp h p⟩
    · have e1 : vs[i]? = none := List.getElem?_eq_none (by omega)
      have e2 : Vs[i]? = none := List.getElem?_eq_none (by omega)
      rw [List.filterMap_cons_none e1, List.filterMap_cons_none e2]
      exact VRs.pickp h p
theorem pick_len {α : Type} {vs : List α} : ∀ {p : List Nat}, (∀ i ∈ p, i < vs.length) → (p.filterMap fun i => vs[i]?).length = p.length
  | [], _ => rfl
  | i :: p, h => by
    have hi := h i List.mem_cons_self
    rw [List.filterMap_cons_some (List.getElem?_eq_getElem hi), List.length_cons, pick_len fun j hj => h j (List.mem_cons_of_mem _ hj), List.length_cons]
theorem s_callK (G : Good Y Z k c X) {f : Str} {df : Df} {kws : List Keyword} {xs : Es} {r : Expr → Option E} {p : Pos} (hf : c.fns.lookup f = some df) (hg : isGlo c f = true) (hn : okName f = true) (ha : kws.all (fun k => k.arg.isSome) = true) (hm : kwNames kws ∈ df.kws)
    (hc : cEs r (kws.map (·.value)) = some xs) (hk : PK X kws (tA Y Z xs)) : PE X (.Call (.Name f p) [] kws pos) (tE Y Z (.callK df.id xs (permOf df.ps (kwNames kws)))) := by
  obtain ⟨at_, kp, fd, ok, _, kb⟩ := G.mo.fn f df hf
  have ok' : FnOk X.prog X.w X.K X.mg X.base CX0 k (Z.fa df.id) fd df.ps (spG Z (Y.G df.id) df.ps.length) := G.K ▸ ok
  have kp' : PySem.W.keepIn X.K (.ref (Z.fa df.id)) = true := G.K ▸ kp
  obtain ⟨k1, k2, k3⟩ := kb _ hm
  obtain ⟨g1, g2, g3, g4⟩ := kw_each (env := X.env) (pos := pos) ha
  refine ⟨fun pins s σ H Q I h => ?_⟩
  obtain ⟨ρ, μ, φ, st, rp, v, μ', hv, q⟩ := h
  obtain ⟨vs, m1, h1, hv1⟩ := bind_ok hv
  refine wpAny_Call_Name_kw (ld_glob I (G.glo f hg) at_ ?_ (okName_db hn))
  refine PySem.W.callWith_KW0 (h₀ := X.base) I.ok.mod.kin kp' g1 (thn (hk.run pos pins s σ H (fun Vs H1 => Vs.length = vs.length ∧ spG Z (Y.G df.id) df.ps.length ((permOf df.ps (kwNames kws)).filterMap fun i => Vs[i]?) H1 Q E0) I ⟨ρ, μ, φ, st, rp, vs, m1, h1, fun Vs H1 φ1 e1 r1 v1 => ⟨v1.len, ?_⟩⟩) fun us s1 ⟨Vs, H1, I1, r1, hl, q1⟩ => ⟨I1.kIn, ?_⟩) (by rw [g3]; rfl)
  · exact ⟨_, m1, φ1, by rw [pick_len fun i hi => by rw [evEs_len hc h1, List.length_map, ← g4]; exact k2 i hi]; exact k1, r1, v1.pickp _, v, μ', hv1, fun V H' φ' e' r' v' => q _ _ _ (e1.trans e') r' v'⟩
  · rw [g2]
    have hlu : us.length = (kwNames kws).length := by rw [← r1.length, hl, evEs_len hc h1, List.length_map, g4]
    refine wpAny_call (codeAny_mono (ok'.run X.A X.stack s1 H1 ⟨[], (kwNames kws).zip us⟩ _ _ Q E0 G.room I1.env0 (.of_eq (k3 us hlu)) (vals_pick r1 _) q1) fun r s' hq => ?_)
    cases r with
    | error e => exact pass0 pins σ H1 s1 e s' I1 hq
    | ok fl =>
      cases fl with
      | ret u => exact I1.after hq
      | next => exact False.elim hq
      | brk => exact False.elim hq
      | cont => exact False.elim hq

/-! ### built-ins -/
/-- one value, two values -/
theorem VRs1 {φ : List Addr} {H : Hp} {v : Val} {Vs : List V} (h : VRs Z φ H [v] Vs) : ∃ V, Vs = [V] ∧ VR Z φ H v V := by
  obtain ⟨V, r, rfl, h1, h2⟩ := h
  cases (show r = [] from h2)
  exact ⟨V, rfl, h1⟩
theorem VRs2 {φ : List Addr} {H : Hp} {v u : Val} {Vs : List V} (h : VRs Z φ H [v, u] Vs) : ∃ V U, Vs = [V, U] ∧ VR Z φ H v V ∧ VR Z φ H u U := by
  obtain ⟨V, r, rfl, h1, h2⟩ := h
  obtain ⟨U, rfl, h3⟩ := VRs1 h2
  exact ⟨V, U, rfl, h1, h3⟩
end
end Ev
end

section
set_option maxRecDepth 100000
set_option maxHeartbeats 1000000
/-! Sn4: built-ins and methods. -/
namespace Ev
open PySem L2

/-- what is asked of dicts, sets and sorts: shown apart -/
structure Rest (Z : Wh) (X : Cx) : Prop where
  mem : CmpR Z X .In .mem
  nmem : CmpR Z X .NotIn .nmem
  dget : DgetR Z X
  lenO : ∀ (μ : Store) (n N : Nat), ((∃ kvs, μ[n]? = some (.dct kvs) ∧ N = kvs.length) ∨ ∃ xs, μ[n]? = some (.set xs) ∧ N = xs.length) →
    ∃ r, CallR X (.builtin "len") r ∧ ∀ U H' φ' Q, Rep Z φ' μ H' → VR Z φ' H' (.ref n) U → Q (V.int N) H' → r [U] H' Q
  sorted : ∀ (μ : Store) (n : Nat) (ys : List Val), sortedM μ n = some ys → ys.length ≤ sizeLine →
    ∃ r, CallR X (.builtin "sorted") r ∧ ∀ U H' φ' Q, Rep Z φ' μ H' → VR Z φ' H' (.ref n) U → (∀ p Vs, H' p = none → VRs Z φ' H' ys Vs → Q (.ref p) (upd H' p (.lst Vs))) → r [U] H' Q
  set : ∀ (μ : Store) (v : Val) (xs : List Val), itemsM μ v = some xs → setOk (isTup v) xs = true →
    ∃ r, CallR X (.type "set") r ∧ ∀ U H' φ' Q, Rep Z φ' μ H' → VR Z φ' H' v U → (∀ p o, H' p = none → OR Z (φ' ++ [p]) (upd H' p o) p (.set (setOf [] xs)) → Q (.ref p) (upd H' p o)) → r [U] H' Q

section
variable {Y : Sys} {Z : Wh} {k : Nat} {c : CC} {X : Cx} {a b d e : Expr} {x y z : E} {pos : Pos}
theorem isBt_of (G : Good Y Z k c X) {f g : Str} (h : isBt c f g = true) : f = g ∧ Gl X f ∧ X.mg f = none := by
  unfold isBt at h
  simp only [Bool.and_eq_true, decide_eq_true_eq] at h
  exact ⟨h.1.1, G.glo f h.1.2, G.mo.bt f h.2⟩
theorem bigL {n : Nat} (h : n ≤ 100) : n ≤ sizeLine := Nat.le_trans h (by decide)
/-- a built-in function's call -/
theorem go_B {f : Str} {id : String} {es : List Expr} {xs : Es} {r : Expr → Option E} {p : Pos} {vs : List Val} {m1 : Store} {ρ : Env} {μ : Store} {φ : List Addr} {σ : L2.St} {H : Hp} {Q : VK} {pins : List (Addr × PySem.Obj)} {s : Shared} {R : List V → Hp → VK → Prop}
    (hc : cEs r es = some xs) (ha : PA X es (tA Y Z xs)) (hne : es ≠ []) (hR : CallR X (.builtin id) R) (hg : Gl X f) (hm : X.mg f = none) (hv : bootBuiltins f = some (.builtin id)) (hn1 : f ≠ "__name__") (hn2 : (f == ("__debug__" : Str)) = false)
    (I : L2.Inv X pins σ H s) (st : StR Z φ H ρ σ) (rp : Rep Z φ μ H) (h1 : evEs Y xs ρ μ = .ok vs m1) (q : ∀ Vs H1 φ1, Ext Z.K φ H φ1 H1 → Rep Z φ1 m1 H1 → VRs Z φ1 H1 vs Vs → R Vs H1 Q) :
    wpAny (model X.prog X.w) X.A (eval (.Call (.Name f p) es [] pos) X.env) (EP X pins σ Q) X.xe s := by
  have hp := cEs_plain hc
  cases es with
  | nil => exact absurd rfl hne
  | cons e es => exact (pe_callB hR hg hm hv ha hn1 hn2 (star_cons (hp e List.mem_cons_self)) (plain_any fun e' he => hp e' (List.mem_cons_of_mem _ he))).run pins s σ H Q I ⟨ρ, μ, φ, st, rp, vs, m1, h1, q⟩
theorem go_T {f : Str} {id : String} {es : List Expr} {xs : Es} {r : Expr → Option E} {p : Pos} {vs : List Val} {m1 : Store} {ρ : Env} {μ : Store} {φ : List Addr} {σ : L2.St} {H : Hp} {Q : VK} {pins : List (Addr × PySem.Obj)} {s : Shared} {R : List V → Hp → VK → Prop}
    (hc : cEs r es = some xs) (ha : PA X es (tA Y Z xs)) (hne : es ≠ []) (hR : CallR X (.type id) R) (hg : Gl X f) (hm : X.mg f = none) (hv : bootBuiltins f = some (.type id)) (hn1 : f ≠ "__name__") (hn2 : (f == ("__debug__" : Str)) = false)
    (I : L2.Inv X pins σ H s) (st : StR Z φ H ρ σ) (rp : Rep Z φ μ H) (h1 : evEs Y xs ρ μ = .ok vs m1) (q : ∀ Vs H1 φ1, Ext Z.K φ H φ1 H1 → Rep Z φ1 m1 H1 → VRs Z φ1 H1 vs Vs → R Vs H1 Q) :
    wpAny (model X.prog X.w) X.A (eval (.Call (.Name f p) es [] pos) X.env) (EP X pins σ Q) X.xe s := by
  have hp := cEs_plain hc
  cases es with
  | nil => exact absurd rfl hne
  | cons e es => exact (pe_callTy hR hg hm hv ha hn1 hn2 (star_cons (hp e List.mem_cons_self)) (plain_any fun e' he => hp e' (List.mem_cons_of_mem _ he))).run pins s σ H Q I ⟨ρ, μ, φ, st, rp, vs, m1, h1, q⟩
theorem VRs.ints {φ : List Addr} {H : Hp} : ∀ {xs : List Val} {vs : List V} {i : Int}, VRs Z φ H xs vs → sumI xs = some i → ∃ ns : List Int, vs = ns.map V.int ∧ ns.sum = i
  | [], _, i, h, e => by
    cases (show _ = [] from h)
    cases e
    exact ⟨[], rfl, rfl⟩
  | x :: xs, _, i, ⟨v, r, h1, h2, h3⟩, e => by
    subst h1
    cases x <;> simp [sumI] at e
    rename_i j
    obtain ⟨w, e1, e2⟩ := e
    obtain ⟨ns, h4, h5⟩ := VRs.ints h3 e1
    refine ⟨j :: ns, by rw [show v = V.int j from h2, h4]; rfl, ?_⟩
    rw [List.sum_cons, h5]; exact e2
/-- an object that is a list or a tuple -/
theorem items_at {φ : List Addr} {μ : Store} {H : Hp} {v : Val} {xs : List Val} {U : V} (rp : Rep Z φ μ H) (hu : VR Z φ H v U) (h : itemsM μ v = some xs) : ∃ p vs, U = .ref p ∧ (SqL Z.K H p vs ∨ SqT Z.K H p vs) ∧ VRs Z φ H xs vs ∧ ((∃ n, v = .ref n ∧ H p = some (.lst vs)) ∨ (v = .tup xs ∧ H p = some (.tup vs))) := by
  unfold itemsM at h
  split at h
  · cases h
    obtain ⟨p, vs, rfl, t, r⟩ := hu
    exact ⟨p, vs, rfl, .inr (.of t), r, .inr ⟨rfl, t⟩⟩
  · rename_i n
    split at h
    · rename_i ys hm
      cases h
      obtain ⟨p, vs, rfl, _, t, r⟩ := rp.ref_lst hu hm
      exact ⟨p, vs, rfl, .inl (.of t), r, .inl ⟨n, rfl, t⟩⟩
    · cases h
  · cases h
/-! inversions -/
theorem b_len {vs : List Val} {v : Val} {m μ' : Store} (h : bltV .len vs m = .ok v μ') : ∃ u n, vs = [u] ∧ lenM m u = some n ∧ v = .int n ∧ m = μ' := by
  rcases vs with _ | ⟨u, _ | ⟨w, r⟩⟩ <;> first | (cases h; done) | skip
  simp only [bltV] at h
  split at h
  · rename_i n hn; cases h; exact ⟨u, n, rfl, hn, rfl, rfl⟩
  · cases h
theorem b_int {vs : List Val} {v : Val} {m μ' : Store} (h : bltV .int vs m = .ok v μ') : m = μ' ∧ ((∃ i, vs = [.int i] ∧ v = .int i) ∨ ∃ b, vs = [.bl b] ∧ v = .int (bint b)) := by
  rcases vs with _ | ⟨u, _ | ⟨w, r⟩⟩ <;> first | (cases h; done) | skip
  · cases u <;> first | (cases h; done) | skip
    · obtain ⟨rfl, rfl⟩ := pure_ok h; exact ⟨rfl, .inr ⟨_, rfl, rfl⟩⟩
    · obtain ⟨rfl, rfl⟩ := pure_ok h; exact ⟨rfl, .inl ⟨_, rfl, rfl⟩⟩
  · cases u <;> cases h
theorem b_max {vs : List Val} {v : Val} {m μ' : Store} (h : bltV .max2 vs m = .ok v μ') : m = μ' ∧ ∃ i j, vs = [.int i, .int j] ∧ v = .int (if j > i then j else i) := by
  rcases vs with _ | ⟨u, _ | ⟨w, _ | ⟨w2, r⟩⟩⟩ <;> first | (cases h; done) | skip
  · cases u <;> cases h
  · cases u <;> first | (cases h; done) | skip
    cases w <;> first | (cases h; done) | skip
    obtain ⟨rfl, rfl⟩ := pure_ok h; exact ⟨rfl, _, _, rfl, rfl⟩
  · cases u <;> first | (cases h; done) | skip
    cases w <;> cases h
theorem b_min {vs : List Val} {v : Val} {m μ' : Store} (h : bltV .min2 vs m = .ok v μ') : m = μ' ∧ ∃ i j, vs = [.int i, .int j] ∧ v = .int (if j < i then j else i) := by
  rcases vs with _ | ⟨u, _ | ⟨w, _ | ⟨w2, r⟩⟩⟩ <;> first | (cases h; done) | skip
  · cases u <;> cases h
  · cases u <;> first | (cases h; done) | skip
    cases w <;> first | (cases h; done) | skip
    obtain ⟨rfl, rfl⟩ := pure_ok h; exact ⟨rfl, _, _, rfl, rfl⟩
  · cases u <;> first | (cases h; done) | skip
    cases w <;> cases h
theorem b_sum {vs : List Val} {v : Val} {m μ' : Store} (h : bltV .sum vs m = .ok v μ') : m = μ' ∧ ∃ a xs i, vs = [.ref a] ∧ m[a]? = some (.lst xs) ∧ sumI xs = some i ∧ v = .int i := by
  rcases vs with _ | ⟨u, _ | ⟨w, r⟩⟩ <;> first | (cases h; done) | skip
  · cases u <;> first | (cases h; done) | skip
    rename_i a
    simp only [bltV] at h
    split at h
    · rename_i xs hx
      split at h
      · rename_i i hi; cases h; exact ⟨rfl, a, xs, i, rfl, hx, hi, rfl⟩
      · cases h
    · cases h
  · cases u <;> cases h
theorem b_list {vs : List Val} {v : Val} {m μ' : Store} (h : bltV .list vs m = .ok v μ') : ∃ u xs, vs = [u] ∧ itemsM m u = some xs ∧ newLst xs m = .ok v μ' := by
  rcases vs with _ | ⟨u, _ | ⟨w, r⟩⟩ <;> first | (cases h; done) | skip
  simp only [bltV] at h
  split at h
  · rename_i xs hn; exact ⟨u, xs, rfl, hn, h⟩
  · cases h
theorem b_tuple {vs : List Val} {v : Val} {m μ' : Store} (h : bltV .tuple vs m = .ok v μ') : ∃ u xs, vs = [u] ∧ itemsM m u = some xs ∧ newTup xs m = .ok v μ' := by
  rcases vs with _ | ⟨u, _ | ⟨w, r⟩⟩ <;> first | (cases h; done) | skip
  simp only [bltV] at h
  split at h
  · rename_i xs hn; exact ⟨u, xs, rfl, hn, h⟩
  · cases h
theorem b_sorted {vs : List Val} {v : Val} {m μ' : Store} (h : bltV .sorted vs m = .ok v μ') : ∃ a ys, vs = [.ref a] ∧ sortedM m a = some ys ∧ newLst ys m = .ok v μ' := by
  rcases vs with _ | ⟨u, _ | ⟨w, r⟩⟩ <;> first | (cases h; done) | skip
  · cases u <;> first | (cases h; done) | skip
    rename_i a
    simp only [bltV] at h
    split at h
    · rename_i ys hy
      exact ⟨a, ys, rfl, hy, h⟩
    · cases h
  · cases u <;> cases h
theorem b_repr {vs : List Val} {v : Val} {m μ' : Store} (h : bltV .repr vs m = .ok v μ') : m = μ' ∧ ∃ b : Bool, vs = [.bl b] ∧ v = .str (if b then "True" else "False") := by
  rcases vs with _ | ⟨u, _ | ⟨w, r⟩⟩ <;> first | (cases h; done) | skip
  · cases u <;> first | (cases h; done) | skip
    rename_i b
    obtain ⟨e1, e2⟩ := pure_ok h
    exact ⟨e2, b, rfl, e1.symm⟩
  · cases u <;> cases h
/-- repr of a bool -/
theorem call_repr_bl : CallR X (.builtin "repr") (fun xs H Q => ∃ b : Bool, xs = [.bl b] ∧ Q (.str (if b then "True" else "False")) H) := by
  intro pins s σ H xs us Q I r h
  obtain ⟨b, rfl, q⟩ := h
  obtain ⟨u, rfl, r1⟩ := vals1 r
  cases (show u = .bool b from r1)
  exact PySem.P.repr_of_bool ⟨.str _, H, I.tok _, ⟨_, rfl⟩, q⟩
theorem b_set {vs : List Val} {v : Val} {m μ' : Store} (h : bltV .set vs m = .ok v μ') : ∃ u xs, vs = [u] ∧ itemsM m u = some xs ∧ setOk (isTup u) xs = true ∧ v = .ref m.length ∧ μ' = m ++ [.set (setOf [] xs)] := by
  rcases vs with _ | ⟨u, _ | ⟨w, r⟩⟩ <;> first | (cases h; done) | skip
  simp only [bltV] at h
  split at h
  · rename_i xs hn
    split at h
    · rename_i hs
      change R.ok _ _ = _ at h
      cases h
      exact ⟨u, xs, rfl, hn, hs, rfl, rfl⟩
    · cases h
  · cases h
theorem s_blt (G : Good Y Z k c X) (S : Rest Z X) {f : Str} {bl : Blt} {es : List Expr} {xs : Es} {r : Expr → Option E} {p : Pos} (hb : cBlt c f es.length = some bl) (hc : cEs r es = some xs) (ha : PA X es (tA Y Z xs)) :
    PE X (.Call (.Name f p) es [] pos) (tE Y Z (.blt bl xs)) := by
  refine ⟨fun pins s σ H Q I h => ?_⟩
  obtain ⟨ρ, μ, φ, st, rp, v, μ', hv, q⟩ := h
  obtain ⟨vs, m1, h1, hv1⟩ := bind_ok hv
  clear hv
  have hne : es ≠ [] := by
    intro z
    subst z
    unfold cBlt at hb
    simp at hb
  unfold cBlt at hb
  repeat' split at hb
  all_goals first | (cases hb; done) | skip
  · rename_i hf
    cases hb
    simp only [Bool.and_eq_true, beq_iff_eq] at hf
    obtain ⟨rfl, hg, hm⟩ := isBt_of G hf.1
    obtain ⟨u, n, rfl, hn, rfl, rfl⟩ := b_len hv1
    unfold lenM at hn
    split at hn
    · cases hn
      refine go_B hc ha hne call_len hg hm boot_len (by decide) (by decide) I st rp h1 fun Vs H1 φ1 e1 r1 v1 => ?_
      obtain ⟨V, rfl, vr⟩ := VRs1 v1
      obtain ⟨p', us, rfl, t, rr⟩ := vr
      exact ⟨_, _, rfl, .inr ⟨us, .of t, rfl⟩, by rw [rr.len]; exact q _ _ _ e1 r1 rfl⟩
    · rename_i s'
      split at hn
      · rename_i hz
        cases hn
        rw [lim_eq] at hz
        refine go_B hc ha hne call_len hg hm boot_len (by decide) (by decide) I st rp h1 fun Vs H1 φ1 e1 r1 v1 => ?_
        obtain ⟨V, rfl, vr⟩ := VRs1 v1
        rw [show V = L2.V.str s' from vr]
        exact ⟨_, _, rfl, ⟨hz, rfl⟩, q _ _ _ e1 r1 rfl⟩
      · cases hn
    · rename_i n'
      split at hn
      · rename_i ys hy
        cases hn
        refine go_B hc ha hne call_len hg hm boot_len (by decide) (by decide) I st rp h1 fun Vs H1 φ1 e1 r1 v1 => ?_
        obtain ⟨V, rfl, vr⟩ := VRs1 v1
        obtain ⟨p', us, rfl, _, t, rr⟩ := r1.ref_lst vr hy
        exact ⟨_, _, rfl, .inl ⟨us, .of t, rfl⟩, by rw [rr.len]; exact q _ _ _ e1 r1 rfl⟩
      · rename_i kvs hy
        cases hn
        obtain ⟨R, hR, g⟩ := S.lenO _ n' _ (.inl ⟨kvs, hy, rfl⟩)
        refine go_B hc ha hne hR hg hm boot_len (by decide) (by decide) I st rp h1 fun Vs H1 φ1 e1 r1 v1 => ?_
        obtain ⟨V, rfl, vr⟩ := VRs1 v1
        exact g V H1 φ1 Q r1 vr (q _ _ _ e1 r1 rfl)
      · rename_i ys hy
        cases hn
        obtain ⟨R, hR, g⟩ := S.lenO _ n' _ (.inr ⟨ys, hy, rfl⟩)
        refine go_B hc ha hne hR hg hm boot_len (by decide) (by decide) I st rp h1 fun Vs H1 φ1 e1 r1 v1 => ?_
        obtain ⟨V, rfl, vr⟩ := VRs1 v1
        exact g V H1 φ1 Q r1 vr (q _ _ _ e1 r1 rfl)
      · cases hn
    · rename_i ns
      cases hn
      refine go_B hc ha hne call_len hg hm boot_len (by decide) (by decide) I st rp h1 fun Vs H1 φ1 e1 r1 v1 => ?_
      obtain ⟨V, rfl, vr⟩ := VRs1 v1
      obtain ⟨p', rfl, t⟩ := vr
      exact ⟨_, _, rfl, .inl ⟨ns.map L2.V.int, by rw [G.K]; exact t.sql, rfl⟩, by rw [List.length_map]; exact q _ _ _ e1 r1 rfl⟩
    · cases hn
  · rename_i _ hf
    cases hb
    simp only [Bool.and_eq_true, beq_iff_eq] at hf
    obtain ⟨rfl, hg, hm⟩ := isBt_of G hf.1
    obtain ⟨rfl, ⟨i, rfl, rfl⟩ | ⟨i, rfl, rfl⟩⟩ := b_int hv1
    · refine go_T hc ha hne call_int1 hg hm PyProof.Rows.boot_int (by decide) (by decide) I st rp h1 fun Vs H1 φ1 e1 r1 v1 => ?_
      obtain ⟨V, rfl, vr⟩ := VRs1 v1
      rw [show V = L2.V.int i from vr]
      exact .inl ⟨i, rfl, q _ _ _ e1 r1 rfl⟩
    · refine go_T hc ha hne call_int1 hg hm PyProof.Rows.boot_int (by decide) (by decide) I st rp h1 fun Vs H1 φ1 e1 r1 v1 => ?_
      obtain ⟨V, rfl, vr⟩ := VRs1 v1
      rw [show V = L2.V.bl i from vr]
      exact .inr ⟨i, rfl, q _ _ _ e1 r1 rfl⟩
  · rename_i _ _ hf
    cases hb
    simp only [Bool.and_eq_true, beq_iff_eq] at hf
    obtain ⟨rfl, hg, hm⟩ := isBt_of G hf.1
    obtain ⟨rfl, i, j, rfl, rfl⟩ := b_max hv1
    refine go_B hc ha hne (call_max2 G.calm) hg hm PyProof.Rows.boot_max (by decide) (by decide) I st rp h1 fun Vs H1 φ1 e1 r1 v1 => ?_
    obtain ⟨V, U, rfl, v2, u2⟩ := VRs2 v1
    rw [show V = L2.V.int i from v2, show U = L2.V.int j from u2]
    exact ⟨i, j, rfl, q _ _ _ e1 r1 rfl⟩
  · rename_i _ _ _ hf
    cases hb
    simp only [Bool.and_eq_true, beq_iff_eq] at hf
    obtain ⟨rfl, hg, hm⟩ := isBt_of G hf.1
    obtain ⟨rfl, i, j, rfl, rfl⟩ := b_min hv1
    refine go_B hc ha hne (call_min2 G.calm) hg hm PyProof.Rows.boot_min (by decide) (by decide) I st rp h1 fun Vs H1 φ1 e1 r1 v1 => ?_
    obtain ⟨V, U, rfl, v2, u2⟩ := VRs2 v1
    rw [show V = L2.V.int i from v2, show U = L2.V.int j from u2]
    exact ⟨i, j, rfl, q _ _ _ e1 r1 rfl⟩
  · rename_i _ _ _ _ hf
    cases hb
    simp only [Bool.and_eq_true, beq_iff_eq] at hf
    obtain ⟨rfl, hg, hm⟩ := isBt_of G hf.1
    obtain ⟨rfl, n, ys, i, rfl, hy, hi, rfl⟩ := b_sum hv1
    refine go_B hc ha hne (cr_sum G.calm) hg hm (by decide +kernel) (by decide) (by decide) I st rp h1 fun Vs H1 φ1 e1 r1 v1 => ?_
    obtain ⟨V, rfl, vr⟩ := VRs1 v1
    obtain ⟨p', us, rfl, _, t, rr⟩ := r1.ref_lst vr hy
    obtain ⟨ns, rfl, hs⟩ := rr.ints hi
    exact ⟨p', ns, rfl, .of t, by rw [hs]; exact q _ _ _ e1 r1 rfl⟩
  · rename_i _ _ _ _ _ hf
    cases hb
    simp only [Bool.and_eq_true, beq_iff_eq] at hf
    obtain ⟨rfl, hg, hm⟩ := isBt_of G hf.1
    obtain ⟨u, ys, rfl, hi, hl⟩ := b_list hv1
    obtain ⟨hz, rfl, rfl⟩ := newLst_ok hl
    refine go_T hc ha hne call_list_of hg hm PyProof.Rows.boot_list (by decide) (by decide) I st rp h1 fun Vs H1 φ1 e1 r1 v1 => ?_
    obtain ⟨V, rfl, vr⟩ := VRs1 v1
    obtain ⟨p', us, rfl, t, rr, _⟩ := items_at r1 vr hi
    exact ⟨p', us, rfl, by rw [G.K]; exact t, fun l hl => r1.newL hl rr (q.ext e1)⟩
  · rename_i _ _ _ _ _ _ hf
    cases hb
    simp only [Bool.and_eq_true, beq_iff_eq] at hf
    obtain ⟨rfl, hg, hm⟩ := isBt_of G hf.1
    obtain ⟨u, ys, rfl, hi, hl⟩ := b_tuple hv1
    obtain ⟨hz, rfl, rfl⟩ := newTup_ok hl
    refine go_T hc ha hne call_tuple_of hg hm PyProof.Rows.boot_tuple (by decide) (by decide) I st rp h1 fun Vs H1 φ1 e1 r1 v1 => ?_
    obtain ⟨V, rfl, vr⟩ := VRs1 v1
    obtain ⟨p', us, rfl, t, rr, ⟨n, rfl, t'⟩ | ⟨rfl, t'⟩⟩ := items_at r1 vr hi
    · exact ⟨p', us, rfl, .inl ⟨.of t', fun l hl => r1.newT hl rr (q.ext e1)⟩⟩
    · exact ⟨p', us, rfl, .inr ⟨.of t', q _ _ _ e1 r1 ⟨p', us, rfl, t', rr⟩⟩⟩
  · rename_i _ _ _ _ _ _ _ hf
    cases hb
    simp only [Bool.and_eq_true, beq_iff_eq] at hf
    obtain ⟨rfl, hg, hm⟩ := isBt_of G hf.1
    obtain ⟨n, zs, rfl, hs, hl⟩ := b_sorted hv1
    obtain ⟨hz, rfl, rfl⟩ := newLst_ok hl
    obtain ⟨R, hR, g⟩ := S.sorted _ n zs hs hz
    refine go_B hc ha hne hR hg hm PyProof.Rows.boot_sorted (by decide) (by decide) I st rp h1 fun Vs H1 φ1 e1 r1 v1 => ?_
    obtain ⟨V, rfl, vr⟩ := VRs1 v1
    exact g V H1 φ1 Q r1 vr fun p' Vs hp hV => r1.newL hp hV (q.ext e1)
  · rename_i _ _ _ _ _ _ _ _ hf
    cases hb
    simp only [Bool.and_eq_true, beq_iff_eq] at hf
    obtain ⟨rfl, hg, hm⟩ := isBt_of G hf.1
    obtain ⟨u, ys, rfl, hi, hs, rfl, rfl⟩ := b_set hv1
    obtain ⟨R, hR, g⟩ := S.set _ u ys hi hs
    refine go_T hc ha hne hR hg hm PyProof.Rows.boot_set (by decide) (by decide) I st rp h1 fun Vs H1 φ1 e1 r1 v1 => ?_
    obtain ⟨V, rfl, vr⟩ := VRs1 v1
    refine g V H1 φ1 Q r1 vr fun p' o hp ho => q _ _ (φ1 ++ [p']) (e1.trans (.push hp)) (r1.push hp ho) ⟨p', by rw [List.getElem?_append_right (by rw [r1.len]; exact Nat.le_refl _), r1.len]; simp, rfl⟩
  · rename_i _ _ _ _ _ _ _ _ _ hf
    cases hb
    simp only [Bool.and_eq_true, beq_iff_eq] at hf
    obtain ⟨rfl, hg, hm⟩ := isBt_of G hf.1
    obtain ⟨rfl, b, rfl, rfl⟩ := b_repr hv1
    refine go_B hc ha hne call_repr_bl hg hm (by decide +kernel) (by decide) (by decide) I st rp h1 fun Vs H1 φ1 e1 r1 v1 => ?_
    obtain ⟨V, rfl, vr⟩ := VRs1 v1
    rw [show V = L2.V.bl b from vr]
    exact ⟨b, rfl, q _ _ _ e1 r1 rfl⟩
end
end Ev
end

section
set_option maxRecDepth 100000
set_option maxHeartbeats 1000000
/-! Sn5: isinstance, methods, keywords, list(range). -/
namespace Ev
open PySem L2

section
variable {Y : Sys} {Z : Wh} {k : Nat} {c : CC} {X : Cx} {a b d e : Expr} {x y z : E} {pos : Pos}
def tyName : Ty → String
  | .int => "int"
  | .bool => "bool"
  | .str => "str"
  | .tuple => "tuple"
theorem tyx_of {φ : List Addr} {μ : Store} {H : Hp} {v : Val} {U : V} {t : Ty} {r : Bool} (rp : Rep Z φ μ H) (h : VR Z φ H v U) (hv : isV μ v t = some r) :
    ∃ tn : String, TyX Z.K H U (.type tn) ∧ kitB tn (tyName t) = some r := by
  unfold isV at hv
  split at hv
  · cases hv
    rw [show U = V.non from h]
    refine ⟨"NoneType", .base .non, ?_⟩
    cases t <;> decide +kernel
  · rename_i b'
    cases hv
    rw [show U = V.bl b' from h]
    refine ⟨"bool", .base (.bl _), ?_⟩
    cases t <;> decide +kernel
  · rename_i i
    cases hv
    rw [show U = V.int i from h]
    refine ⟨"int", .base (.int _), ?_⟩
    cases t <;> decide +kernel
  · rename_i i
    cases hv
    rw [show U = V.str i from h]
    refine ⟨"str", .base (.str _), ?_⟩
    cases t <;> decide +kernel
  · cases hv
    obtain ⟨p, vs, rfl, t1, _⟩ := h
    refine ⟨"tuple", ?_, by cases t <;> decide +kernel⟩
    exact .base (.tup t1)
  · split at hv
    · rename_i xs hm
      cases hv
      obtain ⟨p, vs, rfl, _, t1, _⟩ := rp.ref_lst h hm
      exact ⟨"list", .base (.lst t1), by cases t <;> decide +kernel⟩
    · cases hv
  · cases hv
  · cases hv
theorem s_isin (G : Good Y Z k c X) {f : Str} {t : Expr} {ty : Ty} {p : Pos} (hf : isBt c f "isinstance" = true) (ht : cTy c t = some ty) (hs : isStar a = false) (ha : PE X a (tE Y Z x)) :
    PE X (.Call (.Name f p) [a, t] [] pos) (tE Y Z (.isin x ty)) := by
  obtain ⟨rfl, hg, hm⟩ := isBt_of G hf
  have go : ∀ {g : Str} {tn : String} {p2 : Pos}, isBt c g g = true → bootBuiltins g = some (.type tn) → g ≠ "__name__" → (g == ("__debug__" : Str)) = false → tyName ty = tn →
      PE X (.Call (.Name "isinstance" p) [a, .Name g p2] [] pos) (tE Y Z (.isin x ty)) := by
    intro g tn p2 hb hv n1 n2 hty
    obtain ⟨_, hg2, hm2⟩ := isBt_of G hb
    have hT : PE X (.Name g p2) (tC (.ty tn)) := pe_bltn hg2 hm2 hv rfl n1 n2
    refine PE.imp (pe_callB call_isi hg hm PyProof.Rows.boot_isinstance (pa_cons ha (pa_cons hT pa_nil) (star_cons hs)) (by decide) (by decide) (star_cons hs)) fun σ H Q h => ?_
    obtain ⟨ρ, μ, φ, st, rp, v, μ', hv', q⟩ := h
    obtain ⟨u, m1, h1, hv1⟩ := bind_ok hv'
    split at hv1
    · rename_i r hr
      cases hv1
      refine tE_mk st rp h1 fun U H1 φ1 e1 r1 v1 => ?_
      obtain ⟨tn2, t1, t2⟩ := tyx_of r1 v1 hr
      rw [hty] at t2
      exact ⟨U, .ty tn, _, _, r, rfl, .ty tn, G.K ▸ t1, kit_ty t2, q _ _ _ e1 r1 rfl⟩
    · cases hv1
  unfold cTy at ht
  split at ht
  · rename_i g p2
    have self : ∀ {h : Str}, isBt c g h = true → isBt c g g = true ∧ g = h := fun {h} hh => by
      obtain ⟨rfl, _, _⟩ := isBt_of G hh
      exact ⟨hh, rfl⟩
    split at ht
    · rename_i hb; cases ht
      obtain ⟨h1, rfl⟩ := self hb
      exact go h1 PyProof.Rows.boot_int (by decide) (by decide) rfl
    · split at ht
      · rename_i hb; cases ht
        obtain ⟨h1, rfl⟩ := self hb
        exact go h1 PyProof.Rows.boot_bool (by decide) (by decide) rfl
      · split at ht
        · rename_i hb; cases ht
          obtain ⟨h1, rfl⟩ := self hb
          exact go h1 PyProof.Rows.boot_str (by decide) (by decide) rfl
        · split at ht
          · rename_i hb; cases ht
            obtain ⟨h1, rfl⟩ := self hb
            exact go h1 PyProof.Rows.boot_tuple (by decide) (by decide) rfl
          · cases ht
  · cases ht

/-! ### methods of lists -/
theorem base_of {o : Expr} {n : Str} {env : PySem.Env} {w : Sem Value} (h : isCall o = false) : attributeBase o n env w = w := by
  cases o <;> first | rfl | (simp [isCall] at h)
theorem few_of {env : PySem.Env} {cpos : Pos} (h : isStar e = false) : ((backTo cpos (starEach [e] env)).all (fun x => !x.1) && (backToKw cpos (keywordEach [] env)).all (fun x => x.1.isSome)
      && decide (([e] : List Expr).length + ([] : List Keyword).length + (if ([] : List Keyword).isEmpty then 0 else 1) < 30)) = true := by
  rw [star_cons h]; rfl
theorem m_append {o : Val} {vs : List Val} {v : Val} {m μ' : Store} (h : mthV .append o vs m = .ok v μ') : ∃ n xs u, o = .ref n ∧ vs = [u] ∧ m[n]? = some (.lst xs) ∧ xs.length < lim ∧ v = .non ∧ μ' = m.set n (.lst (xs ++ [u])) := by
  cases o <;> first | (cases h; done) | skip
  rcases vs with _ | ⟨u, _ | ⟨w, r⟩⟩ <;> first | (cases h; done) | skip
  rename_i n
  simp only [mthV] at h
  split at h
  · rename_i xs hx
    split at h
    · rename_i hz; cases h; exact ⟨n, xs, u, rfl, rfl, hx, hz, rfl, rfl⟩
    · cases h
  · cases h
theorem m_extend {o : Val} {vs : List Val} {v : Val} {m μ' : Store} (h : mthV .extend o vs m = .ok v μ') : ∃ n n2 xs ys, o = .ref n ∧ vs = [.ref n2] ∧ m[n]? = some (.lst xs) ∧ m[n2]? = some (.lst ys) ∧ xs.length + ys.length ≤ lim ∧ v = .non ∧ μ' = m.set n (.lst (xs ++ ys)) := by
  cases o <;> first | (cases h; done) | skip
  rcases vs with _ | ⟨u, _ | ⟨w, r⟩⟩ <;> first | (cases h; done) | skip
  · cases u <;> first | (cases h; done) | skip
    rename_i n n2
    simp only [mthV] at h
    split at h
    · rename_i xs ys hx hy
      split at h
      · rename_i hz; cases h; exact ⟨n, n2, xs, ys, rfl, rfl, hx, hy, hz, rfl, rfl⟩
      · cases h
    · cases h
  · cases u <;> cases h
theorem m_pop {o : Val} {vs : List Val} {v : Val} {m μ' : Store} (h : mthV .pop o vs m = .ok v μ') : ∃ n xs, o = .ref n ∧ vs = [] ∧ m[n]? = some (.lst xs) ∧ xs.getLast? = some v ∧ μ' = m.set n (.lst xs.dropLast) := by
  cases o <;> first | (cases h; done) | skip
  rcases vs with _ | ⟨u, r⟩ <;> first | (cases h; done) | skip
  rename_i n
  simp only [mthV] at h
  split at h
  · rename_i xs hx
    split at h
    · rename_i w hw; cases h; exact ⟨n, xs, rfl, rfl, hx, hw, rfl⟩
    · cases h
  · cases h
theorem m_pop1 {o : Val} {vs : List Val} {v : Val} {m μ' : Store} (h : mthV .pop1 o vs m = .ok v μ') : ∃ n xs i j, o = .ref n ∧ vs = [.int i] ∧ m[n]? = some (.lst xs) ∧ small i = true ∧ ixOf xs.length i = some j ∧ xs[j]? = some v ∧ μ' = m.set n (.lst (xs.eraseIdx j)) := by
  cases o <;> first | (cases h; done) | skip
  rcases vs with _ | ⟨u, _ | ⟨w, r⟩⟩ <;> first | (cases h; done) | skip
  · cases u <;> first | (cases h; done) | skip
    rename_i n i
    simp only [mthV] at h
    split at h
    · rename_i xs hx
      split at h
      · cases h
      · rename_i hi
        split at h
        · rename_i j hj
          split at h
          · rename_i w hw; cases h; exact ⟨n, xs, i, j, rfl, rfl, hx, by simpa using hi, hj, hw, rfl⟩
          · cases h
        · cases h
    · cases h
  · cases u <;> cases h
/-- a list's method with one thing -/
theorem go_m1 (G : Good Y Z k c X) {id : String} {m : Str} {R : V → List V → Hp → VK → Prop} {apos cpos : Pos} {ρ : Env} {μ m1 m2 : Store} {φ : List Addr} {σ : L2.St} {H : Hp} {Q : VK} {pins : List (Addr × PySem.Obj)} {s : Shared} {u w : Val}
    (slot : Slot "list" m id) (hty : typeOf (.builtin id) = pure (.type "method_descriptor")) (hR : MtR X id R) (hcall : isCall a = false) (hline : (apos.endLine == cpos.line) = true) (hs : isStar b = false) (ha : PE X a (tE Y Z x)) (hb : PE X b (tE Y Z y))
    (I : L2.Inv X pins σ H s) (st : StR Z φ H ρ σ) (rp : Rep Z φ μ H) (h1 : evE Y x ρ μ = .ok u m1) (h2 : evE Y y ρ m1 = .ok w m2) (hu : ∃ n xs, u = .ref n ∧ m1[n]? = some (.lst xs))
    (q : ∀ U W H' φ', Ext Z.K φ H φ' H' → Rep Z φ' m2 H' → VR Z φ' H' u U → VR Z φ' H' w W → R U [W] H' Q) :
    wpAny (model X.prog X.w) X.A (eval (.Call (.Attribute a m apos) [b] [] cpos) X.env) (EP X pins σ Q) X.xe s := by
  refine (pe_bm PySem.F.plainAttrs_list slot hty hR ha (pa_cons hb pa_nil (star_cons hs)) (base_of hcall) (few_of hs) hline (star_cons hs) rfl).run pins s σ H Q I (tE_mk st rp h1 fun U H1 φ1 e1 r1 v1 => ?_)
  obtain ⟨n, xs, rfl, hx⟩ := hu
  obtain ⟨p, vs, rfl, _, t, rr⟩ := r1.ref_lst v1 hx
  exact ⟨.inl ⟨rfl, _, .of t⟩, tE_mk (st.ext e1) r1 h2 fun W H2 φ2 e2 r2 v2 => q _ _ _ _ (e1.trans e2) r2 (VR.ext e2 _ _ v1) v2⟩
theorem kind_lst {f : Mth} {o : Val} {m μ' : Store} {u : Unit} (hf : f = .append ∨ f = .extend ∨ f = .pop ∨ f = .pop1) (h : kindM f o m = .ok u μ') : μ' = m ∧ ∃ n xs, o = .ref n ∧ m[n]? = some (.lst xs) := by
  have go : ∀ {n : Nat}, (match m[n]? with | some (.lst _) => R.ok () m | _ => .stuck) = R.ok u μ' → μ' = m ∧ ∃ n' xs, Val.ref n = .ref n' ∧ m[n']? = some (.lst xs) := fun {n} h => by
    split at h
    · rename_i xs hx; cases h; exact ⟨rfl, n, xs, rfl, hx⟩
    · cases h
  rcases hf with rfl | rfl | rfl | rfl <;> (cases o <;> first | (cases h; done) | exact go h)
theorem s_append (G : Good Y Z k c X) {apos cpos : Pos} (hcall : isCall a = false) (hline : (apos.endLine == cpos.line) = true) (hs : isStar b = false) (ha : PE X a (tE Y Z x)) (hb : PE X b (tE Y Z y)) :
    PE X (.Call (.Attribute a "append" apos) [b] [] cpos) (tE Y Z (.mth .append x (.cons y .nil))) := by
  refine ⟨fun pins s σ H Q I h => ?_⟩
  obtain ⟨ρ, μ, φ, st, rp, v, μ', hv, q⟩ := h
  obtain ⟨u, m1, h1, hv1⟩ := bind_ok hv
  obtain ⟨_, m1', hk, hv1'⟩ := bind_ok hv1
  obtain ⟨rfl, hx1⟩ := kind_lst (.inl rfl) hk
  obtain ⟨ws, m2, h2, hv2⟩ := bind_ok hv1'
  obtain ⟨w, m3, h3, hv3⟩ := bind_ok h2
  obtain ⟨ws', m4, h4, hv4⟩ := bind_ok hv3
  obtain ⟨rfl, rfl⟩ := pure_ok h4
  obtain ⟨rfl, rfl⟩ := pure_ok hv4
  obtain ⟨n, xs, u2, rfl, e1, hx, hz, rfl, rfl⟩ := m_append hv2
  cases e1
  refine go_m1 G PySem.F.slot_list_append PySem.F.type_list_append mt_append hcall hline hs ha hb I st rp h1 h3 hx1 fun U W H' φ' e' r' vu vw => ?_
  obtain ⟨p, vs, rfl, hp, t, rr⟩ := r'.ref_lst vu hx
  obtain ⟨r2, e2⟩ := r'.updL hp t (rr.append (.single vw))
  exact ⟨p, vs, W, rfl, rfl, t, by rw [rr.len, ← lim_eq]; exact hz, q _ _ _ (e'.trans e2) r2 rfl⟩
theorem s_extend (G : Good Y Z k c X) {apos cpos : Pos} (hcall : isCall a = false) (hline : (apos.endLine == cpos.line) = true) (hs : isStar b = false) (ha : PE X a (tE Y Z x)) (hb : PE X b (tE Y Z y)) :
    PE X (.Call (.Attribute a "extend" apos) [b] [] cpos) (tE Y Z (.mth .extend x (.cons y .nil))) := by
  refine ⟨fun pins s σ H Q I h => ?_⟩
  obtain ⟨ρ, μ, φ, st, rp, v, μ', hv, q⟩ := h
  obtain ⟨u, m1, h1, hv1⟩ := bind_ok hv
  obtain ⟨_, m1', hk, hv1'⟩ := bind_ok hv1
  obtain ⟨rfl, hx1⟩ := kind_lst (.inr (.inl rfl)) hk
  obtain ⟨ws, m2, h2, hv2⟩ := bind_ok hv1'
  obtain ⟨w, m3, h3, hv3⟩ := bind_ok h2
  obtain ⟨ws', m4, h4, hv4⟩ := bind_ok hv3
  obtain ⟨rfl, rfl⟩ := pure_ok h4
  obtain ⟨rfl, rfl⟩ := pure_ok hv4
  obtain ⟨n, n2, xs, ys, rfl, e1, hx, hy, hz, rfl, rfl⟩ := m_extend hv2
  cases e1
  refine go_m1 G PySem.F.slot_list_extend PySem.F.type_list_extend mt_extend hcall hline hs ha hb I st rp h1 h3 hx1 fun U W H' φ' e' r' vu vw => ?_
  obtain ⟨p, vs, rfl, hp, t, rr⟩ := r'.ref_lst vu hx
  obtain ⟨p2, us, rfl, _, t2, rr2⟩ := r'.ref_lst vw hy
  obtain ⟨r2, e2⟩ := r'.updL hp t (rr.append rr2)
  exact ⟨p, p2, vs, us, rfl, rfl, t, t2, by rw [rr.len, rr2.len, ← lim_eq]; exact hz, q _ _ _ (e'.trans e2) r2 rfl⟩
theorem s_pop1 (G : Good Y Z k c X) {apos cpos : Pos} (hcall : isCall a = false) (hline : (apos.endLine == cpos.line) = true) (hs : isStar b = false) (ha : PE X a (tE Y Z x)) (hb : PE X b (tE Y Z y)) :
    PE X (.Call (.Attribute a "pop" apos) [b] [] cpos) (tE Y Z (.mth .pop1 x (.cons y .nil))) := by
  refine ⟨fun pins s σ H Q I h => ?_⟩
  obtain ⟨ρ, μ, φ, st, rp, v, μ', hv, q⟩ := h
  obtain ⟨u, m1, h1, hv1⟩ := bind_ok hv
  obtain ⟨_, m1', hk, hv1'⟩ := bind_ok hv1
  obtain ⟨rfl, hx1⟩ := kind_lst (.inr (.inr (.inr rfl))) hk
  obtain ⟨ws, m2, h2, hv2⟩ := bind_ok hv1'
  obtain ⟨w, m3, h3, hv3⟩ := bind_ok h2
  obtain ⟨ws', m4, h4, hv4⟩ := bind_ok hv3
  obtain ⟨rfl, rfl⟩ := pure_ok h4
  obtain ⟨rfl, rfl⟩ := pure_ok hv4
  obtain ⟨n, xs, i, j, rfl, e1, hx, hi, hj, hw, rfl⟩ := m_pop1 hv2
  cases e1
  refine go_m1 G PySem.F.slot_list_pop PySem.F.type_list_pop mt_popAt hcall hline hs ha hb I st rp h1 h3 hx1 fun U W H' φ' e' r' vu vw => ?_
  obtain ⟨p, vs, rfl, hp, t, rr⟩ := r'.ref_lst vu hx
  obtain ⟨V', g1, g2⟩ := rr.get hw
  obtain ⟨r2, e2⟩ := r'.updL hp t (rr.eraseIdx j)
  obtain ⟨s1, s2, s3, s4⟩ := ixN_seq (show ixN xs.length i = some j from hj)
  have hi' : i.natAbs < 2 ^ 62 := of_decide_eq_true hi
  rw [show W = L2.V.int i from vw]
  exact ⟨p, vs, i, j, V', rfl, rfl, t, by omega, by omega, by rw [rr.len]; exact s1, g1, q _ _ _ (e'.trans e2) r2 (VR.ext e2 _ _ g2)⟩
theorem s_pop (G : Good Y Z k c X) {apos cpos : Pos} (hcall : isCall a = false) (hline : (apos.endLine == cpos.line) = true) (ha : PE X a (tE Y Z x)) :
    PE X (.Call (.Attribute a "pop" apos) [] [] cpos) (tE Y Z (.mth .pop x .nil)) := by
  refine PE.imp (pe_bm0 PySem.F.plainAttrs_list PySem.F.slot_list_pop PySem.F.type_list_pop mt_pop ha (base_of hcall) hline) fun σ H Q h => ?_
  obtain ⟨ρ, μ, φ, st, rp, v, μ', hv, q⟩ := h
  obtain ⟨u, m1, h1, hv1⟩ := bind_ok hv
  obtain ⟨_, m1', hk, hv1'⟩ := bind_ok hv1
  obtain ⟨rfl, hx1⟩ := kind_lst (.inr (.inr (.inl rfl))) hk
  obtain ⟨ws, m2, h2, hv2⟩ := bind_ok hv1'
  obtain ⟨rfl, rfl⟩ := pure_ok h2
  obtain ⟨n, xs, rfl, _, hx, hw, rfl⟩ := m_pop hv2
  refine tE_mk st rp h1 fun U H1 φ1 e1 r1 v1 => ?_
  obtain ⟨p, vs, rfl, hp, t, rr⟩ := r1.ref_lst v1 hx
  obtain ⟨r2, e2⟩ := r1.updL hp t rr.dropLast
  have hw' : xs[xs.length - 1]? = some v := by rw [← List.getLast?_eq_getElem?]; exact hw
  obtain ⟨V', g1, g2⟩ := rr.get hw'
  exact ⟨.inl ⟨rfl, _, .of t⟩, p, vs, V', rfl, rfl, t, by rw [rr.len]; exact g1, q _ _ _ (e1.trans e2) r2 (VR.ext e2 _ _ g2)⟩

/-! ### list(range), keywords -/
theorem rangeL_eq : ∀ (n : Nat) (lo : Int), rangeL lo n = (List.range n).map fun i => Val.int (lo + (i : Nat))
  | 0, _ => rfl
  | n + 1, lo => by
    rw [rangeL, rangeL_eq n, List.range_succ_eq_map, List.map_cons, List.map_map]
    refine congr (congrArg _ (by simp)) (List.map_congr_left fun i _ => ?_)
    simp only [Function.comp]
    congr 1
    omega
theorem VRs_ints {φ : List Addr} {H : Hp} : ∀ (l : List Nat) (f : Nat → Int), VRs Z φ H (l.map fun i => Val.int (f i)) (l.map fun i => V.int (f i))
  | [], _ => rfl
  | i :: l, f => ⟨_, _, rfl, rfl, VRs_ints l f⟩
theorem s_lrange (G : Good Y Z k c X) {f g : Str} {p p2 pos2 : Pos} (hf : isBt c f "list" = true) (hg : isBt c g "range" = true) (hs : isStar a = false) (ha : PE X a (tE Y Z x)) :
    PE X (.Call (.Name f p) [.Call (.Name g p2) [a] [] pos2] [] pos) (tE Y Z (.lrange (.int 0) x)) := by
  obtain ⟨rfl, g1, m1⟩ := isBt_of G hf
  obtain ⟨rfl, g2, m2⟩ := isBt_of G hg
  refine PE.imp (pe_listRg G.calm g1 m1 (prg_1 g2 m2 ha (star_cons hs))) fun σ H Q h => ?_
  obtain ⟨ρ, μ, φ, st, rp, v, μ', hv, q⟩ := h
  obtain ⟨u, n1, h1, hv1⟩ := bind_ok hv
  obtain ⟨rfl, rfl⟩ := pure_ok h1
  obtain ⟨w, n2, h2, hv2⟩ := bind_ok hv1
  cases w <;> first | (cases hv2; done) | skip
  rename_i j
  obtain ⟨hb, hv3⟩ := must_ok hv2
  obtain ⟨hz, rfl, rfl⟩ := newLst_ok hv3
  refine tE_mk st rp h2 fun U H1 φ1 e1 r1 v1 => ⟨j, v1, ?_, fun p' hp => ?_⟩
  · have b2 : j.natAbs < 2 ^ 62 := of_decide_eq_true hb.2
    rw [rangeL_eq, List.length_map, List.length_range] at hz
    have : (sizeLine : Nat) = 2 ^ 24 := by decide
    exact ⟨by omega, by omega, by omega, by omega, by omega⟩
  · refine r1.newL hp ?_ (q.ext e1)
    rw [rangeL_eq]
    exact VRs_ints _ _
end
end Ev
end

section
set_option maxRecDepth 100000
set_option maxHeartbeats 1000000
/-! Sn6: what loops walk, targets. -/
namespace Ev
open PySem L2

/-- the iterator J walks the things of w, wherever they are as they were -/
structure JR (Z : Wh) (w : Walk) (J : L2.It) (φ0 : List Addr) (H0 : Hp) : Prop where
  go : ∀ φ μ H, Ex0 Z.K φ0 H0 φ H → Rep Z φ μ H → guardOk μ w.2 = true → ∀ i x, w.1[i]? = some x → J.go i H ∧ ∀ V H', J.yld i H V H' → Ext Z.K φ H φ H' ∧ Rep Z φ μ H' ∧ VR Z φ H' x V
  stop : ∀ φ μ H, Ex0 Z.K φ0 H0 φ H → Rep Z φ μ H → guardOk μ w.2 = true → J.stop w.1.length H
section
variable (Y : Sys) (Z : Wh)
def tI (it : Ev.It) : TI := fun σ H R => ∃ ρ μ φ, StR Z φ H ρ σ ∧ Rep Z φ μ H ∧ ∃ w μ', evIt Y it ρ μ = .ok w μ' ∧ ∀ J H' φ', Ext Z.K φ H φ' H' → Rep Z φ' μ' H' → JR Z w J φ' H' → R J H'
end
section
variable {Y : Sys} {Z : Wh} {φ : List Addr} {H : Hp} {ρ : Env} {σ : L2.St} {μ μ1 μ2 μ3 : Store}
theorem guard1 {n : Nat} {o : Ev.Obj} (h : guardOk μ [(n, o)] = true) : μ[n]? = some o := by
  simpa [guardOk] using h
theorem guard_app {g g' : List (Nat × Ev.Obj)} (h : guardOk μ (g ++ g') = true) : guardOk μ g = true ∧ guardOk μ g' = true := by
  unfold guardOk at h ⊢
  rw [List.all_append, Bool.and_eq_true] at h
  exact h
theorem jr_list {xs : List Val} {n : Nat} {p : Addr} (hp : φ[n]? = some p) : JR Z (xs, [(n, .lst xs)]) (Itl Z.K p) φ H where
  go := fun φ1 μ1 H1 e r g i x hx => by
    obtain ⟨vs, h1, h2⟩ := r.lst (guard1 g) (pre_get e.pre hp)
    obtain ⟨V, h3, h4⟩ := h2.get hx
    refine ⟨⟨vs, V, .of h1, h3⟩, fun V' H' y => ?_⟩
    obtain ⟨rfl, y⟩ := y
    have := y vs (.of h1)
    rw [h3] at this
    cases this
    exact ⟨.refl, r, h4⟩
  stop := fun φ1 μ1 H1 e r g => by
    obtain ⟨vs, h1, h2⟩ := r.lst (guard1 g) (pre_get e.pre hp)
    exact ⟨vs, .of h1, by rw [h2.len]; exact Nat.le_refl _⟩
theorem jr_tup {xs : List Val} {vs : List L2.V} {p : Addr} (h1 : H p = some (.tup vs)) (h2 : VRs Z φ H xs vs) : JR Z (xs, []) (Itt Z.K p) φ H where
  go := fun φ1 μ1 H1 e r g i x hx => by
    obtain ⟨V, h3, h4⟩ := (VRs.ext0 e _ _ h2).get hx
    refine ⟨⟨vs, V, SqT.of (e.tup.t _ _ h1), h3⟩, fun V' H' y => ?_⟩
    obtain ⟨rfl, y⟩ := y
    have := y vs (SqT.of (e.tup.t _ _ h1))
    rw [h3] at this
    cases this
    exact ⟨.refl, r, h4⟩
  stop := fun φ1 μ1 H1 e r g => ⟨vs, SqT.of (e.tup.t _ _ h1), by rw [h2.len]; exact Nat.le_refl _⟩
theorem rangeL_len : ∀ (n : Nat) (lo : Int), (rangeL lo n).length = n
  | 0, _ => rfl
  | n + 1, lo => by rw [rangeL, List.length_cons, rangeL_len n]
theorem rangeL_get : ∀ (n : Nat) (lo : Int) (i : Nat) (x : Val), (rangeL lo n)[i]? = some x → i < n ∧ x = .int (lo + i)
  | 0, _, i, x, h => by simp [rangeL] at h
  | n + 1, lo, 0, x, h => by
    rw [rangeL] at h
    simp at h
    exact ⟨Nat.succ_pos _, by rw [← h]; simp⟩
  | n + 1, lo, i + 1, x, h => by
    rw [rangeL] at h
    obtain ⟨h1, h2⟩ := rangeL_get n (lo + 1) i x (by simpa using h)
    exact ⟨by omega, by rw [h2]; congr 1; omega⟩
theorem jr_range {lo : Int} {n : Nat} : JR Z (rangeL lo n, []) (Itr lo n) φ H where
  go := fun φ1 μ1 H1 e r g i x hx => by
    obtain ⟨h1, h2⟩ := rangeL_get n lo i x hx
    refine ⟨h1, fun V' H' y => ?_⟩
    obtain ⟨rfl, rfl⟩ := y
    exact ⟨.refl, r, by rw [h2]; rfl⟩
  stop := fun φ1 μ1 H1 e r g => by
    show n ≤ _
    rw [rangeL_len]; exact Nat.le_refl _
theorem enumL_len : ∀ (xs : List Val) (k : Nat), (enumL k xs).length = xs.length
  | [], _ => rfl
  | x :: xs, k => by rw [enumL, List.length_cons, enumL_len xs, List.length_cons]
theorem enumL_get : ∀ (xs : List Val) (k i : Nat) (x : Val), (enumL k xs)[i]? = some x → ∃ y, xs[i]? = some y ∧ x = .tup [.int ((k + i : Nat) : Int), y]
  | [], _, i, x, h => by simp [enumL] at h
  | y :: xs, k, 0, x, h => by
    rw [enumL] at h
    simp at h
    exact ⟨y, by simp, by rw [← h]; simp⟩
  | y :: xs, k, i + 1, x, h => by
    rw [enumL] at h
    obtain ⟨z, h1, h2⟩ := enumL_get xs (k + 1) i x (by simpa using h)
    exact ⟨z, by simpa using h1, by rw [h2, show k + 1 + i = k + (i + 1) by omega]⟩
/-- a pair just made -/
theorem pair_new {p : Addr} {x y : Val} {U W : L2.V} (hp : H p = none) (r : Rep Z φ μ H) (hx : VR Z φ H x U) (hy : VR Z φ H y W) :
    Ext Z.K φ H φ (L2.upd H p (.tup [U, W])) ∧ Rep Z φ μ (L2.upd H p (.tup [U, W])) ∧ VR Z φ (L2.upd H p (.tup [U, W])) (.tup [x, y]) (.ref p) :=
  ⟨.new hp, r.new hp, p, [U, W], rfl, upd_same, U, [W], rfl, VR.ext (.new hp) _ _ hx, W, [], rfl, VR.ext (.new hp) _ _ hy, rfl⟩
theorem jr_enum {xs : List Val} {n : Nat} {p : Addr} (hp : φ[n]? = some p) : JR Z (enumL 0 xs, [(n, .lst xs)]) (Ite Z.K p) φ H where
  go := fun φ1 μ1 H1 e r g i x hx => by
    obtain ⟨vs, h1, h2⟩ := r.lst (guard1 g) (pre_get e.pre hp)
    obtain ⟨y, hy, rfl⟩ := enumL_get xs 0 i x hx
    obtain ⟨V, h3, h4⟩ := h2.get hy
    refine ⟨⟨vs, V, .of h1, h3⟩, fun V' H' y => ?_⟩
    obtain ⟨T, x', rfl, hT, rfl, y⟩ := y
    have := y vs (.of h1)
    rw [h3] at this
    cases this
    refine pair_new hT r ?_ h4
    rw [Nat.zero_add]; rfl
  stop := fun φ1 μ1 H1 e r g => by
    obtain ⟨vs, h1, h2⟩ := r.lst (guard1 g) (pre_get e.pre hp)
    exact ⟨vs, .of h1, by rw [h2.len]; exact Nat.le_of_eq (enumL_len xs 0).symm⟩
theorem zipL_get : ∀ (xs ys : List Val) (i : Nat) (x : Val), (zipL xs ys)[i]? = some x → ∃ y z, xs[i]? = some y ∧ ys[i]? = some z ∧ x = .tup [y, z]
  | [], _, i, x, h => by simp [zipL] at h
  | _ :: _, [], i, x, h => by simp [zipL] at h
  | y :: xs, z :: ys, 0, x, h => by
    rw [zipL] at h
    simp at h
    exact ⟨y, z, by simp, by simp, h.symm⟩
  | y :: xs, z :: ys, i + 1, x, h => by
    rw [zipL] at h
    obtain ⟨y', z', h1, h2, h3⟩ := zipL_get xs ys i x (by simpa using h)
    exact ⟨y', z', by simpa using h1, by simpa using h2, h3⟩
theorem zipL_len : ∀ (xs ys : List Val), (zipL xs ys).length = min xs.length ys.length
  | [], _ => by simp [zipL]
  | _ :: _, [] => by simp [zipL]
  | y :: xs, z :: ys => by rw [zipL, List.length_cons, zipL_len xs ys, List.length_cons, List.length_cons]; omega
theorem jr_zipL {xs ys : List Val} {n m : Nat} {p q : Addr} (hp : φ[n]? = some p) (hq : φ[m]? = some q) : JR Z (zipL xs ys, [(n, .lst xs)] ++ [(m, .lst ys)]) (Itz Z.K p q) φ H where
  go := fun φ1 μ1 H1 e r g i x hx => by
    obtain ⟨vs, h1, h2⟩ := r.lst (guard1 (guard_app g).1) (pre_get e.pre hp)
    obtain ⟨us, k1, k2⟩ := r.lst (guard1 (guard_app g).2) (pre_get e.pre hq)
    obtain ⟨y, z, hy, hz, rfl⟩ := zipL_get xs ys i x hx
    obtain ⟨V, h3, h4⟩ := h2.get hy
    obtain ⟨U, k3, k4⟩ := k2.get hz
    refine ⟨⟨vs, us, V, U, .of h1, .of k1, h3, k3⟩, fun V' H' y => ?_⟩
    obtain ⟨T, x', y', rfl, hT, rfl, y1, y2⟩ := y
    have e1 := y1 vs (.of h1)
    have e2 := y2 us (.of k1)
    rw [h3] at e1
    rw [k3] at e2
    cases e1; cases e2
    exact pair_new hT r h4 k4
  stop := fun φ1 μ1 H1 e r g => by
    obtain ⟨vs, h1, h2⟩ := r.lst (guard1 (guard_app g).1) (pre_get e.pre hp)
    obtain ⟨us, k1, k2⟩ := r.lst (guard1 (guard_app g).2) (pre_get e.pre hq)
    refine ⟨vs, us, .of h1, .of k1, ?_⟩
    rw [h2.len, k2.len]
    show xs.length ≤ (zipL xs ys).length ∨ _ ≤ (zipL xs ys).length
    rw [zipL_len]; omega
theorem jr_zipT {xs ys : List Val} {vs us : List L2.V} {p q : Addr} (h1 : H p = some (.tup vs)) (h2 : VRs Z φ H xs vs) (k1 : H q = some (.tup us)) (k2 : VRs Z φ H ys us) : JR Z (zipL xs ys, [] ++ []) (RZ.ItzT Z.K p q) φ H where
  go := fun φ1 μ1 H1 e r g i x hx => by
    obtain ⟨y, z, hy, hz, rfl⟩ := zipL_get xs ys i x hx
    obtain ⟨V, h3, h4⟩ := (VRs.ext0 e _ _ h2).get hy
    obtain ⟨U, k3, k4⟩ := (VRs.ext0 e _ _ k2).get hz
    refine ⟨⟨vs, us, V, U, SqT.of (e.tup.t _ _ h1), SqT.of (e.tup.t _ _ k1), h3, k3⟩, fun V' H' y => ?_⟩
    obtain ⟨T, x', y', rfl, hT, rfl, y1, y2⟩ := y
    have e1 := y1 vs (SqT.of (e.tup.t _ _ h1))
    have e2 := y2 us (SqT.of (e.tup.t _ _ k1))
    rw [h3] at e1
    rw [k3] at e2
    cases e1; cases e2
    exact pair_new hT r h4 k4
  stop := fun φ1 μ1 H1 e r g => by
    refine ⟨vs, us, SqT.of (e.tup.t _ _ h1), SqT.of (e.tup.t _ _ k1), ?_⟩
    rw [h2.len, k2.len]
    show xs.length ≤ (zipL xs ys).length ∨ _ ≤ (zipL xs ys).length
    rw [zipL_len]; omega
/-- what a walk of a value is -/
theorem seqW_inv {v : Val} {w : Walk} {V : L2.V} (r : Rep Z φ μ H) (h : VR Z φ H v V) (e : seqW μ v = some w) :
    (∃ p vs, V = .ref p ∧ isTup v = true ∧ H p = some (.tup vs) ∧ VRs Z φ H w.1 vs ∧ w.2 = []) ∨ ∃ n p vs, V = .ref p ∧ isTup v = false ∧ φ[n]? = some p ∧ H p = some (.lst vs) ∧ w.2 = [(n, .lst w.1)] := by
  cases v <;> first | (cases e; done) | skip
  · cases e
    obtain ⟨p, vs, rfl, h1, h2⟩ := h
    exact .inl ⟨p, vs, rfl, rfl, h1, h2, rfl⟩
  · rename_i n
    simp only [seqW] at e
    split at e
    · rename_i xs hx
      cases e
      obtain ⟨p, vs, rfl, hp, h1, h2⟩ := r.ref_lst h hx
      exact .inr ⟨n, p, vs, rfl, rfl, hp, h1, rfl⟩
    · cases e
theorem lstW_inv {v : Val} {w : Walk} {V : L2.V} (r : Rep Z φ μ H) (h : VR Z φ H v V) (e : lstW μ v = some w) : ∃ n p vs, V = .ref p ∧ φ[n]? = some p ∧ H p = some (.lst vs) ∧ w.2 = [(n, .lst w.1)] := by
  cases v <;> first | (cases e; done) | skip
  rename_i n
  simp only [lstW] at e
  split at e
  · rename_i xs hx
    cases e
    obtain ⟨p, vs, rfl, hp, h1, h2⟩ := r.ref_lst h hx
    exact ⟨n, p, vs, rfl, hp, h1, rfl⟩
  · cases e
end

section
variable {Y : Sys} {Z : Wh} {k : Nat} {c : CC} {X : Cx} {a b d e tg : Expr} {x y z : E} {pos : Pos}
theorem PI.imp {t u : TI} (h : PI X tg e t) (f : ∀ σ H R, u σ H R → t σ H R) : PI X tg e u := ⟨fun pins s σ H R I q => h.run pins s σ H R I (f σ H R q)⟩
theorem s_seq (G : Good Y Z k c X) (ha : PE X a (tE Y Z x)) : PI X tg a (tI Y Z (.seq x)) := by
  refine ⟨fun pins s σ H R I h => ?_⟩
  obtain ⟨ρ, μ, φ, st, rp, w, μ', hw, q⟩ := h
  obtain ⟨v, m1, h1, hw1⟩ := bind_ok hw
  obtain ⟨hw2, rfl⟩ := ofO_ok hw1
  obtain ⟨w1, w2⟩ := w
  cases v <;> first | (cases hw2; done) | skip
  · rename_i xs
    cases hw2
    refine (pi_tup ha).run pins s σ H R I (tE_mk st rp h1 fun U H1 φ1 e1 r1 v1 => ?_)
    obtain ⟨p, vs, rfl, t1, t2⟩ := v1
    rw [G.K]
    exact ⟨p, rfl, ⟨vs, .of t1⟩, q _ _ _ e1 r1 (jr_tup t1 t2)⟩
  · rename_i n
    simp only [seqW] at hw2
    split at hw2
    · rename_i xs hx
      cases hw2
      refine (pi_list ha).run pins s σ H R I (tE_mk st rp h1 fun U H1 φ1 e1 r1 v1 => ?_)
      obtain ⟨p, vs, rfl, hp, t1, t2⟩ := r1.ref_lst v1 hx
      rw [G.K]
      exact ⟨p, rfl, ⟨vs, .of t1⟩, q _ _ _ e1 r1 (jr_list hp)⟩
    · cases hw2
theorem small_bd {i : Int} (h : small i = true) : -(2 ^ 62) ≤ i ∧ i < 2 ^ 62 := by
  have : i.natAbs < 2 ^ 62 := of_decide_eq_true h
  omega
theorem s_range1 (G : Good Y Z k c X) {f : Str} {p : Pos} (hf : isBt c f "range" = true) (hs : isStar a = false) (ha : PE X a (tE Y Z x)) : PI X tg (.Call (.Name f p) [a] [] pos) (tI Y Z (.range (.int 0) x)) := by
  obtain ⟨rfl, hg, hm⟩ := isBt_of G hf
  refine PI.imp (pi_range1 hg hm (pa_cons ha pa_nil (star_cons hs)) (star_cons hs)) fun σ H R h => ?_
  obtain ⟨ρ, μ, φ, st, rp, w, μ', hw, q⟩ := h
  obtain ⟨u, m1, h1, hw1⟩ := bind_ok hw
  obtain ⟨rfl, rfl⟩ := pure_ok h1
  obtain ⟨v, m2, h2, hw2⟩ := bind_ok hw1
  cases v <;> first | (cases hw2; done) | skip
  rename_i j
  obtain ⟨hb, hw3⟩ := must_ok hw2
  obtain ⟨rfl, rfl⟩ := pure_ok hw3
  have b2 := small_bd hb.2
  refine tE_mk st rp h2 fun U H1 φ1 e1 r1 v1 => ⟨j, ?_, b2.1, b2.2, q _ _ _ e1 r1 ?_⟩
  · rw [show U = L2.V.int j from v1]
  · rw [show (j - 0).toNat = j.toNat by simp]; exact jr_range
theorem s_range2 (G : Good Y Z k c X) {f : Str} {p : Pos} (hf : isBt c f "range" = true) (hs : isStar a = false) (hs2 : isStar b = false) (ha : PE X a (tE Y Z x)) (hb : PE X b (tE Y Z y)) : PI X tg (.Call (.Name f p) [a, b] [] pos) (tI Y Z (.range x y)) := by
  obtain ⟨rfl, hg, hm⟩ := isBt_of G hf
  refine PI.imp (pi_range2 hg hm (pa_cons ha (pa_cons hb pa_nil (star_cons hs2)) (star_cons hs)) (by rw [star_cons hs, star_cons hs2]; rfl) (star_cons hs2)) fun σ H R h => ?_
  obtain ⟨ρ, μ, φ, st, rp, w, μ', hw, q⟩ := h
  obtain ⟨u, m1, h1, hw1⟩ := bind_ok hw
  obtain ⟨v, m2, h2, hw2⟩ := bind_ok hw1
  cases u <;> first | (cases hw2; done) | skip
  cases v <;> first | (cases hw2; done) | skip
  rename_i i j
  obtain ⟨hb, hw3⟩ := must_ok hw2
  obtain ⟨rfl, rfl⟩ := pure_ok hw3
  have b1 := small_bd hb.1
  have b2 := small_bd hb.2
  refine tE_mk st rp h1 fun U H1 φ1 e1 r1 v1 => tE_mk (st.ext e1) r1 h2 fun W H2 φ2 e2 r2 v2 => ⟨i, j, ?_, ⟨b1.1, b1.2, b2.1, b2.2⟩, q _ _ _ (e1.trans e2) r2 jr_range⟩
  rw [show U = L2.V.int i from v1, show W = L2.V.int j from v2]
theorem s_enum (G : Good Y Z k c X) {f : Str} {p : Pos} (ht : isTupE tg = true) (hf : isBt c f "enumerate" = true) (hs : isStar a = false) (ha : PE X a (tE Y Z x)) : PI X tg (.Call (.Name f p) [a] [] pos) (tI Y Z (.enum x)) := by
  obtain ⟨rfl, hg, hm⟩ := isBt_of G hf
  cases tg <;> first | (simp [isTupE] at ht; done) | skip
  refine PI.imp (pi_enum hg hm (pa_cons ha pa_nil (star_cons hs)) (star_cons hs)) fun σ H R h => ?_
  obtain ⟨ρ, μ, φ, st, rp, w, μ', hw, q⟩ := h
  obtain ⟨u, m1, h1, hw1⟩ := bind_ok hw
  obtain ⟨hw2, rfl⟩ := ofO_ok hw1
  cases hl : lstW m1 u with
  | none => rw [hl] at hw2; cases hw2
  | some w0 =>
    rw [hl] at hw2
    cases hw2
    refine tE_mk st rp h1 fun U H1 φ1 e1 r1 v1 => ?_
    obtain ⟨n, p, vs, rfl, hp, t1, t2⟩ := lstW_inv r1 v1 hl
    rw [G.K]
    refine ⟨p, vs, rfl, .of t1, q _ _ _ e1 r1 ?_⟩
    show JR Z (enumL 0 w0.1, w0.2) _ _ _
    rw [t2]
    exact jr_enum hp
theorem s_zip (G : Good Y Z k c X) {f : Str} {p : Pos} (ht : isTupE tg = true) (hf : isBt c f "zip" = true) (hs : isStar a = false) (hs2 : isStar b = false) (ha : PE X a (tE Y Z x)) (hb : PE X b (tE Y Z y)) : PI X tg (.Call (.Name f p) [a, b] [] pos) (tI Y Z (.zip x y)) := by
  obtain ⟨rfl, hg, hm⟩ := isBt_of G hf
  cases tg <;> first | (simp [isTupE] at ht; done) | skip
  refine PI.imp (RZ.pi_zipA hg hm (pa_cons ha (pa_cons hb pa_nil (star_cons hs2)) (star_cons hs)) (star_cons hs) (by rw [star_cons hs2]; rfl)) fun σ H R h => ?_
  obtain ⟨ρ, μ, φ, st, rp, w, μ', hw, q⟩ := h
  obtain ⟨u, m1, h1, hw1⟩ := bind_ok hw
  obtain ⟨v, m2, h2, hw2⟩ := bind_ok hw1
  split at hw2
  · rename_i w1 w2 g1 g2
    split at hw2
    · rename_i ht
      cases hw2
      refine tE_mk st rp h1 fun U H1 φ1 e1 r1 v1 => tE_mk (st.ext e1) r1 h2 fun W H2 φ2 e2 r2 v2 => ?_
      rw [G.K]
      have ht' : isTup u = isTup v := by simpa using ht
      rcases seqW_inv r2 (VR.ext e2 _ _ v1) g1 with ⟨p, vs, rfl, i1, t1, t2, t3⟩ | ⟨n, p, vs, rfl, i1, hp, t1, t2⟩
      · rcases seqW_inv r2 v2 g2 with ⟨p', vs', rfl, i2, t1', t2', t3'⟩ | ⟨n', p', vs', rfl, i2, hp', t1', t2'⟩
        · refine ⟨p, p', vs, vs', rfl, .inr ⟨.of t1, .of t1', q _ _ _ (e1.trans e2) r2 ?_⟩⟩
          rw [t3, t3']
          exact jr_zipT t1 t2 t1' t2'
        · rw [i1, i2] at ht'; cases ht'
      · rcases seqW_inv r2 v2 g2 with ⟨p', vs', rfl, i2, t1', t2', t3'⟩ | ⟨n', p', vs', rfl, i2, hp', t1', t2'⟩
        · rw [i1, i2] at ht'; cases ht'
        · refine ⟨p, p', vs, vs', rfl, .inl ⟨.of t1, .of t1', q _ _ _ (e1.trans e2) r2 ?_⟩⟩
          rw [t2, t2']
          exact jr_zipL hp hp'
    · cases hw2
  · cases hw2
theorem fold_of {env : PySem.Env} (h : isSetE e = false) (v : Value) : foldedSetIterable e env v = pure v := by
  cases e <;> first | rfl | (simp [isSetE] at h)
/-- what a for or a comprehension walks -/
theorem s_it (G : Good Y Z k c X) {r : CC → Expr → Option E} {it : Ev.It} (hr : ∀ e x, r c e = some x → PE X e (tE Y Z x)) (h : cIt r c (isTupE tg) e = some it) : PI X tg e (tI Y Z it) ∧ isSetE e = false := by
  unfold cIt at h
  split at h
  · rename_i f p a pos
    refine ⟨?_, rfl⟩
    split at h
    · rename_i hf
      split at h
      · cases h
      · rename_i hs
        cases hx : r c a with
        | none => rw [hx] at h; cases h
        | some x =>
          rw [hx] at h; cases h
          exact s_range1 G hf (by simpa using hs) (hr a x hx)
    · split at h
      · rename_i hf
        split at h
        · cases h
        · rename_i hs
          simp only [Bool.or_eq_true, not_or, Bool.not_eq_true, Bool.not_eq_false] at hs
          cases hx : r c a with
          | none => rw [hx] at h; cases h
          | some x =>
            rw [hx] at h; cases h
            exact s_enum G (by simpa using hs.2) hf hs.1 (hr a x hx)
      · cases hx : r c (.Call (.Name f p) [a] [] pos) with
        | none => rw [hx] at h; cases h
        | some x =>
          rw [hx] at h; cases h
          exact s_seq G (hr _ x hx)
  · rename_i f p a b pos
    refine ⟨?_, rfl⟩
    split at h
    · rename_i hf
      split at h
      · cases h
      · rename_i hs
        simp only [Bool.or_eq_true, not_or, Bool.not_eq_true] at hs
        split at h
        · rename_i x y hx hy
          cases h
          exact s_range2 G hf hs.1 hs.2 (hr a x hx) (hr b y hy)
        · cases h
    · split at h
      · rename_i hf
        split at h
        · cases h
        · rename_i hs
          simp only [Bool.or_eq_true, not_or, Bool.not_eq_true, Bool.not_eq_false] at hs
          split at h
          · rename_i x y hx hy
            cases h
            exact s_zip G (by simpa using hs.2) hf hs.1.1 hs.1.2 (hr a x hx) (hr b y hy)
          · cases h
      · cases hx : r c (.Call (.Name f p) [a, b] [] pos) with
        | none => rw [hx] at h; cases h
        | some x =>
          rw [hx] at h; cases h
          exact s_seq G (hr _ x hx)
  · split at h
    · cases h
    · rename_i hs
      cases hx : r c e with
      | none => rw [hx] at h; cases h
      | some x =>
        rw [hx] at h; cases h
        exact ⟨s_seq G (hr _ x hx), by simpa using hs⟩
end
end Ev
end

section
set_option maxRecDepth 100000
set_option maxHeartbeats 1000000
/-! Sn7: targets, comprehensions. -/
namespace Ev
open PySem L2

/-! ### forgotten slots -/
theorem wipe_get {σ : L2.St} {i : Nat} : ∀ {vs : List Nat}, (wipe σ vs)[i]? = if i ∈ vs then (σ[i]?).map (fun _ => none) else σ[i]?
  | [] => by simp [wipe]
  | v :: vs => by
    unfold wipe
    rw [List.getElem?_set]
    by_cases h : v = i
    · subst h
      rw [if_pos rfl, wipe_length, if_pos List.mem_cons_self]
      by_cases hl : v < σ.length
      · rw [if_pos hl, List.getElem?_eq_getElem hl]; rfl
      · rw [if_neg hl, List.getElem?_eq_none (by omega)]; rfl
    · rw [if_neg h, wipe_get (vs := vs)]
      by_cases hm : i ∈ vs
      · rw [if_pos hm, if_pos (List.mem_cons_of_mem _ hm)]
      · rw [if_neg hm, if_neg (by simp only [List.mem_cons, not_or]; exact ⟨fun e => h e.symm, hm⟩)]
theorem wipe_wipe {σ : L2.St} {vs : List Nat} : wipe (wipe σ vs) vs = wipe σ vs := by
  apply List.ext_getElem?
  intro i
  rw [wipe_get, wipe_get]
  split
  · cases σ[i]? <;> rfl
  · rfl
theorem wipe_set_mem {σ : L2.St} {vs : List Nat} {i : Nat} {v : Option V} (h : i ∈ vs) : wipe (σ.set i v) vs = wipe σ vs := by
  apply List.ext_getElem?
  intro j
  rw [wipe_get, wipe_get]
  split
  · by_cases hj : i = j
    · subst hj
      rw [List.getElem?_set, if_pos rfl]
      by_cases hl : i < σ.length
      · rw [if_pos hl, List.getElem?_eq_getElem hl]; rfl
      · rw [if_neg hl, List.getElem?_eq_none (by omega)]
    · rw [List.getElem?_set_ne hj]
  · rename_i hn
    rw [List.getElem?_set_ne (fun e => hn (by rw [← e]; exact h))]
theorem wipeE_length (ρ : Env) : ∀ vs : List Nat, (wipeE ρ vs).length = ρ.length
  | [] => rfl
  | v :: vs => by unfold wipeE; rw [List.length_set, wipeE_length ρ vs]
theorem wipeE_some {ρ : Env} {i : Nat} {x : Val} : ∀ {vs : List Nat}, (wipeE ρ vs)[i]? = some (some x) → ρ[i]? = some (some x) ∧ i ∉ vs
  | [], h => ⟨h, by simp⟩
  | v :: vs, h => by
    unfold wipeE at h
    by_cases hi : v = i
    · subst hi
      rw [List.getElem?_set, if_pos rfl] at h
      split at h <;> cases h
    · rw [List.getElem?_set_ne hi] at h
      obtain ⟨h1, h2⟩ := wipeE_some h
      exact ⟨h1, by simp only [List.mem_cons, not_or]; exact ⟨fun e => hi e.symm, h2⟩⟩
theorem StR.wipe {Z : Wh} {φ : List Addr} {H : Hp} {ρ : Env} {σ : L2.St} (s : StR Z φ H ρ σ) (vs : List Nat) : StR Z φ H (wipeE ρ vs) (L2.wipe σ vs) := by
  refine ⟨by rw [wipeE_length, wipe_length]; exact s.len, fun i x h => ?_⟩
  obtain ⟨h1, h2⟩ := wipeE_some h
  rw [wipe_out h2]
  exact s.get i x h1

/-! ### targets -/
section
variable (Z : Wh)
def Kg (φ : List Addr) (H : Hp) (σ : L2.St) (t : T) (ρ' : Env) (Q : L2.St → Hp → Prop) : Prop := ∀ σ', StR Z φ H ρ' σ' → (∀ vs, (∀ i ∈ slT t, i ∈ vs) → wipe σ' vs = wipe σ vs) → Q σ' H
def tG (t : T) : TG := fun U σ H Q => ∃ ρ φ v ρ', StR Z φ H ρ σ ∧ VR Z φ H v U ∧ bindT t v ρ = some ρ' ∧ Kg Z φ H σ t ρ' Q
def tGs (t : T) : TGs := fun Us σ H Q => ∃ ρ φ vs ρ', StR Z φ H ρ σ ∧ VRs Z φ H vs Us ∧ bindT t (.tup vs) ρ = some ρ' ∧ Kg Z φ H σ t ρ' Q
end
theorem assign_cons {a : Expr} {es : List Expr} {env : PySem.Env} (h : isStar a = false) : assignEach (a :: es) env = (false, assign a env) :: assignEach es env := by
  cases a <;> first | rfl | (simp [isStar] at h)
section
variable {Y : Sys} {Z : Wh} {k : Nat} {c : CC} {X : Cx} {a b d e tg : Expr} {x y z : E} {pos : Pos}
theorem cTgt_inv {i : Nat} (h : cTgt c e = some i) : ∃ n p, e = .Name n p ∧ okName n = true ∧ slot c.N n = some i ∧ (c.sc.names.lookup n = some .local ∨ c.sc.names.lookup n = some .cell) := by
  unfold cTgt at h
  split at h
  · rename_i n p
    split at h
    · rename_i ok
      split at h
      · rename_i hl
        exact ⟨n, p, rfl, ok, h, .inl hl⟩
      · rename_i hl
        exact ⟨n, p, rfl, ok, h, .inr hl⟩
      · cases h
    · cases h
  · cases h
theorem s_tgt (G : Good Y Z k c X) {i : Nat} (h : cTgt c e = some i) : PG X e (tG Z (.name i)) := by
  obtain ⟨n, p, rfl, ok, hs, hl⟩ := cTgt_inv h
  obtain ⟨h1, h2⟩ := G.sto n hl
  refine ⟨fun pins s σ H v u Q I r h => (pg_name (by rw [G.N]; exact G.nd) (by rw [G.N]; exact slot_get hs) h1 h2).run pins s σ H v u Q I r ?_⟩
  obtain ⟨ρ, φ, w, ρ', st, vr, hb, q⟩ := h
  cases hb
  exact q _ (st.set vr) fun vs hm => wipe_set_mem (hm i (by simp [slT]))
theorem bind_len : ∀ {es : List Expr} {f : Expr → Option T} {t : T} {vs : List Val} {ρ ρ' : Env}, cTgts f es = some t → bindT t (.tup vs) ρ = some ρ' → vs.length = es.length
  | [], f, t, vs, ρ, ρ', h, hb => by
    cases h
    cases vs with
    | nil => rfl
    | cons v vs => cases hb
  | e :: es, f, t, vs, ρ, ρ', h, hb => by
    unfold cTgts at h
    split at h
    · cases h
    · split at h
      · rename_i a b h1 h2
        cases h
        cases vs with
        | nil => cases hb
        | cons v vs =>
          unfold bindT at hb
          split at hb
          · rename_i ρ1 g1
            have := bind_len h2 hb
            simp [this]
          · cases hb
      · cases h
theorem s_tgts {f : Expr → Option T} (hf : ∀ e t, f e = some t → PG X e (tG Z t)) : ∀ {es : List Expr} {t : T}, cTgts f es = some t → PGs X es (tGs Z t)
  | [], t, h => by
    cases h
    refine ⟨fun pins s σ H vs us Q I r h => pgs_nil.run pins s σ H vs us Q I r ?_⟩
    obtain ⟨ρ, φ, ws, ρ', st, vr, hb, q⟩ := h
    cases ws with
    | nil =>
      cases hb
      exact ⟨vr, q _ st fun vs _ => rfl⟩
    | cons w ws => cases hb
  | e :: es, t, h => by
    unfold cTgts at h
    split at h
    · cases h
    · rename_i hs
      split at h
      · rename_i a b h1 h2
        cases h
        refine ⟨fun pins s σ H vs us Q I r h => (pgs_cons (hf e a h1) (s_tgts hf h2) (by rw [assign_cons (by simpa using hs)]; rfl)).run pins s σ H vs us Q I r ?_⟩
        obtain ⟨ρ, φ, ws, ρ', st, vr, hb, q⟩ := h
        cases ws with
        | nil => cases hb
        | cons w ws =>
          obtain ⟨V, rest, rfl, v1, v2⟩ := vr
          unfold bindT at hb
          split at hb
          · rename_i ρ1 g1
            refine ⟨V, rest, rfl, ρ, φ, w, ρ1, st, v1, g1, fun σ1 st1 w1 => ⟨ρ1, φ, ws, ρ', st1, v2, hb, fun σ2 st2 w2 => q σ2 st2 fun vs hm => ?_⟩⟩
            rw [w2 vs fun i hi => hm i (by simp only [slT, List.mem_append]; exact .inr hi), w1 vs fun i hi => hm i (by simp only [slT, List.mem_append]; exact .inl hi)]
          · cases hb
      · cases h
theorem tgts_each {env : PySem.Env} {f : Expr → Option T} : ∀ {es : List Expr} {t : T}, cTgts f es = some t → (assignEach es env).length = es.length ∧ (assignEach es env).findIdx? (·.1) = none
  | [], t, h => ⟨rfl, rfl⟩
  | e :: es, t, h => by
    unfold cTgts at h
    split at h
    · cases h
    · rename_i hs
      split at h
      · rename_i a b h1 h2
        obtain ⟨g1, g2⟩ := tgts_each (env := env) h2
        rw [assign_cons (by simpa using hs)]
        refine ⟨by rw [List.length_cons, g1, List.length_cons], ?_⟩
        rw [List.findIdx?_cons, g2]; rfl
      · cases h
theorem s_T (G : Good Y Z k c X) : ∀ {n : Nat} {e : Expr} {t : T}, cT c n e = some t → PG X e (tG Z t)
  | 0, e, t, h => by
    unfold cT at h
    cases hx : cTgt c e with
    | none => rw [hx] at h; cases h
    | some i => rw [hx] at h; cases h; exact s_tgt G hx
  | n + 1, e, t, h => by
    by_cases ht : isTupE e = true
    · cases e <;> first | (simp [isTupE] at ht; done) | skip
      rename_i es kk p
      have h : cTgts (cT c n) es = some t := h
      refine ⟨fun pins s σ H v u Q I r hq => (pg_tup (n := es.length) G.calm (s_tgts (fun e t he => s_T G he) h) (tgts_each h).1 (tgts_each h).2).run pins s σ H v u Q I r ?_⟩
      obtain ⟨ρ, φ, w, ρ', st, vr, hb, q⟩ := hq
      have : ∃ xs, w = .tup xs := by
        cases t <;> cases w <;> first | exact ⟨_, rfl⟩ | (cases hb; done) | skip
        all_goals (exfalso; cases es <;> first | (cases h; done) | (unfold cTgts at h; split at h <;> first | (cases h; done) | (split at h <;> cases h)))
      obtain ⟨xs, rfl⟩ := this
      obtain ⟨p, us, rfl, h1, h2⟩ := vr
      rw [G.K]
      exact ⟨p, us, rfl, .of h1, by rw [h2.len, bind_len h hb], ρ, φ, xs, ρ', st, h2, hb, q⟩
    · have h' : cT c (n + 1) e = (cTgt c e).map .name := by cases e <;> first | rfl | (simp [isTupE] at ht)
      rw [h'] at h
      cases hx : cTgt c e with
      | none => rw [hx] at h; cases h
      | some i => rw [hx] at h; cases h; exact s_tgt G hx
end
end Ev
end

section
set_option maxRecDepth 100000
set_option maxHeartbeats 1000000
/-! Sn8: blocks, list comprehensions. -/
namespace Ev
open PySem L2

/-! ### a block's context -/
theorem relS_free {sc : Scope} : ∀ {names : List (Str × NameKind)} {x : Str}, names.lookup x = some .free →
    (names.map fun (n, k) => if (k == NameKind.free && sc.kind == .function && sc.names.lookup n == some .cell) then (n, NameKind.cell) else (n, k)).lookup x = some .free ∨
    (names.map fun (n, k) => if (k == NameKind.free && sc.kind == .function && sc.names.lookup n == some .cell) then (n, NameKind.cell) else (n, k)).lookup x = some .cell
  | [], _, h => by simp at h
  | (n, k₀) :: r, x, h => by
    have ih := @relS_free sc r x
    show List.lookup x ((if (k₀ == NameKind.free && sc.kind == .function && sc.names.lookup n == some .cell) = true then (n, NameKind.cell) else (n, k₀)) :: _) = _ ∨ List.lookup x ((if (k₀ == NameKind.free && sc.kind == .function && sc.names.lookup n == some .cell) = true then (n, NameKind.cell) else (n, k₀)) :: _) = _
    cases hx : x == n with
    | true =>
      simp only [List.lookup_cons, hx] at h
      cases h
      by_cases hc : (NameKind.free == NameKind.free && sc.kind == .function && sc.names.lookup n == some .cell) = true
      · rw [if_pos hc]; exact .inr (by simp only [List.lookup_cons, hx])
      · rw [if_neg hc]; exact .inl (by simp only [List.lookup_cons, hx])
    | false =>
      simp only [List.lookup_cons, hx] at h
      by_cases hc : (k₀ == NameKind.free && sc.kind == .function && sc.names.lookup n == some .cell) = true
      · rw [if_pos hc]; simp only [List.lookup_cons, hx]; exact ih h
      · rw [if_neg hc]; simp only [List.lookup_cons, hx]; exact ih h
section
variable {Y : Sys} {Z : Wh} {k : Nat} {c : CC} {X : Cx} {a b d e tg : Expr} {x y z : E} {pos : Pos}
/-- in a block whose names are written relabelled -/
theorem Good.inner (G : Good Y Z k c X) {X' : Cx} {scope : Scope} (hP : X'.prog = X.prog) (hw : X'.w = X.w) (hK : X'.K = X.K) (hN : X'.N = X.N) (hA : X'.A = X.A) (hc : X'.calm = true) (hmg : X'.mg = X.mg) (hb : X'.base = X.base)
    (hco : X'.env.code = X.env.code) (hs : X'.env.scope = relS scope X.env.scope) (hf : ∀ x, scope.names.lookup x = some .cell → X'.fn x = true) : Good Y Z k { c with sc := scope } X' := by
  have kp : ∀ {x : Str} {kk : NameKind}, kk ≠ .free → scope.names.lookup x = some kk → X'.env.scope.names.lookup x = some kk := fun hk h => by rw [hs]; exact lookup_relS_keep hk h
  have fr : ∀ {x : Str}, scope.names.lookup x = some .free → X'.env.scope.names.lookup x = some .free ∨ X'.env.scope.names.lookup x = some .cell := fun h => by rw [hs]; exact relS_free h
  refine ⟨hP.trans G.P, hw.trans G.w, hK.trans G.K, hN.trans G.N, G.nd, hc, by rw [hA]; exact G.room, fun h => by rw [hA]; exact G.room1 h, fun h => by rw [hco, hmg, hb]; exact G.tab h, fun x h => ?_, fun x h => ?_, fun x h => ?_, by rw [hP, hw, hmg, hb]; exact ⟨G.mo.con, G.mo.bt, G.mo.fn⟩, fun x h => ?_⟩
  · unfold isVis at h
    split at h
    · rename_i e; exact .inl (kp (by decide) e)
    · rename_i e; exact .inr (.inl (kp (by decide) e))
    · rename_i e
      rcases fr e with q | q
      · exact .inr (.inr q)
      · exact .inr (.inl q)
    · cases h
  · unfold isGlo at h
    split at h
    · rename_i e; exact kp (by decide) e
    · cases h
  · rcases h with h | h
    · exact ⟨.inl (kp (by decide) h), .inr (kp (by decide) h)⟩
    · exact ⟨.inr (kp (by decide) h), .inl (hf x h)⟩
  · rcases h with h | h
    · exact .inl (kp (by decide) h)
    · exact (fr h).symm
theorem Good.blk (G : Good Y Z k c X) (s : Shared) (H : Hp) (scope : Scope) (C : Addr) (cl : List (Str × Addr)) (fp : List Addr) : Good Y Z k { c with sc := scope } (X.blk s H scope (compEnvC scope cl C X.env) fp) :=
  G.inner rfl rfl rfl rfl rfl G.calm rfl rfl rfl rfl fun x h => by show (scope.names.lookup x == some .cell) = true; rw [h]; rfl
theorem blk_ok (G : Good Y Z k c X) {scope : Scope} {vs : List Nat} (h : blkB c.N c.sc scope vs = true) : BlkOk X.N X.env.scope scope (ownV c.N vs) ∧ (ownV c.N vs).map (·.2) = vs := by
  unfold blkB at h
  simp only [Bool.and_eq_true, decide_eq_true_eq] at h
  have B := blkOk_by h.1
  exact ⟨⟨B.kind, B.uniq, by rw [G.N]; exact B.ix, fun y hy e => G.fre _ (B.free y hy e), by rw [G.N]; exact B.own⟩, h.2⟩
end

/-! ### a clause's loop -/
theorem loopC_nil {t : T} {g : List (Nat × Ev.Obj)} {ρ : Env} {f : Env → M (List Val)} {m m' : Store} {r : List Val} (h : loopC t g ρ f [] m = .ok r m') : guardOk m g = true ∧ r = [] ∧ m' = m := by
  simp only [loopC] at h
  split at h
  · rename_i hg; cases h; exact ⟨hg, rfl, rfl⟩
  · cases h
theorem loopC_cons {t : T} {g : List (Nat × Ev.Obj)} {ρ : Env} {f : Env → M (List Val)} {x : Val} {xs : List Val} {m m' : Store} {r : List Val} (h : loopC t g ρ f (x :: xs) m = .ok r m') :
    guardOk m g = true ∧ ∃ ρ' a m1 b, bindT t x ρ = some ρ' ∧ f ρ' m = .ok a m1 ∧ loopC t g ρ f xs m1 = .ok b m' ∧ r = a ++ b := by
  simp only [loopC] at h
  split at h
  · rename_i hg
    split at h
    · cases h
    · rename_i ρ' hb
      obtain ⟨a, m1, h1, h2⟩ := bind_ok (x := f ρ') h
      obtain ⟨b, m2, h3, h4⟩ := bind_ok (x := loopC t g ρ f xs) h2
      obtain ⟨rfl, rfl⟩ := pure_ok h4
      exact ⟨hg, ρ', a, m1, b, hb, h1, h3, rfl⟩
  · cases h
/-- a new list at D, not yet the store's -/
structure Pc (Z : Wh) (φ1 : List Addr) (H1 : Hp) (D : Addr) (φ : List Addr) (as : List Val) (μ : Store) (H : Hp) : Prop where
  ext : Ext Z.K φ1 H1 φ H
  rep : Rep Z φ μ H
  nm : D ∉ φ
  acc : ∃ acc, H D = some (.lst acc) ∧ VRs Z φ H as acc
section
variable {Y : Sys} {Z : Wh} {φ φ' φ1 φb φ0 : List Addr} {H H' H1 Hb H0 : Hp} {D : Addr} {μ μ' μ0 μ2 : Store} {as : List Val}
theorem Pc.step (p : Pc Z φ1 H1 D φ as μ H) (e : Ext Z.K φ H φ' H') (r : Rep Z φ' μ' H') : Pc Z φ1 H1 D φ' as μ' H' := by
  obtain ⟨acc, h1, h2⟩ := p.acc
  obtain ⟨g1, g2⟩ := e.stay p.nm h1 .lst
  exact ⟨p.ext.trans e, r, g1, acc, g2, VRs.ext e _ _ h2⟩
theorem Pc.push (p : Pc Z φ1 H1 D φ as μ H) (hD : H1 D = none) {v : Val} {V : L2.V} (hv : VR Z φ H v V) {acc : List L2.V} (ha : H D = some (.lst acc)) : Pc Z φ1 H1 D φ (as ++ [v]) μ (upd H D (.lst (acc ++ [V]))) ∧ Ex0 Z.K φ H φ (upd H D (.lst (acc ++ [V]))) := by
  obtain ⟨acc', h1, h2⟩ := p.acc
  rw [ha] at h1; cases h1
  obtain ⟨r, e⟩ := p.rep.hid (o := .lst (acc ++ [V])) p.nm ha .lst
  exact ⟨⟨p.ext.hid hD ha .lst, r, p.nm, _, upd_same, (VRs.ext0 e _ _ h2).append (.single (VR.ext0 e _ _ hv))⟩, e⟩
theorem turns {t : T} {f : Env → M (List Val)} {J : L2.It} {σ0 : L2.St} {ρ0 : Env} {B : L2.St → Hp → (Hp → Prop) → Prop} {w : Walk} {vs : List Nat} {as0 out : List Val} {Qd : Hp → Prop}
    (jr : JR Z w J φb Hb) (st : StR Z φb Hb ρ0 σ0) (hv : ∀ i ∈ slT t, i ∈ vs) (hw : wipe σ0 vs = σ0)
    (hB : ∀ ρ' σ2 φ H μ as a μ3 (Nx : Hp → Prop), StR Z φ H ρ' σ2 → Pc Z φ1 H1 D φ as μ H → f ρ' μ = .ok a μ3 → (as ++ a).length ≤ sizeLine → (∀ φ' H', Pc Z φ1 H1 D φ' (as ++ a) μ3 H' → Ex0 Z.K φ H φ' H' → Nx H') → B σ2 H Nx)
    (p0 : Pc Z φ1 H1 D φ0 as0 μ0 H0) (e0 : Ex0 Z.K φb Hb φ0 H0) (run : loopC t w.2 ρ0 f w.1 μ0 = .ok out μ2) (sz : (as0 ++ out).length ≤ sizeLine) (hQ : ∀ φ H, Pc Z φ1 H1 D φ (as0 ++ out) μ2 H → Ex0 Z.K φb Hb φ H → Qd H) :
    ∃ W : Nat → Nat → Hp → Prop, (∃ m, W 0 m H0) ∧ ∀ i m H, W i m H →
      (J.stop i H ∧ Qd H) ∨ (J.go i H ∧ ∃ Nx : Hp → Prop, (∀ H', Nx H' → ∃ m', m' < m ∧ W (i + 1) m' H') ∧ ∀ x H', J.yld i H x H' → tG Z t x σ0 H' fun σ2 H2 => wipe σ2 vs = σ0 ∧ B σ2 H2 Nx) := by
  refine ⟨fun i m H => m = w.1.length - i ∧ i ≤ w.1.length ∧ ∃ φ μ as rest, Pc Z φ1 H1 D φ as μ H ∧ Ex0 Z.K φb Hb φ H ∧ as ++ rest = as0 ++ out ∧ loopC t w.2 ρ0 f (w.1.drop i) μ = .ok rest μ2, ⟨_, rfl, Nat.zero_le _, φ0, μ0, as0, out, p0, e0, rfl, run⟩, ?_⟩
  rintro i m H ⟨rfl, hi, φ, μ, as, rest, p, e, hr, hl⟩
  by_cases hlt : i < w.1.length
  · obtain ⟨x, hx⟩ : ∃ x, w.1[i]? = some x := ⟨_, List.getElem?_eq_getElem hlt⟩
    have hd : w.1.drop i = x :: w.1.drop (i + 1) := by
      rw [List.drop_eq_getElem_cons hlt]
      congr 1
      rw [List.getElem?_eq_getElem hlt] at hx
      exact Option.some.inj hx
    rw [hd] at hl
    obtain ⟨hg, ρ', a, m1, b, hb, hf, hl', rfl⟩ := loopC_cons hl
    obtain ⟨j1, j2⟩ := jr.go φ μ H e p.rep hg i x hx
    refine .inr ⟨j1, fun H' => ∃ φ', Pc Z φ1 H1 D φ' (as ++ a) m1 H' ∧ Ex0 Z.K φb Hb φ' H', fun H' hN => ?_, fun U H' hy => ?_⟩
    · obtain ⟨φ', p', e'⟩ := hN
      exact ⟨w.1.length - (i + 1), by omega, rfl, hlt, φ', m1, as ++ a, b, p', e', by rw [List.append_assoc]; exact hr, hl'⟩
    · obtain ⟨k1, k2, k3⟩ := j2 U H' hy
      refine ⟨ρ0, φ, x, ρ', ⟨st.len, fun j y hj => ?_⟩, k3, hb, fun σ2 st2 w2 => ?_⟩
      · obtain ⟨V, q1, q2⟩ := st.get j y hj
        exact ⟨V, q1, VR.ext0 (e.trans k1.toEx0) _ _ q2⟩
      · refine ⟨by rw [w2 vs hv, hw], hB ρ' σ2 φ H' μ as a m1 _ st2 (p.step k1 k2) hf ?_ fun φ' H'' p' e' => ⟨φ', p', (e.trans k1.toEx0).trans e'⟩⟩
        have := congrArg List.length hr
        simp only [List.length_append] at this sz ⊢
        omega
  · have hi' : i = w.1.length := by omega
    subst hi'
    rw [List.drop_length] at hl
    obtain ⟨hg, rfl, rfl⟩ := loopC_nil hl
    refine .inl ⟨jr.stop φ _ H e p.rep hg, hQ φ H ?_ e⟩
    rw [List.append_nil] at hr
    rw [← hr]; exact p
end

/-! ### a clause's tests -/
section
variable (Y : Sys) (Z : Wh)
def tIfs (fs : Es) : TT := fun σ H Q => ∃ ρ μ φ, StR Z φ H ρ σ ∧ Rep Z φ μ H ∧ ∃ b μ', evIfs Y fs ρ μ = .ok b μ' ∧ Kb Z φ H μ' b Q
end
section
variable {Y : Sys} {Z : Wh} {k : Nat} {c : CC} {X : Cx} {a b d e tg : Expr} {x y z : E} {pos : Pos}
theorem s_ifs {r : Expr → Option E} {ifs : List Expr} {fs : Es} (hr : ∀ e x, r e = some x → PT X e (tT Y Z x)) (h : cIfs r ifs = some fs) : PTs X ifs (tIfs Y Z fs) := by
  unfold cIfs at h
  split at h
  · cases h
    refine ⟨fun pins s σ H Q I h => pts_nil.run pins s σ H Q I ?_⟩
    obtain ⟨ρ, μ, φ, st, rp, b, μ', hv, q⟩ := h
    obtain ⟨rfl, rfl⟩ := pure_ok hv
    exact q _ _ .refl rp
  · rename_i e
    cases hx : r e with
    | none => rw [hx] at h; cases h
    | some x =>
      rw [hx] at h; cases h
      refine ⟨fun pins s σ H Q I h => (pts_one (hr e x hx)).run pins s σ H Q I ?_⟩
      obtain ⟨ρ, μ, φ, st, rp, b, μ', hv, q⟩ := h
      obtain ⟨b', m1, h1, hv1⟩ := bind_ok hv
      have : b' = b ∧ m1 = μ' := by
        cases b' with
        | true => rw [if_pos rfl] at hv1; obtain ⟨e1, e2⟩ := pure_ok hv1; exact ⟨e1, e2⟩
        | false => rw [if_neg Bool.false_ne_true] at hv1; obtain ⟨e1, e2⟩ := pure_ok hv1; exact ⟨e1, e2⟩
      obtain ⟨rfl, rfl⟩ := this
      exact ⟨ρ, μ, φ, st, rp, b', m1, h1, q⟩
  · cases h
/-- a turn of the last clause -/
theorem body1 {e : E} {fs : Es} {ρ' : Env} {σ2 : L2.St} {φ φ1 : List Addr} {H H1 : Hp} {D : Addr} {μ μ3 : Store} {as a : List Val} {Nx : Hp → Prop} (hD : H1 D = none) (st : StR Z φ H ρ' σ2) (p : Pc Z φ1 H1 D φ as μ H)
    (hf : (do if (← evIfs Y fs ρ') then evC Y (evE Y e) .nil ρ' else pure [] : M (List Val)) μ = .ok a μ3) (sz : (as ++ a).length ≤ sizeLine) (hN : ∀ φ' H', Pc Z φ1 H1 D φ' (as ++ a) μ3 H' → Ex0 Z.K φ H φ' H' → Nx H') :
    tIfs Y Z fs σ2 H fun b H3 => if b = true then tE Y Z e σ2 H3 fun y H4 => ∃ acc, H4 D = some (.lst acc) ∧ acc.length < sizeLine ∧ Nx (upd H4 D (.lst (acc ++ [y]))) else Nx H3 := by
  obtain ⟨b, m1, h1, h2⟩ := bind_ok hf
  refine ⟨ρ', μ, φ, st, p.rep, b, m1, h1, fun H3 φ3 e3 r3 => ?_⟩
  cases b with
  | true =>
    rw [if_pos rfl] at h2 ⊢
    obtain ⟨v, m2, h3, h4⟩ := bind_ok h2
    obtain ⟨rfl, rfl⟩ := pure_ok h4
    refine tE_mk (st.ext e3) r3 h3 fun V H4 φ4 e4 r4 v4 => ?_
    have p4 := p.step (e3.trans e4) r4
    obtain ⟨acc, g1, g2⟩ := p4.acc
    obtain ⟨q1, q2⟩ := p4.push hD v4 g1
    refine ⟨acc, g1, ?_, hN φ4 _ q1 ((e3.trans e4).toEx0.trans q2)⟩
    have := g2.len
    simp only [List.length_append, List.length_cons, List.length_nil] at sz
    omega
  | false =>
    rw [if_neg Bool.false_ne_true] at h2 ⊢
    obtain ⟨rfl, rfl⟩ := pure_ok h2
    exact hN φ3 H3 (by rw [List.append_nil]; exact p.step e3 r3) e3.toEx0
/-- the new list is the store's -/
theorem Pc.done {φ φ1 φf : List Addr} {H H1 Hf : Hp} {D : Addr} {μ μ1 : Store} {out : List Val} {Q : VK} (hD : H1 D = none) (e1 : Ext Z.K φ H φ1 H1) (r1 : Rep Z φ1 μ1 H1) (p : Pc Z φ1 H1 D φf ([] ++ out) μ Hf) (q : Kv Z φ H (μ ++ [.lst out]) (.ref μ.length) Q) : Q (.ref D) Hf := by
  obtain ⟨acc, g1, g2⟩ := p.acc
  refine q _ _ _ ((e1.trans p.ext).adopt (e1.none_of r1 hD)) (p.rep.adopt p.nm g1 g2) ⟨D, ?_, rfl⟩
  rw [List.getElem?_append_right (by rw [p.rep.len]; exact Nat.le_refl _), p.rep.len]; simp
theorem Pc.start {φ1 : List Addr} {H1 : Hp} {D : Addr} {μ : Store} (hD : H1 D = none) (r : Rep Z φ1 μ H1) : Pc Z φ1 H1 D φ1 [] μ (upd H1 D (.lst [])) := ⟨.new hD, r.new hD, r.fresh hD, [], upd_same, rfl⟩
theorem lc1_R {e : E} {t : T} {it : Ev.It} {fs : Es} {σ : L2.St} {H : Hp} {Q : VK} (h : tE Y Z (.lc e (.cons t it fs .nil)) σ H Q) : tLc (tI Y Z it) (tG Z t) (tIfs Y Z fs) (tE Y Z e) (slT t ++ slG .nil) σ H Q := by
  obtain ⟨ρ, μ, φ, st, rp, v, μ', hv, q⟩ := h
  obtain ⟨vs, m1, h1, hv1⟩ := bind_ok hv
  obtain ⟨w, m0, h0, h2⟩ := bind_ok h1
  obtain ⟨hz, rfl, rfl⟩ := newLst_ok hv1
  refine ⟨ρ, μ, φ, st, rp, w, m0, h0, fun J H1 φ1 e1 r1 jr D hD => ?_⟩
  exact turns (φ1 := φ1) (H1 := H1) (D := D) jr ((st.ext e1).wipe _) (fun i hi => List.mem_append_left _ hi) wipe_wipe (fun ρ' σ2 φ H μ as a μ3 Nx st p hf sz hN => body1 hD st p hf sz hN) (Pc.start hD r1) (Ext.new hD).toEx0 h2 hz fun φf Hf p _ => p.done hD e1 r1 q
theorem lc2_R {e : E} {t t1 : T} {it it1 : Ev.It} {fs fs1 : Es} {σ : L2.St} {H : Hp} {Q : VK} (h : tE Y Z (.lc e (.cons t it fs (.cons t1 it1 fs1 .nil))) σ H Q) :
    tLc2 (tI Y Z it) (tG Z t) (tIfs Y Z fs) (tI Y Z it1) (tG Z t1) (tIfs Y Z fs1) (tE Y Z e) (slT t ++ slG (.cons t1 it1 fs1 .nil)) (slT t1 ++ slG .nil) σ H Q := by
  obtain ⟨ρ, μ, φ, st, rp, v, μ', hv, q⟩ := h
  obtain ⟨vs, m1, h1, hv1⟩ := bind_ok hv
  obtain ⟨w, m0, h0, h2⟩ := bind_ok h1
  obtain ⟨hz, rfl, rfl⟩ := newLst_ok hv1
  refine ⟨ρ, μ, φ, st, rp, w, m0, h0, fun J H1 φ1 e1 r1 jr D hD => ?_⟩
  refine turns (φ1 := φ1) (H1 := H1) (D := D) jr ((st.ext e1).wipe _) (fun i hi => List.mem_append_left _ hi) wipe_wipe (fun ρ' σ2 φ H μ as a μ3 Nx st p hf sz hN => ?_) (Pc.start hD r1) (Ext.new hD).toEx0 h2 hz fun φf Hf p _ => p.done hD e1 r1 q
  obtain ⟨b, n1, g1, g2⟩ := bind_ok hf
  refine ⟨ρ', μ, φ, st, p.rep, b, n1, g1, fun H3 φ3 e3 r3 => ?_⟩
  cases b with
  | true =>
    rw [if_pos rfl] at g2 ⊢
    obtain ⟨w1, n2, g3, g4⟩ := bind_ok g2
    refine ⟨ρ', n1, φ3, st.ext e3, r3, w1, n2, g3, fun J1 H4 φ4 e4 r4 jr4 => ?_⟩
    exact turns (φ1 := φ1) (H1 := H1) (D := D) jr4 ((st.ext (e3.trans e4)).wipe _) (fun i hi => List.mem_append_left _ hi) wipe_wipe (fun ρ' σ2 φ H μ as a μ3 Nx st p hf sz hN => body1 hD st p hf sz hN) (p.step (e3.trans e4) r4) .refl g4 sz
      fun φf Hf pf ef => hN φf Hf pf ((e3.trans e4).toEx0.trans ef)
  | false =>
    rw [if_neg Bool.false_ne_true] at g2 ⊢
    obtain ⟨rfl, rfl⟩ := pure_ok g2
    exact hN φ3 H3 (by rw [List.append_nil]; exact p.step e3 r3) e3.toEx0
end
end Ev
end

section
set_option maxRecDepth 100000
set_option maxHeartbeats 2000000
/-! Gx1: a generator expression of any clauses: how it is made, where its frame starts. -/
namespace Ev
open PySem L2 GenW

theorem eval_Gx (elt target iter : Expr) (ifs : List Expr) (rest : List Comprehension) (scope : Scope) (pos : Pos) (env : PySem.Env) (hco : scope.isCoroutine = false) (hl : isLst iter = false) :
    eval (.GeneratorExp elt (⟨target, iter, ifs, 0⟩ :: rest) scope pos) env = (do
      let x ← eval iter env
      standAt iter.pos
      let x ← foldedSetIterable iter env x
      let it ← holding [x] (pyIter x)
      enterFrame
      let cl ← closureFor scope env
      let code ← genexprCode env pos (env.qual ++ "<genexpr>") scope
      let bi ← builtinsFor env.globals env.builtins
      let cenv ← newFunctionEnv scope env.globals cl [(".0", it)] (env.qual ++ "<genexpr>.") none code none bi
      newGenerator (.compStart (.GeneratorExp elt (⟨target, iter, ifs, 0⟩ :: rest) scope pos) 0 it .none cenv) "<genexpr>" (env.qual ++ "<genexpr>")) := by
  rw [arm_eval_GeneratorExp]
  simp only [hco, Bool.false_eq_true, if_false]
  cases iter <;> first | rfl | (simp [isLst] at hl)
section
variable {M : Model} {A : Around} {E : Value → Shared → Prop} {s : Shared}
theorem gen_make {env : PySem.Env} {elt target iter : Expr} {ifs : List Expr} {rest : List Comprehension} {scope : Scope} {cl : List (Str × Addr)} {pos : Pos} {Q : Value → Shared → Prop}
    (hco : scope.isCoroutine = false) (hl : isLst iter = false) (hsE : isSetE iter = false) (hclos : closureFor scope env = pure cl) (hcell : ∀ y ∈ scope.names, y.2 ≠ .cell) (h0 : scope.names.lookup (".0" : Str) = some NameKind.local) (hkind : scope.kind = .function)
    (hroom : A.depth < recursionLimit)
    (h : wpAny M A (eval iter env) (fun xv s₁ => wpAny M A (pyIter xv) (fun it s₂ => s₂.heap.NoLimit ∧
      wpAny M A (genexprCode env pos (env.qual ++ "<genexpr>") scope) (fun code s₃ => wpAny M A (builtinsFor env.globals env.builtins) (fun bi s₄ =>
        ∀ h', h'.Ns s₄.heap.objs.size (fun y => if y = ".0" then some it else none) → Heap.SameBut s₄.heap.objs.size (s₄.heap.push { cls := .type "frame", data := .dict #[] }) h' →
          Q (.ref h'.objs.size) { s₄ with
            gens := s₄.gens.push (.fresh (.compStart (.GeneratorExp elt (⟨target, iter, ifs, 0⟩ :: rest) scope pos) 0 it .none (genEnv scope cl s₄.heap.objs.size code bi env))),
            toks := s₄.toks + 1 + 1 + 1,
            heap := h'.push { cls := .type "generator", data := .fields #[.int s₄.gens.size 0, .str "<genexpr>" (s₄.toks + 1), .str (env.qual ++ "<genexpr>") (s₄.toks + 1 + 1)] } }) E s₃) E s₂) E s₁) E s) :
    wpAny M A (eval (.GeneratorExp elt (⟨target, iter, ifs, 0⟩ :: rest) scope pos) env) Q E s := by
  rw [eval_Gx _ _ _ _ _ _ _ _ hco hl, hclos]
  refine wpAny_bind (wpAny_mono h (fun xv s₁ h₁ => ?_) fun _ _ e => e)
  refine wpAny_bind (wpAny_standAt ?_)
  refine wpAny_bind (wpAny_of_eq (fold_of hsE xv) ?_)
  refine wpAny_bind (wpAny_holding (wpAny_mono h₁ (fun it s₂ h₂ => ?_) fun _ _ e => e))
  refine wpAny_bind (wpAny_enterFrame h₂.1 hroom ?_)
  refine wpAny_bind (wpAny_pure ?_)
  refine wpAny_bind (wpAny_mono h₂.2 (fun code s₃ h₃ => ?_) fun _ _ e => e)
  refine wpAny_bind (wpAny_mono h₃ (fun bi s₄ h₄ => ?_) fun _ _ e => e)
  have hbinds : ∀ y ∈ ([((".0" : Str), it)] : List (Str × Value)), scope.names.lookup y.1 = some NameKind.local := by
    intro y hy
    rcases List.mem_cons.mp hy with rfl | hy
    · exact h0
    · cases hy
  refine wpAny_bind (wpAny_newFunctionEnv hcell hbinds (fun h' hn' hs' => ?_) hkind)
  have e : (fun y : Str => ([((".0" : Str), it)] : List (Str × Value)).reverse.lookup y) = fun y : Str => if y = (".0" : Str) then some it else none := by
    funext y
    by_cases hy : y = ".0"
    · subst hy; simp
    · have : (y == (".0" : Str)) = false := by simpa using hy
      simp [List.lookup, this, hy]
  rw [e] at hn'
  simp only [newGenerator, newFields]
  refine wpAny_bind (wpAny_newGen (wpAny_bind (wpAny_mkText (wpAny_bind (wpAny_mkText (wpAny_newObj_type ?_ (by size_fits)))))))
  exact h₄ h' hn' hs'
end

/-- the context of a generator's frame -/
abbrev gxOf (X : Cx) (s : Shared) (H : Hp) (genv : PySem.Env) (fp : List Addr) (A : Around) : Cx := { X with s_0 := s, H_0 := H, env := genv, outer := X.stack, stack := genv :: X.stack, A := A, ex := fp, fn := fun _ => false, pn := [], xe := fun _ _ => False }
section
variable {X : Cx} {pins : List (Addr × PySem.Obj)} {σ : L2.St} {H : Hp} {s : Shared}
theorem gen_start {scope : Scope} {own : List (Str × Nat)} {fp : List Addr} {code : Value} {A : Around} {it : Value} {h' : Heap} {o : PySem.Obj} {gs : GenState} {tk : Nat} (I : L2.Inv X pins σ H s) (ok : BlkOk X.N X.env.scope scope own) (hN : X.N.Nodup) (hcell : ∀ y ∈ scope.names, y.2 ≠ .cell)
    (hfp : ∀ b ∈ fp, FpOk X pins H b ∧ b < s.heap.objs.size)
    (hA : A.frames = some (genEnv scope (cloFrom X.env.cells scope.names []) s.heap.objs.size code builtinsNs X.env :: X.stack)) (hh : X.calm = true → A.handled = none)
    (hn : h'.Ns s.heap.objs.size (fun y => if y = ".0" then some it else none)) (hs : Heap.SameBut s.heap.objs.size (s.heap.push { cls := .type "frame", data := .dict #[] }) h')
    (hg : gs.bare = true) (hnf : o.isFreed = false) (hd : ∀ v, o.data ≠ .cell v) :
    L2.Inv (gxOf X s H (genEnv scope (cloFrom X.env.cells scope.names []) s.heap.objs.size code builtinsNs X.env) fp A) [(h'.objs.size, o)] (wipe σ (own.map (·.2))) H { s with gens := s.gens.push gs, toks := tk, heap := h'.push o } := by
  have hfree : ∀ y ∈ scope.names, y.2 = .free → ∃ c, X.env.cells.lookup y.1 = some c := fun y hy e => by
    rcases ok.free y hy e with k | k
    · exact I.ok.has _ (.inl k)
    · exact I.ok.has _ (.inr k)
  generalize hcenv : genEnv scope (cloFrom X.env.cells scope.names []) s.heap.objs.size code builtinsNs X.env = cenv at hA ⊢
  have hsz : h'.objs.size = s.heap.objs.size + 1 := by rw [hs.1, Heap.size_push]
  have kp' : ∀ b o, s.heap.get? b = some o → h'.get? b = some o := fun b o e => by
    rw [hs.2 b (Nat.ne_of_lt (Heap.lt_size e))]
    exact Heap.get?_push_of_some _ e
  have kp : ∀ b ob, s.heap.get? b = some ob → (h'.push o).get? b = some ob := fun b ob e => Heap.get?_push_of_some _ (kp' b ob e)
  have hL : cenv.locals = s.heap.objs.size := by rw [← hcenv]; rfl
  have hcl : cenv.cells = cloFrom X.env.cells scope.names [] := by rw [← hcenv]; rfl
  have hsc : cenv.scope = scope := by rw [← hcenv]; rfl
  have hfr : cenv.frame = some cenv.locals := by rw [← hcenv]; rfl
  have cm : ∀ {y c}, (y, c) ∈ cloFrom X.env.cells scope.names [] → X.env.cells.lookup y = some c ∧ c < s.heap.objs.size := fun {y c} hm => by
    rcases cloFrom_mem hm with hm | ⟨h1, rfl⟩
    · cases hm
    · obtain ⟨c, hc⟩ := hfree _ h1 rfl
      rw [hc]
      obtain ⟨w, z⟩ := I.cell _ _ hc
      exact ⟨rfl, z.lt⟩
  have mem : ∀ {y c}, cenv.cells.lookup y = some c → X.env.cells.lookup y = some c ∧ c < s.heap.objs.size := fun {y c} e => by
    rw [hcl] at e
    exact cm (PySem.mem_of_lookup e)
  have look : ∀ {y}, scope.names.lookup y = some .free → ∃ c, cenv.cells.lookup y = some c ∧ X.env.cells.lookup y = some c := fun {y} hl => by
    have hy : (y, NameKind.free) ∈ scope.names := PySem.mem_of_lookup hl
    obtain ⟨c', e'⟩ := mem_lookup (cloFrom_has (cells := X.env.cells) (acc := []) hy)
    rw [← hcl] at e'
    exact ⟨c', e', (mem e').1⟩
  have nocell : ∀ {y}, scope.names.lookup y ≠ some .cell := fun {y} h => hcell _ (PySem.mem_of_lookup h) rfl
  have okB : (gxOf X s H cenv fp A).Ok := by
    refine ⟨I.ok.mod, by show cenv.scope.kind = _; rw [hsc]; exact ok.kind, by show cenv.globals = _; rw [← hcenv]; exact I.ok.glob, by show cenv.builtins = _; rw [← hcenv]; rfl, by show s.heap.objs.size ≤ cenv.locals; rw [hL]; exact Nat.le_refl _,
      fun y z c e1 e2 => ?_, fun y hy => ?_, fun y c z e => ?_, hh, hA, .inr ⟨rfl, hfr⟩, fun b hb => ⟨?_, fun y c e z => ?_⟩, I.bs, Nat.le_trans I.ok.bsz I.sz, fun b o e hb => ?_, fun b hb z => ?_, I.stack, I.stkFree⟩
    · exact I.ok.inj y z c (mem e1).1 (mem e2).1
    · show ∃ c, cenv.cells.lookup y = some c
      rcases hy with hy | hy
      · have hy : cenv.scope.names.lookup y = some .cell := hy
        rw [hsc] at hy
        exact absurd hy nocell
      · have hy : cenv.scope.names.lookup y = some .free := hy
        rw [hsc] at hy
        obtain ⟨c, h1, _⟩ := look hy
        exact ⟨c, h1⟩
    · cases z
    · show b ≠ cenv.locals
      rw [hL]; exact Nat.ne_of_lt (hfp b hb).2
    · have e : cenv.cells.lookup y = some c := e
      exact (hfp b hb).1.2.2.2.2.1 y c (mem e).1 z
    · rcases (hfp b hb).1.2.2.2.1 with z | z
      · exact I.ok.noex b o e z
      · exact absurd (Nat.lt_of_lt_of_le (Heap.lt_size e) (Nat.le_trans I.ok.bsz z)) (Nat.lt_irrefl _)
    · rcases List.mem_cons.mp (I.stkSub b z) with z | z
      · exact (hfp b hb).1.2.1 z
      · exact (hfp b hb).1.2.2.1 z
  refine ⟨okB, rfl, I.bare.push hg, Un.kept kp, ⟨(fun y => if y = ".0" then some it else none), ?_, fun i y av e1 e2 e3 => ?_⟩, fun y c e => ?_, ?_, fun y c e => ?_, fun p hp => ?_, I.hok.kept kp, by rw [wipe_length]; exact I.len⟩
  · show Heap.Ns _ cenv.locals _
    rw [hL]
    exact hn.keeps fun b ob e => Heap.get?_push_of_some _ e
  · obtain ⟨e2, hne⟩ := wipe_some e2
    have no : ∀ {kk}, scope.names.lookup y = some kk → ¬ (kk = .local ∨ kk = .cell) := fun e hh => by
      rcases ok.own _ (PySem.mem_of_lookup e) hh with e' | e'
      · obtain ⟨p, hp, hpy⟩ := List.mem_map.mp e'
        have e3 := ok.ix p hp
        have : p.1 = y := hpy
        rw [this] at e3
        exact hne (List.mem_map.mpr ⟨p, hp, nodup_ix hN e3 e1⟩)
      · exact e' (List.mem_of_getElem? e1)
    have e3 : Vis cenv.scope y := e3
    rw [hsc] at e3
    have hfr' : scope.names.lookup y = some .free := by
      rcases e3 with e3 | e3 | e3
      · exact absurd (.inl rfl) (no e3)
      · exact absurd (.inr rfl) (no e3)
      · exact e3
    obtain ⟨m, hn', hl⟩ := I.loc
    have hvis : Vis X.env.scope y := (ok.free _ (PySem.mem_of_lookup hfr') rfl).elim (fun k => .inr (.inl k)) (fun k => .inr (.inr k))
    obtain ⟨w, r, q⟩ := hl i y av e1 e2 hvis
    refine ⟨w, r, .inr ⟨.inr (by show cenv.scope.names.lookup y = _; rw [hsc]; exact hfr'), ?_⟩⟩
    obtain ⟨c, h1, h2⟩ := look hfr'
    rcases q with ⟨k, _⟩ | ⟨_, c', e', z⟩
    · have k : X.env.scope.names.lookup y = some .local := k
      rcases ok.free _ (PySem.mem_of_lookup hfr') rfl with k' | k' <;> rw [show X.env.scope.names.lookup y = _ from k'] at k <;> cases k
    · rw [h2] at e'; cases e'
      exact ⟨c, h1, z.keeps kp⟩
  · have e : cenv.cells.lookup y = some c := e
    obtain ⟨w, z⟩ := I.cell y c (mem e).1
    exact ⟨w, z.keeps kp⟩
  · show H cenv.locals = none
    rw [hL]; exact I.hok.fresh (Nat.le_refl _)
  · have e : cenv.cells.lookup y = some c := e
    exact I.freeC y c (mem e).1
  · have hp : p = (h'.objs.size, o) := by simpa using hp
    subst hp
    have hfresh : s.heap.objs.size ≤ h'.objs.size := by omega
    refine ⟨Heap.get?_push_size _ hnf, I.hok.fresh hfresh, ?_, fun z => ?_, hd⟩
    · show h'.objs.size ≠ cenv.locals
      rw [hL]; omega
    · rcases List.mem_cons.mp (I.stkSub _ z) with z | z
      · have := I.lt
        rw [← z] at this
        exact absurd (Nat.lt_of_lt_of_le this hfresh) (Nat.lt_irrefl _)
      · exact I.nofs hfresh z
end
end Ev
end

section
set_option maxRecDepth 100000
set_option maxHeartbeats 2000000
/-! Gx2: the turns of a generator expression. -/
namespace Ev
open PySem L2 GenW PyProof.Rows

/-- a turn of a clause: body where the tests are passed -/
def turnG (p : Pos) (tg : Expr) (ifs : List Expr) (it : Value) (env : PySem.Env) (body : Sem PySem.Fin) (c : Code) : Sem PySem.Fin := do
  standAt p
  match ← pyNext it with
  | none => pure (.done .next)
  | some v =>
    letOwnedTupleGo tg it v
    assign tg env v
    let mut ok := true
    for cc in ifs do
      if ok then ok ← isTrue cc env (eval cc env)
    if ok then body else again c
def emitG (elt : Expr) (env : PySem.Env) (c : Code) : Sem PySem.Fin := do
  (do let v ← eval elt env; standAt elt.pos; let _ ← yieldOut env v)
  again c
def nestG (e : Expr) (i1 : Expr) (acc : Value) (env : PySem.Env) (c : Code) : Sem PySem.Fin := do
  let x ← eval i1 env
  standAt i1.pos
  let x ← foldedSetIterable i1 env x
  let _ ← runOwn (.compStart e 1 (← holding [x] (pyIter x)) acc env) env
  again c
theorem turn_one (elt t i : Expr) (ifs : List Expr) (scope : Scope) (pos : Pos) (it acc : Value) (env : PySem.Env) :
    compTurn (.GeneratorExp elt [⟨t, i, ifs, 0⟩] scope pos) 0 it acc env = turnG i.pos t ifs it env (emitG elt env (.compLoop (.GeneratorExp elt [⟨t, i, ifs, 0⟩] scope pos) 0 it acc env)) (.compLoop (.GeneratorExp elt [⟨t, i, ifs, 0⟩] scope pos) 0 it acc env) := by rfl
theorem turn_out (elt t i t1 i1 : Expr) (ifs ifs1 : List Expr) (scope : Scope) (pos : Pos) (it acc : Value) (env : PySem.Env) :
    compTurn (.GeneratorExp elt [⟨t, i, ifs, 0⟩, ⟨t1, i1, ifs1, 0⟩] scope pos) 0 it acc env = turnG i.pos t ifs it env (nestG (.GeneratorExp elt [⟨t, i, ifs, 0⟩, ⟨t1, i1, ifs1, 0⟩] scope pos) i1 acc env (.compLoop (.GeneratorExp elt [⟨t, i, ifs, 0⟩, ⟨t1, i1, ifs1, 0⟩] scope pos) 0 it acc env)) (.compLoop (.GeneratorExp elt [⟨t, i, ifs, 0⟩, ⟨t1, i1, ifs1, 0⟩] scope pos) 0 it acc env) := by rfl
theorem turn_in (elt t i t1 i1 : Expr) (ifs ifs1 : List Expr) (scope : Scope) (pos : Pos) (it acc : Value) (env : PySem.Env) :
    compTurn (.GeneratorExp elt [⟨t, i, ifs, 0⟩, ⟨t1, i1, ifs1, 0⟩] scope pos) 1 it acc env = turnG i1.pos t1 ifs1 it env (emitG elt env (.compLoop (.GeneratorExp elt [⟨t, i, ifs, 0⟩, ⟨t1, i1, ifs1, 0⟩] scope pos) 1 it acc env)) (.compLoop (.GeneratorExp elt [⟨t, i, ifs, 0⟩, ⟨t1, i1, ifs1, 0⟩] scope pos) 1 it acc env) := by rfl

/-! ### evaluator -/
theorem loopA_nil {t : T} {g : List (Nat × Ev.Obj)} {ρ : Env} {stop : Bool} {f : Env → M Bool} {m m' : Store} {b : Bool} (h : loopA t g ρ stop f [] m = .ok b m') : guardOk m g = true ∧ b = !stop ∧ m' = m := by
  simp only [loopA] at h
  split at h
  · rename_i hg; cases h; exact ⟨hg, rfl, rfl⟩
  · cases h
theorem loopA_cons {t : T} {g : List (Nat × Ev.Obj)} {ρ : Env} {stop : Bool} {f : Env → M Bool} {x : Val} {xs : List Val} {m m' : Store} {b : Bool} (h : loopA t g ρ stop f (x :: xs) m = .ok b m') :
    guardOk m g = true ∧ ∃ ρ' a m1, bindT t x ρ = some ρ' ∧ f ρ' m = .ok a m1 ∧ ((a = stop ∧ b = stop ∧ m' = m1) ∨ (a ≠ stop ∧ loopA t g ρ stop f xs m1 = .ok b m')) := by
  simp only [loopA] at h
  split at h
  · rename_i hg
    split at h
    · cases h
    · rename_i ρ' hb
      obtain ⟨a, m1, h1, h2⟩ := bind_ok (x := f ρ') h
      refine ⟨hg, ρ', a, m1, hb, h1, ?_⟩
      by_cases e : a = stop
      · rw [if_pos (by rw [e]; simp)] at h2
        obtain ⟨rfl, rfl⟩ := pure_ok h2
        exact .inl ⟨e, rfl, rfl⟩
      · rw [if_neg (by simpa using e)] at h2
        exact .inr ⟨e, h2⟩
  · cases h

/-- how much is handed out at most -/
def costL (Y : Sys) (t : T) (ρ : Env) (es : Es) (actE : Env → M Bool) (cost : Env → Store → Nat) : List Val → Store → Nat
  | [], _ => 0
  | x :: xs, m => match bindT t x ρ with
    | none => 0
    | some ρ' => match evIfs Y es ρ' m with
      | .ok true m2 => cost ρ' m2 + (match actE ρ' m2 with | .ok _ m1 => costL Y t ρ es actE cost xs m1 | _ => 0)
      | .ok false m2 => costL Y t ρ es actE cost xs m2
      | _ => 0

/-! ### what the generator hands out, what it ends with -/
section
variable (X : Cx) (pg : List (Addr × PySem.Obj)) (stop : Bool) (Fin : Bool → Hp → Prop)
def gR : GenEnd := fun _ _ r s => r = .ok .next ∧ ∃ σ H, L2.Inv X pg σ H s ∧ Fin (!stop) H
def gY : Protocol := fun _ _ v s kap => ∃ b σ H, v = .bool b ∧ L2.Inv X pg σ H s ∧ (b = stop → Fin stop H) ∧ (b ≠ stop → ∀ s' : Shared, s'.os = s.os → s'.heap = s.heap → AllBare s'.gens → kap (.send .none) s')
end
/-- between two turns nothing but the generators' table changes -/
theorem inv_slept {X : Cx} {pins : List (Addr × PySem.Obj)} {σ : L2.St} {H : Hp} {s s' : Shared} (I : L2.Inv X pins σ H s) (h1 : s'.os = s.os) (h2 : s'.heap = s.heap) (h3 : AllBare s'.gens) : L2.Inv X pins σ H s' :=
  I.call' (ch := []) h1 (by rw [h2]; exact Un.refl) (by rw [h2]; exact I.hok) h3 fun b hb => absurd hb (by simp)
theorem wipe_sub {σ : L2.St} {vs ws : List Nat} (h : ∀ i ∈ vs, i ∈ ws) : wipe (wipe σ vs) ws = wipe σ ws := by
  apply List.ext_getElem?
  intro i
  rw [wipe_get, wipe_get, wipe_get]
  split
  · split
    · cases σ[i]? <;> rfl
    · rfl
  · rename_i hn
    rw [if_neg fun hm => hn (h i hm)]
theorem inv_wiped {X : Cx} {pins : List (Addr × PySem.Obj)} {σ σ0 : L2.St} {H : Hp} {s : Shared} {vs : List Nat} (I : L2.Inv X pins σ H s) (h : wipe σ vs = σ0) : L2.Inv X pins σ0 H s := by
  subst h
  exact I.weak (wipe_length _ _) fun i v e => (wipe_some e).1
section
variable {Y : Sys} {Z : Wh} {X : Cx} {pg pins : List (Addr × PySem.Obj)} {J : L2.It} {fp : List Addr} {it : Addr} {tn : Nat → Heap → Prop} {w : Walk} {φb φ1 : List Addr} {Hb H1 : Hp} {t : T} {vs : List Nat} {σ0 : L2.St} {ρ0 : Env} {stop : Bool}
  {Fin : Bool → Hp → Prop} {es : Es} {actE : Env → M Bool} {A2 : Around} {c : Code} {fs : List Frame} {p : Pos} {tg : Expr} {ifs : List Expr} {body : Sem PySem.Fin} {lv : Value → Sem Unit} {cost : Env → Store → Nat} {nE : Nat}
theorem gloop (T : Turn X.prog X.w X.K tg J fp it tn) (hc : X.calm = true) (hxe : X.xe = fun _ _ => False)
    (hden : (model X.prog X.w).den c = (turnG p tg ifs (.ref it) X.env body c).onRaise lv) (hq : c.quiet = true) (hov : A2.over c fs = X.A) (pgt : PG X tg (tG Z t)) (pt : PTs X ifs (tIfs Y Z es))
    (jr : JR Z w J φb Hb) (st : StR Z φb Hb ρ0 σ0) (hv : ∀ i ∈ slT t, i ∈ vs) (hw : wipe σ0 vs = σ0) (hst : ∀ b ∈ fp, ∀ H', H' b = none → FpOk X pins H' b)
    (hBody : ∀ ρ' μ a μ3, actE ρ' μ = .ok a μ3 → ∀ n1 n : Nat, n1 + cost ρ' μ ≤ n → ∀ s₀ s σ2 φ H ip, L2.Inv X (pins ++ ip) σ2 H s → StR Z φ H ρ' σ2 → Rep Z φ μ H → Ext Z.K φ1 H1 φ H → wipe σ2 vs = σ0 →
      (a = stop → ∀ φ' H', Ext Z.K φ1 H1 φ' H' → Rep Z φ' μ3 H' → Fin stop H') →
      (a ≠ stop → ∀ n', n1 ≤ n' → ∀ s₀' s' σ' φ' H', L2.Inv X (pins ++ ip) σ' H' s' → wipe σ' vs = σ0 → Rep Z φ' μ3 H' → Ext Z.K φ1 H1 φ' H' → Ex0 Z.K φ H φ' H' → Seg (model X.prog X.w) A2 (gR X pg stop Fin) (gY X pg stop Fin) n' s₀' c ((model X.prog X.w).den c) fs s') →
      Seg (model X.prog X.w) A2 (gR X pg stop Fin) (gY X pg stop Fin) n s₀ c (body.onRaise lv) fs s) :
    ∀ (xs : List Val) (i : Nat) (μ : Store) (b : Bool) (μf : Store), w.1.drop i = xs → i ≤ w.1.length → loopA t w.2 ρ0 stop (fun ρ' => do if (← evIfs Y es ρ') then actE ρ' else pure (!stop)) xs μ = .ok b μf →
      (b = stop → ∀ φ' H', Ext Z.K φ1 H1 φ' H' → Rep Z φ' μf H' → Fin stop H') →
      (b = (!stop) → ∀ n, nE ≤ n → ∀ s₀ s φ H, L2.Inv X pins σ0 H s → Rep Z φ μf H → Ext Z.K φ1 H1 φ H → Ex0 Z.K φb Hb φ H → Seg (model X.prog X.w) A2 (gR X pg stop Fin) (gY X pg stop Fin) n s₀ c (leafOf (.ok .next)) fs s) →
      ∀ n, nE + costL Y t ρ0 es actE cost xs μ ≤ n → ∀ s₀ s φ H, L2.Inv X pins σ0 H s → Rep Z φ μ H → Ext Z.K φ1 H1 φ H → Ex0 Z.K φb Hb φ H → tn i s.heap → (∀ b ∈ fp, H b = none) →
        Seg (model X.prog X.w) A2 (gR X pg stop Fin) (gY X pg stop Fin) n s₀ c ((model X.prog X.w).den c) fs s := by
  intro xs
  induction xs with
  | nil =>
    intro i μ b μf hd hi hl hF hE
    obtain ⟨hg, rfl, rfl⟩ := loopA_nil hl
    intro n hn s₀ s φ H I rp e1 e0 ht hn0
    replace hE := hE rfl
    have hi' : i = w.1.length := by
      have := congrArg List.length hd
      simp at this; omega
    subst hi'
    rw [hden]
    unfold turnG
    rw [Sem.onRaise_eq_wrap]
    refine seg_bind_wrap (wpAny_standAt ?_)
    refine seg_bind_wrap ?_
    rw [hov]
    refine wpAny_mono (T.done X rfl rfl rfl hc _ pins s σ0 H (fun _ _ => False) I (fun b hb => hst b hb H (hn0 b hb)) ht (jr.stop φ μf H e0 rp hg)) (fun r s1 hr => ?_) fun _ _ z => z.elim
    obtain ⟨rfl, I1⟩ := hr
    exact hE n (Nat.le_trans (Nat.le_add_right _ _) hn) s₀ s1 φ H I1 rp e1 e0
  | cons x xs ih =>
    intro i μ b μf hd hi hl hF hE
    obtain ⟨hg, ρ', a, m1, hb, hf, hr⟩ := loopA_cons hl
    have hlt : i < w.1.length := by
      have := congrArg List.length hd
      simp at this; omega
    have hx : w.1[i]? = some x := by
      rw [List.drop_eq_getElem_cons hlt] at hd
      rw [List.getElem?_eq_getElem hlt]
      exact congrArg some (List.cons.inj hd).1
    have hd' : w.1.drop (i + 1) = xs := by
      rw [List.drop_eq_getElem_cons hlt] at hd
      exact (List.cons.inj hd).2
    -- the turns to come
    have later : a ≠ stop → ∀ n, nE + costL Y t ρ0 es actE cost xs m1 ≤ n → ∀ s₀ s φ H, L2.Inv X pins σ0 H s → Rep Z φ m1 H → Ext Z.K φ1 H1 φ H → Ex0 Z.K φb Hb φ H → tn (i + 1) s.heap → (∀ b ∈ fp, H b = none) →
        Seg (model X.prog X.w) A2 (gR X pg stop Fin) (gY X pg stop Fin) n s₀ c ((model X.prog X.w).den c) fs s := by
      rcases hr with ⟨rfl, _, _⟩ | ⟨hne, hl'⟩
      · exact fun h => absurd rfl h
      · exact fun _ => ih (i + 1) m1 b μf hd' hlt hl' hF hE
    generalize hn1 : nE + costL Y t ρ0 es actE cost xs m1 = n1 at later
    have hFa : a = stop → ∀ φ' H', Ext Z.K φ1 H1 φ' H' → Rep Z φ' m1 H' → Fin stop H' := fun ha => by
      rcases hr with ⟨_, hb2, rfl⟩ | ⟨hne, _⟩
      · exact hF hb2
      · exact absurd ha hne
    obtain ⟨ok, m2, g1, g2⟩ := bind_ok hf
    intro n hn s₀ s φ H I rp e1 e0 ht hn0
    have hn01 : n1 ≤ n ∧ (ok = true → n1 + cost ρ' m2 ≤ n) := by
      simp only [costL, hb, g1] at hn
      cases ok with
      | true =>
        rw [if_pos rfl] at g2
        simp only [g2] at hn
        exact ⟨by omega, fun _ => by omega⟩
      | false =>
        rw [if_neg Bool.false_ne_true] at g2
        obtain ⟨_, rfl⟩ := pure_ok g2
        dsimp only at hn
        exact ⟨by omega, fun h => by cases h⟩
    have hB : ok = true → ∀ s₀ s σ2 φ H ip, L2.Inv X (pins ++ ip) σ2 H s → StR Z φ H ρ' σ2 → Rep Z φ m2 H → Ext Z.K φ1 H1 φ H → wipe σ2 vs = σ0 →
        (a ≠ stop → ∀ n', n1 ≤ n' → ∀ s₀' s' σ' φ' H', L2.Inv X (pins ++ ip) σ' H' s' → wipe σ' vs = σ0 → Rep Z φ' m1 H' → Ext Z.K φ1 H1 φ' H' → Ex0 Z.K φ H φ' H' → Seg (model X.prog X.w) A2 (gR X pg stop Fin) (gY X pg stop Fin) n' s₀' c ((model X.prog X.w).den c) fs s') →
        Seg (model X.prog X.w) A2 (gR X pg stop Fin) (gY X pg stop Fin) n s₀ c (body.onRaise lv) fs s := fun ho s₀ s σ2 φ H ip I st2 rp e1 hw2 kk => by
      subst ho
      rw [if_pos rfl] at g2
      exact hBody ρ' m2 a m1 g2 n1 n (hn01.2 rfl) s₀ s σ2 φ H ip I st2 rp e1 hw2 hFa kk
    rw [hden]
    unfold turnG
    rw [Sem.onRaise_eq_wrap]
    refine seg_bind_wrap (wpAny_standAt ?_)
    refine seg_bind_wrap ?_
    rw [hov]
    obtain ⟨j1, j2⟩ := jr.go φ μ H e0 rp hg i x hx
    refine wpAny_mono (T.item X rfl rfl rfl hc i pins s σ0 H (fun _ _ => False) I (fun b hb => hst b hb H (hn0 b hb)) ht j1) (fun r s1 h1 => ?_) fun _ _ z => z.elim
    obtain ⟨u, rfl, h1⟩ := h1
    refine seg_bind_wrap ?_
    rw [hov]
    refine wpAny_mono h1 (fun _ s2 h2 => ?_) fun _ _ z => z.elim
    obtain ⟨U, H2, I2, ru, hy, st2, n2⟩ := h2
    obtain ⟨k1, k2, k3⟩ := j2 U H2 hy
    have I2' := I2.pinned (fun b hb => hst b hb H2 (n2 b hb)) (T.obj _ _ st2)
    refine seg_bind_wrap ?_
    rw [hov]
    have st0 : StR Z φ H2 ρ0 σ0 := ⟨st.len, fun j y hj => by
      obtain ⟨V, q1, q2⟩ := st.get j y hj
      exact ⟨V, q1, VR.ext0 (e0.trans k1.toEx0) _ _ q2⟩⟩
    refine wpAny_mono (pgt.run _ s2 σ0 H2 U u (fun σ3 H3 => H3 = H2 ∧ StR Z φ H2 ρ' σ3 ∧ wipe σ3 vs = σ0) I2' ru ⟨ρ0, φ, x, ρ', st0, k3, hb, fun σ3 st3 w3 => ⟨rfl, st3, by rw [w3 vs hv, hw]⟩⟩) (fun _ s3 h3 => ?_) fun _ _ z => by rw [hxe] at z; exact z.elim
    obtain ⟨σ3, H3, I3, rfl, st3, w3⟩ := h3
    refine seg_bind_wrap ?_
    rw [hov]
    refine wpAny_mono (pt.run _ s3 σ3 H3 (fun b' H4 => b' = ok ∧ ∃ φ4, Ext Z.K φ H3 φ4 H4 ∧ Rep Z φ4 m2 H4) I3 ⟨ρ', μ, φ, st3, k2, ok, m2, g1, fun H4 φ4 e4 r4 => ⟨rfl, φ4, e4, r4⟩⟩) (fun b' s4 h4 => ?_) fun _ _ z => by rw [hxe] at z; exact z.elim
    obtain ⟨H4, I4, rfl, φ4, e4, r4⟩ := h4
    -- the next turn
    have next : a ≠ stop → ∀ n', n1 ≤ n' → ∀ s₀' s' σ' φ' H', L2.Inv X (pins ++ pinsAt fp s2.heap) σ' H' s' → wipe σ' vs = σ0 → Rep Z φ' m1 H' → Ext Z.K φ1 H1 φ' H' → Ex0 Z.K φ4 H4 φ' H' → Seg (model X.prog X.w) A2 (gR X pg stop Fin) (gY X pg stop Fin) n' s₀' c ((model X.prog X.w).den c) fs s' := fun ha n' hn' s₀' s' σ' φ' H' I' w' r' e' e0' => by
      have pin' : ∀ b ∈ fp, ∀ o, s2.heap.get? b = some o → s'.heap.get? b = some o ∧ H' b = none := fun b hb o e =>
        let z := I'.pin (b, o) (List.mem_append_right _ (List.mem_append_right _ (mem_pinsAt hb e)))
        ⟨z.1, z.2.1⟩
      refine later ha n' hn' s₀' s' φ' H' (inv_wiped (I'.unpinned) w') r' e' ((e0.trans (k1.trans e4).toEx0).trans e0') (T.keep _ _ _ st2 fun b hb o e => (pin' b hb o e).1) fun b hb => ?_
      obtain ⟨o, e, _⟩ := T.obj _ _ st2 b hb
      exact (pin' b hb o e).2
    cases b' with
    | false =>
      rw [if_neg Bool.false_ne_true] at g2
      obtain ⟨rfl, rfl⟩ := pure_ok g2
      simp only [Bool.false_eq_true, if_false]
      exact seg_again hq (next (by cases stop <;> simp) n hn01.1 s₀ s4 σ3 φ4 H4 I4 w3 r4 (e1.trans (k1.trans e4)) .refl)
    | true =>
      simp only [if_true]
      have := hB rfl s₀ s4 σ3 φ4 H4 _ I4 (st3.ext e4) r4 (e1.trans (k1.trans e4)) w3 next
      rw [Sem.onRaise_eq_wrap] at this
      exact this
end
end Ev
end

section
set_option maxRecDepth 100000
set_option maxHeartbeats 2000000
/-! Gx3: what a generator expression's turns do. -/
namespace Ev
open PySem L2 GenW PyProof.Rows

section
variable {Y : Sys} {Z : Wh} {X : Cx} {pg pins : List (Addr × PySem.Obj)} {φ1 : List Addr} {H1 : Hp} {vs : List Nat} {σ0 : L2.St} {stop : Bool}
  {Fin : Bool → Hp → Prop} {A2 : Around} {c : Code} {fs : List Frame} {elt : Expr} {e : E} {lv : Value → Sem Unit}
/-- it hands out one value -/
theorem emit_body (hco : X.env.scope.isCoroutine = false) (hxe : X.xe = fun _ _ => False) (hq : c.quiet = true) (hov : A2.over c fs = X.A) (hsp : splitAtGen fs = none) (hgu : fs.any Frame.guarded = false) (hpg : ∀ p ∈ pg, p ∈ pins) (he : PE X elt (tE Y Z e)) :
    ∀ ρ' μ a μ3, toB (evE Y e ρ') μ = .ok a μ3 → ∀ n1 n : Nat, n1 + 1 ≤ n → ∀ s₀ s σ2 φ H ip, L2.Inv X (pins ++ ip) σ2 H s → StR Z φ H ρ' σ2 → Rep Z φ μ H → Ext Z.K φ1 H1 φ H → wipe σ2 vs = σ0 →
      (a = stop → ∀ φ' H', Ext Z.K φ1 H1 φ' H' → Rep Z φ' μ3 H' → Fin stop H') →
      (a ≠ stop → ∀ n', n1 ≤ n' → ∀ s₀' s' σ' φ' H', L2.Inv X (pins ++ ip) σ' H' s' → wipe σ' vs = σ0 → Rep Z φ' μ3 H' → Ext Z.K φ1 H1 φ' H' → Ex0 Z.K φ H φ' H' → Seg (model X.prog X.w) A2 (gR X pg stop Fin) (gY X pg stop Fin) n' s₀' c ((model X.prog X.w).den c) fs s') →
      Seg (model X.prog X.w) A2 (gR X pg stop Fin) (gY X pg stop Fin) n s₀ c ((emitG elt X.env c).onRaise lv) fs s := by
  intro ρ' μ a μ3 hv n1 n hn s₀ s σ2 φ H ip I st rp e1 hw hF hK
  obtain ⟨m, rfl⟩ : ∃ m, n = m + 1 := ⟨n - 1, by omega⟩
  have hy : ∀ v, yieldOut X.env v = yieldValue v := fun v => by simp only [yieldOut, hco, Bool.false_eq_true, if_false]
  unfold emitG
  simp only [hy]
  rw [Sem.onRaise_eq_wrap, Sem.bind_eq_wrap', Sem.bind_eq_wrap', Sem.wrap_wrap, Sem.wrap_wrap]
  refine seg_wrap ?_
  rw [hov]
  refine wpAny_mono (he.run _ s σ2 H (fun V H' => V = .bl a ∧ ∃ φ', Ext Z.K φ H φ' H' ∧ Rep Z φ' μ3 H') I ⟨ρ', μ, φ, st, rp, .bl a, μ3, toB_ok hv, fun V H' φ' e' r' v' => ⟨v', φ', e', r'⟩⟩) (fun y s1 h1 => ?_) fun _ _ z => by rw [hxe] at z; exact z.elim
  obtain ⟨V, H', I', rv, rfl, φ', e', r'⟩ := h1
  have hyb : y = Value.bool a := rv
  subst hyb
  refine seg_at (seg_yield hsp rfl hgu ⟨a, σ2, H', rfl, I'.pins_of fun p hp => I'.pin p (List.mem_append_right _ (List.mem_append_left _ (hpg p hp))), fun ha => hF ha φ' H' (e1.trans e') r', fun ha s'' q1 q2 q3 => ?_⟩)
  exact seg_again hq (hK ha m (by omega) _ s'' σ2 φ' H' (inv_slept I' q1 q2 q3) hw r' (e1.trans e') e'.toEx0)
end

section
variable {Y : Sys} {Z : Wh} {X : Cx} {pg pins : List (Addr × PySem.Obj)} {φ1 : List Addr} {H1 : Hp} {vs : List Nat} {σ0 : L2.St} {stop : Bool}
  {Fin : Bool → Hp → Prop} {A2 : Around} {fs : List Frame} {elt tg tg1 i0 i1 : Expr} {ifs ifs1 : List Expr} {scope : Scope} {pos : Pos} {it : Value} {e : E} {lv : Value → Sem Unit} {t1 : T} {it1 : Ev.It} {es1 : Es}
/-- the cost of a walk within -/
def costN (Y : Sys) (t1 : T) (it1 : Ev.It) (es1 : Es) (e : E) : Env → Store → Nat := fun ρ' m => match evIt Y it1 ρ' m with
  | .ok w m1 => costL Y t1 (wipeE ρ' (slT t1 ++ slG .nil)) es1 (fun ρ => toB (evE Y e ρ)) (fun _ _ => 1) w.1 m1
  | _ => 0
theorem nest_body (hc : X.calm = true) (hco : X.env.scope.isCoroutine = false) (hxe : X.xe = fun _ _ => False) (hov : A2.over (.compLoop (.GeneratorExp elt [⟨tg, i0, ifs, 0⟩, ⟨tg1, i1, ifs1, 0⟩] scope pos) 0 it .none X.env) [] = X.A)
    (hpg : ∀ p ∈ pg, p ∈ pins) (hs1 : isSetE i1 = false) (he : PE X elt (tE Y Z e)) (pi1 : PI X tg1 i1 (tI Y Z it1)) (pg1 : PG X tg1 (tG Z t1)) (pt1 : PTs X ifs1 (tIfs Y Z es1)) (hsub : ∀ i ∈ slT t1, i ∈ vs) :
    ∀ ρ' μ a μ3, evA Y stop (evE Y e) (.cons t1 it1 es1 .nil) ρ' μ = .ok a μ3 → ∀ n1 n : Nat, n1 + costN Y t1 it1 es1 e ρ' μ ≤ n → ∀ s₀ s σ2 φ H ip, L2.Inv X (pins ++ ip) σ2 H s → StR Z φ H ρ' σ2 → Rep Z φ μ H → Ext Z.K φ1 H1 φ H → wipe σ2 vs = σ0 →
      (a = stop → ∀ φ' H', Ext Z.K φ1 H1 φ' H' → Rep Z φ' μ3 H' → Fin stop H') →
      (a ≠ stop → ∀ n', n1 ≤ n' → ∀ s₀' s' σ' φ' H', L2.Inv X (pins ++ ip) σ' H' s' → wipe σ' vs = σ0 → Rep Z φ' μ3 H' → Ext Z.K φ1 H1 φ' H' → Ex0 Z.K φ H φ' H' → Seg (model X.prog X.w) A2 (gR X pg stop Fin) (gY X pg stop Fin) n' s₀' (.compLoop (.GeneratorExp elt [⟨tg, i0, ifs, 0⟩, ⟨tg1, i1, ifs1, 0⟩] scope pos) 0 it .none X.env) ((model X.prog X.w).den (.compLoop (.GeneratorExp elt [⟨tg, i0, ifs, 0⟩, ⟨tg1, i1, ifs1, 0⟩] scope pos) 0 it .none X.env)) [] s') →
      Seg (model X.prog X.w) A2 (gR X pg stop Fin) (gY X pg stop Fin) n s₀ (.compLoop (.GeneratorExp elt [⟨tg, i0, ifs, 0⟩, ⟨tg1, i1, ifs1, 0⟩] scope pos) 0 it .none X.env)
        ((nestG (.GeneratorExp elt [⟨tg, i0, ifs, 0⟩, ⟨tg1, i1, ifs1, 0⟩] scope pos) i1 .none X.env (.compLoop (.GeneratorExp elt [⟨tg, i0, ifs, 0⟩, ⟨tg1, i1, ifs1, 0⟩] scope pos) 0 it .none X.env)).onRaise lv) [] s := by
  intro ρ' μ a μ3 hv n1 n hn s₀ s σ2 φ H ip I st rp e1 hw hF hK
  obtain ⟨w1, m1, g1, g2⟩ := bind_ok hv
  have hn' : n1 + costL Y t1 (wipeE ρ' (slT t1 ++ slG .nil)) es1 (fun ρ => toB (evE Y e ρ)) (fun _ _ => 1) w1.1 m1 ≤ n := by
    unfold costN at hn
    rw [g1] at hn
    exact hn
  generalize hge : (Expr.GeneratorExp elt [⟨tg, i0, ifs, 0⟩, ⟨tg1, i1, ifs1, 0⟩] scope pos) = ge at hov hK ⊢
  unfold nestG
  rw [Sem.onRaise_eq_wrap]
  refine seg_bind_wrap ?_
  rw [hov]
  refine wpAny_mono (pi1.run _ s σ2 H (fun J H' => ∃ φ', Ext Z.K φ H φ' H' ∧ Rep Z φ' m1 H' ∧ JR Z w1 J φ' H') I ⟨ρ', μ, φ, st, rp, w1, m1, g1, fun J H' φ' e' r' j' => ⟨φ', e', r', j'⟩⟩) (fun xv s1 h1 => ?_) fun _ _ z => by rw [hxe] at z; exact z.elim
  refine seg_bind_wrap (wpAny_standAt ?_)
  refine seg_bind_wrap (wpAny_of_eq (fold_of hs1 xv) ?_)
  refine seg_bind_wrap ?_
  rw [hov]
  refine wpAny_holding (wpAny_mono h1 (fun itv s2 h2 => ?_) fun _ _ z => by rw [hxe] at z; exact z.elim)
  obtain ⟨ia, fp, tn, J, H2, rfl, I2, T1, st2, f2, φ2, e2, r2, jr⟩ := h2
  -- the loop within
  have ein : (model X.prog X.w).den (.compLoop ge 1 (.ref ia) .none X.env) = (turnG i1.pos tg1 ifs1 (.ref ia) X.env (emitG elt X.env (.compLoop ge 1 (.ref ia) .none X.env)) (.compLoop ge 1 (.ref ia) .none X.env)).onRaise (fun x => do noteFrame x X.env; theTreesLotGoes x) := by
    subst hge; rfl
  have est : (model X.prog X.w).den (.compStart ge 1 (.ref ia) .none X.env) = (compStart ge 1 (.ref ia) .none X.env).onRaise (fun x => do noteFrame x X.env; standAt theWindowsPlace) := by
    subst hge; rfl
  have hwt : (Code.compLoop ge 1 (.ref ia) .none X.env).weight = 0 := by subst hge; rfl
  have hut : (Code.compLoop ge 1 (.ref ia) .none X.env).cUnits = 0 := by subst hge; rfl
  have hws : (Code.compStart ge 1 (.ref ia) .none X.env).weight = 0 := by subst hge; rfl
  have hus : (Code.compStart ge 1 (.ref ia) .none X.env).cUnits = 0 := by subst hge; rfl
  rw [Sem.bind_eq_wrap', Sem.wrap_wrap]
  unfold runOwn
  rw [Sem.onRaise_eq_wrap, Sem.wrap_wrap]
  show Seg _ A2 _ _ n s₀ _ (.call (.compStart ge 1 (.ref ia) .none X.env) none false [] _) [] s2
  refine seg_call fun pp => ?_
  generalize hk : (fun r : Result => _) = kk
  have kN : kk (.ok .next) = (.pure (.again (.compLoop ge 0 it .none X.env)) : Sem PySem.Fin) := by subst hk; rfl
  have stin : StR Z φ2 H2 (wipeE ρ' (slT t1 ++ slG .nil)) (wipe σ2 (slT t1 ++ slG .nil)) := (st.ext e2).wipe _
  have hsub' : ∀ i ∈ slT t1 ++ slG .nil, i ∈ vs := fun i hi => by
    rcases List.mem_append.mp hi with h | h
    · exact hsub i h
    · simp [slG] at h
  have loop : Seg (model X.prog X.w) A2 (gR X pg stop Fin) (gY X pg stop Fin) n s₀ (.compLoop ge 1 (.ref ia) .none X.env) ((model X.prog X.w).den (.compLoop ge 1 (.ref ia) .none X.env)) [.ret kk none false [] (.compLoop ge 0 it .none X.env) pp []] s2 := by
    refine gloop (Y := Y) (Z := Z) (X := X) (pg := pg) (pins := pins ++ ip) (φ1 := φ1) (H1 := H1) (vs := slT t1 ++ slG .nil) (σ0 := wipe σ2 (slT t1 ++ slG .nil)) (stop := stop) (Fin := Fin) (nE := n1) (cost := fun _ _ => 1) (actE := fun ρ => toB (evE Y e ρ)) (c := .compLoop ge 1 (.ref ia) .none X.env) (body := emitG elt X.env (.compLoop ge 1 (.ref ia) .none X.env))
      T1 hc hxe ein rfl ((over_loop hwt hut).trans hov) pg1 pt1 jr stin (fun i hi => List.mem_append_left _ hi) wipe_wipe (fun b hb H' hH => ⟨hH, (f2 b hb).2⟩)
      (emit_body hco hxe rfl ((over_loop hwt hut).trans hov) rfl rfl (fun p hp => List.mem_append_left _ (hpg p hp)) he)
      w1.1 0 m1 a μ3 rfl (Nat.zero_le _) g2 hF (fun ha n' hn2 s₀' s' φ' H' I' r' e' e0' => ?_) n hn' s₀ s2 φ2 H2 (inv_wiped I2 rfl) r2 (e1.trans e2) .refl st2 fun b hb => (f2 b hb).1
    refine seg_leaf (.ok .next) ?_
    rw [kN]
    refine seg_again (by subst hge; rfl) (hK (by rw [ha]; cases stop <;> simp) n' hn2 s₀' s' _ φ' H' I' ?_ r' e' (e2.toEx0.trans e0'))
    rw [wipe_sub hsub', hw]
  rw [est]
  unfold compStart
  rw [Sem.onRaise_eq_wrap]
  have as1 : (clausesOf ge)[1]? = some ⟨tg1, i1, ifs1, 0⟩ := by subst hge; rfl
  simp only [as1]
  have hovs : A2.over (.compStart ge 1 (.ref ia) .none X.env) [.ret kk none false [] (.compLoop ge 0 it .none X.env) pp []] = X.A := (over_loop hws hus).trans hov
  show Seg _ A2 _ _ n s₀ _ ((ask >>= _).wrap _ _ _ _) _ s2
  refine seg_bind_wrap (wpAny_askSetting ?_)
  split
  · exact seg_again rfl loop
  · refine seg_bind_wrap (wpAny_rule ?_)
    show Seg _ A2 _ _ n s₀ _ ((standAt i1.pos >>= _).wrap _ _ _ _) _ s2
    refine seg_bind_wrap (wpAny_standAt (seg_bind_wrap ?_))
    exact T1.self _ 0 s2 _ _ st2 (seg_again rfl loop)
end
end Ev
end

section
set_option maxRecDepth 100000
set_option maxHeartbeats 2000000
/-! Gx4: all and any over a generator expression. -/
namespace Ev
open PySem L2 GenW PyProof.Rows

/-! ### the consumer -/
section
variable {X : Cx} {pg : List (Addr × PySem.Obj)} {Fin : Bool → Hp → Prop} {A : Around} {R : Result → Shared → Prop} {a : Addr} {g : Nat} {oa : PySem.Obj}
/-- where it ended -/
def Ended (X : Cx) (pg : List (Addr × PySem.Obj)) (Fin : Bool → Hp → Prop) (b : Bool) (s' : Shared) : Prop := ∃ σ H s1, L2.Inv X pg σ H s1 ∧ Fin b H ∧ s'.os = s1.os ∧ AllBare s'.gens ∧ ∀ c o, s1.heap.get? c = some o → s'.heap.get? c = some o
theorem setGen_ended {b : Bool} {σ : L2.St} {H : Hp} {s1 : Shared} {x : GenState} {h' : Heap} (I : L2.Inv X pg σ H s1) (hF : Fin b H) (hx : x.bare = true) (hk : ∀ c o, s1.heap.get? c = some o → h'.get? c = some o) : Ended X pg Fin b { s1.setGen g x with heap := h' } :=
  ⟨σ, H, s1, I, hF, rfl, allBare_setGen (s := s1) I.bare hx, hk⟩
theorem all_run (hh : A.handled = none) (hd : A.depth < recursionLimit) (hp : (a, oa) ∈ pg) (hoa : ∀ h : Heap, h.get? a = some oa → h.IsGen a g) (hR : ∀ b s', Ended X pg Fin b s' → R (.ok (.ret (.bool b))) s') :
    ∀ (n : Nat) (s : Shared), s.heap.IsGen a g → s.heap.NoLimit → (∃ gs, s.gens[g]? = some gs ∧ gs.Goes (model X.prog X.w) A.in1.in1 (gR X pg false Fin) (gY X pg false Fin) n (.send .none) (s.setGen g .running)) →
      codeAny (model X.prog X.w) A (.builtin "all.loop" ⟨[.ref a], []⟩) R s := by
  intro n
  induction n with
  | zero =>
    intro s hg hl ⟨gs, hgs, hgo⟩
    refine codeAny_builtin F.entry_all_loop ?_
    rw [Around.under_plainId F.plain_all_loop _]
    show wpAny _ A.in1 (pyNext (.ref a) >>= _) _ _ s
    refine wpAny_bind (wpAny_pyNext_genexpQ (A := A.in1) (P := fun _ _ s => ∃ σ H, L2.Inv X pg σ H s ∧ Fin (!false) H) hh hl hd hg hgs hgo (fun v s₁ gs' hbare hv => ?_) (fun s₁ hp h' hk => ?_))
    · obtain ⟨b, σ, H, rfl, I, h1, h2⟩ := hv
      by_cases hb : b = false
      · subst hb
        refine wpAny_bind (wpAny_holding (wpAny_truthy_bool ?_))
        refine wpAny_bind (wpAny_letGo ?_)
        simp only [Bool.false_eq_true, if_false]
        exact wpAny_bind (wpAny_rule (wpAny_pure (hR false _ (setGen_ended (h' := s₁.heap) I (h1 rfl) hbare fun _ _ q => q))))
      · exact (h2 hb s₁ rfl rfl I.bare).elim
    · obtain ⟨σ, H, I, hF⟩ := hp
      exact wpAny_bind (wpAny_rule (wpAny_pure (hR true _ (setGen_ended (h' := h') I hF rfl hk))))
  | succ n ih =>
    intro s hg hl ⟨gs, hgs, hgo⟩
    have hgl : g < s.gens.size := (Array.getElem?_eq_some_iff.mp hgs).1
    refine codeAny_builtin F.entry_all_loop ?_
    rw [Around.under_plainId F.plain_all_loop _]
    show wpAny _ A.in1 (pyNext (.ref a) >>= _) _ _ s
    refine wpAny_bind (wpAny_gsz (n := g + 1) hgl (wpAny_pyNext_genexpQ (A := A.in1) (P := fun _ _ s => ∃ σ H, L2.Inv X pg σ H s ∧ Fin (!false) H) hh hl hd hg hgs hgo (fun v s₁ gs' hbare hv => ?_) (fun s₁ hp h' hk => ?_)))
    · intro hsz
      obtain ⟨b, σ, H, rfl, I, h1, h2⟩ := hv
      refine wpAny_bind (wpAny_holding (wpAny_truthy_bool ?_))
      refine wpAny_bind (wpAny_letGo ?_)
      cases b with
      | false =>
        simp only [Bool.false_eq_true, if_false]
        exact wpAny_bind (wpAny_rule (wpAny_pure (hR false _ (setGen_ended (h' := s₁.heap) I (h1 rfl) hbare fun _ _ q => q))))
      | true =>
        simp only [if_true]
        have hsz1 : g < s₁.gens.size := by
          have q : (s₁.setGen g gs').gens.size = s₁.gens.size := setGen_size _ _ _
          have hsz' : g + 1 ≤ (s₁.setGen g gs').gens.size := hsz
          omega
        refine wpAny_pure ⟨plainId_quiet F.plain_all_loop _, ih _ (hoa _ (I.pin (a, oa) (List.mem_append_right _ hp)).1) I.nolimit ⟨gs', setGen_at hsz1, ?_⟩⟩
        exact h2 (by simp) _ rfl rfl (allBare_setGen (s := s₁.setGen g gs') (allBare_setGen I.bare hbare) rfl)
    · intro _
      obtain ⟨σ, H, I, hF⟩ := hp
      exact wpAny_bind (wpAny_rule (wpAny_pure (hR true _ (setGen_ended (h' := h') I hF rfl hk))))
theorem any_run (hh : A.handled = none) (hd : A.depth < recursionLimit) (hp : (a, oa) ∈ pg) (hoa : ∀ h : Heap, h.get? a = some oa → h.IsGen a g) (hR : ∀ b s', Ended X pg Fin b s' → R (.ok (.ret (.bool b))) s') :
    ∀ (n : Nat) (s : Shared), s.heap.IsGen a g → s.heap.NoLimit → (∃ gs, s.gens[g]? = some gs ∧ gs.Goes (model X.prog X.w) A.in1.in1 (gR X pg true Fin) (gY X pg true Fin) n (.send .none) (s.setGen g .running)) →
      codeAny (model X.prog X.w) A (.builtin "any.loop" ⟨[.ref a], []⟩) R s := by
  intro n
  induction n with
  | zero =>
    intro s hg hl ⟨gs, hgs, hgo⟩
    refine codeAny_builtin F.entry_any_loop ?_
    rw [Around.under_plainId F.plain_any_loop _]
    show wpAny _ A.in1 (pyNext (.ref a) >>= _) _ _ s
    refine wpAny_bind (wpAny_pyNext_genexpQ (A := A.in1) (P := fun _ _ s => ∃ σ H, L2.Inv X pg σ H s ∧ Fin (!true) H) hh hl hd hg hgs hgo (fun v s₁ gs' hbare hv => ?_) (fun s₁ hp h' hk => ?_))
    · obtain ⟨b, σ, H, rfl, I, h1, h2⟩ := hv
      by_cases hb : b = true
      · subst hb
        refine wpAny_bind (wpAny_holding (wpAny_truthy_bool ?_))
        refine wpAny_bind (wpAny_letGo ?_)
        simp only [if_true]
        exact wpAny_bind (wpAny_rule (wpAny_pure (hR true _ (setGen_ended (h' := s₁.heap) I (h1 rfl) hbare fun _ _ q => q))))
      · exact (h2 hb s₁ rfl rfl I.bare).elim
    · obtain ⟨σ, H, I, hF⟩ := hp
      exact wpAny_bind (wpAny_rule (wpAny_pure (hR false _ (setGen_ended (h' := h') I hF rfl hk))))
  | succ n ih =>
    intro s hg hl ⟨gs, hgs, hgo⟩
    have hgl : g < s.gens.size := (Array.getElem?_eq_some_iff.mp hgs).1
    refine codeAny_builtin F.entry_any_loop ?_
    rw [Around.under_plainId F.plain_any_loop _]
    show wpAny _ A.in1 (pyNext (.ref a) >>= _) _ _ s
    refine wpAny_bind (wpAny_gsz (n := g + 1) hgl (wpAny_pyNext_genexpQ (A := A.in1) (P := fun _ _ s => ∃ σ H, L2.Inv X pg σ H s ∧ Fin (!true) H) hh hl hd hg hgs hgo (fun v s₁ gs' hbare hv => ?_) (fun s₁ hp h' hk => ?_)))
    · intro hsz
      obtain ⟨b, σ, H, rfl, I, h1, h2⟩ := hv
      refine wpAny_bind (wpAny_holding (wpAny_truthy_bool ?_))
      refine wpAny_bind (wpAny_letGo ?_)
      cases b with
      | true =>
        simp only [if_true]
        exact wpAny_bind (wpAny_rule (wpAny_pure (hR true _ (setGen_ended (h' := s₁.heap) I (h1 rfl) hbare fun _ _ q => q))))
      | false =>
        simp only [Bool.false_eq_true, if_false]
        have hsz1 : g < s₁.gens.size := by
          have q : (s₁.setGen g gs').gens.size = s₁.gens.size := setGen_size _ _ _
          have hsz' : g + 1 ≤ (s₁.setGen g gs').gens.size := hsz
          omega
        refine wpAny_pure ⟨plainId_quiet F.plain_any_loop _, ih _ (hoa _ (I.pin (a, oa) (List.mem_append_right _ hp)).1) I.nolimit ⟨gs', setGen_at hsz1, ?_⟩⟩
        exact h2 (by simp) _ rfl rfl (allBare_setGen (s := s₁.setGen g gs') (allBare_setGen I.bare hbare) rfl)
    · intro _
      obtain ⟨σ, H, I, hF⟩ := hp
      exact wpAny_bind (wpAny_rule (wpAny_pure (hR false _ (setGen_ended (h' := h') I hF rfl hk))))
end
end Ev
end

section
set_option maxRecDepth 100000
set_option maxHeartbeats 2000000
/-! Gx5: all, any of a generator expression: as terms. -/
namespace Ev
open PySem L2 GenW PyProof.Rows GxR

/-- a table is no object of the store -/
theorem or_noTab {Z : Wh} {φ : List Addr} {H : Hp} {P : Addr} {ob : Ev.Obj} {ps : Array Value} (h : OR Z φ H P ob) (hP : H P = some (.tbl ps)) : False := by
  cases ob with
  | lst xs => obtain ⟨vs, h1, _⟩ := h; rw [hP] at h1; cases h1
  | dct kvs =>
    rcases h with ⟨kk, h1, h2⟩ | ⟨hn, xs, h1, h2⟩
    · rw [hP] at h1; cases h1
    · rw [hP] at h1; cases h1
  | set xs =>
    rcases h.2 with ⟨ns, S, h1, h2, h3⟩ | ⟨L, h1, h2⟩
    · rw [hP] at h2; unfold SetO at h2; cases h2
    · rw [hP] at h1; unfold SetTO at h1; cases h1
  | ins _ _ => exact h
theorem Rep.noTab {Z : Wh} {φ : List Addr} {μ : Store} {H : Hp} {P : Addr} {ps : Array Value} (R : Rep Z φ μ H) (hP : H P = some (.tbl ps)) : P ∉ φ := fun hm => by
  obtain ⟨n, hn⟩ := List.mem_iff_getElem?.mp hm
  have h1 := (List.getElem?_eq_some_iff.mp hn).1
  have h2 : n < μ.length := by rw [← R.len]; exact h1
  exact or_noTab (R.obj n _ P (List.getElem?_eq_getElem h2) hn) hP
theorem Rep.grown {Z : Wh} {φ : List Addr} {μ : Store} {H : Hp} {P : Addr} {ps ps' : Array Value} (R : Rep Z φ μ H) (hP : H P = some (.tbl ps)) (ht : TriplesOk ps'.toList) :
    Rep Z φ μ (L2.upd H P (.tbl ps')) ∧ Ext Z.K φ H φ (L2.upd H P (.tbl ps')) := by
  have hx : HExt Z.K H (L2.upd H P (.tbl ps')) := .upd hP (fun _ z => by cases z) fun _ _ z => by cases z
  have hn := R.noTab hP
  refine ⟨⟨R.len, R.nd, fun k w b eb hb => (R.obj k w b eb hb).ext_ne0 ⟨List.prefix_refl _, hx⟩ (upd_ne fun z => hn (by rw [← z]; exact List.mem_of_getElem? hb)), fun Q hQ => ?_⟩, ⟨⟨List.prefix_refl _, hx⟩, fun b u h hb nt => ?_, fun b q h => ?_, fun _ h h' => absurd h h'⟩⟩
  · by_cases e : Q = P
    · subst e; exact ⟨ps', upd_same, ht⟩
    · exact tab_ne (R.tab Q hQ) e
  · rw [upd_ne fun e => by rw [e, hP] at h; exact nt ps (Option.some.inj h).symm]; exact h
  · by_cases e : b = P
    · subst e; exact ⟨ps', upd_same⟩
    · exact ⟨q, by rw [upd_ne e]; exact h⟩

section
variable {Y : Sys} {Z : Wh} {k : Nat} {c : CC} {X : Cx}
theorem Good.gen (G : Good Y Z k c X) (ht : c.tb = true) {scope : Scope} (hcell : ∀ y ∈ scope.names, y.2 ≠ .cell) (s : Shared) (H : Hp) {genv : PySem.Env} (hsc : genv.scope = scope) (fp : List Addr) {A : Around} (hA : Room k A) :
    Good Y Z k { c with sc := scope, tb := false } (gxOf X s H genv fp A) := by
  subst hsc
  refine ⟨G.P, G.w, G.K, G.N, G.nd, G.calm, hA, (fun h => by cases h), (fun h => by cases h), fun x h => ?_, fun x h => ?_, fun x h => ?_, ⟨G.mo.con, G.mo.bt, G.mo.fn⟩, fun x h => h⟩
  · unfold isVis at h
    split at h
    · rename_i e; exact .inl e
    · rename_i e; exact .inr (.inl e)
    · rename_i e; exact .inr (.inr e)
    · cases h
  · unfold isGlo at h
    split at h
    · rename_i e; exact e
    · cases h
  · rcases h with h | h
    · exact ⟨.inl h, .inr h⟩
    · exact absurd rfl (hcell _ (PySem.mem_of_lookup h))
theorem genB_inv {scope : Scope} (h : genB scope = true) : scope.isCoroutine = false ∧ (∀ y ∈ scope.names, y.2 ≠ .cell) ∧ scope.names.lookup (".0" : Str) = some NameKind.local := by
  unfold genB at h
  simp only [Bool.and_eq_true, Bool.not_eq_true', List.all_eq_true, decide_eq_true_eq] at h
  refine ⟨h.1.1, fun y hy e => ?_, h.2⟩
  have := h.1.2 y hy
  rw [e] at this
  cases this
end

section
variable {Y : Sys} {Z : Wh} {k : Nat} {c : CC} {X : Cx} {pins : List (Addr × PySem.Obj)} {σ : L2.St} {H : Hp} {s : Shared}
/-- the parts of the block, in its context -/
structure Parts (Y : Sys) (Z : Wh) (X' : Cx) (elt : Expr) (gens : List Comprehension) (e : E) (g : Gs) : Prop where
  elt : PE X' elt (tE Y Z e)
  cls : (∃ tg i0 ifs t it es, gens = [⟨tg, i0, ifs, 0⟩] ∧ g = .cons t it es .nil ∧ PG X' tg (tG Z t) ∧ PTs X' ifs (tIfs Y Z es)) ∨
    ∃ tg i0 ifs t it es tg1 i1 ifs1 t1 it1 es1, gens = [⟨tg, i0, ifs, 0⟩, ⟨tg1, i1, ifs1, 0⟩] ∧ g = .cons t it es (.cons t1 it1 es1 .nil) ∧ PG X' tg (tG Z t) ∧ PTs X' ifs (tIfs Y Z es) ∧
      isSetE i1 = false ∧ PI X' tg1 i1 (tI Y Z it1) ∧ PG X' tg1 (tG Z t1) ∧ PTs X' ifs1 (tIfs Y Z es1)
theorem over_gen {A : Around} {elt : Expr} {gens : List Comprehension} {scope : Scope} {pos : Pos} {it acc : Value} {env : PySem.Env} :
    (A.over (.compLoop (.GeneratorExp elt gens scope pos) 0 it acc env) []) = A.deeper env := by
  first
    | rfl
    | (obtain ⟨hd, d, fr, gs, u⟩ := A; simp [Around.over, Around.deeper, marksOver, frameCount, unitsOf, envsOf, guardsOf, pushEnvs, pushGuards, Code.envs, Code.env?, Code.isFrame, Code.guards, Code.isGuard, Code.weight, Code.frames, Code.isCreation, Code.isCaller, Code.cUnits])
theorem over_gen0 {A : Around} {elt : Expr} {gens : List Comprehension} {scope : Scope} {pos : Pos} {it acc : Value} {env : PySem.Env} :
    (A.over (.compStart (.GeneratorExp elt gens scope pos) 0 it acc env) []) = A.deeper env := by
  first
    | rfl
    | (obtain ⟨hd, d, fr, gs, u⟩ := A; simp [Around.over, Around.deeper, marksOver, frameCount, unitsOf, envsOf, guardsOf, pushEnvs, pushGuards, Code.envs, Code.env?, Code.isFrame, Code.guards, Code.isGuard, Code.weight, Code.frames, Code.isCreation, Code.isCaller, Code.cUnits])
/-- the generator's code from its start -/
theorem gen_goes {X' : Cx} {pg : List (Addr × PySem.Obj)} {stop : Bool} {Fin : Bool → Hp → Prop} {A2 : Around} {elt tg i0 : Expr} {ifs : List Expr} {rest : List Comprehension} {scope : Scope} {pos : Pos} {e : E} {t : T} {it : Ev.It} {es : Es} {rg : Gs} {ia : Addr}
    {fp : List Addr} {tn : Nat → Heap → Prop} {J : L2.It} {w : Walk} {φ φb φ0 : List Addr} {H Hb H0 : Hp} {σ0 : L2.St} {ρ0 : Env} {μ μf : Store} {b : Bool} {s₀ s0 : Shared}
    (T1 : Turn X'.prog X'.w X'.K tg J fp ia tn) (hc : X'.calm = true) (hco : X'.env.scope.isCoroutine = false) (hxe : X'.xe = fun _ _ => False) (hov : A2.deeper X'.env = X'.A)
    (P : Parts Y Z X' elt (⟨tg, i0, ifs, 0⟩ :: rest) e (.cons t it es rg)) (jr : JR Z w J φb Hb) (st : StR Z φb Hb ρ0 σ0) (hw : wipe σ0 (slT t ++ slG rg) = σ0) (hst : ∀ b ∈ fp, ∀ H', H' b = none → FpOk X' pg H' b)
    (run : loopA t w.2 ρ0 stop (fun ρ' => do if (← evIfs Y es ρ') then evA Y stop (evE Y e) rg ρ' else pure (!stop)) w.1 μ = .ok b μf)
    (hF : ∀ φ' H', Ext Z.K φ H φ' H' → Rep Z φ' μf H' → Fin b H') (I : L2.Inv X' pg σ0 H0 s0) (rp : Rep Z φ0 μ H0) (e1 : Ext Z.K φ H φ0 H0) (e0 : Ex0 Z.K φb Hb φ0 H0) (ht : tn 0 s0.heap) (hn0 : ∀ b ∈ fp, H0 b = none) :
    ∃ n, Seg (model X'.prog X'.w) A2 (gR X' pg stop Fin) (gY X' pg stop Fin) n s₀ (.compStart (.GeneratorExp elt (⟨tg, i0, ifs, 0⟩ :: rest) scope pos) 0 (.ref ia) .none X'.env)
      ((model X'.prog X'.w).den (.compStart (.GeneratorExp elt (⟨tg, i0, ifs, 0⟩ :: rest) scope pos) 0 (.ref ia) .none X'.env)) [] s0 := by
  have key : ∃ n, Seg (model X'.prog X'.w) A2 (gR X' pg stop Fin) (gY X' pg stop Fin) n s₀ (.compLoop (.GeneratorExp elt (⟨tg, i0, ifs, 0⟩ :: rest) scope pos) 0 (.ref ia) .none X'.env)
      ((model X'.prog X'.w).den (.compLoop (.GeneratorExp elt (⟨tg, i0, ifs, 0⟩ :: rest) scope pos) 0 (.ref ia) .none X'.env)) [] s0 := by
    have hF1 : b = stop → ∀ φ' H', Ext Z.K φ H φ' H' → Rep Z φ' μf H' → Fin stop H' := fun hb φ' H' e' r' => by rw [← hb]; exact hF φ' H' e' r'
    have hE1 : b = (!stop) → ∀ n, 0 ≤ n → ∀ s₀ s φ' H', L2.Inv X' pg σ0 H' s → Rep Z φ' μf H' → Ext Z.K φ H φ' H' → Ex0 Z.K φb Hb φ' H' →
        Seg (model X'.prog X'.w) A2 (gR X' pg stop Fin) (gY X' pg stop Fin) n s₀ (.compLoop (.GeneratorExp elt (⟨tg, i0, ifs, 0⟩ :: rest) scope pos) 0 (.ref ia) .none X'.env) (leafOf (.ok .next)) [] s := fun hb n _ s₀ s φ' H' I' r' e' _ =>
      seg_end (.ok .next) ⟨rfl, σ0, H', I', by rw [← hb]; exact hF φ' H' e' r'⟩
    rcases P.cls with ⟨tg', i0', ifs', t', it', es', hg, hgs, pt, pts⟩ | ⟨tg', i0', ifs', t', it', es', tg1, i1, ifs1, t1, it1, es1, hg, hgs, pt, pts, hs1, pi1, pt1, pts1⟩
    · cases hg; cases hgs
      refine ⟨_, gloop (Y := Y) (Z := Z) (X := X') (pg := pg) (pins := pg) (φ1 := φ) (H1 := H) (vs := slT t ++ slG .nil) (σ0 := σ0) (stop := stop) (Fin := Fin) (nE := 0) (cost := fun _ _ => 1) (actE := fun ρ => toB (evE Y e ρ)) (c := .compLoop (.GeneratorExp elt [⟨tg, i0, ifs, 0⟩] scope pos) 0 (.ref ia) .none X'.env) (lv := leaving X'.env)
        T1 hc hxe rfl rfl (over_gen.trans hov) pt pts jr st (fun i hi => List.mem_append_left _ hi) hw hst
        (emit_body hco hxe rfl (over_gen.trans hov) rfl rfl (fun p hp => hp) P.elt)
        w.1 0 μ b μf rfl (Nat.zero_le _) run hF1 hE1 _ (Nat.le_refl _) s₀ s0 φ0 H0 I rp e1 e0 ht hn0⟩
    · cases hg; cases hgs
      refine ⟨_, gloop (Y := Y) (Z := Z) (X := X') (pg := pg) (pins := pg) (φ1 := φ) (H1 := H) (vs := slT t ++ slG (.cons t1 it1 es1 .nil)) (σ0 := σ0) (stop := stop) (Fin := Fin) (nE := 0) (cost := costN Y t1 it1 es1 e) (actE := fun ρ => evA Y stop (evE Y e) (.cons t1 it1 es1 .nil) ρ) (c := .compLoop (.GeneratorExp elt [⟨tg, i0, ifs, 0⟩, ⟨tg1, i1, ifs1, 0⟩] scope pos) 0 (.ref ia) .none X'.env) (lv := leaving X'.env)
        T1 hc hxe rfl rfl (over_gen.trans hov) pt pts jr st (fun i hi => List.mem_append_left _ hi) hw hst
        (nest_body hc hco hxe (over_gen.trans hov) (fun p hp => hp) hs1 P.elt pi1 pt1 pts1 (fun i hi => List.mem_append_right _ (by simp only [slG, List.mem_append]; exact .inl hi)))
        w.1 0 μ b μf rfl (Nat.zero_le _) run hF1 hE1 _ (Nat.le_refl _) s₀ s0 φ0 H0 I rp e1 e0 ht hn0⟩
  obtain ⟨n, loop⟩ := key
  refine ⟨n, ?_⟩
  show Seg _ A2 _ _ _ s₀ _ ((compStart (.GeneratorExp elt (⟨tg, i0, ifs, 0⟩ :: rest) scope pos) 0 (.ref ia) .none X'.env).onRaise (leaving X'.env)) [] s0
  unfold compStart
  rw [Sem.onRaise_eq_wrap]
  show Seg _ A2 _ _ _ s₀ _ ((ask >>= _).wrap _ _ _ _) [] s0
  refine seg_bind_wrap (wpAny_askSetting ?_)
  split
  · exact seg_again rfl loop
  · refine seg_bind_wrap (wpAny_rule ?_)
    show Seg _ A2 _ _ _ s₀ _ ((standAt i0.pos >>= _).wrap _ _ _ _) [] s0
    refine seg_bind_wrap (wpAny_standAt (seg_bind_wrap ?_))
    exact T1.self _ 0 s0 _ _ ht (seg_again rfl loop)
end
end Ev
end

section
set_option maxRecDepth 100000
set_option maxHeartbeats 2000000
/-! Gx6: all, any of a generator expression: the rules. -/
namespace Ev
open PySem L2 GenW PyProof.Rows GxR

section
variable {Y : Sys} {Z : Wh} {k : Nat} {c : CC} {X : Cx} {pins : List (Addr × PySem.Obj)} {σ : L2.St} {H : Hp} {s : Shared}
theorem gen_ready {elt tg i0 : Expr} {ifs : List Expr} {rest : List Comprehension} {scope : Scope} {gpos : Pos} {e : E} {t : T} {it : Ev.It} {es : Es} {rg : Gs} {stop : Bool} {Q : VK} {Q' : Value → Shared → Prop}
    (G : Good Y Z k c X) (htb : c.tb = true) (hgen : genB scope = true) (hblk : blkB c.N c.sc scope (slG (.cons t it es rg)) = true) (hl : isLst i0 = false) (hsE : isSetE i0 = false) (pi0 : PI X tg i0 (tI Y Z it))
    (P : ∀ X', Good Y Z k { c with sc := scope, tb := false } X' → Parts Y Z X' elt (⟨tg, i0, ifs, 0⟩ :: rest) e (.cons t it es rg)) (I : L2.Inv X pins σ H s)
    (h : ∃ ρ μ φ, StR Z φ H ρ σ ∧ Rep Z φ μ H ∧ ∃ b μ', evA Y stop (evE Y e) (.cons t it es rg) ρ μ = .ok b μ' ∧ Kv Z φ H μ' (.bl b) Q)
    (hQ : ∀ (a : Addr) (s5 : Shared) (X' : Cx) (pg : List (Addr × PySem.Obj)) (oa : PySem.Obj) (g n : Nat) (gs : GenState) (Fin : Bool → Hp → Prop), X'.prog = X.prog → X'.w = X.w → (a, oa) ∈ pg → (∀ h : Heap, h.get? a = some oa → h.IsGen a g) → s5.heap.IsGen a g → s5.heap.NoLimit →
      s5.gens[g]? = some gs → gs.Goes (model X'.prog X'.w) X.A.in1.in1 (gR X' pg stop Fin) (gY X' pg stop Fin) n (.send .none) (s5.setGen g .running) → (∀ b s', Ended X' pg Fin b s' → EP X pins σ Q (.bool b) s') → Q' (.ref a) s5) :
    wpAny (model X.prog X.w) X.A (eval (.GeneratorExp elt (⟨tg, i0, ifs, 0⟩ :: rest) scope gpos) X.env) Q' X.xe s := by
  obtain ⟨ρ, μ, φ, st, rp, b, μ', hv, q⟩ := h
  obtain ⟨w, m1, g1, g2⟩ := bind_ok hv
  obtain ⟨hco, hcell, hdot⟩ := genB_inv hgen
  obtain ⟨ok, own⟩ := blk_ok G hblk
  have room := G.room1 htb
  obtain ⟨cc, PP, hcode, TB, hPt⟩ := G.tab htb
  have hfree : ∀ y ∈ scope.names, y.2 = .free → ∃ c, X.env.cells.lookup y.1 = some c := fun y hy e => by
    rcases ok.free y hy e with k | k
    · exact I.ok.has _ (.inl k)
    · exact I.ok.has _ (.inr k)
  refine gen_make hco hl hsE (closure_ok hfree) hcell hdot ok.kind (Nat.lt_of_le_of_lt (by omega) room.dp) ?_
  refine thn (pi0.run pins s σ H (fun J H' => ∃ φ', Ext Z.K φ H φ' H' ∧ Rep Z φ' m1 H' ∧ JR Z w J φ' H') I ⟨ρ, μ, φ, st, rp, w, m1, g1, fun J H' φ' e' r' j' => ⟨φ', e', r', j'⟩⟩) fun xv s1 h1 => thn h1 fun itv s2 h2 => ?_
  obtain ⟨ia, fp, tn, J, H2, rfl, I2, T1, st2, f2, φ2, e2, r2, jr⟩ := h2
  refine ⟨I2.nolimit, ?_⟩
  obtain ⟨ps, hP, ht⟩ := r2.tab PP hPt
  have hPs : s2.heap.get? PP = some { cls := .none, data := .fields ps } := I2.hok PP _ hP
  have cd : PySem.W.CodeHd s2.heap cc PP := TB.code.keeps fun b u e => I2.bk b u e
  have fpP : ∀ b ∈ fp, b ≠ PP := fun b hb e => by
    have := (f2 b hb).1
    rw [e, hP] at this; cases this
  -- behind the code object
  have cont : ∀ (code : Value) (s3 : Shared) (H3 : Hp), L2.Inv X pins σ H3 s3 → Rep Z φ2 m1 H3 → Ext Z.K φ2 H2 φ2 H3 → (∀ b ∈ fp, H3 b = none) → tn 0 s3.heap → (∀ b ∈ fp, b < s3.heap.objs.size) →
      wpAny (model X.prog X.w) X.A (builtinsFor X.env.globals X.env.builtins) (fun bi s₄ =>
        ∀ h', h'.Ns s₄.heap.objs.size (fun y => if y = ".0" then some (.ref ia) else none) → Heap.SameBut s₄.heap.objs.size (s₄.heap.push { cls := .type "frame", data := .dict #[] }) h' →
          Q' (.ref h'.objs.size) { s₄ with
            gens := s₄.gens.push (.fresh (.compStart (.GeneratorExp elt (⟨tg, i0, ifs, 0⟩ :: rest) scope gpos) 0 (.ref ia) .none (genEnv scope (cloFrom X.env.cells scope.names []) s₄.heap.objs.size code bi X.env))),
            toks := s₄.toks + 1 + 1 + 1,
            heap := h'.push { cls := .type "generator", data := .fields #[.int s₄.gens.size 0, .str "<genexpr>" (s₄.toks + 1), .str (X.env.qual ++ "<genexpr>") (s₄.toks + 1 + 1)] } }) X.xe s3 := by
    intro code s3 H3 I3 r3 e3 n3 ht3 sz3
    obtain ⟨bm, ob, b1, b2, b3, b4, b5, b6, b7, b8⟩ := TB.bm
    refine wpAny_builtinsFor (m := X.mg) (by rw [I3.ok.glob]; exact I3.mod.glob.keeps I3.bk) b1 b2 (I3.bk _ _ b5) b6 b7 b8 ?_
    intro h' hn hs
    have f3 : ∀ b ∈ fp, FpOk X pins H3 b := fun b hb => ⟨n3 b hb, (f2 b hb).2⟩
    have hsz : h'.objs.size = s3.heap.objs.size + 1 := by rw [hs.1, Heap.size_push]
    have frm : ∀ genv : PySem.Env, (X.A.in1.in1.deeper genv).frames = some (genv :: X.stack) := fun genv => by
      show (X.A.frames).map (genv :: ·) = _
      rw [I3.ok.frames]; rfl
    have I5 := gen_start (A := X.A.in1.in1.deeper (genEnv scope (cloFrom X.env.cells scope.names []) s3.heap.objs.size code builtinsNs X.env)) (fp := fp) (code := code) (it := .ref ia) (h' := h') (o := { cls := .type "generator", data := .fields #[.int s3.gens.size 0, .str "<genexpr>" (s3.toks + 1), .str (X.env.qual ++ "<genexpr>") (s3.toks + 1 + 1)] })
      (gs := .fresh (.compStart (.GeneratorExp elt (⟨tg, i0, ifs, 0⟩ :: rest) scope gpos) 0 (.ref ia) .none (genEnv scope (cloFrom X.env.cells scope.names []) s3.heap.objs.size code builtinsNs X.env))) (tk := s3.toks + 1 + 1 + 1)
      I3 ok (by rw [G.N]; exact G.nd) hcell (fun b hb => ⟨f3 b hb, sz3 b hb⟩) (frm _) (fun hc => I3.ok.hd hc) hn hs rfl rfl (fun v z => by cases z)
    rw [own] at I5
    generalize hge : genEnv scope (cloFrom X.env.cells scope.names []) s3.heap.objs.size code builtinsNs X.env = genv at I5 ⊢
    have hscg : genv.scope = scope := by rw [← hge]; rfl
    have hlg : genv.locals = s3.heap.objs.size := by rw [← hge]; rfl
    have GG : Good Y Z k { c with sc := scope, tb := false } (gxOf X s3 H3 genv fp (X.A.in1.in1.deeper genv)) := G.gen htb hcell s3 H3 hscg fp ⟨room.hd, by have := room.dp; show X.A.depth + 1 + 3 * k + 5 < _; omega, by have := room.un; show X.A.units + 1 + 1 + 3 + 16 * k + 200 < _; omega⟩
    have GO := gen_goes (Y := Y) (Z := Z) (X' := gxOf X s3 H3 genv fp (X.A.in1.in1.deeper genv)) (A2 := X.A.in1.in1) (pg := [(h'.objs.size, _)]) (stop := stop) (Fin := fun b' H' => Q (.bl b') H') (b := b) (φ := φ) (H := H) (φb := φ2) (Hb := H2) (φ0 := φ2) (H0 := H3) (σ0 := wipe σ (slG (.cons t it es rg))) (ρ0 := wipeE ρ (slG (.cons t it es rg))) (scope := scope) (pos := gpos) (μf := μ')
      (s0 := ({ s3 with gens := s3.gens.push (.fresh (.compStart (.GeneratorExp elt (⟨tg, i0, ifs, 0⟩ :: rest) scope gpos) 0 (.ref ia) .none genv)), toks := s3.toks + 1 + 1 + 1, heap := h'.push { cls := .type "generator", data := .fields #[.int s3.gens.size 0, .str "<genexpr>" (s3.toks + 1), .str (X.env.qual ++ "<genexpr>") (s3.toks + 1 + 1)] } } : Shared).setGen s3.gens.size .running)
      (s₀ := ({ s3 with gens := s3.gens.push (.fresh (.compStart (.GeneratorExp elt (⟨tg, i0, ifs, 0⟩ :: rest) scope gpos) 0 (.ref ia) .none genv)), toks := s3.toks + 1 + 1 + 1, heap := h'.push { cls := .type "generator", data := .fields #[.int s3.gens.size 0, .str "<genexpr>" (s3.toks + 1), .str (X.env.qual ++ "<genexpr>") (s3.toks + 1 + 1)] } } : Shared).setGen s3.gens.size .running)
      T1 G.calm (by rw [show (gxOf X s3 H3 genv fp (X.A.in1.in1.deeper genv)).env.scope = scope from hscg]; exact hco) rfl rfl (P _ GG) jr ((st.ext e2).wipe _) wipe_wipe (fun b hb H' hH => by
        refine ⟨hH, (I5.ok.exf b hb).1, I5.ok.exfs b hb, .inl hb, fun x c e => (I5.ok.exf b hb).2 x c e, fun p hp => ?_⟩
        have hp1 : p.1 = h'.objs.size := congrArg Prod.fst (List.mem_singleton.mp hp)
        intro e
        have h3 := sz3 b hb
        rw [← e, hp1, hsz] at h3
        exact absurd (Nat.lt_of_succ_lt h3) (Nat.lt_irrefl _)) g2 (fun φ' H' e' r' => q (.bl b) H' φ' e' r' rfl) (inv_slept I5 rfl rfl (allBare_setGen (s := { s3 with gens := _ }) I5.bare rfl)) r3 (e2.trans e3) e3.toEx0 (T1.keep _ _ _ ht3 fun b hb o eo => by
          refine Heap.get?_push_of_some _ ?_
          rw [hs.2 b (Nat.ne_of_lt (sz3 b hb))]
          exact Heap.get?_push_of_some _ eo) n3
    obtain ⟨n, GO⟩ := GO
    refine hQ h'.objs.size _ (gxOf X s3 H3 genv fp (X.A.in1.in1.deeper genv)) _ _ s3.gens.size n (.fresh (.compStart (.GeneratorExp elt (⟨tg, i0, ifs, 0⟩ :: rest) scope gpos) 0 (.ref ia) .none genv)) (fun b' H' => Q (.bl b') H') rfl rfl List.mem_cons_self (fun h hh => ⟨_, _, _, hh, rfl, rfl, rfl⟩) ⟨_, _, _, Heap.get?_push_size _ rfl, rfl, rfl, rfl⟩ I5.nolimit (by simp) ⟨rfl, GO⟩ fun b' s' hEnd => ?_
    obtain ⟨σ', H', s1', I6, hF, os', bare', kp'⟩ := hEnd
    have I7 : L2.Inv X pins σ H' s' := I3.call' (ch := fp) (os'.trans I6.os) (I6.base.trans (Un.kept kp')) (I6.hok.kept kp') bare' fun b hb => ⟨(f3 b hb).2.2.2.1, (f3 b hb).2.1, (f3 b hb).2.2.2.2.1, (f3 b hb).2.2.2.2.2⟩
    exact ⟨.bl b', H', I7, rfl, hF⟩
  have szfp : ∀ b ∈ fp, b < s2.heap.objs.size := fun b hb => by
    obtain ⟨o, eo, _⟩ := T1.obj _ _ st2 b hb
    exact Heap.lt_size eo
  cases hf : codeAmong gpos ps.toList with
  | none =>
    refine wpAny_genexprCodeX hcode (cd.code hPs ht) (cd.tab hPs) hf fun c' h' tk hx hge hlt hco' _ htab' _ => ?_
    obtain ⟨o1, vs, f1, tf, fl, tg', inF, tx, tt, op, _, _, _, _, _, _, _, _, _, htr, _⟩ := hco'
    have I3 := inv_tab (more := #[rawInt gpos.line, rawInt gpos.col, .ref c']) (h' := h') (g' := s2.gens) (d' := s2.drawn) (t' := tk) I2 hP (fun b o hb eo => hx b o hb eo) htab'.2 I2.bare
    obtain ⟨r3, e3⟩ := r2.grown (ps' := ps ++ #[rawInt gpos.line, rawInt gpos.col, .ref c']) hP htr
    refine cont _ { s2 with heap := h', toks := tk } _ I3 r3 e3 (fun b hb => by rw [upd_ne (fpP b hb)]; exact (f2 b hb).1) (T1.keep _ _ _ st2 fun b hb o eo => hx b o (fpP b hb) eo) fun b hb => ?_
    exact Nat.lt_of_lt_of_le (szfp b hb) (Nat.le_of_lt (Nat.lt_of_le_of_lt hge hlt))
  | some cv =>
    refine wpAny_genexprCode_hit hcode (cd.code hPs ht) hf ?_
    exact cont cv s2 H2 I2 r2 .refl (fun b hb => (f2 b hb).1) st2 szfp
theorem star_gen {elt : Expr} {gens : List Comprehension} {scope : Scope} {gpos : Pos} {es : List Expr} {env : PySem.Env} : starEach (.GeneratorExp elt gens scope gpos :: es) env = (false, eval (.GeneratorExp elt gens scope gpos) env) :: starEach es env := rfl
theorem s_all {elt tg i0 : Expr} {ifs : List Expr} {rest : List Comprehension} {scope : Scope} {gpos p pos : Pos} {e : E} {t : T} {it : Ev.It} {es : Es} {rg : Gs} {f : Str} (hf : isBt c f "all" = true)
    (G : Good Y Z k c X) (htb : c.tb = true) (hgen : genB scope = true) (hblk : blkB c.N c.sc scope (slG (.cons t it es rg)) = true) (hl : isLst i0 = false) (hsE : isSetE i0 = false) (pi0 : PI X tg i0 (tI Y Z it))
    (P : ∀ X', Good Y Z k { c with sc := scope, tb := false } X' → Parts Y Z X' elt (⟨tg, i0, ifs, 0⟩ :: rest) e (.cons t it es rg)) :
    PE X (.Call (.Name f p) [.GeneratorExp elt (⟨tg, i0, ifs, 0⟩ :: rest) scope gpos] [] pos) (tE Y Z (.all e (.cons t it es rg))) := by
  obtain ⟨rfl, hg, hm⟩ := isBt_of G hf
  refine ⟨fun pins s σ H Q I h => ?_⟩
  have room := G.room1 htb
  refine wpAny_Call_Name_kw (ld_blt I hg hm (by decide +kernel : bootBuiltins "all" = some (.builtin "all")) ?_)
  refine PyProof.Rows.callWith_builtin1 ?_ star_gen (by rfl)
  rw [star_gen]
  show wpAny _ _ (spliced ((false, eval (.GeneratorExp elt (⟨tg, i0, ifs, 0⟩ :: rest) scope gpos) X.env) :: backTo pos (starEach [] X.env))) _ _ s
  have h' : ∃ ρ μ φ, StR Z φ H ρ σ ∧ Rep Z φ μ H ∧ ∃ b μ', evA Y false (evE Y e) (.cons t it es rg) ρ μ = .ok b μ' ∧ Kv Z φ H μ' (.bl b) Q := by
    obtain ⟨ρ, μ, φ, st, rp, v, μ', hv, q⟩ := h
    obtain ⟨b, m1, h1, h2⟩ := bind_ok hv
    obtain ⟨rfl, rfl⟩ := pure_ok h2
    exact ⟨ρ, μ, φ, st, rp, b, m1, h1, q⟩
  refine Calls.spliced_cons (gen_ready G htb hgen hblk hl hsE pi0 P I h' fun a s5 X' pg oa g n gs Fin hp hw hm hoa hga hnl hgs hgo hE => ?_)
  refine Calls.spliced_nil ?_
  refine call_function_tree F.kind_all F.plain_all F.entry_all (F.args_all1 _) ?_
  unfold Builtin.«all»
  refine wpAny_bind (m := oneArg "all" _) (wpAny_pure ?_)
  refine wpAny_bind (wpAny_pyIter_gen hga ?_)
  refine wpAny_pure ⟨plainId_quiet F.plain_all_loop _, ?_⟩
  rw [← hp, ← hw]
  exact all_run room.hd (Nat.lt_of_le_of_lt (by omega) room.dp) hm hoa hE n s5 hga hnl ⟨gs, hgs, hgo⟩
theorem s_any {elt tg i0 : Expr} {ifs : List Expr} {rest : List Comprehension} {scope : Scope} {gpos p pos : Pos} {e : E} {t : T} {it : Ev.It} {es : Es} {rg : Gs} {f : Str} (hf : isBt c f "any" = true)
    (G : Good Y Z k c X) (htb : c.tb = true) (hgen : genB scope = true) (hblk : blkB c.N c.sc scope (slG (.cons t it es rg)) = true) (hl : isLst i0 = false) (hsE : isSetE i0 = false) (pi0 : PI X tg i0 (tI Y Z it))
    (P : ∀ X', Good Y Z k { c with sc := scope, tb := false } X' → Parts Y Z X' elt (⟨tg, i0, ifs, 0⟩ :: rest) e (.cons t it es rg)) :
    PE X (.Call (.Name f p) [.GeneratorExp elt (⟨tg, i0, ifs, 0⟩ :: rest) scope gpos] [] pos) (tE Y Z (.any e (.cons t it es rg))) := by
  obtain ⟨rfl, hg, hm⟩ := isBt_of G hf
  refine ⟨fun pins s σ H Q I h => ?_⟩
  have room := G.room1 htb
  refine wpAny_Call_Name_kw (ld_blt I hg hm boot_any ?_)
  refine PyProof.Rows.callWith_builtin1 ?_ star_gen (by rfl)
  rw [star_gen]
  show wpAny _ _ (spliced ((false, eval (.GeneratorExp elt (⟨tg, i0, ifs, 0⟩ :: rest) scope gpos) X.env) :: backTo pos (starEach [] X.env))) _ _ s
  have h' : ∃ ρ μ φ, StR Z φ H ρ σ ∧ Rep Z φ μ H ∧ ∃ b μ', evA Y true (evE Y e) (.cons t it es rg) ρ μ = .ok b μ' ∧ Kv Z φ H μ' (.bl b) Q := by
    obtain ⟨ρ, μ, φ, st, rp, v, μ', hv, q⟩ := h
    obtain ⟨b, m1, h1, h2⟩ := bind_ok hv
    obtain ⟨rfl, rfl⟩ := pure_ok h2
    exact ⟨ρ, μ, φ, st, rp, b, m1, h1, q⟩
  refine Calls.spliced_cons (gen_ready G htb hgen hblk hl hsE pi0 P I h' fun a s5 X' pg oa g n gs Fin hp hw hm hoa hga hnl hgs hgo hE => ?_)
  refine Calls.spliced_nil ?_
  refine call_function_tree F.kind_any F.plain_any F.entry_any (F.args_any1 _) ?_
  unfold Builtin.«any»
  refine wpAny_bind (m := oneArg "any" _) (wpAny_pure ?_)
  refine wpAny_bind (wpAny_pyIter_gen hga ?_)
  refine wpAny_pure ⟨plainId_quiet F.plain_any_loop _, ?_⟩
  rw [← hp, ← hw]
  exact any_run room.hd (Nat.lt_of_le_of_lt (by omega) room.dp) hm hoa hE n s5 hga hnl ⟨gs, hgs, hgo⟩
end
end Ev
end

section
set_option maxRecDepth 100000
set_option maxHeartbeats 2000000
/-! Sn9: every term that is compiled is sound. -/
namespace Ev
open PySem L2

/-- what is asked of dicts, sets and sorts, as terms -/
structure RestX (Y : Sys) (Z : Wh) (X : Cx) : Prop extends Rest Z X where
  dct0 : ∀ pos, PE X (.Dict [] [] pos) (tE Y Z .dct0)
  dct1 : ∀ a b x y pos, PE X a (tE Y Z x) → PE X b (tE Y Z y) → PE X (.Dict [some a] [b] pos) (tE Y Z (.dct1 x y))
  get : ∀ a b x y apos cpos, isCall a = false → (apos.endLine == cpos.line) = true → isStar b = false → PE X a (tE Y Z x) → PE X b (tE Y Z y) → PE X (.Call (.Attribute a "get" apos) [b] [] cpos) (tE Y Z (.mth .get x (.cons y .nil)))
  dput : ∀ (μ : Store) (n : Nat) (kvs : List (Val × Val)) (i v : Val), μ[n]? = some (.dct kvs) → keyFor (kvs.map (·.1)) i = true → kvs.length < lim → ∃ t : TSet, PSet X t ∧ ∀ U W V H' φ' (Q : Hp → Prop), Rep Z φ' μ H' → VR Z φ' H' (.ref n) U → VR Z φ' H' i W → VR Z φ' H' v V →
    (∀ H'', Ext Z.K φ' H' φ' H'' → Rep Z φ' (μ.set n (.dct (putKs kvs i v))) H'' → Q H'') → t U W V H' Q
  sl3 : ∀ a lo hi st x y z u p2 pos (r : Expr → Option E), cOpt r lo = some y → cOpt r hi = some z → (∀ e', lo = some e' → PE X e' (tE Y Z y)) → (∀ e', hi = some e' → PE X e' (tE Y Z z)) → PE X a (tE Y Z x) → PE X st (tE Y Z u) → PE X (.Subscript a (.Slice lo hi (some st) p2) pos) (tE Y Z (.sl3 x y z u))
section
variable {Y : Sys} {Z : Wh} {k : Nat} {c : CC} {X : Cx} {a b d e tg : Expr} {x y z : E} {pos : Pos}
theorem s_args {r : Expr → Option E} (hr : ∀ e x, r e = some x → PE X e (tE Y Z x)) : ∀ {es : List Expr} {xs : Es}, cEs r es = some xs → PA X es (tA Y Z xs)
  | [], _, h => by cases h; exact s_nil
  | e :: es, _, h => by
    unfold cEs at h
    split at h
    · cases h
    · rename_i hs
      split at h
      · rename_i a b h1 h2
        cases h
        exact s_cons (by simpa using hs) (hr _ _ h1) (s_args hr h2)
      · cases h
theorem s_bool {r : Expr → Option E} {o : BoolOp} (hr : ∀ e x, r e = some x → PE X e (tE Y Z x) ∧ PT X e (tT Y Z x)) : ∀ {es : List Expr} {x : E}, cBool r o es = some x → PE X (.BoolOp o es pos) (tE Y Z x) ∧ PW X (.BoolOp o es pos) (tT Y Z x)
  | [], _, h => by cases h
  | [e], x, h => s_bool1 (hr e x h)
  | e :: e2 :: es, x, h => by
    unfold cBool at h
    split at h
    · rename_i a b h1 h2
      cases h
      cases o
      · exact s_and (hr _ _ h1) (s_bool hr h2)
      · exact s_or (hr _ _ h1) (s_bool hr h2)
    · cases h
theorem s_cmp1 (G : Good Y Z k c X) (S : Rest Z X) {r : Expr → Option E} {o : CmpOp} (hr : ∀ e x, r e = some x → PE X e (tE Y Z x)) (h : cCmp1 r o a b = some x) : PE X (.Compare a [o] [b] pos) (tE Y Z x) ∧ PT X (.Compare a [o] [b] pos) (tT Y Z x) := by
  unfold cCmp1 at h
  split at h
  · cases hx : r a with
    | none => rw [hx] at h; cases h
    | some v => rw [hx] at h; cases h; exact s_isN (hr _ _ hx)
  · cases hx : r a with
    | none => rw [hx] at h; cases h
    | some v => rw [hx] at h; cases h; exact s_notN (hr _ _ hx)
  · split at h
    · cases h
    · rename_i hs
      split at h
      · rename_i o' x' y' h1 h2 h3
        cases h
        exact s_cmp (cmp_all G ⟨S.mem, S.nmem⟩ h1) (by simpa using hs) (hr _ _ h2) (hr _ _ h3)
      · cases h
theorem s_cmpp (G : Good Y Z k c X) (S : Rest Z X) {r : Expr → Option E} {o p : CmpOp} (hr : ∀ e x, r e = some x → PE X e (tE Y Z x)) (h : cCmp2 r o p a b d = some x) : PE X (.Compare a [o, p] [b, d] pos) (tE Y Z x) ∧ PT X (.Compare a [o, p] [b, d] pos) (tT Y Z x) := by
  unfold cCmp2 at h
  split at h
  · cases h
  · rename_i hs
    simp only [Bool.or_eq_true, not_or, Bool.not_eq_true] at hs
    split at h
    · rename_i o' p' x' y' z' h1 h2 h3 h4 h5
      cases h
      exact s_cmp2 (cmp_all G ⟨S.mem, S.nmem⟩ h1) (cmp_all G ⟨S.mem, S.nmem⟩ h2) hs.2 (hr _ _ h3) (hr _ _ h4) (hr _ _ h5)
    · cases h
theorem cOpt_some {r : Expr → Option E} (hr : ∀ e x, r e = some x → PE X e (tE Y Z x)) {o : Option Expr} (h : cOpt r o = some y) : ∀ e', o = some e' → PE X e' (tE Y Z y) := fun e' he => by
  subst he
  exact hr _ _ h
theorem s_subs (G : Good Y Z k c X) (S : RestX Y Z X) {r : Expr → Option E} {i : Expr} (hr : ∀ e x, r e = some x → PE X e (tE Y Z x)) (h : cSub r a i = some x) : PE X (.Subscript a i pos) (tE Y Z x) := by
  unfold cSub at h
  split at h
  · rename_i lo hi p2
    split at h
    · rename_i x' y' z' h1 h2 h3
      cases h
      exact s_sl G h2 h3 (cOpt_some hr h2) (cOpt_some hr h3) (hr _ _ h1)
    · cases h
  · rename_i lo hi st p2
    split at h
    · rename_i x' y' z' u' h1 h2 h3 h4
      cases h
      exact S.sl3 _ _ _ _ _ _ _ _ _ _ r h2 h3 (cOpt_some hr h2) (cOpt_some hr h3) (hr _ _ h1) (hr _ _ h4)
    · cases h
  · rename_i i' h1 h2
    split at h
    · rename_i x' y' g1 g2
      cases h
      refine s_idx G S.dget ?_ (hr _ _ g1) (hr _ _ g2)
      cases i <;> first | rfl | skip
      rename_i lo hi st p2
      cases st with
      | none => exact absurd rfl (h1 lo hi p2)
      | some st => exact absurd rfl (h2 lo hi st p2)
    · cases h
theorem cIt_set {r : CC → Expr → Option E} {tt : Bool} {it : Ev.It} (h : cIt r c tt e = some it) : isSetE e = false := by
  cases e <;> first | rfl | skip
  simp [cIt, isSetE] at h
/-- clauses behind the first -/
theorem cGs_nil {r : CC → Expr → Option E} {c' : CC} {g : Gs} (h : cGs r c' [] = some g) : g = .nil := by cases h; rfl
theorem cGs_one {r : CC → Expr → Option E} {c' : CC} {t i : Expr} {ifs : List Expr} {k : Int} {rest : List Comprehension} {g : Gs} (h : cGs r c' (⟨t, i, ifs, k⟩ :: rest) = some g) :
    k = 0 ∧ ∃ t' it' fs r', cT c' 2 t = some t' ∧ cIt r c' (isTupE t) i = some it' ∧ cIfs (r c') ifs = some fs ∧ cGs r c' rest = some r' ∧ g = .cons t' it' fs r' := by
  unfold cGs at h
  split at h
  · rename_i hk
    split at h
    · rename_i t' it' fs g' h1 h2 h3 h4
      cases h
      exact ⟨hk, t', it', fs, g', h1, h2, h3, h4, rfl⟩
    · cases h
  · cases h
theorem cGens_one {r : CC → Expr → Option E} {c c' : CC} {gens : List Comprehension} {g : Gs} (h : cGens r c c' gens = some g) :
    ∃ t i ifs rest t' it' fs r', gens = ⟨t, i, ifs, 0⟩ :: rest ∧ cT c' 2 t = some t' ∧ cIt r c (isTupE t) i = some it' ∧ cIfs (r c') ifs = some fs ∧ cGs r c' rest = some r' ∧ g = .cons t' it' fs r' := by
  unfold cGens at h
  split at h
  · rename_i t i ifs a rest
    split at h
    · rename_i hk
      subst hk
      split at h
      · rename_i t' it' fs g' h1 h2 h3 h4
        cases h
        exact ⟨t, i, ifs, rest, t', it', fs, g', rfl, h1, h2, h3, h4, rfl⟩
      · cases h
    · cases h
  · cases h
abbrev RecE (Y : Sys) (Z : Wh) (r : CC → Expr → Option E) : Prop := ∀ (k : Nat) (c : CC) (X : Cx), Good Y Z k c X → ∀ e x, r c e = some x → PE X e (tE Y Z x) ∧ PT X e (tT Y Z x)
theorem s_lc (G : Good Y Z k c X) {r : CC → Expr → Option E} {elt : Expr} {gens : List Comprehension} {scope : Scope} (hr : RecE Y Z r) (h : cLc r c elt gens scope = some x) : PE X (.ListComp elt gens scope pos) (tE Y Z x) := by
  unfold cLc at h
  split at h
  · rename_i e0 g h1 h2
    split at h
    · rename_i hc
      cases h
      obtain ⟨hl, hb⟩ := hc
      obtain ⟨t, i, ifs, rest, t', it', fs, r', rfl, g1, g2, g3, g4, rfl⟩ := cGens_one h2
      obtain ⟨ok, own⟩ := blk_ok G hb
      obtain ⟨pi, hsE⟩ := s_it G (fun e x hx => (hr k c X G e x hx).1) g2
      have GB := fun s H C cl fp => G.blk s H scope C cl fp
      rcases rest with _ | ⟨⟨t1, i1, ifs1, k1⟩, rest⟩
      · have e4 := cGs_nil g4
        subst e4
        have := pe_lc (pos := pos) G.calm (by rw [G.N]; exact G.nd) pi ok (fun s H C cl fp => s_T (GB s H C cl fp) g1) (fun s H C cl fp => s_ifs (fun e x hx => (hr k _ _ (GB s H C cl fp) e x hx).2) g3) (fun s H C cl fp => (hr k _ _ (GB s H C cl fp) _ _ h1).1) (fold_of hsE)
        rw [own] at this
        exact PE.imp this fun σ H Q hh => lc1_R hh
      · obtain ⟨rfl, t1', it1', fs1, r1', q1, q2, q3, q4, rfl⟩ := cGs_one g4
        rcases rest with _ | ⟨_, _⟩
        · have e4 := cGs_nil q4
          subst e4
          have p1 := fun s H C cl fp => s_it (tg := t1) (GB s H C cl fp) (fun e x hx => (hr k _ _ (GB s H C cl fp) e x hx).1) q2
          have hs1 : isSetE i1 = false := cIt_set q2
          have := pe_lc2 (pos := pos) (vs1 := slT t1' ++ slG .nil) G.calm (by rw [G.N]; exact G.nd) pi ok (by rw [own]; intro i hi; exact List.mem_append_right _ hi) (fun s H C cl fp => s_T (GB s H C cl fp) g1) (fun s H C cl fp => s_ifs (fun e x hx => (hr k _ _ (GB s H C cl fp) e x hx).2) g3)
            (fun s H C cl fp => (p1 s H C cl fp).1) (fun s H C cl fp => s_T (GB s H C cl fp) q1) (fun s H C cl fp => s_ifs (fun e x hx => (hr k _ _ (GB s H C cl fp) e x hx).2) q3) (fun s H C cl fp => (hr k _ _ (GB s H C cl fp) _ _ h1).1) (fold_of hsE) (fun env => fold_of hs1)
          rw [own] at this
          exact PE.imp this fun σ H Q hh => lc2_R hh
        · simp at hl
    · cases h
  · cases h
theorem firstOk_inv {t i : Expr} {ifs : List Expr} {rest : List Comprehension} (h : firstOk (⟨t, i, ifs, 0⟩ :: rest) = true) : isLst i = false ∧ (rest = [] ∨ ∃ q, rest = [q]) := by
  rcases rest with _ | ⟨q, _ | ⟨_, _⟩⟩
  · simp only [firstOk, Bool.not_eq_true'] at h
    exact ⟨h, .inl rfl⟩
  · simp only [firstOk, Bool.not_eq_true'] at h
    exact ⟨h, .inr ⟨q, rfl⟩⟩
  · cases h
/-- all, any -/
theorem s_gx (G : Good Y Z k c X) {r : CC → Expr → Option E} {elt : Expr} {gens : List Comprehension} {scope : Scope} {e0 : E} {g : Gs} (hr : RecE Y Z r) (h : cGx r c elt gens scope = some (e0, g)) :
    ∃ tg i0 ifs rest t it es rg, gens = ⟨tg, i0, ifs, 0⟩ :: rest ∧ g = .cons t it es rg ∧ c.tb = true ∧ genB scope = true ∧ blkB c.N c.sc scope (slG g) = true ∧ isLst i0 = false ∧ isSetE i0 = false ∧ PI X tg i0 (tI Y Z it) ∧
      ∀ X', Good Y Z k { c with sc := scope, tb := false } X' → Parts Y Z X' elt gens e0 g := by
  unfold cGx at h
  split at h
  · rename_i e1 g1 h1 h2
    split at h
    · rename_i hc
      cases h
      simp only [Bool.and_eq_true, decide_eq_true_eq] at hc
      obtain ⟨⟨⟨⟨htb, hfo⟩, hgen⟩, hblk⟩, _⟩ := hc
      obtain ⟨t, i, ifs, rest, t', it', fs, r', rfl, g1, g2, g3, g4, rfl⟩ := cGens_one h2
      obtain ⟨hl, hrest⟩ := firstOk_inv hfo
      obtain ⟨pi, hsE⟩ := s_it G (fun e x hx => (hr k c X G e x hx).1) g2
      refine ⟨t, i, ifs, rest, t', it', fs, r', rfl, rfl, htb, hgen, hblk, hl, hsE, pi, fun X' G' => ⟨(hr k _ X' G' _ _ h1).1, ?_⟩⟩
      rcases hrest with rfl | ⟨⟨t1, i1, ifs1, k1⟩, rfl⟩
      · have e4 := cGs_nil g4
        subst e4
        exact .inl ⟨_, _, _, _, _, _, rfl, rfl, s_T G' g1, s_ifs (fun e x hx => (hr k _ X' G' e x hx).2) g3⟩
      · obtain ⟨rfl, t1', it1', fs1, r1', q1, q2, q3, q4, rfl⟩ := cGs_one g4
        have e4 := cGs_nil q4
        subst e4
        obtain ⟨p1, hs1⟩ := s_it (tg := t1) G' (fun e x hx => (hr k _ X' G' e x hx).1) q2
        exact .inr ⟨_, _, _, _, _, _, _, _, _, _, _, _, rfl, rfl, s_T G' g1, s_ifs (fun e x hx => (hr k _ X' G' e x hx).2) g3, hs1, p1, s_T G' q1, s_ifs (fun e x hx => (hr k _ X' G' e x hx).2) q3⟩
    · cases h
  · cases h
theorem s_ccall (G : Good Y Z k c X) (S : RestX Y Z X) {r : CC → Expr → Option E} {f : Str} {args : List Expr} {p : Pos} (hr : RecE Y Z r) (h : cCall r c f args = some x) : PE X (.Call (.Name f p) args [] pos) (tE Y Z x) := by
  have hr1 : ∀ e x, r c e = some x → PE X e (tE Y Z x) := fun e x hx => (hr k c X G e x hx).1
  have blt : ∀ {b : Blt} {es : Es} {args : List Expr} {n : Nat}, n = args.length → cBlt c f n = some b → cEs (r c) args = some es → PE X (.Call (.Name f p) args [] pos) (tE Y Z (.blt b es)) := fun {b es args n} hn hb he => by
    subst hn
    exact s_blt G S.toRest hb he (s_args hr1 he)
  unfold cCall at h
  split at h
  · rename_i d hd
    split at h
    · rename_i hc
      simp only [Bool.and_eq_true, decide_eq_true_eq] at hc
      cases he : cEs (r c) args with
      | none => rw [he] at h; cases h
      | some es =>
        rw [he] at h; cases h
        exact s_call G hd hc.1.1 hc.1.2 hc.2 he (s_args hr1 he)
    · cases h
  · split at h
    · rename_i elt gens scope gpos
      split at h
      · rename_i hf
        cases hx : cGx r c elt gens scope with
        | none => rw [hx] at h; cases h
        | some pr =>
          rw [hx] at h; cases h
          obtain ⟨e0, g⟩ := pr
          obtain ⟨tg, i0, ifs, rest, t, it, es, rg, rfl, rfl, htb, hgen, hblk, hl, hsE, pi, P⟩ := s_gx G hr hx
          exact s_all hf G htb hgen hblk hl hsE pi P
      · split at h
        · rename_i hf
          cases hx : cGx r c elt gens scope with
          | none => rw [hx] at h; cases h
          | some pr =>
            rw [hx] at h; cases h
            obtain ⟨e0, g⟩ := pr
            obtain ⟨tg, i0, ifs, rest, t, it, es, rg, rfl, rfl, htb, hgen, hblk, hl, hsE, pi, P⟩ := s_gx G hr hx
            exact s_any hf G htb hgen hblk hl hsE pi P
        · cases h
    · rename_i a t
      split at h
      · rename_i hf
        split at h
        · rename_i x' ty h1 h2
          split at h
          · cases h
          · rename_i hs
            cases h
            exact s_isin G hf h2 (by simpa using hs) (hr1 _ _ h1)
        · cases h
      · split at h
        · rename_i b es h1 h2
          cases h
          exact blt rfl h1 h2
        · cases h
    · rename_i g p1 a1 p2
      split at h
      · rename_i hf
        simp only [Bool.and_eq_true] at hf
        split at h
        · cases h
        · rename_i hs
          cases hx : r c a1 with
          | none => rw [hx] at h; cases h
          | some x' =>
            rw [hx] at h; cases h
            exact s_lrange G hf.1 hf.2 (by simpa using hs) (hr1 _ _ hx)
      · split at h
        · rename_i b es h1 h2
          cases h
          exact blt rfl h1 h2
        · cases h
    · split at h
      · rename_i b es h1 h2
        cases h
        exact blt rfl h1 h2
      · cases h
theorem s_kwargs {r : Expr → Option E} (hr : ∀ e x, r e = some x → PE X e (tE Y Z x)) : ∀ {kws : List Keyword} {xs : Es}, cEs r (kws.map (·.value)) = some xs → PK X kws (tA Y Z xs)
  | [], _, h => by cases h; exact sk_nil
  | ⟨nm, v0, kp⟩ :: kws, _, h => by
    rw [List.map_cons] at h
    unfold cEs at h
    split at h
    · cases h
    · split at h
      · rename_i a b h1 h2
        cases h
        exact sk_cons (hr _ _ h1) (s_kwargs hr h2)
      · cases h
theorem s_ccallK (G : Good Y Z k c X) {r : CC → Expr → Option E} {f : Str} {kws : List Keyword} {p : Pos} (hr : RecE Y Z r) (h : cCallK r c f kws = some x) : PE X (.Call (.Name f p) [] kws pos) (tE Y Z x) := by
  have hr1 : ∀ e x, r c e = some x → PE X e (tE Y Z x) := fun e x hx => (hr k c X G e x hx).1
  unfold cCallK at h
  split at h
  · rename_i d hd
    split at h
    · rename_i hc
      simp only [Bool.and_eq_true, decide_eq_true_eq] at hc
      cases he : cEs (r c) (kws.map (·.value)) with
      | none => rw [he] at h; cases h
      | some es =>
        rw [he] at h; cases h
        exact s_callK G hd hc.1.1.1 hc.1.1.2 hc.1.2 hc.2 he (s_kwargs hr1 he)
    · cases h
  · cases h
end
end Ev
end

section
set_option maxRecDepth 100000
set_option maxHeartbeats 2000000
/-! Sn10: every term that is compiled is sound: the induction. -/
namespace Ev
open PySem L2
section
variable {Y : Sys} {Z : Wh} {k : Nat} {c : CC} {X : Cx} {a b d e tg : Expr} {x y z : E} {pos : Pos}
theorem map_some {α β : Type} {f : α → β} {o : Option α} {y : β} (h : o.map f = some y) : ∃ x, o = some x ∧ y = f x := by
  cases o with
  | none => cases h
  | some x => cases h; exact ⟨x, rfl, rfl⟩
theorem s_mth (G : Good Y Z k c X) (S : RestX Y Z X) {r : Expr → Option E} {o : Expr} {m : Str} {apos cpos : Pos} {args : List Expr} {f : Mth} {es : Es} (hr : ∀ e x, r e = some x → PE X e (tE Y Z x)) (ho : r o = some x) (hm : cMth m args.length = some f) (he : cEs r args = some es)
    (hc : isCall o = false) (hl : (apos.endLine == cpos.line) = true) : PE X (.Call (.Attribute o m apos) args [] cpos) (tE Y Z (.mth f x es)) := by
  have one : ∀ {args : List Expr} {es : Es}, args.length = 1 → cEs r args = some es → ∃ b y, args = [b] ∧ isStar b = false ∧ r b = some y ∧ es = .cons y .nil := fun {args es} hn he => by
    rcases args with _ | ⟨b, _ | ⟨_, _⟩⟩
    · cases hn
    · unfold cEs at he
      split at he
      · cases he
      · rename_i hs
        split at he
        · rename_i y r2 h1 h2
          cases he
          cases h2
          exact ⟨b, y, rfl, by simpa using hs, h1, rfl⟩
        · cases he
    · cases hn
  unfold cMth at hm
  split at hm
  · rename_i h
    cases hm
    obtain ⟨b, y, rfl, hs, hb, rfl⟩ := one h.2 he
    rw [h.1]
    exact s_append G hc hl hs (hr _ _ ho) (hr _ _ hb)
  · split at hm
    · rename_i h
      cases hm
      obtain ⟨b, y, rfl, hs, hb, rfl⟩ := one h.2 he
      rw [h.1]
      exact s_extend G hc hl hs (hr _ _ ho) (hr _ _ hb)
    · split at hm
      · rename_i h
        cases hm
        obtain ⟨h1, h2⟩ := h
        have : args = [] := List.eq_nil_of_length_eq_zero h2
        subst this
        cases he
        rw [h1]
        exact s_pop G hc hl (hr _ _ ho)
      · split at hm
        · rename_i h
          cases hm
          obtain ⟨b, y, rfl, hs, hb, rfl⟩ := one h.2 he
          rw [h.1]
          exact s_pop1 G hc hl hs (hr _ _ ho) (hr _ _ hb)
        · split at hm
          · rename_i h
            cases hm
            obtain ⟨b, y, rfl, hs, hb, rfl⟩ := one h.2 he
            rw [h.1]
            exact S.get _ _ _ _ _ _ hc hl hs (hr _ _ ho) (hr _ _ hb)
          · cases hm
/-- what is asked, in every context -/
abbrev AllX (Y : Sys) (Z : Wh) : Prop := ∀ k c X, Good Y Z k c X → RestX Y Z X
theorem cE_ok (RS : AllX Y Z) : ∀ n, RecE Y Z (cE n)
  | 0 => fun k c X G e x h => by cases h
  | n + 1 => fun k c X G e x h => by
    have hr := cE_ok RS n
    have S := RS k c X G
    have hr1 : ∀ e x, cE n c e = some x → PE X e (tE Y Z x) := fun e x hx => (hr k c X G e x hx).1
    have h : cStep (cE n) c e = some x := h
    have fin : plainT e = true → PE X e (tE Y Z x) → PE X e (tE Y Z x) ∧ PT X e (tT Y Z x) := fun hp he => ⟨he, s_test hp he⟩
    unfold cStep at h
    split at h
    · exact fin rfl (s_const h)
    · exact fin rfl (s_name G h)
    · split at h
      · rename_i o' x' y' h1 h2 h3
        cases h
        exact fin rfl (s_bin G h1 (hr1 _ _ h2) (hr1 _ _ h3))
      · cases h
    · obtain ⟨x', hx, rfl⟩ := map_some h
      obtain ⟨p1, p2⟩ := hr k c X G _ _ hx
      exact s_not p2 p1
    · obtain ⟨x', hx, rfl⟩ := map_some h
      exact fin rfl (s_neg (hr1 _ _ hx))
    · obtain ⟨p1, p2⟩ := s_bool (hr k c X G) h
      exact ⟨p1, p2.pt⟩
    · split at h
      · rename_i x' y' z' h1 h2 h3
        cases h
        exact ⟨s_ite (hr k c X G _ _ h1).2 (hr1 _ _ h2) (hr1 _ _ h3), s_iteT (hr k c X G _ _ h1).2 (hr k c X G _ _ h2).2 (hr k c X G _ _ h3).2⟩
      · cases h
    · obtain ⟨x', hx, rfl⟩ := map_some h
      exact fin rfl (s_tup (s_args hr1 hx))
    · obtain ⟨x', hx, rfl⟩ := map_some h
      exact fin rfl (s_lst (s_args hr1 hx))
    · exact s_cmp1 G S.toRest hr1 h
    · exact s_cmpp G S.toRest hr1 h
    · exact fin rfl (s_subs G S hr1 h)
    · exact fin rfl (s_ccall G S hr h)
    · exact fin rfl (s_ccallK G hr h)
    · split at h
      · rename_i x' f es h1 h2 h3
        split at h
        · cases h
        · rename_i hc
          cases h
          simp only [Bool.or_eq_true, not_or, Bool.not_eq_true, Bool.not_eq_false, Bool.not_eq_eq_eq_not, Bool.not_true, Bool.not_false] at hc
          exact fin rfl (s_mth G S hr1 h1 h2 h3 hc.1 hc.2)
      · cases h
    · exact fin rfl (s_lc G hr h)
    · cases h
      exact fin rfl (S.dct0 _)
    · split at h
      · rename_i x' y' h1 h2
        cases h
        exact fin rfl (S.dct1 _ _ _ _ _ (hr1 _ _ h1) (hr1 _ _ h2))
      · cases h
    · cases h
end
end Ev
end

section
set_option maxRecDepth 100000
set_option maxHeartbeats 1000000
/-! Sn11: statements. -/
namespace Ev
open PySem L2

structure GoodS (Y : Sys) (Z : Wh) (k : Nat) (c : CC) (X : Cx) : Prop extends Good Y Z k c X where
  sc : X.env.scope = c.sc
  kind : c.sc.kind = .function
  own : PassesOwn (model X.prog X.w) X.A X.env X.xe

section
variable (Y : Sys) (Z : Wh)
def Kf (φ : List Addr) (H : Hp) (μ' : Store) (fl : Fl) (D : Ends) : Prop := match fl with
  | .nx ρ' => ∀ σ' H' φ', Ext Z.K φ H φ' H' → Rep Z φ' μ' H' → StR Z φ' H' ρ' σ' → D.nx σ' H'
  | .bk ρ' => ∀ σ' H' φ', Ext Z.K φ H φ' H' → Rep Z φ' μ' H' → StR Z φ' H' ρ' σ' → D.bk σ' H'
  | .ct ρ' => ∀ σ' H' φ', Ext Z.K φ H φ' H' → Rep Z φ' μ' H' → StR Z φ' H' ρ' σ' → D.ct σ' H'
  | .rt v => ∀ V H' φ', Ext Z.K φ H φ' H' → Rep Z φ' μ' H' → VR Z φ' H' v V → D.rt V H'
def tS (s : S) : TS := fun D σ H => ∃ ρ μ φ, StR Z φ H ρ σ ∧ Rep Z φ μ H ∧ ∃ fl μ', evS Y s ρ μ = .ok fl μ' ∧ Kf Z φ H μ' fl D
def tSs (s : Ss) : TS := fun D σ H => ∃ ρ μ φ, StR Z φ H ρ σ ∧ Rep Z φ μ H ∧ ∃ fl μ', evSs Y s ρ μ = .ok fl μ' ∧ Kf Z φ H μ' fl D
end
section
variable {Y : Sys} {Z : Wh} {φ φ' : List Addr} {H H' : Hp} {μ' : Store} {fl : Fl} {D : Ends}
theorem Kf.ext (k : Kf Z φ H μ' fl D) (e : Ext Z.K φ H φ' H') : Kf Z φ' H' μ' fl D := by
  cases fl with
  | nx ρ => exact fun σ1 H1 φ1 e1 r1 s1 => k σ1 H1 φ1 (e.trans e1) r1 s1
  | bk ρ => exact fun σ1 H1 φ1 e1 r1 s1 => k σ1 H1 φ1 (e.trans e1) r1 s1
  | ct ρ => exact fun σ1 H1 φ1 e1 r1 s1 => k σ1 H1 φ1 (e.trans e1) r1 s1
  | rt v => exact fun σ1 H1 φ1 e1 r1 s1 => k σ1 H1 φ1 (e.trans e1) r1 s1
end
section
variable {Y : Sys} {Z : Wh} {k : Nat} {c : CC} {X : Cx} {a b d e tg : Expr} {x y z : E} {pos : Pos} {st : Stmt} {sts : List Stmt}
theorem PS.imp {t u : TS} (h : PS X st t) (f : ∀ D σ H, u D σ H → t D σ H) : PS X st u := ⟨fun pins s σ H D I q => h.run pins s σ H D I (f D σ H q)⟩
theorem PSs.imp {t u : TS} (h : PSs X sts t) (f : ∀ D σ H, u D σ H → t D σ H) : PSs X sts u := ⟨fun pins s σ H D I q => h.run pins s σ H D I (f D σ H q)⟩
theorem ss_nil : PSs X [] (tSs Y Z .nil) := PSs.imp pss_nil fun D σ H h => by
  obtain ⟨ρ, μ, φ, st, rp, fl, μ', hv, q⟩ := h
  obtain ⟨rfl, rfl⟩ := pure_ok hv
  exact q σ H φ .refl rp st
theorem ss_cons {s : S} {r : Ss} (h1 : PS X st (tS Y Z s)) (h2 : PSs X sts (tSs Y Z r)) : PSs X (st :: sts) (tSs Y Z (.cons s r)) := PSs.imp (pss_cons h1 h2) fun D σ H h => by
  obtain ⟨ρ, μ, φ, st, rp, fl, μ', hv, q⟩ := h
  simp only [evSs] at hv
  cases hs : evS Y s ρ μ with
  | ok fl1 m1 =>
    refine ⟨ρ, μ, φ, st, rp, fl1, m1, hs, ?_⟩
    rw [hs] at hv
    cases fl1 with
    | nx ρ1 => exact fun σ1 H1 φ1 e1 r1 s1 => ⟨ρ1, m1, φ1, s1, r1, fl, μ', hv, q.ext e1⟩
    | bk ρ1 => cases hv; exact q
    | ct ρ1 => cases hv; exact q
    | rt v => cases hv; exact q
  | exc cc v m1 => rw [hs] at hv; cases hv
  | stuck => rw [hs] at hv; cases hv
/-- a term's truth behind what went before -/
theorem ss_if {s t : Ss} {pa pb : List Stmt} (hc : PT X d (tT Y Z z)) (ha : PSs X pa (tSs Y Z s)) (hb : PSs X pb (tSs Y Z t)) : PS X (.If d pa pb pos) (tS Y Z (.ite z s t)) := PS.imp (ps_if hc ha hb) fun D σ H h => by
  obtain ⟨ρ, μ, φ, st, rp, fl, μ', hv, q⟩ := h
  obtain ⟨b, m1, h1, hv1⟩ := bind_ok hv
  refine ⟨ρ, μ, φ, st, rp, b, m1, h1, fun H1 φ1 e1 r1 => ?_⟩
  cases b with
  | true => rw [if_pos rfl]; exact ⟨ρ, m1, φ1, st.ext e1, r1, fl, μ', hv1, q.ext e1⟩
  | false => rw [if_neg Bool.false_ne_true]; exact ⟨ρ, m1, φ1, st.ext e1, r1, fl, μ', hv1, q.ext e1⟩
theorem loopW_ok {cnd : Env → M Bool} {bd : Env → M Fl} {n : Nat} {ρ : Env} {μ μ' : Store} {fl : Fl} (h : loopW cnd bd n ρ μ = .ok fl μ') :
    ∃ m b m1, n = m + 1 ∧ cnd ρ μ = .ok b m1 ∧ ((b = false ∧ fl = .nx ρ ∧ μ' = m1) ∨ (b = true ∧ ∃ f2 m2, bd ρ m1 = .ok f2 m2 ∧ match f2 with
      | .nx ρ2 => loopW cnd bd m ρ2 m2 = .ok fl μ'
      | .ct ρ2 => loopW cnd bd m ρ2 m2 = .ok fl μ'
      | .bk ρ2 => fl = .nx ρ2 ∧ μ' = m2
      | .rt v => fl = .rt v ∧ μ' = m2)) := by
  cases n with
  | zero => cases h
  | succ m =>
    unfold loopW at h
    obtain ⟨b, m1, h1, h2⟩ := bind_ok h
    refine ⟨m, b, m1, rfl, h1, ?_⟩
    cases b with
    | false =>
      rw [if_neg Bool.false_ne_true] at h2
      obtain ⟨rfl, rfl⟩ := pure_ok h2
      exact .inl ⟨rfl, rfl, rfl⟩
    | true =>
      rw [if_pos rfl] at h2
      obtain ⟨f2, m2, h3, h4⟩ := bind_ok h2
      refine .inr ⟨rfl, f2, m2, h3, ?_⟩
      cases f2 with
      | nx ρ2 => exact h4
      | ct ρ2 => exact h4
      | bk ρ2 => obtain ⟨h5, h6⟩ := pure_ok h4; exact ⟨h5.symm, h6.symm⟩
      | rt v => obtain ⟨h5, h6⟩ := pure_ok h4; exact ⟨h5.symm, h6.symm⟩
theorem ss_while (G : GoodS Y Z k c X) {s : Ss} {pb : List Stmt} (hc : PT X d (tT Y Z z)) (hb : PSs X pb (tSs Y Z s)) : PS X (.While d pb [] pos) (tS Y Z (.whl z s)) := PS.imp (ps_while G.own hc hb) fun D σ H h => by
  obtain ⟨ρ, μ, φ, st, rp, fl, μ', hv, q⟩ := h
  refine ⟨fun m σ H => ∃ ρ μ φ, StR Z φ H ρ σ ∧ Rep Z φ μ H ∧ loopW (fun ρ => toB (evE Y z ρ)) (evSs Y s) m ρ μ = .ok fl μ' ∧ Kf Z φ H μ' fl D, ⟨fuelW, ρ, μ, φ, st, rp, hv, q⟩, ?_⟩
  rintro m σ H ⟨ρ, μ, φ, st, rp, hv, q⟩
  obtain ⟨m', b, m1, rfl, h1, h2⟩ := loopW_ok hv
  refine ⟨ρ, μ, φ, st, rp, b, m1, h1, fun H1 φ1 e1 r1 => ?_⟩
  rcases h2 with ⟨rfl, rfl, rfl⟩ | ⟨rfl, f2, m2, h3, h4⟩
  · rw [if_neg Bool.false_ne_true]
    exact q σ H1 φ1 e1 r1 (st.ext e1)
  · rw [if_pos rfl]
    refine ⟨fun σ' H' => ∃ ρ μ φ, StR Z φ H' ρ σ' ∧ Rep Z φ μ H' ∧ loopW (fun ρ => toB (evE Y z ρ)) (evSs Y s) m' ρ μ = .ok fl μ' ∧ Kf Z φ H' μ' fl D, fun σ' H' hN => ⟨m', Nat.lt_succ_self _, hN⟩, ρ, m1, φ1, st.ext e1, r1, f2, m2, h3, ?_⟩
    cases f2 with
    | nx ρ2 => exact fun σ2 H2 φ2 e2 r2 s2 => ⟨ρ2, m2, φ2, s2, r2, h4, q.ext (e1.trans e2)⟩
    | ct ρ2 => exact fun σ2 H2 φ2 e2 r2 s2 => ⟨ρ2, m2, φ2, s2, r2, h4, q.ext (e1.trans e2)⟩
    | bk ρ2 =>
      obtain ⟨rfl, rfl⟩ := h4
      exact fun σ2 H2 φ2 e2 r2 s2 => q σ2 H2 φ2 (e1.trans e2) r2 s2
    | rt v =>
      obtain ⟨rfl, rfl⟩ := h4
      exact fun V H2 φ2 e2 r2 v2 => q V H2 φ2 (e1.trans e2) r2 v2
theorem loopF_nil {t : T} {g : List (Nat × Ev.Obj)} {bd : Env → M Fl} {ρ : Env} {m m' : Store} {fl : Fl} (h : loopF t g bd [] ρ m = .ok fl m') : guardOk m g = true ∧ fl = .nx ρ ∧ m' = m := by
  simp only [loopF] at h
  split at h
  · rename_i hg; cases h; exact ⟨hg, rfl, rfl⟩
  · cases h
theorem loopF_cons {t : T} {g : List (Nat × Ev.Obj)} {bd : Env → M Fl} {ρ : Env} {x : Val} {xs : List Val} {m m' : Store} {fl : Fl} (h : loopF t g bd (x :: xs) ρ m = .ok fl m') :
    guardOk m g = true ∧ ∃ ρ' f2 m2, bindT t x ρ = some ρ' ∧ bd ρ' m = .ok f2 m2 ∧ match f2 with
      | .nx ρ2 => loopF t g bd xs ρ2 m2 = .ok fl m'
      | .ct ρ2 => loopF t g bd xs ρ2 m2 = .ok fl m'
      | .bk ρ2 => fl = .nx ρ2 ∧ m' = m2
      | .rt v => fl = .rt v ∧ m' = m2 := by
  simp only [loopF] at h
  split at h
  · rename_i hg
    split at h
    · cases h
    · rename_i ρ' hb
      cases h2 : bd ρ' m with
      | ok f2 m2 =>
        rw [h2] at h
        refine ⟨hg, ρ', f2, m2, hb, h2, ?_⟩
        cases f2 with
        | nx ρ2 => exact h
        | ct ρ2 => exact h
        | bk ρ2 => cases h; exact ⟨rfl, rfl⟩
        | rt v => cases h; exact ⟨rfl, rfl⟩
      | exc cc v m2 => rw [h2] at h; cases h
      | stuck => rw [h2] at h; cases h
  · cases h
theorem ss_for (G : GoodS Y Z k c X) {s : Ss} {pb : List Stmt} {t : T} {it : Ev.It} (pi : PI X tg e (tI Y Z it)) (hsE : isSetE e = false) (hg : PG X tg (tG Z t)) (hb : PSs X pb (tSs Y Z s)) : PS X (.For tg e pb [] pos) (tS Y Z (.for t it s)) := PS.imp (ps_for G.own G.calm pi hg hb (fold_of hsE)) fun D σ H h => by
  obtain ⟨ρ, μ, φ, st, rp, fl, μ', hv, q⟩ := h
  obtain ⟨w, m1, h1, hv1⟩ := bind_ok hv
  refine ⟨ρ, μ, φ, st, rp, w, m1, h1, fun J H1 φ1 e1 r1 jr => ?_⟩
  refine ⟨fun i m σ H => m = w.1.length - i ∧ i ≤ w.1.length ∧ ∃ ρ μ φ, StR Z φ H ρ σ ∧ Rep Z φ μ H ∧ Ex0 Z.K φ1 H1 φ H ∧ loopF t w.2 (evSs Y s) (w.1.drop i) ρ μ = .ok fl μ' ∧ Kf Z φ H μ' fl D, ⟨_, rfl, Nat.zero_le _, ρ, m1, φ1, st.ext e1, r1, .refl, hv1, q.ext e1⟩, ?_⟩
  rintro i m σ H ⟨rfl, hi, ρ, μ, φ, st, rp, e0, hl, q⟩
  by_cases hlt : i < w.1.length
  · obtain ⟨x, hx⟩ : ∃ x, w.1[i]? = some x := ⟨_, List.getElem?_eq_getElem hlt⟩
    have hd : w.1.drop i = x :: w.1.drop (i + 1) := by
      rw [List.drop_eq_getElem_cons hlt]
      congr 1
      rw [List.getElem?_eq_getElem hlt] at hx
      exact Option.some.inj hx
    rw [hd] at hl
    obtain ⟨hgd, ρ', f2, m2, hbn, hbd, hr⟩ := loopF_cons hl
    obtain ⟨j1, j2⟩ := jr.go φ μ H e0 rp hgd i x hx
    refine .inr ⟨j1, fun σ' H' => ∃ ρ μ φ, StR Z φ H' ρ σ' ∧ Rep Z φ μ H' ∧ Ex0 Z.K φ1 H1 φ H' ∧ loopF t w.2 (evSs Y s) (w.1.drop (i + 1)) ρ μ = .ok fl μ' ∧ Kf Z φ H' μ' fl D, fun σ' H' hN => ⟨_, by omega, rfl, hlt, hN⟩, fun U H' hy => ?_⟩
    obtain ⟨k1, k2, k3⟩ := j2 U H' hy
    refine ⟨ρ, φ, x, ρ', st.ext k1, k3, hbn, fun σ2 st2 _ => ⟨ρ', μ, φ, st2, k2, f2, m2, hbd, ?_⟩⟩
    cases f2 with
    | nx ρ2 => exact fun σ3 H3 φ3 e3 r3 s3 => ⟨ρ2, m2, φ3, s3, r3, e0.trans (k1.trans e3).toEx0, hr, q.ext (k1.trans e3)⟩
    | ct ρ2 => exact fun σ3 H3 φ3 e3 r3 s3 => ⟨ρ2, m2, φ3, s3, r3, e0.trans (k1.trans e3).toEx0, hr, q.ext (k1.trans e3)⟩
    | bk ρ2 =>
      obtain ⟨rfl, rfl⟩ := hr
      exact fun σ3 H3 φ3 e3 r3 s3 => q σ3 H3 φ3 (k1.trans e3) r3 s3
    | rt v =>
      obtain ⟨rfl, rfl⟩ := hr
      exact fun V H3 φ3 e3 r3 v3 => q V H3 φ3 (k1.trans e3) r3 v3
  · have hi' : i = w.1.length := by omega
    subst hi'
    rw [List.drop_length] at hl
    obtain ⟨hgd, rfl, rfl⟩ := loopF_nil hl
    exact .inl ⟨jr.stop φ _ H e0 rp hgd, q σ H φ .refl rp st⟩
end
end Ev
end

section
set_option maxRecDepth 100000
set_option maxHeartbeats 1000000
/-! Sn12: small statements; every statement that is compiled is sound. -/
namespace Ev
open PySem L2
section
variable {Y : Sys} {Z : Wh} {k : Nat} {c : CC} {X : Cx} {a b d e tg : Expr} {x y z : E} {pos : Pos} {st : Stmt} {sts : List Stmt}
theorem swaps_none {l : Nat} {env : PySem.Env} (h : isComp e = false) : swapsWith e none l env = pure false := by
  cases e <;> first | rfl | (simp [isComp] at h)
theorem ss_ex (h : isComp e = false) (he : PE X e (tE Y Z x)) : PS X (.Expr e pos) (tS Y Z (.ex x)) := PS.imp (ps_expr he (swaps_none h)) fun D σ H h => by
  obtain ⟨ρ, μ, φ, st, rp, fl, μ', hv, q⟩ := h
  obtain ⟨v, m1, h1, hv1⟩ := bind_ok hv
  obtain ⟨rfl, rfl⟩ := pure_ok hv1
  exact tE_mk st rp h1 fun V H1 φ1 e1 r1 _ => q σ H1 φ1 e1 r1 (st.ext e1)
theorem ss_doc {s : Str} {j : Nat} {p1 : Pos} : PS X (.Expr (.Constant (.str s) j p1) pos) (tS Y Z .pass) := PS.imp ps_doc fun D σ H h => by
  obtain ⟨ρ, μ, φ, st, rp, fl, μ', hv, q⟩ := h
  obtain ⟨rfl, rfl⟩ := pure_ok hv
  exact q σ H φ .refl rp st
theorem ss_pass : PS X (.Pass pos) (tS Y Z .pass) := PS.imp ps_pass fun D σ H h => by
  obtain ⟨ρ, μ, φ, st, rp, fl, μ', hv, q⟩ := h
  obtain ⟨rfl, rfl⟩ := pure_ok hv
  exact q σ H φ .refl rp st
theorem ss_brk : PS X (.Break pos) (tS Y Z .brk) := PS.imp ps_break fun D σ H h => by
  obtain ⟨ρ, μ, φ, st, rp, fl, μ', hv, q⟩ := h
  obtain ⟨rfl, rfl⟩ := pure_ok hv
  exact q σ H φ .refl rp st
theorem ss_cnt : PS X (.Continue pos) (tS Y Z .cnt) := PS.imp ps_continue fun D σ H h => by
  obtain ⟨ρ, μ, φ, st, rp, fl, μ', hv, q⟩ := h
  obtain ⟨rfl, rfl⟩ := pure_ok hv
  exact q σ H φ .refl rp st
theorem ss_retN : PS X (.Return none pos) (tS Y Z (.ret .non)) := PS.imp ps_retN fun D σ H h => by
  obtain ⟨ρ, μ, φ, st, rp, fl, μ', hv, q⟩ := h
  obtain ⟨v, m1, h1, hv1⟩ := bind_ok hv
  obtain ⟨rfl, rfl⟩ := pure_ok h1
  obtain ⟨rfl, rfl⟩ := pure_ok hv1
  exact q _ H φ .refl rp rfl
theorem ss_ret (he : PE X e (tE Y Z x)) : PS X (.Return (some e) pos) (tS Y Z (.ret x)) := PS.imp (ps_ret he) fun D σ H h => by
  obtain ⟨ρ, μ, φ, st, rp, fl, μ', hv, q⟩ := h
  obtain ⟨v, m1, h1, hv1⟩ := bind_ok hv
  obtain ⟨rfl, rfl⟩ := pure_ok hv1
  exact tE_mk st rp h1 fun V H1 φ1 e1 r1 v1 => q _ H1 φ1 e1 r1 v1
theorem ss_never {r : Option Expr} {q : Option Expr} : PS X (.Raise r q pos) (tS Y Z .never) := PS.imp ps_never fun D σ H h => by
  obtain ⟨ρ, μ, φ, st, rp, fl, μ', hv, q⟩ := h
  cases hv
theorem asg_R {t : T} {D : Ends} {σ : L2.St} {H : Hp} (h : tS Y Z (.asg t x) D σ H) : tAsg (tE Y Z x) (tG Z t) D σ H := by
  obtain ⟨ρ, μ, φ, st, rp, fl, μ', hv, q⟩ := h
  obtain ⟨v, m1, h1, hv1⟩ := bind_ok hv
  obtain ⟨ρ', m2, h2, hv2⟩ := bind_ok hv1
  obtain ⟨hb, rfl⟩ := ofO_ok h2
  obtain ⟨rfl, rfl⟩ := pure_ok hv2
  exact tE_mk st rp h1 fun V H1 φ1 e1 r1 v1 => ⟨ρ, φ1, v, ρ', st.ext e1, v1, hb, fun σ' st' _ => q σ' H1 φ1 e1 r1 st'⟩
/-- to names: a value that is no comprehension on the same line -/
theorem ss_asg {t : T} (he : PE X e (tE Y Z x)) (hg : PG X tg (tG Z t)) (hs : swapsWithSole [tg] e pos.line X.env = pure false) (hw : swappedStores [tg] e X.env = pure none) (h1 : (assignEach [tg] X.env).map (·.2) = [assign tg X.env]) : PS X (.Assign [tg] e pos) (tS Y Z (.asg t x)) :=
  PS.imp (ps_asg he hg hs hw h1) fun D σ H h => asg_R h
theorem swaps_b (hk : X.env.scope.kind = .function) {l : Nat} {n : Str} {p : Pos} (h : isComp e = true) : ∃ b, swapsWith e (some (.Name n p)) l X.env = pure b ∧ (b = true → X.env.scope.names.lookup n = some .local) := by
  have hb : X.env.blockKind = .function := by unfold Env.blockKind; rw [hk]; rfl
  cases e <;> first | (simp [isComp] at h; done) | skip
  all_goals
    refine ⟨_, rfl, fun hh => ?_⟩
    simp only [Bool.and_eq_true, beq_iff_eq] at hh
    exact hh.1.1.2
theorem swaps_name {l : Nat} {env : PySem.Env} {o : Option Expr} (h : isComp e = false) : swapsWith e o l env = pure false := by
  cases e <;> first | rfl | (simp [isComp] at h)
theorem s_T_name {n : Nat} {s : Str} {p : Pos} {t : T} (h : cT c n (.Name s p) = some t) : ∃ i, t = .name i ∧ cTgt c (.Name s p) = some i := by
  have h' : (cTgt c (.Name s p)).map T.name = some t := by cases n <;> exact h
  obtain ⟨i, h1, h2⟩ := map_some h'
  exact ⟨i, h2, h1⟩
/-- a name takes a comprehension on the same line -/
theorem ss_setLc (G : GoodS Y Z k c X) {r : CC → Expr → Option E} {elt : Expr} {gens : List Comprehension} {scope : Scope} {n : Str} {i : Nat} {py p2 : Pos} (hr : RecE Y Z r) (h : cLc r c elt gens scope = some x) (ht : cTgt c (.Name n py) = some i)
    (hsw : swapsWith (.ListComp elt gens scope p2) (some (.Name n py)) pos.line X.env = pure true) (hl : X.env.scope.names.lookup n = some .local) : PS X (.Assign [.Name n py] (.ListComp elt gens scope p2) pos) (tS Y Z (.asg (.name i) x)) := by
  have G0 := G.toGood
  obtain ⟨n', p', e1, _, hs, _⟩ := cTgt_inv ht
  cases e1
  have hy : X.N[i]? = some n := by rw [G0.N]; exact slot_get hs
  have fin : ∀ {te : TE}, (∀ σ H Q, tE Y Z x σ H Q → te σ H Q) → PS X (.Assign [.Name n py] (.ListComp elt gens scope p2) pos) (tAsg te (gName i)) → PS X (.Assign [.Name n py] (.ListComp elt gens scope p2) pos) (tS Y Z (.asg (.name i) x)) := fun {te} hte hps =>
    PS.imp hps fun D σ H hh => by
      obtain ⟨ρ, μ, φ, st, rp, fl, μ', hv, q⟩ := hh
      obtain ⟨v, m1, g1, hv1⟩ := bind_ok hv
      obtain ⟨ρ', m2, g2, hv2⟩ := bind_ok hv1
      obtain ⟨hb, rfl⟩ := ofO_ok g2
      obtain ⟨rfl, rfl⟩ := pure_ok hv2
      cases hb
      exact hte σ H _ (tE_mk st rp g1 fun V H1 φ1 e1 r1 v1 => q _ H1 φ1 e1 r1 ((st.ext e1).set v1))
  unfold cLc at h
  split at h
  · rename_i e0 g h1 h2
    split at h
    · rename_i hc
      cases h
      obtain ⟨hl2, hb⟩ := hc
      obtain ⟨t, i1, ifs, rest, t', it', fs, r', rfl, g1, g2, g3, g4, rfl⟩ := cGens_one h2
      obtain ⟨ok, own⟩ := blk_ok G0 hb
      obtain ⟨pi, hsE⟩ := s_it G0 (fun e x hx => (hr k c X G0 e x hx).1) g2
      have GB := fun s H C cl fp => G0.blk s H scope C cl fp
      rcases rest with _ | ⟨⟨t1, i2, ifs1, k1⟩, rest⟩
      · have e4 := cGs_nil g4
        subst e4
        have := ps_setLc (pos := p2) (spos := pos) G0.calm (by rw [G0.N]; exact G0.nd) hy hl hsw pi ok (fun s H C cl fp => s_T (GB s H C cl fp) g1) (fun s H C cl fp => s_ifs (fun e x hx => (hr k _ _ (GB s H C cl fp) e x hx).2) g3) (fun s H C cl fp => (hr k _ _ (GB s H C cl fp) _ _ h1).1) (fold_of hsE)
        rw [own] at this
        exact fin (fun σ H Q hh => lc1_R hh) this
      · obtain ⟨rfl, t1', it1', fs1, r1', q1, q2, q3, q4, rfl⟩ := cGs_one g4
        rcases rest with _ | ⟨_, _⟩
        · have e4 := cGs_nil q4
          subst e4
          have p1 := fun s H C cl fp => s_it (tg := t1) (GB s H C cl fp) (fun e x hx => (hr k _ _ (GB s H C cl fp) e x hx).1) q2
          have hs1 : isSetE i2 = false := cIt_set q2
          have := ps_setLc2 (pos := p2) (spos := pos) (vs1 := slT t1' ++ slG .nil) G0.calm (by rw [G0.N]; exact G0.nd) hy hl hsw pi ok (by rw [own]; intro i hi; exact List.mem_append_right _ hi) (fun s H C cl fp => s_T (GB s H C cl fp) g1) (fun s H C cl fp => s_ifs (fun e x hx => (hr k _ _ (GB s H C cl fp) e x hx).2) g3)
            (fun s H C cl fp => (p1 s H C cl fp).1) (fun s H C cl fp => s_T (GB s H C cl fp) q1) (fun s H C cl fp => s_ifs (fun e x hx => (hr k _ _ (GB s H C cl fp) e x hx).2) q3) (fun s H C cl fp => (hr k _ _ (GB s H C cl fp) _ _ h1).1) (fold_of hsE) (fun env => fold_of hs1)
          rw [own] at this
          exact fin (fun σ H Q hh => lc2_R hh) this
        · simp at hl2
    · cases h
  · cases h
end
end Ev
end

section
set_option maxRecDepth 100000
set_option maxHeartbeats 1000000
/-! Sn13: stores of tuples; every statement that is compiled is sound. -/
namespace Ev
open PySem L2
theorem bk_of {env : PySem.Env} (hk : env.scope.kind = .function) : env.blockKind = .function := by unfold Env.blockKind; rw [hk]; rfl
theorem hst (e : Expr) (he : isStar e = false) : (match (generalizing := false) e with | .Starred _ _ => true | _ => false) = false := by cases e <;> first | rfl | (simp [isStar] at he)
theorem ed2 {x y : Str} (h : (x == y) = false) : [x, y].eraseDups = [x, y] := by
  have h' : (y == x) = false := by rw [Bool.eq_false_iff] at h ⊢; intro e; exact h (by simpa using (by simpa using e : y = x).symm)
  simp [List.eraseDups, List.eraseDupsBy, List.eraseDupsBy.loop, h, h']
theorem sw2 {x y : Str} {px py pt p2 : Pos} {kt k2 : Nat} {a b : Expr} {env : PySem.Env} (hk : env.scope.kind = .function) (hx : env.scope.names.lookup x = some .local) (hy : env.scope.names.lookup y = some .local) (hl : (py.line == px.line) = true) (hxy : (x == y) = false)
    (ha : isStar a = false) (hb : isStar b = false) (hf : [a, b].all (foldedForSure 8) = false) (hc : [a, b].all (constantsAlone 8) = false) :
    swappedStores [.Tuple [.Name x px, .Name y py] kt pt] (.Tuple [a, b] k2 p2) env = pure (some [x, y]) := by
  have kx : env.kindOf x = some .local := hx
  have ky : env.kindOf y = some .local := hy
  have hl' : py.line = px.line := by simpa using hl
  unfold swappedStores
  simp only [bk_of hk, kx, ky, hf, hc, hl]
  simp only [List.filterMap_cons, List.filterMap_nil, kx, ky, Expr.pos, hl', List.head?_cons, Option.map_some, Option.getD_some, List.any_cons, List.any_nil, hst a ha, hst b hb, ed2 hxy]
  simp [Expr.pos, ed2 hxy]
  exact fun h => by
    rcases h with h | h
    · exact absurd (h.symm.trans (hst a ha)) (by decide)
    · exact absurd (h.symm.trans (hst b hb)) (by decide)
theorem ed3 {x y z : Str} (h : (x == y) = false) (h1 : (x == z) = false) (h2 : (y == z) = false) : [x, y, z].eraseDups = [x, y, z] := by
  have sy : ∀ {x y : Str}, (x == y) = false → (y == x) = false := fun {x y} h => by rw [Bool.eq_false_iff] at h ⊢; intro e; exact h (by simpa using (by simpa using e : y = x).symm)
  simp [List.eraseDups, List.eraseDupsBy, List.eraseDupsBy.loop, h, h1, h2, sy h, sy h1, sy h2]
theorem sw3 {x y z : Str} {px py pz pt p2 : Pos} {kt k2 : Nat} {a b d : Expr} {env : PySem.Env} (hk : env.scope.kind = .function) (hx : env.scope.names.lookup x = some .local) (hy : env.scope.names.lookup y = some .local) (hz : env.scope.names.lookup z = some .local) (hl : (py.line == px.line) = true) (hl2 : (pz.line == px.line) = true)
    (hxy : (x == y) = false) (hxz : (x == z) = false) (hyz : (y == z) = false) (ha : isStar a = false) (hb : isStar b = false) (hd : isStar d = false) (hf : [a, b, d].all (foldedForSure 8) = false) (hc : [a, b, d].all (constantsAlone 8) = false) :
    swappedStores [.Tuple [.Name x px, .Name y py, .Name z pz] kt pt] (.Tuple [a, b, d] k2 p2) env = pure (some [x, y, z]) := by
  have kx : env.kindOf x = some .local := hx
  have ky : env.kindOf y = some .local := hy
  have kz : env.kindOf z = some .local := hz
  have hl' : py.line = px.line := by simpa using hl
  have hl2' : pz.line = px.line := by simpa using hl2
  unfold swappedStores
  simp only [bk_of hk, kx, ky, kz, hf, hc, hl, hl2]
  simp only [List.filterMap_cons, List.filterMap_nil, kx, ky, kz, Expr.pos, hl', hl2', List.head?_cons, Option.map_some, Option.getD_some, List.any_cons, List.any_nil, hst a ha, hst b hb, hst d hd, ed3 hxy hxz hyz]
  simp [Expr.pos, ed3 hxy hxz hyz]
  exact fun h => by
    rcases h with h | h | h
    · exact absurd (h.symm.trans (hst a ha)) (by decide)
    · exact absurd (h.symm.trans (hst b hb)) (by decide)
    · exact absurd (h.symm.trans (hst d hd)) (by decide)
theorem swF {ts vs : List Expr} {pt p2 : Pos} {kt k2 : Nat} {env : PySem.Env} (hf : vs.all (foldedForSure 8) = true) : swappedStores [.Tuple ts kt pt] (.Tuple vs k2 p2) env = pure none := by
  unfold swappedStores
  simp only [hf]
  split
  · rfl
  · split
    · rfl
    · split
      · rfl
      · rfl
theorem swC {x y : Str} {px py pt p2 : Pos} {kt k2 : Nat} {vs : List Expr} {env : PySem.Env} (h : env.scope.names.lookup x = some .cell ∨ env.scope.names.lookup y = some .cell) : swappedStores [.Tuple [.Name x px, .Name y py] kt pt] (.Tuple vs k2 p2) env = pure none := by
  have nl : (some NameKind.cell == some NameKind.local) = false := by decide
  rcases h with h | h
  · have h' : env.kindOf x = some .cell := h
    unfold swappedStores
    split
    · rename_i ts vs' q
      cases q
      simp only [List.filterMap_cons, List.filterMap_nil, List.head?_cons, Option.map_some, Option.getD_some, h', nl, Bool.false_and, Bool.false_eq_true, if_false]
      repeat' split
      all_goals first | rfl | skip
      all_goals (exfalso; simp at *)
    · rename_i q
      exact absurd rfl (q _ _)
  · have h' : env.kindOf y = some .cell := h
    unfold swappedStores
    split
    · rename_i ts vs' q
      cases q
      simp only [List.filterMap_cons, List.filterMap_nil, List.head?_cons, Option.map_some, Option.getD_some, h', nl, Bool.false_and, Bool.false_eq_true, if_false]
      repeat' split
      all_goals first | rfl | skip
      all_goals (exfalso; simp at *)
    · rename_i q
      exact absurd rfl (q _ _)

section
variable {Y : Sys} {Z : Wh} {k : Nat} {c : CC} {X : Cx} {a b d e tg : Expr} {x y z : E} {pos : Pos} {st : Stmt} {sts : List Stmt}
theorem cT_tup {n : Nat} {ts : List Expr} {kk : Nat} {p : Pos} {t : T} (h : cT c (n + 1) (.Tuple ts kk p) = some t) : cTgts (cT c n) ts = some t := h
theorem cTgts_cons {f : Expr → Option T} {ts : List Expr} {t : T} (h : cTgts f (a :: ts) = some t) : ∃ u r, isStar a = false ∧ f a = some u ∧ cTgts f ts = some r ∧ t = .cons u r := by
  unfold cTgts at h
  split at h
  · cases h
  · rename_i hs
    split at h
    · rename_i u r h1 h2
      cases h
      exact ⟨u, r, by simpa using hs, h1, h2, rfl⟩
    · cases h
theorem cEs_cons {r : Expr → Option E} {es : List Expr} {xs : Es} (h : cEs r (a :: es) = some xs) : ∃ u ys, isStar a = false ∧ r a = some u ∧ cEs r es = some ys ∧ xs = .cons u ys := by
  unfold cEs at h
  split at h
  · cases h
  · rename_i hs
    split at h
    · rename_i u ys h1 h2
      cases h
      exact ⟨u, ys, by simpa using hs, h1, h2, rfl⟩
    · cases h
theorem slot_inj {N : List Str} {x y : Str} {i : Nat} (h1 : slot N x = some i) (h2 : slot N y = some i) : x = y := by
  have := (slot_get h1).symm.trans (slot_get h2)
  exact Option.some.inj this
theorem evEs_cons {x : E} {r : Es} {ρ : Env} {μ μ' : Store} {vs : List Val} (h : evEs Y (.cons x r) ρ μ = .ok vs μ') : ∃ v m1 ws, evE Y x ρ μ = .ok v m1 ∧ evEs Y r ρ m1 = .ok ws μ' ∧ vs = v :: ws := by
  obtain ⟨v, m1, h1, h2⟩ := bind_ok h
  obtain ⟨ws, m2, h3, h4⟩ := bind_ok h2
  obtain ⟨rfl, rfl⟩ := pure_ok h4
  exact ⟨v, m1, ws, h1, h3, rfl⟩
/-- what a tuple's display and a store of its things tell -/
theorem asgT_inv {t : T} {xs : Es} {ρ : Env} {μ μ' : Store} {fl : Fl} (h : evS Y (.asg t (.tup xs)) ρ μ = .ok fl μ') : ∃ vs ρ', evEs Y xs ρ μ = .ok vs μ' ∧ bindT t (.tup vs) ρ = some ρ' ∧ fl = .nx ρ' := by
  obtain ⟨v, m1, h1, hv1⟩ := bind_ok h
  obtain ⟨ρ', m2, h2, hv2⟩ := bind_ok hv1
  obtain ⟨hb, rfl⟩ := ofO_ok h2
  obtain ⟨rfl, rfl⟩ := pure_ok hv2
  obtain ⟨vs, m3, h3, h4⟩ := bind_ok h1
  obtain ⟨_, rfl, rfl⟩ := newTup_ok h4
  exact ⟨vs, ρ', h3, hb, rfl⟩
theorem bind_name {i : Nat} {r : T} {v : Val} {vs : List Val} {ρ ρ' : Env} (h : bindT (.cons (.name i) r) (.tup (v :: vs)) ρ = some ρ') : bindT r (.tup vs) (ρ.set i (some v)) = some ρ' := h
theorem bind_none {v : Val} {ρ ρ' : Env} (h : bindT .nil v ρ = some ρ') : v = .tup [] ∧ ρ' = ρ := by
  cases v <;> first | (cases h; done) | skip
  rename_i xs
  cases xs with
  | nil => cases h; exact ⟨rfl, rfl⟩
  | cons _ _ => cases h
theorem ss_cAsg (G : GoodS Y Z k c X) (RS : AllX Y Z) {s : S} {t : Expr} (h : cAsg c t e = some s) : PS X (.Assign [t] e pos) (tS Y Z s) := by
  have G0 := G.toGood
  have hr := cE_ok RS fuelE
  have hr1 : ∀ e x, cE fuelE c e = some x → PE X e (tE Y Z x) := fun e x hx => (hr k c X G0 e x hx).1
  have hk : X.env.scope.kind = .function := by rw [G.sc]; exact G.kind
  unfold cAsg at h
  split at h
  · rename_i o i p2
    split at h
    · cases h
    · rename_i hsl
      split at h
      · rename_i x' y' z' h1 h2 h3
        cases h
        have hsl' : isSl i = false := by simpa using hsl
        have hass : ∀ v, assign (.Subscript o i p2) X.env v = (do
            let ov ← holding [v] (eval o X.env)
            let iv ← holding [v, ov] (eval i X.env)
            standAt p2
            holding [v, ov, iv] (setItem ov iv v)
            release [v, ov, iv] []) := fun v => by
          cases i <;> first | rfl | (simp [isSl] at hsl')
        have hsw : swapsWithSole [.Subscript o i p2] e pos.line X.env = pure false := by cases e <;> rfl
        have hww : swappedStores [.Subscript o i p2] e X.env = pure none := by cases e <;> rfl
        refine ⟨fun pins s σ H D I h => ?_⟩
        obtain ⟨ρ, μ, φ, st, rp, fl, μ', hv, q⟩ := h
        obtain ⟨v, m1, g1, hv1⟩ := bind_ok hv
        obtain ⟨u, m2, g2, hv2⟩ := bind_ok hv1
        obtain ⟨w, m3, g3, hv3⟩ := bind_ok hv2
        obtain ⟨_, m4, g4, hv4⟩ := bind_ok hv3
        obtain ⟨rfl, rfl⟩ := pure_ok hv4
        clear hv hv1 hv2 hv3
        have go : ∀ {t : TSet}, PSet X t → (∀ U W V H' φ' σ', Ext Z.K φ H φ' H' → Rep Z φ' m3 H' → StR Z φ' H' ρ σ' → VR Z φ' H' u U → VR Z φ' H' w W → VR Z φ' H' v V → t U W V H' fun H3 => D.nx σ' H3) →
            wpAny (model X.prog X.w) X.A (exec (.Assign [.Subscript o i p2] e pos) X.env) (SP X pins D) X.xe s := fun {t} ht f =>
          (ps_asg (hr1 _ _ h3) (pg_sub (hr1 _ _ h1) (hr1 _ _ h2) ht hass) hsw hww rfl).run pins s σ H D I (tE_mk st rp g1 fun V H1 φ1 e1 r1 v1 => tE_mk (st.ext e1) r1 g2 fun U H2 φ2 e2 r2 v2 => tE_mk (st.ext (e1.trans e2)) r2 g3 fun W H3 φ3 e3 r3 v3 =>
            f U W V H3 φ3 σ ((e1.trans e2).trans e3) r3 (st.ext ((e1.trans e2).trans e3)) (VR.ext e3 _ _ v2) v3 (VR.ext (e2.trans e3) _ _ v1))
        unfold subV at g4
        split at g4
        · rename_i n
          split at g4
          · rename_i xs hm
            split at g4
            · rename_i j
              split at g4
              · rename_i jj hj
                cases g4
                refine go set_list fun U W V H' φ' σ' e' r' st' vu vw vv => ?_
                obtain ⟨p, vs, rfl, hp, t1, t2⟩ := r'.ref_lst vu hm
                obtain ⟨r2, e2⟩ := r'.updL hp t1 (t2.set jj vv)
                exact ⟨p, vs, j, jj, rfl, vw, t1, by rw [t2.len]; exact hj, q _ _ _ (e'.trans e2) r2 (st'.ext e2)⟩
              · cases g4
            · cases g4
          · rename_i kvs hm
            split at g4
            · rename_i hkk
              cases g4
              obtain ⟨tt, ht, f⟩ := (RS k c X G0).dput _ _ kvs w v hm hkk.1 hkk.2
              refine go ht fun U W V H' φ' σ' e' r' st' vu vw vv => f U W V H' φ' _ r' vu vw vv fun H'' e2 r2 => q _ _ _ (e'.trans e2) r2 (st'.ext e2)
            · cases g4
          · cases g4
        · cases g4
      · cases h
  · rename_i hnot
    split at h
    · rename_i hok
      split at h
      · rename_i t' e' h1 h2
        cases h
        by_cases htt : isTupE t = true
        · cases t <;> first | (simp [isTupE] at htt; done) | skip
          rename_i ts kt pt
          have hs0 : swapsWithSole [.Tuple ts kt pt] e pos.line X.env = pure false := by cases e <;> rfl
          by_cases hte : isTupE e = true
          · cases e <;> first | (simp [isTupE] at hte; done) | skip
            rename_i vs k2 p2
            simp only [asgOk, Bool.or_eq_true] at hok
            rcases hok with (hpar | hcel) | hfold
            · -- the swap
              have hcs : cStep (cE 39) c (.Tuple vs k2 p2) = some e' := h2
              obtain ⟨xs, hxs, rfl⟩ := map_some (show (cEs (cE 39 c) vs).map .tup = some e' from hcs)
              have hrr := cE_ok RS 39
              have pa : PA X vs (tA Y Z xs) := s_args (fun e x hx => (hrr k c X G0 e x hx).1) hxs
              replace h1 := cT_tup h1
              unfold parOk at hpar
              split at hpar
              · rename_i x px y py a b
                simp only [Bool.and_eq_true, decide_eq_true_eq, Bool.not_eq_true'] at hpar
                obtain ⟨⟨⟨⟨⟨⟨⟨l1, l2⟩, ln⟩, hxy⟩, sa⟩, sb⟩, hf⟩, hc⟩ := hpar
                obtain ⟨t1, r1, _, f1, n1, rfl⟩ := cTgts_cons h1
                obtain ⟨t2, r2, _, f2, n2, rfl⟩ := cTgts_cons n1
                cases n2
                obtain ⟨i, rfl, c1⟩ := s_T_name f1
                obtain ⟨j, rfl, c2⟩ := s_T_name f2
                obtain ⟨_, _, q1, _, s1, _⟩ := cTgt_inv c1
                obtain ⟨_, _, q2, _, s2, _⟩ := cTgt_inv c2
                cases q1; cases q2
                have hij : i ≠ j := fun z => by
                  subst z
                  rw [slot_inj s1 s2] at hxy
                  simp at hxy
                refine PS.imp (ps_par G0.calm (by rw [G0.N]; exact G0.nd) (by rw [G0.N]; exact slot_get s1) (by rw [G0.N]; exact slot_get s2) hij (by rw [G.sc]; exact l1) (by rw [G.sc]; exact l2) pa (sw2 hk (by rw [G.sc]; exact l1) (by rw [G.sc]; exact l2) ln hxy sa sb hf hc) hs0) fun D σ H hh => ?_
                obtain ⟨ρ, μ, φ, st, rp, fl, μ', hv, q⟩ := hh
                obtain ⟨ws, ρ', g1, g2, rfl⟩ := asgT_inv hv
                refine ⟨ρ, μ, φ, st, rp, ws, μ', g1, fun Vs H1 φ1 e1 r1 v1 => ?_⟩
                obtain ⟨x1, ys, _, _, hx2, rfl⟩ := cEs_cons hxs
                obtain ⟨x2, ys2, _, _, hx3, rfl⟩ := cEs_cons hx2
                cases hx3
                obtain ⟨w1, n1, ws1, _, k1, rfl⟩ := evEs_cons g1
                obtain ⟨w2, n2, ws2, _, k2, rfl⟩ := evEs_cons k1
                obtain ⟨rfl, _⟩ := pure_ok k2
                obtain ⟨V, U, rfl, vv, vu⟩ := VRs2 v1
                obtain ⟨_, rfl⟩ := bind_none (bind_name (bind_name g2))
                exact ⟨V, U, rfl, q _ H1 φ1 e1 r1 (((st.ext e1).set vv).set vu)⟩
              · rename_i x px y py z pz a b d
                simp only [Bool.and_eq_true, decide_eq_true_eq, Bool.not_eq_true'] at hpar
                obtain ⟨⟨⟨⟨⟨⟨⟨⟨⟨⟨⟨⟨l1, l2⟩, l3⟩, ln⟩, ln2⟩, hxy⟩, hxz⟩, hyz⟩, sa⟩, sb⟩, sd⟩, hf⟩, hc⟩ := hpar
                obtain ⟨t1, r1, _, f1, n1, rfl⟩ := cTgts_cons h1
                obtain ⟨t2, r2, _, f2, n2, rfl⟩ := cTgts_cons n1
                obtain ⟨t3, r3, _, f3, n3, rfl⟩ := cTgts_cons n2
                cases n3
                obtain ⟨i, rfl, c1⟩ := s_T_name f1
                obtain ⟨j, rfl, c2⟩ := s_T_name f2
                obtain ⟨l, rfl, c3⟩ := s_T_name f3
                obtain ⟨_, _, q1, _, s1, _⟩ := cTgt_inv c1
                obtain ⟨_, _, q2, _, s2, _⟩ := cTgt_inv c2
                obtain ⟨_, _, q3, _, s3, _⟩ := cTgt_inv c3
                cases q1; cases q2; cases q3
                have hij : i ≠ j := fun z => by
                  subst z
                  rw [slot_inj s1 s2] at hxy
                  simp at hxy
                have hil : i ≠ l := fun z => by
                  subst z
                  rw [slot_inj s1 s3] at hxz
                  simp at hxz
                have hjl : j ≠ l := fun z => by
                  subst z
                  rw [slot_inj s2 s3] at hyz
                  simp at hyz
                refine PS.imp (ps_par3 G0.calm (by rw [G0.N]; exact G0.nd) (by rw [G0.N]; exact slot_get s1) (by rw [G0.N]; exact slot_get s2) (by rw [G0.N]; exact slot_get s3) hij hil hjl (by rw [G.sc]; exact l1) (by rw [G.sc]; exact l2) (by rw [G.sc]; exact l3) pa (sw3 hk (by rw [G.sc]; exact l1) (by rw [G.sc]; exact l2) (by rw [G.sc]; exact l3) ln ln2 hxy hxz hyz sa sb sd hf hc) hs0) fun D σ H hh => ?_
                obtain ⟨ρ, μ, φ, st, rp, fl, μ', hv, q⟩ := hh
                obtain ⟨ws, ρ', g1, g2, rfl⟩ := asgT_inv hv
                refine ⟨ρ, μ, φ, st, rp, ws, μ', g1, fun Vs H1 φ1 e1 r1 v1 => ?_⟩
                obtain ⟨x1, ys, _, _, hx2, rfl⟩ := cEs_cons hxs
                obtain ⟨x2, ys2, _, _, hx3, rfl⟩ := cEs_cons hx2
                obtain ⟨x3, ys3, _, _, hx4, rfl⟩ := cEs_cons hx3
                cases hx4
                obtain ⟨w1, n1, ws1, _, k1, rfl⟩ := evEs_cons g1
                obtain ⟨w2, n2, ws2, _, k2, rfl⟩ := evEs_cons k1
                obtain ⟨w3, n3, ws3, _, k3, rfl⟩ := evEs_cons k2
                obtain ⟨rfl, _⟩ := pure_ok k3
                obtain ⟨V, r, rfl, vv, v1⟩ := v1
                obtain ⟨U, W, rfl, vu, vw⟩ := VRs2 v1
                obtain ⟨_, rfl⟩ := bind_none (bind_name (bind_name (bind_name g2)))
                exact ⟨V, U, W, rfl, q _ H1 φ1 e1 r1 ((((st.ext e1).set vv).set vu).set vw)⟩
              · cases hpar
            · unfold celOk at hcel
              split at hcel
              · rename_i x px y py
                simp only [Bool.or_eq_true, decide_eq_true_eq] at hcel
                exact ss_asg (hr1 _ _ h2) (s_T G0 h1) hs0 (swC (by rw [G.sc]; exact hcel)) rfl
              · cases hcel
            · exact ss_asg (hr1 _ _ h2) (s_T G0 h1) hs0 (swF hfold) rfl
          · have hw0 : swappedStores [.Tuple ts kt pt] e X.env = pure none := by cases e <;> first | rfl | (simp [isTupE] at hte)
            exact ss_asg (hr1 _ _ h2) (s_T G0 h1) hs0 hw0 rfl
        · -- a name
          have h1' : (cTgt c t).map T.name = some t' := by cases t <;> first | exact h1 | (simp [isTupE] at htt)
          obtain ⟨i, ci, rfl⟩ := map_some h1'
          obtain ⟨n, p, rfl, _, hsl, hlk⟩ := cTgt_inv ci
          have hw0 : swappedStores [.Name n p] e X.env = pure none := by cases e <;> rfl
          by_cases hcmp : isComp e = true
          · obtain ⟨b, hb, hloc⟩ := swaps_b (X := X) hk (l := pos.line) (n := n) (p := p) hcmp
            cases b with
            | false => exact ss_asg (hr1 _ _ h2) (s_T G0 h1) hb hw0 rfl
            | true =>
              cases e <;> first | (simp [isComp] at hcmp; done) | skip
              · rename_i elt gens scope p2
                exact ss_setLc G (cE_ok RS 39) (show cLc (cE 39) c elt gens scope = some e' from h2) ci hb (hloc rfl)
              · cases h2
              · cases h2
          · exact ss_asg (hr1 _ _ h2) (s_T G0 h1) (show swapsWith e (some (.Name n p)) pos.line X.env = pure false from swaps_name (by simpa using hcmp)) hw0 rfl
      · cases h
    · cases h
end
end Ev
end

section
set_option maxRecDepth 100000
set_option maxHeartbeats 1000000
/-! Sn14: every statement that is compiled is sound; defs. -/
namespace Ev
open PySem L2
section
variable {Y : Sys} {Z : Wh} {k : Nat} {c : CC} {X : Cx} {a b d e tg : Expr} {x y z : E} {pos : Pos} {st : Stmt} {sts : List Stmt}
theorem ss_aug (G : GoodS Y Z k c X) {i : Nat} {o : Operator} {o' : Bop} (ho : (o = .Add ∧ o' = .add) ∨ (o = .Sub ∧ o' = .sub)) (ci : cTgt c tg = some i) (he : PE X e (tE Y Z x)) : PS X (.AugAssign tg o e pos) (tS Y Z (.aug i o' x)) := by
  have G0 := G.toGood
  obtain ⟨n, p, rfl, _, hs, hl⟩ := cTgt_inv ci
  obtain ⟨h1, h2⟩ := G0.sto n hl
  have go : ∀ {ip : TIp}, PIp X o ip → (∀ i j H (Q : VK), (∃ r, binV o' (.int i) (.int j) = (pure (.int r) : M Val) ∧ Q (.int r) H) → ip (.int i) (.int j) H Q) → PS X (.AugAssign (.Name n p) o e pos) (tS Y Z (.aug i o' x)) := fun {ip} hip f =>
    PS.imp (ps_aug (by rw [G0.N]; exact G0.nd) (by rw [G0.N]; exact slot_get hs) h1 he hip h2) fun D σ H hh => by
      obtain ⟨ρ, μ, φ, st, rp, fl, μ', hv, q⟩ := hh
      obtain ⟨u, m1, g1, hv1⟩ := bind_ok hv
      obtain ⟨e1, rfl⟩ := ofO_ok g1
      obtain ⟨w, m2, g2, hv2⟩ := bind_ok hv1
      have e2 : ρ[i]? = some (some u) := by
        cases hr : ρ[i]? with
        | none => rw [hr] at e1; cases e1
        | some o => rw [hr] at e1; simp at e1; rw [e1]
      cases u <;> first | (cases hv2; done) | skip
      rename_i j
      obtain ⟨r, m3, g3, hv3⟩ := bind_ok hv2
      obtain ⟨rfl, rfl⟩ := pure_ok hv3
      obtain ⟨V, k1, k2⟩ := st.get i _ e2
      refine ⟨V, k1, tE_mk st rp g2 fun W H1 φ1 e1' r1 v1 => ?_⟩
      rw [show V = L2.V.int j from k2]
      have hw : ∃ l, w = .int l := by
        rcases ho with ⟨_, rfl⟩ | ⟨_, rfl⟩ <;> (cases w <;> first | exact ⟨_, rfl⟩ | cases g3)
      obtain ⟨l, rfl⟩ := hw
      rw [show W = L2.V.int l from v1]
      refine f j l H1 _ ?_
      rcases ho with ⟨_, rfl⟩ | ⟨_, rfl⟩
      · obtain ⟨rfl, rfl⟩ := pure_ok g3
        exact ⟨_, rfl, q _ H1 φ1 e1' r1 ((st.ext e1').set rfl)⟩
      · obtain ⟨rfl, rfl⟩ := pure_ok g3
        exact ⟨_, rfl, q _ H1 φ1 e1' r1 ((st.ext e1').set rfl)⟩
  have inj : ∀ {a b : Val}, (pure a : M Val) = pure b → a = b := fun {a b} h => by
    have := congrFun h []
    exact (pure_ok (μ := []) (μ' := []) (show (pure a : M Val) [] = .ok b [] from this)).1
  rcases ho with ⟨rfl, rfl⟩ | ⟨rfl, rfl⟩
  · refine go ip_add fun i j H Q h => ?_
    obtain ⟨r, h1, h2⟩ := h
    have h1 : (pure (Val.int (i + j)) : M Val) = pure (.int r) := h1
    cases inj h1
    exact ⟨i, j, rfl, rfl, h2⟩
  · refine go ip_sub fun i j H Q h => ?_
    obtain ⟨r, h1, h2⟩ := h
    have h1 : (pure (Val.int (i - j)) : M Val) = pure (.int r) := h1
    cases inj h1
    exact ⟨i, j, rfl, rfl, h2⟩
abbrev RecS (Y : Sys) (Z : Wh) (r : CC → Stmt → Option S) : Prop := ∀ (k : Nat) (c : CC) (X : Cx), GoodS Y Z k c X → ∀ st s, r c st = some s → PS X st (tS Y Z s)
theorem cStmts_ok {f : Stmt → Option S} (hf : ∀ st s, f st = some s → PS X st (tS Y Z s)) : ∀ {sts : List Stmt} {ss : Ss}, cStmts f sts = some ss → PSs X sts (tSs Y Z ss)
  | [], _, h => by cases h; exact ss_nil
  | s :: rest, _, h => by
    unfold cStmts at h
    split at h
    · rename_i a b h1 h2
      cases h
      exact ss_cons (hf _ _ h1) (cStmts_ok hf h2)
    · cases h
theorem cS_ok (RS : AllX Y Z) : ∀ n, RecS Y Z (cS n)
  | 0 => fun k c X G st s h => by cases h
  | n + 1 => fun k c X G st s h => by
    have G0 := G.toGood
    have hE := cE_ok RS fuelE k c X G0
    have hb : ∀ {sts : List Stmt} {ss : Ss}, cStmts (cS n c) sts = some ss → PSs X sts (tSs Y Z ss) := fun h => cStmts_ok (fun st s hs => cS_ok RS n k c X G st s hs) h
    replace h : cStmt (cStmts (cS n c)) c st = some s := h
    unfold cStmt at h
    split at h
    · rename_i e p
      split at h
      · cases h
      · rename_i hc
        split at h
        · rename_i hd
          cases h
          cases e <;> first | (simp [isDoc] at hd; done) | skip
          rename_i kk j p2
          cases kk <;> first | (simp [isDoc] at hd; done) | skip
          exact ss_doc
        · obtain ⟨x', hx, rfl⟩ := map_some h
          exact ss_ex (by simpa using hc) (hE _ _ hx).1
    · cases h; exact ss_pass
    · cases h; exact ss_brk
    · cases h; exact ss_cnt
    · cases h; exact ss_retN
    · obtain ⟨x', hx, rfl⟩ := map_some h
      exact ss_ret (hE _ _ hx).1
    · exact ss_cAsg G RS h
    · split at h
      · rename_i i x' h1 h2
        cases h
        exact ss_aug G (.inl ⟨rfl, rfl⟩) h1 (hE _ _ h2).1
      · rename_i i x' h1 h2
        cases h
        exact ss_aug G (.inr ⟨rfl, rfl⟩) h1 (hE _ _ h2).1
      · cases h
    · split at h
      · rename_i x' s1 s2 h1 h2 h3
        cases h
        exact ss_if (hE _ _ h1).2 (hb h2) (hb h3)
      · cases h
    · split at h
      · rename_i x' s1 h1 h2
        cases h
        exact ss_while G (hE _ _ h1).2 (hb h2)
      · cases h
    · split at h
      · rename_i t' it' s1 h1 h2 h3
        cases h
        obtain ⟨pi, hsE⟩ := s_it G0 (fun e x hx => (hE e x hx).1) h2
        exact ss_for G pi hsE (s_T G0 h1) (hb h3)
      · cases h
    · cases h; exact ss_never
    · cases h
end

/-! ### a def -/
section
variable {Z : Wh} {P : Nat → Option Fn} {con : Nat → Option Val} {mg : Str → Option Value} {base : Heap}
/-- what the def's record and text tell -/
structure Dn (Z : Wh) (mg : Str → Option Value) (base : Heap) (c : CC) (x : Str) (df : Df) (fn : Fn) (body : List Stmt) (fd : FuncData) : Prop where
  rec_ : ∃ (name qual : Str) (params : Arguments) (dV kV doc pm cdv ct oc : Value) (an od : Option Addr) (osl : Array (Option Value)), fd = PySem.W.fnOf name qual params body c.sc dV kV doc pm an cdv ct ∧ Z.K.lookup (Z.fa df.id) = some ⟨oc, od, .func fd, osl⟩ ∧ PySem.W.codeIn Z.K cdv qual = true ∧
    (c.tb = true → ∃ cc PP, cdv = .ref cc ∧ GxR.TabB base mg cc PP ∧ PP ∈ Z.tb)
  scope : FnScope c.N df.ps c.sc
  text : ∃ n, cStmts (cS n c) body = some fn.body
  np : fn.np = df.ps.length
  ns : fn.ns = c.N.length
theorem len_le {c : CC} {df : Df} (S : FnScope c.N df.ps c.sc) : df.ps.length ≤ c.N.length := by
  have := congrArg List.length S.pre
  rw [List.length_take] at this
  omega
theorem VRs.start {Z : Wh} {φ : List Addr} {H : Hp} {N : List Str} {args : List Val} {vs : List L2.V} {n : Nat} (h : VRs Z φ H args vs) (hn : n = N.length) : StR Z φ H (Ev.start n args) (L2.start N vs) := by
  subst hn
  have hl := h.len
  refine ⟨by simp [Ev.start, L2.start, hl], fun i x e => ?_⟩
  unfold Ev.start at e
  unfold L2.start
  by_cases hi : i < args.length
  · rw [List.getElem?_append_left (by simpa using hi)] at e
    rw [List.getElem?_append_left (by simpa [hl] using hi)]
    rw [List.getElem?_map] at e ⊢
    cases ha : args[i]? with
    | none => rw [ha] at e; cases e
    | some y =>
      rw [ha] at e
      cases e
      obtain ⟨V, h1, h2⟩ := h.get ha
      exact ⟨V, by rw [h1]; rfl, h2⟩
  · rw [List.getElem?_append_right (by simpa using hi)] at e
    rw [List.getElem?_replicate] at e
    split at e <;> cases e
theorem fn_sound {n : Nat} {c : CC} {x : Str} {df : Df} {fn : Fn} {body : List Stmt} {fd : FuncData} (RS : AllX ⟨evF P con n, con⟩ Z) (hP : P df.id = some fn) (D : Dn Z mg base c x df fn body fd) (M : Mo ⟨evF P con n, con⟩ Z Z.P Z.w mg base (2 * n) c) :
    FnOk Z.P Z.w Z.K mg base CX0 (2 * (n + 1)) (Z.fa df.id) fd df.ps (spG Z (evF P con (n + 1) df.id) df.ps.length) := by
  obtain ⟨name, qual, params, dV, kV, doc, pm, cdv, ct, oc, an, od, osl, rfl, lk, hcd, tab⟩ := D.rec_
  refine fn_of (k := 2 * n + 1) lk hcd D.scope (fun vs H Q E h => ?_) fun A outer s H vs Q E hr h => ?_
  · obtain ⟨args, μ, φ, hl, rp, vr, _⟩ := h
    rw [vr.len, hl]
  · obtain ⟨args, μ, φ, hl, rp, vr, v, μ', hv, q⟩ := h
    have hv : (match P df.id with | some d => runFn ⟨evF P con n, con⟩ d args | none => stuck) μ = .ok v μ' := hv
    rw [hP] at hv
    obtain ⟨_, hv⟩ := must_ok hv
    have G : GoodS ⟨evF P con n, con⟩ Z (2 * n) c (cxOf CX0 Z.P Z.w Z.K mg base c.N qual c.sc (Z.fa df.id) cdv A outer s H E).nox := by
      refine ⟨⟨rfl, rfl, rfl, rfl, D.scope.nd, rfl, hr.mono (Nat.le_succ _), fun _ => hr, fun ht => ?_, fun y h => ?_, fun y h => ?_, fun y h => ⟨h, .inl rfl⟩, M, fun y h => h⟩, rfl, D.scope.kind, PassesOwn.never⟩
      · obtain ⟨cc, PP, e1, e2, e3⟩ := tab ht
        exact ⟨cc, PP, e1, e2, e3⟩
      · unfold isVis at h
        split at h
        · rename_i e; exact .inl e
        · rename_i e; exact .inr (.inl e)
        · rename_i e; exact .inr (.inr e)
        · cases h
      · unfold isGlo at h
        split at h
        · rename_i e; exact e
        · cases h
    obtain ⟨m, ht⟩ := D.text
    refine ⟨tSs ⟨evF P con n, con⟩ Z fn.body, (cStmts_ok (fun st s hs => cS_ok RS m _ _ _ G st s hs) ht).nox, ?_⟩
    cases hb : evSs ⟨evF P con n, con⟩ fn.body (Ev.start fn.ns args) μ with
    | ok fl m1 =>
      refine ⟨Ev.start fn.ns args, μ, φ, vr.start D.ns, rp, fl, m1, hb, ?_⟩
      rw [hb] at hv
      cases fl with
      | nx ρ => cases hv; exact fun σ' H' φ' e' r' _ => q _ _ _ e' r' rfl
      | rt u => cases hv; exact fun V H' φ' e' r' v' => q _ _ _ e' r' v'
      | bk ρ => cases hv
      | ct ρ => cases hv
    | exc cc u m1 => rw [hb] at hv; cases hv
    | stuck => rw [hb] at hv; cases hv
end
end Ev
end

section
set_option maxRecDepth 100000
set_option maxHeartbeats 1000000
/-! Ob1: dicts: what is asked of them. -/
namespace Ev
open PySem L2

/-! ### keys -/
theorem keyV_inj {a b : Key} (h : keyV a = keyV b) : a = b := by
  cases a <;> cases b <;> simp [keyV] at h <;> rw [h]
theorem keyVs_inj : ∀ {a b : List Key}, a.map keyV = b.map keyV → a = b
  | [], [], _ => rfl
  | [], _ :: _, h => by cases h
  | _ :: _, [], h => by cases h
  | a :: as, b :: bs, h => by
    simp only [List.map_cons, List.cons.injEq] at h
    rw [keyV_inj h.1, keyVs_inj h.2]
section
variable {Z : Wh} {φ : List Addr} {H : Hp}
theorem VR.key {key : Key} {W : L2.V} (h : VR Z φ H (keyV key) W) : W = kV key := by
  cases key <;> exact h
theorem VRs.keys : ∀ {ks : List Key} {vs : List L2.V}, VRs Z φ H (ks.map keyV) vs → vs = ks.map kV
  | [], _, h => h
  | k :: ks, _, ⟨v, r, h1, h2, h3⟩ => by rw [h1, VR.key h2, VRs.keys h3]; rfl
theorem isIS_key : ∀ {xs : List Val}, xs.all isIS = true → ∃ ks : List Key, xs = ks.map keyV
  | [], _ => ⟨[], rfl⟩
  | x :: xs, h => by
    simp only [List.all_cons, Bool.and_eq_true] at h
    obtain ⟨ks, rfl⟩ := isIS_key h.2
    cases x <;> first | (simp [isIS] at h; done) | skip
    · rename_i i; exact ⟨.inl i :: ks, rfl⟩
    · rename_i s; exact ⟨.inr s :: ks, rfl⟩
theorem okKey_inv {k : Val} (h : okKey k = true) : (∃ key, k = keyV key) ∨ ∃ ks : List Key, k = .tup (ks.map keyV) := by
  cases k <;> first | (simp [okKey] at h; done) | skip
  · rename_i i; exact .inl ⟨.inl i, rfl⟩
  · rename_i s; exact .inl ⟨.inr s, rfl⟩
  · rename_i xs
    obtain ⟨ks, rfl⟩ := isIS_key (xs := xs) h
    exact .inr ⟨ks, rfl⟩
theorem keyV_tup (key : Key) : isTup (keyV key) = false := by cases key <;> rfl
theorem KRs.find : ∀ {kvs : List (Val × Val)} {kk : List (Key × L2.V)} (key : Key), KRs Z φ H kvs kk → (∀ v, findK kvs (keyV key) = some v → ∃ V, valV kk key = some V ∧ VR Z φ H v V) ∧ (findK kvs (keyV key) = none → valV kk key = none)
  | [], _, key, h => by
    cases (show _ = [] from h)
    exact ⟨(fun v h => by cases h), fun _ => rfl⟩
  | (k, v) :: r, _, key, ⟨k', V, rest, h1, h2, h3, h4⟩ => by
    subst h1; subst h2
    unfold findK
    by_cases e : k' = key
    · subst e
      rw [if_pos rfl, valV_pos rfl]
      exact ⟨fun w hw => by cases hw; exact ⟨V, rfl, h3⟩, fun h => by cases h⟩
    · rw [if_neg (fun z => e (keyV_inj z)), valV_neg e]
      exact KRs.find key h4
theorem TRs.find : ∀ {kvs : List (Val × Val)} {kk : List (List Key × L2.V)} (key : List Key), TRs Z φ H kvs kk → (∀ v, findK kvs (.tup (key.map keyV)) = some v → ∃ V, valV kk key = some V ∧ VR Z φ H v V) ∧ (findK kvs (.tup (key.map keyV)) = none → valV kk key = none)
  | [], _, key, h => by
    cases (show _ = [] from h)
    exact ⟨(fun v h => by cases h), fun _ => rfl⟩
  | (k, v) :: r, _, key, ⟨k', V, rest, h1, h2, h3, h4⟩ => by
    subst h1; subst h2
    unfold findK
    by_cases e : k' = key
    · subst e
      rw [if_pos rfl, valV_pos rfl]
      exact ⟨fun w hw => by cases hw; exact ⟨V, rfl, h3⟩, fun h => by cases h⟩
    · rw [if_neg (fun z => e (keyVs_inj (by injection z))), valV_neg e]
      exact TRs.find key h4
theorem KRs.len : ∀ {kvs : List (Val × Val)} {kk : List (Key × L2.V)}, KRs Z φ H kvs kk → kk.length = kvs.length
  | [], _, h => by cases (show _ = [] from h); rfl
  | (k, v) :: r, _, ⟨k', V, rest, h1, h2, h3, h4⟩ => by subst h1; simp [KRs.len h4]
theorem TRs.len : ∀ {kvs : List (Val × Val)} {kk : List (List Key × L2.V)}, TRs Z φ H kvs kk → kk.length = kvs.length
  | [], _, h => by cases (show _ = [] from h); rfl
  | (k, v) :: r, _, ⟨k', V, rest, h1, h2, h3, h4⟩ => by subst h1; simp [TRs.len h4]
theorem KRs.tup {kvs : List (Val × Val)} {kk : List (Key × L2.V)} (h : KRs Z φ H kvs kk) : ∀ a ∈ kvs.map (·.1), isTup a = false := by
  induction kvs generalizing kk with
  | nil => intro a ha; simp at ha
  | cons p r ih =>
    obtain ⟨k, v⟩ := p
    obtain ⟨k', V, rest, h1, h2, h3, h4⟩ := h
    intro a ha
    simp only [List.map_cons, List.mem_cons] at ha
    rcases ha with rfl | ha
    · rw [h2]; exact keyV_tup k'
    · exact ih h4 a ha
theorem TRs.tup {kvs : List (Val × Val)} {kk : List (List Key × L2.V)} (h : TRs Z φ H kvs kk) : ∀ a ∈ kvs.map (·.1), isTup a = true := by
  induction kvs generalizing kk with
  | nil => intro a ha; simp at ha
  | cons p r ih =>
    obtain ⟨k, v⟩ := p
    obtain ⟨k', V, rest, h1, h2, h3, h4⟩ := h
    intro a ha
    simp only [List.map_cons, List.mem_cons] at ha
    rcases ha with rfl | ha
    · rw [h2]; rfl
    · exact ih h4 a ha
theorem KRs.any : ∀ {kvs : List (Val × Val)} {kk : List (Key × L2.V)} (key : Key), KRs Z φ H kvs kk → kvs.any (fun p => decide (p.1 = keyV key)) = kk.any fun p => decide (p.1 = key)
  | [], _, key, h => by cases (show _ = [] from h); rfl
  | (k, v) :: r, _, key, ⟨k', V, rest, h1, h2, h3, h4⟩ => by
    subst h1; subst h2
    rw [List.any_cons, List.any_cons, KRs.any key h4]
    congr 1
    exact decide_eq_decide.mpr ⟨keyV_inj, fun e => congrArg keyV e⟩
theorem TRs.any : ∀ {kvs : List (Val × Val)} {kk : List (List Key × L2.V)} (key : List Key), TRs Z φ H kvs kk → kvs.any (fun p => decide (p.1 = .tup (key.map keyV))) = kk.any fun p => decide (p.1 = key)
  | [], _, key, h => by cases (show _ = [] from h); rfl
  | (k, v) :: r, _, key, ⟨k', V, rest, h1, h2, h3, h4⟩ => by
    subst h1; subst h2
    rw [List.any_cons, List.any_cons, TRs.any key h4]
    congr 1
    exact decide_eq_decide.mpr ⟨fun e => keyVs_inj (by injection e), fun e => congrArg (fun l : List Key => Val.tup (l.map keyV)) e⟩
theorem KRs.snoc : ∀ {kvs : List (Val × Val)} {kk : List (Key × L2.V)} {key : Key} {v : Val} {V : L2.V}, KRs Z φ H kvs kk → VR Z φ H v V → KRs Z φ H (kvs ++ [(keyV key, v)]) (kk ++ [(key, V)])
  | [], _, key, v, V, h, hv => by cases (show _ = [] from h); exact ⟨key, V, [], rfl, rfl, hv, rfl⟩
  | (k, u) :: r, _, key, v, V, ⟨k', U, rest, h1, h2, h3, h4⟩, hv => by subst h1; exact ⟨k', U, _, rfl, h2, h3, KRs.snoc h4 hv⟩
theorem TRs.snoc : ∀ {kvs : List (Val × Val)} {kk : List (List Key × L2.V)} {key : List Key} {v : Val} {V : L2.V}, TRs Z φ H kvs kk → VR Z φ H v V → TRs Z φ H (kvs ++ [(.tup (key.map keyV), v)]) (kk ++ [(key, V)])
  | [], _, key, v, V, h, hv => by cases (show _ = [] from h); exact ⟨key, V, [], rfl, rfl, hv, rfl⟩
  | (k, u) :: r, _, key, v, V, ⟨k', U, rest, h1, h2, h3, h4⟩, hv => by subst h1; exact ⟨k', U, _, rfl, h2, h3, TRs.snoc h4 hv⟩
theorem KRs.repl : ∀ {kvs : List (Val × Val)} {kk : List (Key × L2.V)} {key : Key} {v : Val} {V : L2.V}, KRs Z φ H kvs kk → VR Z φ H v V → KRs Z φ H (kvs.map fun p => if p.1 = keyV key then (p.1, v) else p) (kk.map fun p => if p.1 = key then (p.1, V) else p)
  | [], _, key, v, V, h, hv => by cases (show _ = [] from h); rfl
  | (k, u) :: r, _, key, v, V, ⟨k', U, rest, h1, h2, h3, h4⟩, hv => by
    subst h1; subst h2
    simp only [List.map_cons]
    by_cases e : k' = key
    · subst e
      rw [if_pos rfl, if_pos rfl]
      exact ⟨k', V, _, rfl, rfl, hv, KRs.repl h4 hv⟩
    · rw [if_neg (fun z => e (keyV_inj z)), if_neg e]
      exact ⟨k', U, _, rfl, rfl, h3, KRs.repl h4 hv⟩
theorem TRs.repl : ∀ {kvs : List (Val × Val)} {kk : List (List Key × L2.V)} {key : List Key} {v : Val} {V : L2.V}, TRs Z φ H kvs kk → VR Z φ H v V → TRs Z φ H (kvs.map fun p => if p.1 = .tup (key.map keyV) then (p.1, v) else p) (kk.map fun p => if p.1 = key then (p.1, V) else p)
  | [], _, key, v, V, h, hv => by cases (show _ = [] from h); rfl
  | (k, u) :: r, _, key, v, V, ⟨k', U, rest, h1, h2, h3, h4⟩, hv => by
    subst h1; subst h2
    simp only [List.map_cons]
    by_cases e : k' = key
    · subst e
      rw [if_pos rfl, if_pos rfl]
      exact ⟨k', V, _, rfl, rfl, hv, TRs.repl h4 hv⟩
    · rw [if_neg (fun z => e (keyVs_inj (by injection z))), if_neg e]
      exact ⟨k', U, _, rfl, rfl, h3, TRs.repl h4 hv⟩
theorem KRs.put {kvs : List (Val × Val)} {kk : List (Key × L2.V)} {key : Key} {v : Val} {V : L2.V} (h : KRs Z φ H kvs kk) (hv : VR Z φ H v V) : KRs Z φ H (putKs kvs (keyV key) v) (putK kk key V) := by
  unfold putKs putK
  rw [KRs.any key h]
  split
  · exact h.repl hv
  · exact h.snoc hv
theorem TRs.put {kvs : List (Val × Val)} {kk : List (List Key × L2.V)} {key : List Key} {v : Val} {V : L2.V} (h : TRs Z φ H kvs kk) (hv : VR Z φ H v V) : TRs Z φ H (putKs kvs (.tup (key.map keyV)) v) (putK kk key V) := by
  unfold putKs putK
  rw [TRs.any key h]
  split
  · exact h.repl hv
  · exact h.snoc hv
/-- a key at a dict: what the machine holds there -/
theorem dgetO {μ : Store} {n : Nat} {kvs : List (Val × Val)} {k : Val} {U W : L2.V} (R : Rep Z φ μ H) (hm : μ[n]? = some (.dct kvs)) (hk : keyFor (kvs.map (·.1)) k = true) (hu : VR Z φ H (.ref n) U) (hw : VR Z φ H k W) :
    ∃ a o, U = .ref a ∧ φ[n]? = some a ∧ DGet H a W o ∧ (∀ v, findK kvs k = some v → ∃ V, o = some V ∧ VR Z φ H v V) ∧ (findK kvs k = none → o = none) := by
  obtain ⟨a, ha, rfl⟩ := hu
  unfold keyFor at hk
  simp only [Bool.and_eq_true, List.all_eq_true, beq_iff_eq] at hk
  obtain ⟨⟨k1, k2⟩, k3⟩ := hk
  rcases R.obj n _ a hm ha with ⟨kk, h1, h2⟩ | ⟨hn, kt, h1, h2⟩
  · have hnt : isTup k = false := by
      cases kvs with
      | nil => simpa using k3
      | cons p r =>
        have e1 := k2 p.1 (by simp)
        have e2 := h2.tup p.1 (by simp)
        rw [← e1, e2]
    rcases okKey_inv k1 with ⟨key, rfl⟩ | ⟨ks, rfl⟩
    · rw [VR.key hw]
      obtain ⟨f1, f2⟩ := KRs.find key h2
      exact ⟨a, _, rfl, ha, .k h1, f1, f2⟩
    · cases hnt
  · have ht : isTup k = true := by
      cases kvs with
      | nil => exact absurd rfl hn
      | cons p r =>
        have e1 := k2 p.1 (by simp)
        have e2 := h2.tup p.1 (by simp)
        rw [← e1, e2]
    rcases okKey_inv k1 with ⟨key, rfl⟩ | ⟨ks, rfl⟩
    · rw [keyV_tup] at ht; cases ht
    · obtain ⟨b, vs, rfl, hb, hvs⟩ := hw
      rw [VRs.keys hvs] at hb
      obtain ⟨f1, f2⟩ := TRs.find ks h2
      exact ⟨a, _, rfl, ha, .t h1 hb, f1, f2⟩
theorem pl_dK {kk : List (Key × L2.V)} : Pl (.dK kk) := ⟨(fun _ z => by cases z), (fun _ _ z => by cases z), (fun _ z => by cases z)⟩
theorem pl_dT {kk : List (List Key × L2.V)} : Pl (.dT kk) := ⟨(fun _ z => by cases z), (fun _ _ z => by cases z), (fun _ z => by cases z)⟩
theorem putKs_ne {kvs : List (Val × Val)} {k v : Val} (h : kvs ≠ []) : putKs kvs k v ≠ [] := by
  unfold putKs
  split
  · cases kvs with
    | nil => exact absurd rfl h
    | cons p r => simp
  · simp
theorem dputO {μ : Store} {n : Nat} {kvs : List (Val × Val)} {k v : Val} {U W V : L2.V} (R : Rep Z φ μ H) (hm : μ[n]? = some (.dct kvs)) (hk : keyFor (kvs.map (·.1)) k = true) (hl : kvs.length < lim) (hu : VR Z φ H (.ref n) U) (hw : VR Z φ H k W) (hv : VR Z φ H v V) :
    ∃ a H', U = .ref a ∧ DPut H a W V H' ∧ Ext Z.K φ H φ H' ∧ Rep Z φ (μ.set n (.dct (putKs kvs k v))) H' := by
  obtain ⟨a, ha, rfl⟩ := hu
  rw [lim_eq] at hl
  unfold keyFor at hk
  simp only [Bool.and_eq_true, List.all_eq_true, beq_iff_eq] at hk
  obtain ⟨⟨k1, k2⟩, k3⟩ := hk
  rcases R.obj n _ a hm ha with ⟨kk, h1, h2⟩ | ⟨hn, kt, h1, h2⟩
  · have hnt : isTup k = false := by
      cases kvs with
      | nil => simpa using k3
      | cons p r =>
        have e1 := k2 p.1 (by simp)
        have e2 := h2.tup p.1 (by simp)
        rw [← e1, e2]
    rcases okKey_inv k1 with ⟨key, rfl⟩ | ⟨ks, rfl⟩
    · rw [VR.key hw]
      have e : Ext Z.K φ H φ (upd H a (.dK (putK kk key V))) := .upd ha h1 pl_dK
      exact ⟨a, _, rfl, .k h1 (by rw [h2.len]; exact hl), e, R.upd ha h1 pl_dK (.inl ⟨_, upd_same, (h2.put hv).ext e.toEx0⟩)⟩
    · cases hnt
  · have ht : isTup k = true := by
      cases kvs with
      | nil => exact absurd rfl hn
      | cons p r =>
        have e1 := k2 p.1 (by simp)
        have e2 := h2.tup p.1 (by simp)
        rw [← e1, e2]
    rcases okKey_inv k1 with ⟨key, rfl⟩ | ⟨ks, rfl⟩
    · rw [keyV_tup] at ht; cases ht
    · obtain ⟨b, vs, rfl, hb, hvs⟩ := hw
      rw [VRs.keys hvs] at hb
      have e : Ext Z.K φ H φ (upd H a (.dT (putK kt ks V))) := .upd ha h1 pl_dT
      exact ⟨a, _, rfl, .t h1 hb (by rw [h2.len]; exact hl), e, R.upd ha h1 pl_dT (.inr ⟨putKs_ne hn, _, upd_same, (h2.put hv).ext e.toEx0⟩)⟩
end
end Ev
end

section
set_option maxRecDepth 100000
set_option maxHeartbeats 1000000
/-! Ob2: dicts: the rules. -/
namespace Ev
open PySem L2 PyProof.Rows

section
variable {Z : Wh} {φ : List Addr} {μ : Store} {H : Hp} {D : Addr} {u : HO}
/-- an untold object comes into the store -/
theorem Rep.adoptO (R : Rep Z φ μ H) (hD : D ∉ φ) {ob : Ev.Obj} (h : OR Z (φ ++ [D]) H D ob) : Rep Z (φ ++ [D]) (μ ++ [ob]) H := by
  have e : Ex0 Z.K φ H (φ ++ [D]) H := ⟨List.prefix_append _ _, .refl⟩
  refine ⟨by simp [R.len], ?_, fun n w b eb hb => ?_, R.tab⟩
  · rw [List.nodup_append]
    exact ⟨R.nd, by simp, fun x hx y hy => by simp at hy; subst hy; exact fun e => hD (e ▸ hx)⟩
  · by_cases hn : n < μ.length
    · rw [List.getElem?_append_left hn] at eb
      rw [List.getElem?_append_left (by rw [R.len]; exact hn)] at hb
      exact (R.obj n w b eb hb).ext_ne0 e rfl
    · have hl' : n = μ.length := by
        have := (List.getElem?_eq_some_iff.mp eb).1
        simp at this; omega
      subst hl'
      rw [List.getElem?_append_right (Nat.le_refl _)] at eb
      rw [List.getElem?_append_right (by rw [R.len]; exact Nat.le_refl _)] at hb
      rw [R.len] at hb
      simp at eb hb
      subst eb; subst hb
      exact h
theorem push_ref (R : Rep Z φ μ H) : (φ ++ [D])[μ.length]? = some D := by
  rw [List.getElem?_append_right (by rw [R.len]; exact Nat.le_refl _), R.len]; simp
end
section
variable {Y : Sys} {Z : Wh} {k : Nat} {c : CC} {X : Cx} {a b d e tg : Expr} {x y z : E} {pos : Pos}
theorem unitsX (G : Good Y Z k c X) : X.A.units + 65 < cLine := by
  have := G.room.un
  have hc : cLine = 9900 := rfl
  omega
theorem units1 (G : Good Y Z k c X) : X.A.units + 1 < cLine := Nat.lt_of_le_of_lt (by omega) (unitsX G)
theorem o_dget (G : Good Y Z k c X) : DgetR Z X := by
  intro φ μ n kvs i v hm hk hf
  refine ⟨fun o y H Q => ∃ a v, o = .ref a ∧ DGet H a y (some v) ∧ Q v H, ?_, fun U W H' φ' Q R hu hw q => ?_⟩
  · intro value slice pins s σ H x y v u Q I rx ry h hs
    obtain ⟨a, w, rfl, g, q⟩ := h
    obtain rfl : v = Value.ref a := rx
    unfold subscriptTail
    refine wpAny_bind ?_
    rw [getitemInPython_of_ne (dict_typeIs I g).not_modules]
    refine wpAny_bind (wpAny_specialOf (dict_typeIs I g) PySem.F.slot_dict_getitem.lookup ?_)
    have fin : wpAny (model X.prog X.w) X.A (subscripted slice false (.ref a) u) (fun r s₃ => wpAny (model X.prog X.w) X.A (letTemporaryGo value (.ref a) r >>= fun _ => pure r) (EP X pins σ Q) X.xe s₃) X.xe s := by
      rw [hs]
      exact wpAny_operating (wpAny_mono (d_getItem (Q := fun r s' => EP X pins σ Q r s') (units1 G) I g ry fun w' s' I' rw' => ⟨w, H, I', rw', q⟩) (fun r s₃ h₃ => wpAny_bind (wpAny_letTemporaryGo (wpAny_pure h₃))) fun _ _ x => x)
    first
      | exact wpAny_pure (wpAny_bind fin)
      | exact wpAny_bind (wpAny_pure (wpAny_bind fin))
      | exact wpAny_bind fin
  · obtain ⟨a, o, rfl, _, g, f1, _⟩ := dgetO R hm hk hu hw
    obtain ⟨V, rfl, hv⟩ := f1 v hf
    exact ⟨a, V, rfl, g, q V hv⟩
theorem o_dput (G : Good Y Z k c X) (μ : Store) (n : Nat) (kvs : List (Val × Val)) (i v : Val) (hm : μ[n]? = some (.dct kvs)) (hk : keyFor (kvs.map (·.1)) i = true) (hl : kvs.length < lim) : ∃ t : TSet, PSet X t ∧ ∀ U W V H' φ' (Q : Hp → Prop), Rep Z φ' μ H' → VR Z φ' H' (.ref n) U → VR Z φ' H' i W → VR Z φ' H' v V →
    (∀ H'', Ext Z.K φ' H' φ' H'' → Rep Z φ' (μ.set n (.dct (putKs kvs i v))) H'' → Q H'') → t U W V H' Q := by
  refine ⟨rSetD, set_dict (units1 G), fun U W V H' φ' Q R hu hw hv q => ?_⟩
  obtain ⟨a, H2, rfl, g, e, r⟩ := dputO R hm hk hl hu hw hv
  exact ⟨a, H2, rfl, g, q H2 e r⟩
theorem o_dct0 (G : Good Y Z k c X) : PE X (.Dict [] [] pos) (tE Y Z .dct0) := PE.imp pe_dnewK fun σ H Q h => by
  obtain ⟨ρ, μ, φ, st, rp, v, μ', hv, q⟩ := h
  change R.ok _ _ = _ at hv
  cases hv
  exact fun p hp => q _ _ (φ ++ [p]) (.push hp) (rp.push hp (.inl ⟨[], upd_same, rfl⟩)) ⟨p, push_ref rp, rfl⟩
theorem kind_get {o : Val} {m μ' : Store} {u : Unit} (h : kindM .get o m = .ok u μ') : μ' = m ∧ ∃ n kvs, o = .ref n ∧ m[n]? = some (.dct kvs) := by
  unfold kindM at h
  split at h <;> first | (cases h; done) | skip
  all_goals first
    | (split at h
       · rename_i hx; cases h; exact ⟨rfl, _, _, rfl, hx⟩
       · cases h)
    | skip
  all_goals simp_all
theorem o_get (G : Good Y Z k c X) {apos cpos : Pos} (hcall : isCall a = false) (hline : (apos.endLine == cpos.line) = true) (hs : isStar b = false) (ha : PE X a (tE Y Z x)) (hb : PE X b (tE Y Z y)) :
    PE X (.Call (.Attribute a "get" apos) [b] [] cpos) (tE Y Z (.mth .get x (.cons y .nil))) := by
  refine PE.imp (pe_dget1 (units1 G) ha hb ⟨base_of hcall, few_of hs, hline, by rw [star_cons hs]; rfl⟩) fun σ H Q h => ?_
  obtain ⟨ρ, μ, φ, st, rp, v, μ', hv, q⟩ := h
  obtain ⟨u, m1, h1, hv1⟩ := bind_ok hv
  obtain ⟨_, m1', hk, hv1'⟩ := bind_ok hv1
  obtain ⟨rfl, n0, kv0, rfl, hx0⟩ := kind_get hk
  obtain ⟨ws, m2, h2, hv2⟩ := bind_ok hv1'
  obtain ⟨w, n3, ws2, h3, h4, rfl⟩ := evEs_cons h2
  obtain ⟨rfl, rfl⟩ := pure_ok h4
  refine tE_mk st rp h1 fun U H1 φ1 e1 r1 v1 => ?_
  obtain ⟨a1, ha1, rfl⟩ := id v1
  refine ⟨a1, rfl, ?_, tE_mk (st.ext e1) r1 h3 fun W H2 φ2 e2 r2 v2 => ?_⟩
  · rcases r1.obj n0 _ a1 hx0 ha1 with ⟨kk, g1, _⟩ | ⟨_, kt, g1, _⟩
    · exact .inl ⟨kk, .inl g1⟩
    · exact .inr ⟨kt, .inl g1⟩
  · simp only [mthV] at hv2
    split at hv2
    · rename_i kvs hm
      split at hv2
      · rename_i hkk
        cases hv2
        obtain ⟨a2, o, ea, _, g, f1, f2⟩ := dgetO r2 hm hkk (VR.ext e2 _ _ v1) v2
        cases ea
        refine ⟨o, g, ?_⟩
        cases hf : findK kvs w with
        | none =>
          rw [f2 hf]
          rw [hf] at q
          exact q _ _ _ (e1.trans e2) r2 rfl
        | some z =>
          obtain ⟨V, rfl, hV⟩ := f1 z hf
          rw [hf] at q
          exact q _ _ _ (e1.trans e2) r2 hV
      · cases hv2
    · cases hv2
theorem o_len : ∀ (μ : Store) (n N : Nat) (kvs : List (Val × Val)), μ[n]? = some (.dct kvs) → N = kvs.length →
    ∃ r, CallR X (.builtin "len") r ∧ ∀ U H' φ' Q, Rep Z φ' μ H' → VR Z φ' H' (.ref n) U → Q (V.int N) H' → r [U] H' Q := by
  intro μ n N kvs hm hN
  subst hN
  refine ⟨fun xs H Q => (∃ a kvs, xs = [V.ref a] ∧ H a = some (.dK kvs) ∧ Q (.int kvs.length) H) ∨ rLenT xs H Q, fun pins s σ H xs us Q I r h => ?_, fun U H' φ' Q R hu q => ?_⟩
  · rcases h with h | h
    · exact call_lenD pins s σ H xs us Q I r h
    · exact call_len_dT pins s σ H xs us Q I r h
  · obtain ⟨a, ha, rfl⟩ := hu
    rcases R.obj n _ a hm ha with ⟨kk, g1, g2⟩ | ⟨_, kt, g1, g2⟩
    · exact .inl ⟨a, kk, rfl, g1, by rw [g2.len]; exact q⟩
    · exact .inr ⟨a, kt, rfl, g1, by rw [g2.len]; exact q⟩
end
end Ev
end

section
set_option maxRecDepth 100000
set_option maxHeartbeats 1000000
/-! Ob3: in, not in; a dict of one pair. -/
namespace Ev
open PySem L2 PyProof.Rows

/-! ### in a tuple, a list, a dict -/
section
variable {X : Cx}
def rInTp (K : PySem.W.Frag) (neg : Bool) : R2 := fun x y H Q => ∃ d ds, Dp K H x d ∧ Dp K H y (.tuple ds) ∧ SeqAt.shaped d = true ∧ SeqAt.shaped (.list ds) = true ∧ SeqAt.shaped (.tuple ds) = true ∧ Q (.bl (if neg then !ds.any fun z => PyData.eqv z d else ds.any fun z => PyData.eqv z d)) H
theorem op_inTp (hu : X.A.units + 65 < cLine) : OpR X (compareOp .In) (rInTp X.K false) := by
  intro pins s σ H x y v u Q I rx ry h
  obtain ⟨d, ds, hd, he, sd, sl, se, q⟩ := h
  obtain ⟨as, r1⟩ := Dp.reads I d x v hd rx
  obtain ⟨bs, r2⟩ := Dp.reads I (.tuple ds) y u he ry
  exact SeqAt.in_tuple_reads r2 r1 (SeqAt.canLay_of_shaped sl) (SeqAt.canLay_of_shaped sd) (room_in_shaped sd hu) ⟨.bl _, H, I, rfl, q⟩
theorem op_notInTp (hu : X.A.units + 65 < cLine) : OpR X (compareOp .NotIn) (rInTp X.K true) := by
  intro pins s σ H x y v u Q I rx ry h
  obtain ⟨d, ds, hd, he, sd, sl, se, q⟩ := h
  obtain ⟨as, r1⟩ := Dp.reads I d x v hd rx
  obtain ⟨bs, r2⟩ := Dp.reads I (.tuple ds) y u he ry
  exact SeqAt.notIn_tuple_reads r2 r1 (SeqAt.canLay_of_shaped sl) (SeqAt.canLay_of_shaped sd) (room_in_shaped sd hu) ⟨.bl _, H, I, rfl, q⟩
def rInDct (neg : Bool) : R2 := fun x y H Q => ∃ a o, y = .ref a ∧ DGet H a x o ∧ Q (.bl (if neg then !o.isSome else o.isSome)) H
theorem op_inDct (hu : X.A.units + 1 < cLine) : OpR X (compareOp .In) (rInDct false) := by
  intro pins s σ H x y v u Q I rx ry h
  obtain ⟨a, o, rfl, g, q⟩ := h
  obtain rfl : u = Value.ref a := ry
  exact d_in hu I g rx fun s' I' => ⟨.bl _, H, I', rfl, q⟩
theorem op_notInDct (hu : X.A.units + 1 < cLine) : OpR X (compareOp .NotIn) (rInDct true) := by
  intro pins s σ H x y v u Q I rx ry h
  obtain ⟨a, o, rfl, g, q⟩ := h
  obtain rfl : u = Value.ref a := ry
  exact d_notIn hu I g rx fun s' I' => ⟨.bl _, H, I', rfl, q⟩
end
theorem inVs_pyd : ∀ {xs : List Val} {x : Val}, Val.flats xs = true → x.flat = true → ((pyds xs).any fun z => PyData.eqv z (pyd x)) = inVs xs x
  | [], _, _, _ => by simp [pyds, inVs]
  | y :: xs, x, h, hx => by
    simp only [Val.flats, Bool.and_eq_true] at h
    simp only [pyds, List.any_cons, inVs]
    rw [eqv_pyd y x h.1 hx]
    have := inVs_pyd (xs := xs) (x := x) h.2 hx
    unfold inVs at this
    rw [this]
theorem shapedT_of {xs : List Val} (h : Val.soks xs = true) (h' : Val.deps xs ≤ 50) : SeqAt.shaped (.tuple (pyds xs)) = true := by
  have := shaped_of (x := .tup xs) (by simpa [Val.sok] using h) (by simp only [Val.dep]; omega)
  simpa [pyd] using this
section
variable {Y : Sys} {Z : Wh} {k : Nat} {c : CC} {X : Cx} {a b d e tg : Expr} {x y z : E} {pos : Pos}
theorem o_memB (G : Good Y Z k c X) (neg : Bool) (μ : Store) (x y : Val) (b : Bool) (h : memM μ x y = some b) : ∃ r : R2, OpR X (compareOp (if neg then .NotIn else .In)) r ∧ ∀ U W H' φ' Q, Rep Z φ' μ H' → VR Z φ' H' x U → VR Z φ' H' y W → Q (.bl (if neg then !b else b)) H' → r U W H' Q := by
  have hu := unitsX G
  unfold memM at h
  split at h
  · rename_i xs
    split at h
    · rename_i hc
      simp only [Bool.and_eq_true, decide_eq_true_eq] at hc
      obtain ⟨⟨⟨⟨⟨h1, h2⟩, h3⟩, h4⟩, h5⟩, h6⟩ := hc
      cases h
      refine ⟨rInTp X.K neg, by cases neg; exact op_inTp hu; exact op_notInTp hu, fun U W H' φ' Q R hx hy q => ?_⟩
      rw [G.K]
      obtain ⟨p, vs, rfl, t1, t2⟩ := hy
      exact ⟨pyd x, pyds xs, hx.dp _ _ h1, .tup (.of t1) (t2.dp _ _ h3), shaped_of h2 (Nat.le_trans h5 (by omega)), shapedL_of h4 h6, shapedT_of h4 h6, by rw [inVs_pyd h3 h1]; cases neg <;> exact q⟩
    · cases h
  · rename_i n
    split at h
    · rename_i xs hm
      split at h
      · rename_i hc
        simp only [Bool.and_eq_true, decide_eq_true_eq] at hc
        obtain ⟨⟨⟨⟨⟨h1, h2⟩, h3⟩, h4⟩, h5⟩, h6⟩ := hc
        cases h
        cases neg
        · refine ⟨rInD X.K, op_inD hu, fun U W H' φ' Q R hx hy q => ?_⟩
          rw [G.K]
          obtain ⟨p, vs, rfl, _, t1, t2⟩ := R.ref_lst hy hm
          exact ⟨pyd x, pyds xs, hx.dp _ _ h1, .lst (.of t1) (t2.dp _ _ h3), shaped_of h2 (Nat.le_trans h5 (by omega)), shapedL_of h4 h6, by rw [inVs_pyd h3 h1]; exact q⟩
        · refine ⟨rNotInD X.K, op_notInD hu, fun U W H' φ' Q R hx hy q => ?_⟩
          rw [G.K]
          obtain ⟨p, vs, rfl, _, t1, t2⟩ := R.ref_lst hy hm
          exact ⟨pyd x, pyds xs, hx.dp _ _ h1, .lst (.of t1) (t2.dp _ _ h3), shaped_of h2 (Nat.le_trans h5 (by omega)), shapedL_of h4 h6, by rw [inVs_pyd h3 h1]; exact q⟩
      · cases h
    · rename_i kvs hm
      split at h
      · rename_i hk
        cases h
        refine ⟨rInDct neg, by cases neg; exact op_inDct (units1 G); exact op_notInDct (units1 G), fun U W H' φ' Q R hx hy q => ?_⟩
        obtain ⟨a, o, rfl, _, g, f1, f2⟩ := dgetO R hm hk hy hx
        refine ⟨a, o, rfl, g, ?_⟩
        have : o.isSome = hasK kvs x := by
          unfold hasK
          cases hf : findK kvs x with
          | none => rw [f2 hf]; rfl
          | some w => obtain ⟨V, rfl, _⟩ := f1 w hf; rfl
        rw [this]
        exact q
      · cases h
    · cases h
  · cases h
theorem o_mem (G : Good Y Z k c X) : CmpR Z X .In .mem := by
  intro φ μ μ' H x y b h
  simp only [cmpV] at h
  split at h
  · rename_i b' hb
    cases h
    exact ⟨rfl, o_memB G false μ x y b hb⟩
  · cases h
theorem o_nmem (G : Good Y Z k c X) : CmpR Z X .NotIn .nmem := by
  intro φ μ μ' H x y b h
  simp only [cmpV] at h
  split at h
  · rename_i b' hb
    cases h
    exact ⟨rfl, o_memB G true μ x y b' hb⟩
  · cases h
end
end Ev
end

section
set_option maxRecDepth 100000
set_option maxHeartbeats 1000000
/-! Ob4: a dict of one pair. -/
namespace Ev
open PySem L2 PyProof.Rows

section
variable {Y : Sys} {Z : Wh} {k : Nat} {c : CC} {X : Cx} {a b d e tg : Expr} {x y z : E} {pos : Pos}
theorem mergeK1 {key : Key} {V : L2.V} : mergeK [] [(key, V)] = [(key, V)] := by
  show putK [] key V = _
  rfl
/-- {k: v}, the key a tuple: the new dict stands empty while the pair is made -/
def tDisp1T (tk tv : TE) : TE := fun σ H Q => ∀ p, H p = none → tk σ (upd H p (.dT [])) fun x H1 => tv σ H1 fun y H2 => ∃ (ks : List Key) (b : Addr), H2 p = some (.dT []) ∧ x = .ref b ∧ H2 b = some (.tup (ks.map kV)) ∧ Q (.ref p) (upd H2 p (.dT [(ks, y)]))
theorem pe_disp1T (hu : X.A.units + 1 < cLine) {tk tv : TE} (ha : PE X a tk) (hb : PE X b tv) : PE X (.Dict [some a] [b] pos) (tDisp1T tk tv) := by
  refine ⟨fun pins s σ H Q I q => ?_⟩
  have hn := I.hok.fresh (Nat.le_refl s.heap.objs.size)
  have I1 := I.laid (a := s.heap.objs.size) (o := .dT []) (h' := s.heap.push { cls := .type "dict", data := .dict #[] }) (t' := s.toks) (fun _ _ q => Heap.get?_push_of_some _ q) (Nat.le_refl _) (dt_empty s.heap I.big)
  refine wpAny_Dict_any rfl rfl (by simp) (by simp) ?_
  refine pairTrees_cons_walk (thn (ha.run pins _ σ _ _ I1 (q _ hn)) fun u s1 ⟨x, H1, I2, rx, q1⟩ => thn (hb.run pins s1 σ H1 _ I2 q1) fun w s2 ⟨y, H2, I3, ry, q2⟩ => pairTrees_nil_walk ?_)
  obtain ⟨ks, b, e, rfl, eb, q3⟩ := q2
  cases (show u = Value.ref b from rx)
  unfold storeAll
  rw [List.forIn_cons]
  obtain ⟨z, hd, xs, rel, dd⟩ := dt_of I3.hok e
  have hx0 : xs = [] := by
    have := Paired.length rel
    cases xs with
    | nil => rfl
    | cons _ _ => simp at this
  subst hx0
  refine wpAny_bind (wpAny_bind (wpAny_dictSet_heap (hsz := by show 0 ≤ sizeLine; decide) (Nat.lt_of_succ_lt hu) (key_of I3.hok eb) dd fun h' dd' hs => wpAny_pure ?_))
  dsimp only
  rw [List.forIn_nil]
  obtain ⟨q0, es, ep, hq, h2, h3, h4, _, h5⟩ := dd'
  have hl : (putK ([] : List (List Key × L2.V)) ks y).length ≤ sizeLine := by show 1 ≤ sizeLine; decide
  refine wpAny_pure ⟨.ref s.heap.objs.size, upd H2 s.heap.objs.size (.dT (putK [] ks y)), d_write I3 (by rw [e]; exact True.intro) hs ⟨q0, hq⟩ ⟨hl, hd, _, (rel.put ks eb ry).keeps fun c ys ec => ?_, q0, es, ep, hq, h2, h3, h4, h5⟩, rfl, q3⟩
  rw [upd_ne (ne_of ec e (fun z => nomatch z))]
  exact ec
theorem o_dct1 (G : Good Y Z k c X) (ha : PE X a (tE Y Z x)) (hb : PE X b (tE Y Z y)) : PE X (.Dict [some a] [b] pos) (tE Y Z (.dct1 x y)) := by
  refine ⟨fun pins s σ H Q I h => ?_⟩
  obtain ⟨ρ, μ, φ, st, rp, v, μ', hv, q⟩ := h
  obtain ⟨u, m1, h1, hv1⟩ := bind_ok hv
  obtain ⟨w, m2, h2, hv2⟩ := bind_ok hv1
  obtain ⟨hk, hv3⟩ := must_ok hv2
  change R.ok _ _ = _ at hv3
  cases hv3
  rcases okKey_inv hk with ⟨key, rfl⟩ | ⟨ks, rfl⟩
  · refine (pe_disp (pps_cons ha hb pps_nil) rfl rfl (by simp) (by simp)).run pins s σ H Q I fun p hp => ?_
    have e0 : Ext Z.K φ H φ (upd H p (.dK [])) := .new hp
    refine tE_mk (st.ext e0) (rp.new hp) h1 fun U H1 φ1 e1 r1 v1 => tE_mk (st.ext (e0.trans e1)) r1 h2 fun W H2 φ2 e2 r2 v2 => ?_
    obtain ⟨n1, n2⟩ := (e1.trans e2).stay (rp.fresh hp) upd_same pl_dK
    refine ⟨n2, [(key, W)], by rw [VR.key v1]; rfl, by simp, ?_⟩
    rw [mergeK1]
    obtain ⟨r3, x3⟩ := r2.hid (o := .dK [(key, W)]) n1 n2 pl_dK
    have e3 : Ext Z.K φ H φ2 (upd H2 p (.dK [(key, W)])) := Ext.hid ⟨⟨(e1.trans e2).pre, e0.tup.trans (e1.trans e2).tup⟩, ((e0.trans e1).trans e2).frm, ((e0.trans e1).trans e2).tbs, ((e0.trans e1).trans e2).fre⟩ hp n2 pl_dK
    refine q _ _ (φ2 ++ [p]) (e3.adopt hp) (r3.adoptO n1 (.inl ⟨[(key, W)], upd_same, key, W, [], rfl, rfl, ?_, rfl⟩)) ⟨p, push_ref r3, rfl⟩
    exact VR.ext0 ⟨List.prefix_append _ _, x3.tup⟩ _ _ v2
  · refine (pe_disp1T (units1 G) ha hb).run pins s σ H Q I fun p hp => ?_
    have e0 : Ext Z.K φ H φ (upd H p (.dT [])) := .new hp
    refine tE_mk (st.ext e0) (rp.new hp) h1 fun U H1 φ1 e1 r1 v1 => tE_mk (st.ext (e0.trans e1)) r1 h2 fun W H2 φ2 e2 r2 v2 => ?_
    obtain ⟨n1, n2⟩ := (e1.trans e2).stay (rp.fresh hp) upd_same pl_dT
    obtain ⟨bb, vs, rfl, hb1, hvs⟩ := VR.ext e2 _ _ v1
    refine ⟨ks, bb, n2, rfl, by rw [← VRs.keys hvs]; exact hb1, ?_⟩
    obtain ⟨r3, x3⟩ := r2.hid (o := .dT [(ks, W)]) n1 n2 pl_dT
    have e3 : Ext Z.K φ H φ2 (upd H2 p (.dT [(ks, W)])) := Ext.hid ((e0.trans e1).trans e2) hp n2 pl_dT
    refine q _ _ (φ2 ++ [p]) (e3.adopt hp) (r3.adoptO n1 (.inr ⟨by simp, [(ks, W)], upd_same, ks, W, [], rfl, rfl, ?_, rfl⟩)) ⟨p, push_ref r3, rfl⟩
    exact VR.ext0 ⟨List.prefix_append _ _, x3.tup⟩ _ _ v2
end
end Ev
end

section
set_option maxRecDepth 100000
set_option maxHeartbeats 1000000
/-! Ob5: slices with a step. -/
namespace Ev
open PySem L2 PyProof.Rows

theorem VRs.none {Z : Wh} {φ : List Addr} {H : Hp} {xs : List Val} {vs : List L2.V} {i : Nat} (h : VRs Z φ H xs vs) (e : xs[i]? = .none) : vs[i]? = .none := by
  rw [List.getElem?_eq_none_iff] at e ⊢
  rw [h.len]; exact e
theorem VRs.pick {Z : Wh} {φ : List Addr} {H : Hp} {xs : List Val} {vs : List L2.V} (h : VRs Z φ H xs vs) : ∀ (l : List Nat), VRs Z φ H (l.filterMap (xs[·]?)) (l.filterMap (vs[·]?))
  | [] => rfl
  | i :: l => by
    rw [List.filterMap_cons, List.filterMap_cons]
    cases e : xs[i]? with
    | none => rw [h.none e]; exact VRs.pick h l
    | some x =>
      obtain ⟨V, e2, hv⟩ := h.get e
      rw [e2]
      exact ⟨V, _, rfl, hv, VRs.pick h l⟩
theorem Vals.pick {vs : List L2.V} {us : List Value} (h : Vals vs us) : ∀ (l : List Nat), Vals (l.filterMap (vs[·]?)) (l.filterMap (us[·]?))
  | [] => .nil
  | i :: l => by
    rw [List.filterMap_cons, List.filterMap_cons]
    cases e : vs[i]? with
    | none =>
      have : us[i]? = none := by
        rw [List.getElem?_eq_none_iff] at e ⊢
        rw [← h.length]; exact e
      rw [this]; exact Vals.pick h l
    | some x =>
      obtain ⟨u, e2, hv⟩ := h.get e
      rw [e2]
      exact .cons hv (Vals.pick h l)
theorem pick_eq {its : List Value} {lo st : Int} (h1 : 0 ≤ lo) (h2 : 0 < st) : slicePick its.toArray (some lo) none (some st) = ((sliceRange (max 0 (min lo its.length)) its.length st).filterMap (its[·]?)).toArray := by
  unfold slicePick sliceBounds
  have e1 : ¬ lo < 0 := by omega
  simp only [Option.getD_some, e1, if_false, h2, if_true, gt_iff_lt, List.size_toArray]
  congr 1
  exact congrArg (fun f => List.filterMap f _) (funext fun i => by simp)
section
variable {Y : Sys} {Z : Wh} {k : Nat} {c : CC} {X : Cx} {a b d e tg : Expr} {x y z : E} {pos : Pos}
theorem vrs_ints {φ : List Addr} {H : Hp} : ∀ ns : List Int, VRs Z φ H (ns.map Val.int) (ns.map L2.V.int)
  | [] => rfl
  | n :: r => ⟨_, _, rfl, rfl, vrs_ints r⟩
theorem o_sl3 (G : Good Y Z k c X) {lo hi : Option Expr} {st : Expr} {u : E} {r : Expr → Option E} {p2 : Pos} (hy : cOpt r lo = some y) (hz : cOpt r hi = some z) (ho1 : ∀ e', lo = some e' → PE X e' (tE Y Z y)) (ho2 : ∀ e', hi = some e' → PE X e' (tE Y Z z)) (ha : PE X a (tE Y Z x)) (hs : PE X st (tE Y Z u)) :
    PE X (.Subscript a (.Slice lo hi (some st) p2) pos) (tE Y Z (.sl3 x y z u)) := by
  refine ⟨fun pins s σ H Q I h => ?_⟩
  obtain ⟨ρ, μ, φ, st0, rp, v, μ', hv, q⟩ := h
  obtain ⟨v1, m1, h1, hv1⟩ := bind_ok hv
  obtain ⟨v2, m2, h2, hv2⟩ := bind_ok hv1
  obtain ⟨v3, m3, h3, hv3⟩ := bind_ok hv2
  obtain ⟨v4, m4, h4, hv4⟩ := bind_ok hv3
  clear hv hv1 hv2 hv3
  have key : ∀ (xs : List Val) (i j : Int), v2 = .int i → v3 = .non → v4 = .int j → (0 ≤ i ∧ 0 < j) → (∀ φ' H' V, Rep Z φ' m4 H' → VR Z φ' H' v1 V → ∃ p us, V = L2.V.ref p ∧ SqL X.K H' p us ∧ VRs Z φ' H' xs us) → newLst (stepV xs i j) m4 = .ok v μ' →
      wpAny (model X.prog X.w) X.A (eval (.Subscript a (.Slice lo hi (some st) p2) pos) X.env) (EP X pins σ Q) X.xe s := by
    intro xs i j e2' e3' e4' hc hL hv5
    subst e2' e3' e4'
    obtain ⟨hzz, rfl, rfl⟩ := newLst_ok hv5
    refine Subscript_ (thn (ha.run pins s σ H (fun V H1 => ∃ φ1, Ext Z.K φ H φ1 H1 ∧ Rep Z φ1 m1 H1 ∧ VR Z φ1 H1 v1 V) I (tE_mk st0 rp h1 fun V H1 φ1 e1 r1 w1 => ⟨φ1, e1, r1, w1⟩)) fun w s1 hw => ?_)
    obtain ⟨V, H1, I1, rw1, φ1, e1, r1, w1⟩ := hw
    refine wpAny_Slice (thn ((s_part hy ho1).run pins s1 σ H1 (fun o H2 => o = some i ∧ ∃ φ2, Ext Z.K φ1 H1 φ2 H2 ∧ Rep Z φ2 m2 H2) I1 ⟨ρ, m1, φ1, st0.ext e1, r1, .int i, m2, some i, h2, rfl, fun H2 φ2 e2 r2 => ⟨rfl, φ2, e2, r2⟩⟩) fun vl s2 hl => ?_)
    obtain ⟨o, H2, I2, pl, rfl, φ2, e2, r2⟩ := hl
    refine thn ((s_part hz ho2).run pins s2 σ H2 (fun o H3 => o = none ∧ ∃ φ3, Ext Z.K φ2 H2 φ3 H3 ∧ Rep Z φ3 m3 H3) I2 ⟨ρ, m2, φ2, st0.ext (e1.trans e2), r2, .non, m3, none, h3, rfl, fun H3 φ3 e3 r3 => ⟨rfl, φ3, e3, r3⟩⟩) fun vu s3 hu => ?_
    obtain ⟨o, H3, I3, pu, rfl, φ3, e3, r3⟩ := hu
    refine thn ((po_some hs).run pins s3 σ H3 (fun o H4 => o = some j ∧ ∃ φ4, Ext Z.K φ3 H3 φ4 H4 ∧ Rep Z φ4 m4 H4) I3 (tE_mk (st0.ext ((e1.trans e2).trans e3)) r3 h4 fun W H4 φ4 e4 r4 w4 => ⟨j, w4, rfl, φ4, e4, r4⟩)) fun vs s4 hs4 => ?_
    obtain ⟨o, H4, I4, ps, rfl, φ4, e4, r4⟩ := hs4
    have I5 : L2.Inv X pins σ H4 { s4 with heap := s4.heap.push { cls := .type "slice", data := .fields #[vl, vu, vs] } } := I4.kept (t' := s4.toks) fun b ob q => Heap.get?_push_of_some _ q
    obtain ⟨p, us, rfl, t1, t2⟩ := hL _ _ _ r4 (VR.ext ((e2.trans e3).trans e4) _ _ w1)
    cases rw1
    obtain ⟨its, rr, ht, hsz⟩ := I5.list t1
    have hlen := rr.length
    show wpAny (model X.prog X.w) X.A (subscriptTail a (.Slice lo hi (some st) p2) (.ref p) (.ref s4.heap.objs.size)) (EP X pins σ Q) X.xe { s4 with heap := s4.heap.push { cls := .type "slice", data := .fields #[vl, vu, vs] } }
    refine tail_any (ops := [.ref p, .ref s4.heap.objs.size]) ht.isList.typeIs (PySem.slot_list_getitem.lookup) ?_ (by with_unfolding_all rfl)
    refine wpAny_getItem_list_slice ht.isList (Heap.IsSliceOf.new _ vl vu vs) pl pu ps (by intro z; have := hc.2; cases z; omega) ?_ (by rw [List.size_toArray]; omega)
    rw [pick_eq hc.1 hc.2]
    have hus : us.length = xs.length := t2.len
    have e9 : its.length = xs.length := by rw [← hlen, hus]
    rw [e9]
    have vp := t2.pick (sliceRange (max 0 (min i xs.length)) xs.length j)
    have hle : ((sliceRange (max 0 (min i xs.length)) xs.length j).filterMap (us[·]?)).length ≤ sizeLine := by rw [vp.len]; exact hzz
    refine ⟨.ref _, _, I5.laid (t' := s4.toks) (o := .lst ((sliceRange (max 0 (min i xs.length)) xs.length j).filterMap (us[·]?))) (fun b ob q => Heap.get?_push_of_some _ q) (Nat.le_refl _) ?_, rfl, ?_⟩
    · exact ⟨hle, _, 0, Vals.pick rr _, Heap.get?_push_size _ rfl⟩
    · exact r4.newL (I5.hok.fresh (Nat.le_refl _)) vp (q.ext (((e1.trans e2).trans e3).trans e4))
  unfold sl3V at hv4
  split at hv4
  · rename_i n i j
    split at hv4
    · rename_i xs hm
      split at hv4
      · rename_i hc
        exact key xs i j rfl rfl rfl hc (fun φ' H' V r' w' => by
          obtain ⟨p, us, e, _, t1, t2⟩ := r'.ref_lst w' hm
          exact ⟨p, us, e, .of t1, t2⟩) hv4
      · cases hv4
    · cases hv4
  · rename_i ns i j
    split at hv4
    · rename_i hc
      exact key _ i j rfl rfl rfl hc (fun φ' H' V r' w' => by
        obtain ⟨p, e, t⟩ := w'
        exact ⟨p, _, e, by rw [G.K]; exact t.sql, vrs_ints ns⟩) hv4
    · cases hv4
  · cases hv4
end
end Ev
end

section
set_option maxRecDepth 100000
set_option maxHeartbeats 1000000
/-! Ob6: the obligations put together; left over: len of sets, sorted, set(..). -/
namespace Ev
open PySem L2

/-- what is left: sets and sorts -/
structure RestS (Z : Wh) (X : Cx) : Prop where
  lenS : ∀ (μ : Store) (n N : Nat) (xs : List Val), μ[n]? = some (.set xs) → N = xs.length →
    ∃ r, CallR X (.builtin "len") r ∧ ∀ U H' φ' Q, Rep Z φ' μ H' → VR Z φ' H' (.ref n) U → Q (V.int N) H' → r [U] H' Q
  sorted : ∀ (μ : Store) (n : Nat) (ys : List Val), sortedM μ n = some ys → ys.length ≤ sizeLine →
    ∃ r, CallR X (.builtin "sorted") r ∧ ∀ U H' φ' Q, Rep Z φ' μ H' → VR Z φ' H' (.ref n) U → (∀ p Vs, H' p = none → VRs Z φ' H' ys Vs → Q (.ref p) (upd H' p (.lst Vs))) → r [U] H' Q
  set : ∀ (μ : Store) (v : Val) (xs : List Val), itemsM μ v = some xs → setOk (isTup v) xs = true →
    ∃ r, CallR X (.type "set") r ∧ ∀ U H' φ' Q, Rep Z φ' μ H' → VR Z φ' H' v U → (∀ p o, H' p = none → OR Z (φ' ++ [p]) (upd H' p o) p (.set (setOf [] xs)) → Q (.ref p) (upd H' p o)) → r [U] H' Q
theorem allX {Y : Sys} {Z : Wh} (S : ∀ k c X, Good Y Z k c X → RestS Z X) : AllX Y Z := fun k c X G =>
  { mem := o_mem G
    nmem := o_nmem G
    dget := o_dget G
    lenO := fun μ n N h => by
      rcases h with ⟨kvs, hm, hN⟩ | ⟨xs, hm, hN⟩
      · exact o_len μ n N kvs hm hN
      · exact (S k c X G).lenS μ n N xs hm hN
    sorted := (S k c X G).sorted
    set := (S k c X G).set
    dct0 := fun pos => o_dct0 G
    dct1 := fun a b x y pos ha hb => o_dct1 G ha hb
    get := fun a b x y apos cpos hc hl hs ha hb => o_get G hc hl hs ha hb
    dput := fun μ n kvs i v hm hk hl => o_dput G μ n kvs i v hm hk hl
    sl3 := fun a lo hi st x y z u p2 pos r hy hz h1 h2 ha hs => o_sl3 G hy hz h1 h2 ha hs }
end Ev
end

section
set_option maxRecDepth 100000
set_option maxHeartbeats 4000000
/-! Ob7: set(l), l a list of ints: what stands behind it can be sorted, measured. -/
namespace Ev
open PySem PySem.Spec PyProof.Rows L2

/-- a set that holds nothing yet -/
abbrev fresh0 (w : World) : PySem.Obj := { cls := .type "set", dict := none, data := .set #[] 0 (.fresh 0 0 (!w.params.followText "set-order")) }
section
variable {P : Program} {w : World} {A : Around} {E : Value → Shared → Prop} {s : Shared}
/-- the turns of the filling -/
theorem set_fill {l : Addr} {items : Array Value} (ns : List Int) {R : Result → Shared → Prop} (hh : A.handled = none) (hl : s.heap.IsList l items) (hit : IntsAre items.toList ns) (hb : ns.length + 1 < scanBound)
    (h : ∀ (h' : Heap) (tk c : Nat), SetR w h' s.heap.objs.size (fun j => decide (j ∈ ns)) c → c ≤ ns.length → (∀ b o, s.heap.get? b = some o → h'.get? b = some o) → R (.ok (.ret .none)) { s with heap := h', toks := tk }) :
    codeAny (model P w) A (.builtin "set.update.loop" ⟨[.ref s.heap.objs.size, .ref (s.heap.objs.size + 1)], []⟩) R { s with heap := (s.heap.push (fresh0 w)).push { cls := .type "list_iterator", data := .fields #[.ref l, .int 0 0] } } := by
  have hisz : items.size = ns.length := by simpa using hit.length
  have hlS : l < s.heap.objs.size := by obtain ⟨ol, hol, _⟩ := hl; exact Heap.lt_size hol
  have h1 : (s.heap.push (fresh0 w)).objs.size = s.heap.objs.size + 1 := Heap.size_push ..
  have hl1 : ((s.heap.push (fresh0 w)).push { cls := .type "list_iterator", data := .fields #[.ref l, .int 0 0] }).IsList l items := (hl.push _).push _
  have hi1 : ((s.heap.push (fresh0 w)).push { cls := .type "list_iterator", data := .fields #[.ref l, .int 0 0] }).IsListIter (s.heap.objs.size + 1) l 0 := by
    rw [← h1]
    exact ⟨_, Heap.get?_push_size _ rfl, rfl, rfl⟩
  have hS : ((s.heap.push (fresh0 w)).push { cls := .type "list_iterator", data := .fields #[.ref l, .int 0 0] }).get? s.heap.objs.size = some (fresh0 w) := Heap.get?_push_of_some _ (Heap.get?_push_size _ rfl)
  refine set_update_ints ((Walks.list (prog := P) (w := w) (A := A.in1) hh (s.heap.objs.size + 1) l (Nat.ne_of_lt (Nat.lt_succ_of_lt hlS)) items).toS) s.heap.objs.size (by simp only [List.mem_cons, List.not_mem_nil, or_false, not_or]; exact ⟨Nat.ne_of_lt (Nat.lt_succ_self _), Nat.ne_of_gt hlS⟩) ns hisz hb (fun i v hv => ?_) items.size 0 _ rfl (Nat.zero_le _) ⟨hi1, hl1⟩ ⟨0, Nat.le_refl 0, setR_new_at hS⟩ fun s' c hm hc hR => ?_
  · have hi : i < ns.length := by rw [← hisz]; exact (Array.getElem?_eq_some_iff.mp hv).1
    obtain ⟨t, e⟩ := IntsAre.int_at hit i v (by rw [Array.getElem?_toList]; exact hv)
    exact ⟨ns[i], t, List.getElem?_eq_getElem hi, by rw [e, List.getD_eq_getElem?_getD, List.getElem?_eq_getElem hi]; rfl⟩
  · obtain ⟨h', g', d', tk, os'⟩ := s'
    obtain rfl : g' = s.gens := hm.gens
    obtain rfl : d' = s.drawn := hm.drawn
    obtain rfl : os' = s.os := hm.os
    refine h h' tk c hR (by rw [← hisz]; exact hc) fun b o e => ?_
    have hb0 : b < s.heap.objs.size := Heap.lt_size e
    refine hm.heap b o (fun hz => ?_) (Heap.get?_push_of_some _ (Heap.get?_push_of_some _ e))
    have hz' : b = s.heap.objs.size ∨ b = s.heap.objs.size + 1 := by simpa using hz
    rcases hz' with z | z
    · exact Nat.ne_of_lt hb0 z
    · exact Nat.ne_of_lt (Nat.lt_succ_of_lt hb0) z
set_option maxHeartbeats 6400000 in
theorem call_set_listI {l : Addr} {items : Array Value} (ns : List Int) {Q : Value → Shared → Prop} (hh : A.handled = none) (hl : s.heap.IsList l items) (hit : IntsAre items.toList ns) (hb : ns.length + 1 < scanBound)
    (h : ∀ (h' : Heap) (tk c : Nat), SetR w h' s.heap.objs.size (fun j => decide (j ∈ ns)) c → c ≤ ns.length → (∀ b o, s.heap.get? b = some o → h'.get? b = some o) → Q (.ref s.heap.objs.size) { s with heap := h', toks := tk }) :
    wpAny (model P w) A (call (.type "set") [.ref l]) Q E s := by
  obtain ⟨c, tl, hmro⟩ := F.called_set.mro
  have hmade := F.called_set.made
  have hsub := F.called_set.sub
  refine wpAny_call (codeAny_of_tree ?_)
  show wpAny _ _ (callAny (.type "set") _) _ _ _
  refine wpAny_pure ⟨Code.quiet_builtin _ (by decide +kernel), codeAny_builtin F.entry_type_call ?_⟩
  rw [Around.under_plain (weight_type_call_type "set" [.ref l] []) rfl]
  have h1 := F.called_set.notType
  have h2 := F.called_set.canCreate
  have hct := F.typeCall_set_1 (.ref l)
  repeat (any_goals (first | assumption | wp_step))
  refine codeAny_mono (code_set_led1 (.ref l) (E := E) (Q₁ := fun obj s₁ => obj = .ref s.heap.objs.size ∧ s₁ = { s with heap := s.heap.push (fresh0 w) }) ⟨rfl, rfl⟩) fun r s₁ hr => ?_
  cases r with
  | error e => exact hr
  | ok fl =>
    cases fl with
    | next => exact hr.elim
    | brk => exact hr.elim
    | cont => exact hr.elim
    | ret obj =>
      obtain ⟨rfl, rfl⟩ := hr
      have hT : Shared.TypeIs { s with heap := s.heap.push (fresh0 w) } (.ref s.heap.objs.size) "set" := ⟨_, Heap.get?_push_size _ rfl, rfl⟩
      have hS : (s.heap.push (fresh0 w)).get? s.heap.objs.size = some (fresh0 w) := Heap.get?_push_size _ rfl
      have hli := F.called_set.init.lookup
      have hbi := F.called_set.init.bind (.ref s.heap.objs.size)
      repeat (any_goals (first | assumption | wp_step))
      refine codeAny_mono (codeAny_call_builtin (R := wants (fun r s₂ => r = .none ∧ ∃ h' tk c, s₂ = { s with heap := h', toks := tk } ∧ SetR w h' s.heap.objs.size (fun j => decide (j ∈ ns)) c ∧ c ≤ ns.length ∧ (∀ b o, s.heap.get? b = some o → h'.get? b = some o)) E)
        F.called_set.init.plain F.entry_set_init (check_set_init_1 hT ?_)) fun r₂ s₂ hr₂ => ?_
      · obtain ⟨ol, hol, hcl, nl, hdl⟩ := id hl
        obtain ⟨ocls, odict, odata, oslots⟩ := ol
        simp only at hcl hdl
        subst hcl; subst hdl
        have hol' : (s.heap.push (fresh0 w)).get? l = some { cls := .type "list", dict := odict, data := .seq items nl, slots := oslots } := Heap.get?_push_of_some _ hol
        have hsls := F.sub_list_set
        have hslf := F.sub_list_frozenset
        have hne : (Value.type "list" == Value.type "dict") = false := by decide
        have hl1 : (s.heap.push (fresh0 w)).IsList l items := ⟨_, hol', rfl, nl, rfl⟩
        unfold Builtin.«set.__init__» noKeywords Builtin.Frozenset.updateFrom
        generalize hPI : pyIter = PI
        wp_walk
        subst hPI
        refine wpAny_pyIter_list hl1 ?_
        refine wpAny_bind (wpAny_runValue ?_)
        have z1 : (s.heap.push (fresh0 w)).objs.size = s.heap.objs.size + 1 := Heap.size_push ..
        rw [z1]
        refine set_fill ns (by simp [hh]) hl hit hb fun h' tk c R1 hc k => ?_
        show wpAny _ _ _ _ _ _
        refine wpAny_pure ?_
        show wpAny _ _ (ret Value.none) _ _ _
        exact wpAny_pure ⟨rfl, h', tk, c, rfl, R1, hc, k⟩
      · cases r₂ with
        | error e => exact hr₂
        | ok fl₂ =>
          cases fl₂ with
          | next => exact hr₂.elim
          | brk => exact hr₂.elim
          | cont => exact hr₂.elim
          | ret r =>
            obtain ⟨rfl, h', tk, c, rfl, R1, hc, k⟩ := hr₂
            repeat (any_goals (first | assumption | wp_step))
            exact h h' tk c R1 hc k
end
end Ev
end

section
set_option maxRecDepth 100000
set_option maxHeartbeats 1000000
/-! Ob8: set(..): the obligation; len of a set. -/
namespace Ev
open PySem L2 PyProof.Rows

/-! ### the members -/
theorem addV_mem {xs : List Val} {x y : Val} : y ∈ addV xs x ↔ y ∈ xs ∨ y = x := by
  unfold addV
  split
  · rename_i h
    constructor
    · exact .inl
    · rintro (h' | rfl)
      · exact h'
      · exact h
  · simp
theorem addV_nodup {xs : List Val} {x : Val} (h : xs.Nodup) : (addV xs x).Nodup := by
  unfold addV
  split
  · exact h
  · rename_i hn
    rw [List.nodup_append]
    exact ⟨h, by simp, fun a ha b hb => by simp at hb; subst hb; exact fun e => hn (e ▸ ha)⟩
theorem setOf_mem : ∀ {xs acc : List Val} {y : Val}, y ∈ setOf acc xs ↔ y ∈ acc ∨ y ∈ xs
  | [], acc, y => by simp [setOf]
  | x :: xs, acc, y => by
    rw [setOf, setOf_mem, addV_mem, List.mem_cons]
    constructor
    · rintro ((h | h) | h)
      · exact .inl h
      · exact .inr (.inl h)
      · exact .inr (.inr h)
    · rintro (h | h | h)
      · exact .inl (.inl h)
      · exact .inl (.inr h)
      · exact .inr h
theorem setOf_nodup : ∀ {xs acc : List Val}, acc.Nodup → (setOf acc xs).Nodup
  | [], acc, h => h
  | x :: xs, acc, h => by rw [setOf]; exact setOf_nodup (addV_nodup h)
theorem isInts_of : ∀ {xs : List Val}, xs.all isInt = true → ∃ ns : List Int, xs = ns.map Val.int
  | [], _ => ⟨[], rfl⟩
  | x :: xs, h => by
    simp only [List.all_cons, Bool.and_eq_true] at h
    obtain ⟨ns, rfl⟩ := isInts_of h.2
    cases x <;> first | (simp [isInt] at h; done) | skip
    rename_i i
    exact ⟨i :: ns, rfl⟩
section
variable {Z : Wh} {φ : List Addr} {H : Hp}
theorem VRs.ints' : ∀ {ns : List Int} {vs : List L2.V}, VRs Z φ H (ns.map Val.int) vs → vs = ns.map V.int
  | [], _, h => h
  | n :: ns, _, ⟨v, r, h1, h2, h3⟩ => by rw [h1, VRs.ints' h3, show v = L2.V.int n from h2]; rfl
theorem intMap_nodup : ∀ {ns : List Int}, (ns.map Val.int).Nodup → ns.Nodup
  | [], _ => List.nodup_nil
  | n :: ns, h => by
    rw [List.map_cons, List.nodup_cons] at h
    rw [List.nodup_cons]
    exact ⟨fun hm => h.1 (List.mem_map.mpr ⟨n, hm, rfl⟩), intMap_nodup h.2⟩
theorem setR_count {w : World} {h : Heap} {a : Addr} {S : Int → Bool} {n : Nat} (R : SetR w h a S n) {ns : List Int} (hn : ns.Nodup) (hm : ∀ k, S k = true ↔ k ∈ ns) : n = ns.length := by
  obtain ⟨o, es, ep, t, ho, _, _, _, nd, mem, _, _, hsz, _⟩ := R
  have hp : (es.toList.map keyOf).Perm ns := (List.perm_ext_iff_of_nodup nd hn).mpr fun k => by rw [← mem k, hm k]
  have := hp.length_eq
  rw [List.length_map, Array.length_toList] at this
  omega
end
section
variable {Y : Sys} {Z : Wh} {k : Nat} {c : CC} {X : Cx}
/-- set(l), set(t): of ints -/
def rSetI (K : PySem.W.Frag) (w : World) : List V → Hp → VK → Prop := fun vs H Q => ∃ (l : Addr) (ns : List Int), vs = [V.ref l] ∧ (SqL K H l (ns.map V.int) ∨ SqT K H l (ns.map V.int)) ∧ ns.length + 1 < 4096 ∧
  ∀ (a : Addr) (c : Nat), H a = none → (∀ ms : List Int, ms.Nodup → (∀ k, k ∈ ms ↔ k ∈ ns) → c = ms.length) → Q (.ref a) (upd H a (SetO w a (fun j => decide (j ∈ ns)) c))
theorem cr_setI (hc : X.calm = true) : CallR X (.type "set") (rSetI X.K X.w) := by
  intro pins s σ H vs us Q I r h
  obtain ⟨l, ns, rfl, hl, hb, q⟩ := h
  rw [Vals.ref1 r]
  have hn : H s.heap.objs.size = none := I.hok.fresh (Nat.le_refl _)
  have fin : ∀ (h' : Heap) (tk c : Nat), SetR X.w h' s.heap.objs.size (fun j => decide (j ∈ ns)) c → c ≤ ns.length → (∀ b o, s.heap.get? b = some o → h'.get? b = some o) → EP X pins σ Q (.ref s.heap.objs.size) { s with heap := h', toks := tk } := fun h' tk c R _ k =>
    ⟨.ref s.heap.objs.size, upd H s.heap.objs.size (SetO X.w s.heap.objs.size (fun j => decide (j ∈ ns)) c), I.laid (t' := tk) k (Nat.le_refl _) (setO_new R), rfl, q _ c hn fun ms nd hm => setR_count R nd fun k => by rw [hm k]; simp⟩
  rcases hl with hl | hl
  · obtain ⟨its, rv, pl, hz⟩ := I.list hl
    exact call_set_listI ns (I.ok.hd hc) pl.isList (ints_of_vals rv) (by show ns.length + 1 < 4096; exact hb) fin
  · obtain ⟨its, rv, pl, hz⟩ := I.tuple hl
    exact call_set_tupI ns (I.ok.hd hc) (show s.heap.IsTuple l its.toArray from pl) (ints_of_vals rv) (by show ns.length + 1 < 4096; exact hb) fin
end
end Ev
end

section
set_option maxRecDepth 100000
set_option maxHeartbeats 1000000
/-! Ob9: set(..): the obligation. -/
namespace Ev
open PySem L2 PyProof.Rows

theorem isITs_of {Z : Wh} {φ : List Addr} {H : Hp} : ∀ {xs : List Val} {vs : List L2.V}, xs.all isIT = true → VRs Z φ H xs vs →
    ∃ ks : List (Addr × List Int), vs = ks.map (fun p => V.ref p.1) ∧ (∀ p ∈ ks, H p.1 = some (.tup (p.2.map V.int))) ∧ xs = ks.map fun p => Val.tup (p.2.map Val.int)
  | [], _, _, h => ⟨[], h, by simp, rfl⟩
  | x :: xs, _, ha, ⟨v, r, h1, h2, h3⟩ => by
    simp only [List.all_cons, Bool.and_eq_true] at ha
    obtain ⟨ks, k1, k2, k3⟩ := isITs_of ha.2 h3
    cases x <;> first | (simp [isIT] at ha; done) | skip
    rename_i ys
    obtain ⟨ns, rfl⟩ := isInts_of (xs := ys) ha.1
    obtain ⟨p, us, rfl, hp, hus⟩ := h2
    rw [VRs.ints' hus] at hp
    refine ⟨(p, ns) :: ks, by rw [h1, k1]; rfl, fun q hq => ?_, by rw [k3]; rfl⟩
    rcases List.mem_cons.mp hq with rfl | hq
    · exact hp
    · exact k2 q hq
theorem ints_inj : ∀ {a b : List Int}, a.map Val.int = b.map Val.int → a = b
  | [], [], _ => rfl
  | [], _ :: _, h => by cases h
  | _ :: _, [], h => by cases h
  | x :: a, y :: b, h => by
    simp only [List.map_cons, List.cons.injEq, Val.int.injEq] at h
    rw [h.1, ints_inj h.2]
section
variable {Y : Sys} {Z : Wh} {k : Nat} {c : CC} {X : Cx}
/-- set(l), l of tuples of ints; the members differ -/
def rSetT2 (K : PySem.W.Frag) (P : Program) (w : World) : List V → Hp → VK → Prop := fun vs H Q => ∃ (l : Addr) (ks : List (Addr × List Int)), vs = [V.ref l] ∧ SqL K H l (ks.map fun p => V.ref p.1) ∧ (∀ p ∈ ks, SqT K H p.1 (p.2.map V.int)) ∧ ks.length < 64 ∧
  ∀ a L, H a = none → (∀ p ∈ L, p ∈ ks) → (∀ p ∈ ks, p.2 ∈ L.map (·.2)) → (L.map (·.2)).Nodup → Q (.ref a) (upd H a (SetTO P w a L))
theorem cr_setT2 (hc : X.calm = true) (hu : X.A.units + 64 < cLine) : CallR X (.type "set") (rSetT2 X.K X.prog X.w) := by
  intro pins s σ H vs us Q I r h
  obtain ⟨l, ks, rfl, hl, hk, hf, q⟩ := h
  rw [Vals.ref1 r]
  obtain ⟨its, rv, pl, hz⟩ := I.list hl
  refine call_set_tups (P := X.prog) (w := X.w) ks (I.ok.hd hc) pl.isList (by simpa using refs_of_vals rv) (fun p hp => I.isT (hk p hp)) hf (by omega) fun h' tk L es ep t R g kk => ?_
  exact ⟨.ref s.heap.objs.size, upd H s.heap.objs.size (SetTO X.prog X.w s.heap.objs.size L), I.laid (t' := tk) kk (Nat.le_refl _) (setTO_new R.t0), rfl,
    q _ L (I.hok.fresh (Nat.le_refl _)) (fun p hp => List.mem_of_mem_take (g.sub p hp)) (fun p hp => g.all p (by rw [List.take_length]; exact hp)) R.nd⟩
theorem o_set (G : Good Y Z k c X) (μ : Store) (v : Val) (xs : List Val) (hi : itemsM μ v = some xs) (hs : setOk (isTup v) xs = true) :
    ∃ r, CallR X (.type "set") r ∧ ∀ U H' φ' Q, Rep Z φ' μ H' → VR Z φ' H' v U → (∀ p o, H' p = none → OR Z (φ' ++ [p]) (upd H' p o) p (.set (setOf [] xs)) → Q (.ref p) (upd H' p o)) → r [U] H' Q := by
  unfold setOk at hs
  rw [Bool.or_eq_true] at hs
  rcases hs with hs | hs
  · simp only [Bool.and_eq_true, decide_eq_true_eq] at hs
    obtain ⟨ns, rfl⟩ := isInts_of hs.1
    refine ⟨rSetI X.K X.w, cr_setI G.calm, fun U H' φ' Q R hu q => ?_⟩
    obtain ⟨p, vs, rfl, hsq, hv, _⟩ := items_at R hu hi
    have := VRs.ints' hv
    subst this
    rw [G.K, G.w]
    refine ⟨p, ns, rfl, hsq, by simpa using hs.2, fun a c hn hc => q a _ hn ?_⟩
    have hall : (setOf [] (ns.map Val.int)).all isInt = true := by
      rw [List.all_eq_true]
      intro y hy
      rcases setOf_mem.mp hy with h | h
      · simp at h
      · obtain ⟨n, _, rfl⟩ := List.mem_map.mp h; rfl
    obtain ⟨ms, hms⟩ := isInts_of hall
    have nd : (setOf [] (ns.map Val.int)).Nodup := setOf_nodup List.nodup_nil
    have hmem : ∀ k, k ∈ ms ↔ k ∈ ns := fun k => by
      have h1 : Val.int k ∈ setOf [] (ns.map Val.int) ↔ Val.int k ∈ ns.map Val.int := by rw [setOf_mem]; simp
      rw [hms] at h1
      simpa using h1
    have ndm : ms.Nodup := intMap_nodup (by rw [← hms]; exact nd)
    have hl := hc ms ndm hmem
    refine ⟨nd, .inl ⟨ms, fun j => decide (j ∈ ns), hms, by rw [← hl]; exact upd_same, fun k => by simp [hmem k]⟩⟩
  · simp only [Bool.and_eq_true, decide_eq_true_eq, Bool.not_eq_true'] at hs
    obtain ⟨⟨ht, hall⟩, hf⟩ := hs
    refine ⟨rSetT2 X.K X.prog X.w, cr_setT2 G.calm (by have := unitsX G; omega), fun U H' φ' Q R hu q => ?_⟩
    obtain ⟨p, vs, rfl, hsq, hv, hcase⟩ := items_at R hu hi
    obtain ⟨ks, rfl, k2, k3⟩ := isITs_of hall hv
    have hL : SqL Z.K H' p (ks.map fun p => V.ref p.1) := by
      rcases hcase with ⟨n, _, h⟩ | ⟨rfl, _⟩
      · exact .of h
      · cases ht
    rw [G.K, G.w, G.P]
    refine ⟨p, ks, rfl, hL, fun q hq => .of (k2 q hq), by rw [k3, List.length_map] at hf; exact hf, fun a L hn hsub hcov nd => q a _ hn ?_⟩
    have hmem : ∀ x, x ∈ setOf [] xs ↔ ∃ p ∈ L, x = .tup (p.2.map Val.int) := fun x => by
      rw [setOf_mem]
      constructor
      · rintro (h | h)
        · simp at h
        · rw [k3] at h
          obtain ⟨p', hp', rfl⟩ := List.mem_map.mp h
          obtain ⟨p2, hp2, e2⟩ := List.mem_map.mp (hcov p' hp')
          exact ⟨p2, hp2, by rw [e2]⟩
      · rintro ⟨p', hp', rfl⟩
        exact .inr (by rw [k3]; exact List.mem_map.mpr ⟨p', hsub p' hp', rfl⟩)
    have ndx : (setOf [] xs).Nodup := setOf_nodup List.nodup_nil
    have ndL : (L.map fun p => Val.tup (p.2.map Val.int)).Nodup := by
      rw [show (L.map fun p => Val.tup (p.2.map Val.int)) = (L.map (·.2)).map (fun l => Val.tup (l.map Val.int)) by rw [List.map_map]; rfl]
      exact (List.pairwise_map.mpr (nd.imp fun h e => h (ints_inj (by injection e))))
    have hperm : (setOf [] xs).Perm (L.map fun p => Val.tup (p.2.map Val.int)) := (List.perm_ext_iff_of_nodup ndx ndL).mpr fun x => by
      rw [hmem x, List.mem_map]
      constructor
      · rintro ⟨p, hp, e⟩; exact ⟨p, hp, e.symm⟩
      · rintro ⟨p, hp, e⟩; exact ⟨p, hp, e.symm⟩
    refine ⟨ndx, .inr ⟨L, upd_same, hmem, fun p' hp' => ?_, by rw [hperm.length_eq, List.length_map], nd⟩⟩
    have h2 := k2 p' (hsub p' hp')
    rw [upd_ne (ne_of_none h2 hn)]; exact h2
end
end Ev
end

section
set_option maxRecDepth 100000
set_option maxHeartbeats 1000000
/-! Ob10: len of a set; sorted(a set of ints). -/
namespace Ev
open PySem L2 PyProof.Rows

section
variable {Y : Sys} {Z : Wh} {k : Nat} {c : CC} {X : Cx}
/-- len of a set of ints, of tuples of ints -/
def rLenSet (K : PySem.W.Frag) (P : Program) (w : World) : List V → Hp → VK → Prop := fun vs H Q => (∃ (a : Addr) (S : Int → Bool) (n : Nat), vs = [V.ref a] ∧ H a = some (SetO w a S n) ∧ Q (.int (n : Nat)) H) ∨
  ∃ (a : Addr) (L : List (Addr × List Int)), vs = [V.ref a] ∧ H a = some (SetTO P w a L) ∧ (∀ p ∈ L, SqT K H p.1 (p.2.map V.int)) ∧ Q (.int (L.length : Nat)) H
theorem cr_lenSet : CallR X (.builtin "len") (rLenSet X.K X.prog X.w) := by
  intro pins s σ H vs us Q I r h
  rcases h with ⟨a, S, n, rfl, ha, q⟩ | ⟨a, L, rfl, ha, hk, q⟩
  · rw [Vals.ref1 r]
    obtain ⟨o, es, ep, t, ho, hx, hd, _, _, _, hs, hf, hn, _⟩ := setO_get I ha
    refine call_len_set ho hx hd hf (by unfold scanBound at hs; omega) ?_
    rw [hn]
    exact ⟨.int (n : Nat), H, I.tok _, ⟨_, rfl⟩, q⟩
  · rw [Vals.ref1 r]
    have R0 : SetT0 X.prog X.w s.heap a L := (I.hok a _ ha).1
    obtain ⟨es, ep, t, R⟩ := R0.full fun p hp => I.isT (hk p hp)
    obtain ⟨o, ho, hx, hd⟩ := R.ob
    have hl : es.size = L.length := by
      have := congrArg List.length R.rows
      rw [Array.length_toList] at this
      rw [this]
      unfold rowsOf
      simp
    have h64 := R.few
    refine call_len_set ho hx hd R.fits (by omega) ?_
    rw [hl]
    exact ⟨.int (L.length : Nat), H, I.tok _, ⟨_, rfl⟩, q⟩
theorem o_lenS (G : Good Y Z k c X) (μ : Store) (n N : Nat) (xs : List Val) (hm : μ[n]? = some (.set xs)) (hN : N = xs.length) :
    ∃ r, CallR X (.builtin "len") r ∧ ∀ U H' φ' Q, Rep Z φ' μ H' → VR Z φ' H' (.ref n) U → Q (V.int N) H' → r [U] H' Q := by
  subst hN
  refine ⟨rLenSet X.K X.prog X.w, cr_lenSet, fun U H' φ' Q R hu q => ?_⟩
  obtain ⟨a, ha, rfl⟩ := hu
  rw [G.K, G.w, G.P]
  obtain ⟨_, h⟩ := R.obj n _ a hm ha
  rcases h with ⟨ns, S, rfl, h2, h3⟩ | ⟨L, h1, h2, h3, h4, h5⟩
  · exact .inl ⟨a, S, ns.length, rfl, h2, by rw [List.length_map] at q; exact q⟩
  · exact .inr ⟨a, L, rfl, h1, fun p hp => .of (h3 p hp), by rw [h4] at q; exact q⟩
end
end Ev
end

section
set_option maxRecDepth 100000
set_option maxHeartbeats 1000000
/-! Ob11: sorted of ints. -/
namespace Ev
open PySem L2 PyProof.Rows

/-! ### the plain sort -/
def insI (x : Int) : List Int → List Int
  | [] => [x]
  | y :: r => if x < y then x :: y :: r else y :: insI x r
def srtI : List Int → List Int
  | [] => []
  | x :: r => insI x (srtI r)
theorem insSorted_int {x : Int} : ∀ {l : List Int}, insSorted (.int x) (l.map Val.int) = some ((insI x l).map Val.int)
  | [] => rfl
  | y :: r => by
    rw [List.map_cons, insSorted, insI]
    simp only [Val.lt]
    by_cases h : x < y
    · simp [h]
    · simp only [h, decide_false, if_false]
      rw [insSorted_int]; rfl
theorem sortV_int : ∀ {l : List Int}, sortV (l.map Val.int) = some ((srtI l).map Val.int)
  | [] => rfl
  | x :: r => by
    rw [List.map_cons, sortV, sortV_int]
    exact insSorted_int
theorem insI_perm {x : Int} : ∀ {l : List Int}, (insI x l).Perm (x :: l)
  | [] => List.Perm.refl _
  | y :: r => by
    rw [insI]
    split
    · exact List.Perm.refl _
    · exact (List.Perm.cons y insI_perm).trans (List.Perm.swap x y r)
theorem srtI_perm : ∀ {l : List Int}, (srtI l).Perm l
  | [] => List.Perm.refl _
  | x :: r => insI_perm.trans (List.Perm.cons x srtI_perm)
theorem insI_sorted {x : Int} : ∀ {l : List Int}, l.Pairwise (· ≤ ·) → (insI x l).Pairwise (· ≤ ·)
  | [], _ => List.pairwise_singleton _ _
  | y :: r, h => by
    rw [List.pairwise_cons] at h
    rw [insI]
    split
    · rename_i hlt
      rw [List.pairwise_cons]
      refine ⟨fun z hz => ?_, List.pairwise_cons.mpr h⟩
      rcases List.mem_cons.mp hz with rfl | hz
      · omega
      · have := h.1 z hz; omega
    · rename_i hge
      rw [List.pairwise_cons]
      refine ⟨fun z hz => ?_, insI_sorted h.2⟩
      rcases List.mem_cons.mp (insI_perm.mem_iff.mp hz) with rfl | hz
      · omega
      · exact h.1 z hz
theorem srtI_sorted : ∀ {l : List Int}, (srtI l).Pairwise (· ≤ ·)
  | [] => List.Pairwise.nil
  | x :: r => insI_sorted srtI_sorted
theorem sorted_uniq : ∀ {a b : List Int}, a.Pairwise (· ≤ ·) → b.Pairwise (· ≤ ·) → a.Perm b → a = b
  | [], b, _, _, h => (List.nil_perm.mp h).symm
  | x :: a, [], _, _, h => by have := h.length_eq; simp at this
  | x :: a, y :: b, ha, hb, h => by
    rw [List.pairwise_cons] at ha hb
    have h1 : x ∈ y :: b := h.mem_iff.mp List.mem_cons_self
    have h2 : y ∈ x :: a := h.mem_iff.mpr List.mem_cons_self
    have e : x = y := by
      rcases List.mem_cons.mp h1 with e | h1
      · exact e
      · rcases List.mem_cons.mp h2 with e | h2
        · exact e.symm
        · have := hb.1 x h1; have := ha.1 y h2; omega
    subst e
    rw [sorted_uniq ha.2 hb.2 (List.Perm.cons_inv h)]
section
variable {Y : Sys} {Z : Wh} {k : Nat} {c : CC} {X : Cx}
theorem VRs_intL {φ : List Addr} {H : Hp} : ∀ (l : List Int), VRs Z φ H (l.map Val.int) (l.map V.int)
  | [] => rfl
  | i :: l => ⟨_, _, rfl, rfl, VRs_intL l⟩
theorem o_sortedI (G : Good Y Z k c X) (μ : Store) (n : Nat) (xs ys : List Val) (hm : (μ[n]? = some (.lst xs) ∧ sortOk xs = true) ∨ (μ[n]? = some (.set xs) ∧ sortOkS xs = true)) (hs : sortV xs = some ys) (hl : ys.length ≤ sizeLine) :
    ∃ r, CallR X (.builtin "sorted") r ∧ ∀ U H' φ' Q, Rep Z φ' μ H' → VR Z φ' H' (.ref n) U → (∀ p Vs, H' p = none → VRs Z φ' H' ys Vs → Q (.ref p) (upd H' p (.lst Vs))) → r [U] H' Q := by
  rcases hm with ⟨hm, hk⟩ | ⟨hm, hk⟩
  · obtain ⟨ns, rfl⟩ := isInts_of (xs := xs) hk
    rw [sortV_int] at hs
    cases hs
    refine ⟨rSortedI X.K, cr_sortedI, fun U H' φ' Q R hu q => ?_⟩
    obtain ⟨p, vs, rfl, _, t1, t2⟩ := R.ref_lst hu hm
    have := VRs.ints' t2
    subst this
    refine ⟨p, ns, rfl, .of t1, fun ns' p' h1 h2 h3 => ?_⟩
    have e := sorted_uniq h2 srtI_sorted (h1.trans srtI_perm.symm)
    rw [e]
    exact q p' _ h3 (VRs_intL _)
  · unfold sortOkS at hk
    simp only [Bool.and_eq_true, decide_eq_true_eq] at hk
    obtain ⟨ns, rfl⟩ := isInts_of (xs := xs) hk.1
    rw [sortV_int] at hs
    cases hs
    have h64 : ns.length < 64 := by have := hk.2; rw [List.length_map] at this; exact this
    refine ⟨fun vs H Q => ns = [] ∧ (∃ a L, vs = [V.ref a] ∧ H a = some (SetTO X.prog X.w a L) ∧ L = [] ∧ ∀ p, H p = none → Q (.ref p) (upd H p (.lst []))) ∨ rSortedSet X.w vs H Q, fun pins s σ H vs us Q I r h => ?_, fun U H' φ' Q R hu q => ?_⟩
    · rcases h with ⟨_, a, L, rfl, ha, rfl, q⟩ | h
      · refine cr_sortedT G.calm pins s σ H [V.ref a] us Q I r ⟨a, [], 1, 0, rfl, ha, by simp, Nat.le_refl _, by simp, fun L' p h1 _ _ _ hp => ?_⟩
        have : L' = [] := List.perm_nil.mp h1
        subst this
        exact q p hp
      · exact cr_sortedSet G.calm pins s σ H vs us Q I r h
    · obtain ⟨a, ha, rfl⟩ := hu
      obtain ⟨nd, h⟩ := R.obj n _ a hm ha
      rcases h with ⟨ms, S, e, h2, h3⟩ | ⟨L, h1, h2, _, h4, _⟩
      · have : ns = ms := ints_inj e
        subst this
        rw [G.w]
        refine .inr ⟨a, S, ns.length, rfl, h2, h64, fun ns' p' p1 p2 p3 p4 => ?_⟩
        have nd1 : ns'.Nodup := p1.imp fun h => Int.ne_of_lt h
        have nd2 : ns.Nodup := intMap_nodup nd
        have pm : ns'.Perm ns := (List.perm_ext_iff_of_nodup nd1 nd2).mpr fun k => by rw [p2 k, h3 k]
        have e2 := sorted_uniq (p1.imp fun h => Int.le_of_lt h) srtI_sorted (pm.trans srtI_perm.symm)
        rw [e2]
        exact q p' _ p4 (VRs_intL _)
      · -- a set of tuples that holds no int
        have hn : ns = [] := by
          cases ns with
          | nil => rfl
          | cons i r =>
            obtain ⟨p, _, e⟩ := (h2 (Val.int i)).mp (by simp)
            cases e
        subst hn
        have hL : L = [] := List.eq_nil_of_length_eq_zero (by rw [← h4]; rfl)
        rw [G.P, G.w]
        exact .inl ⟨rfl, a, L, rfl, h1, hL, fun p hp => q p [] hp rfl⟩
end
end Ev
end

section
set_option maxRecDepth 100000
set_option maxHeartbeats 1000000
/-! Os: tuples of data, empty ones too, can be sorted. -/
namespace Ev.Os
open PySem PySem.W PySem.Calls PyProof.Rows PySem.SeqAt

section
variable {prog : Program} {w : World} {A : Around} {E : Value → Shared → Prop} {s : Shared}
theorem call_tup_lt {Q : Value → Shared → Prop} {l b : Addr} {xs ys : Array Value} {e r : Nat → Bool} (hl : s.heap.IsTuple l xs) (hb : s.heap.IsTuple b ys)
    (he : ∀ j (h1 : j < xs.size) (h2 : j < ys.size), EqAt A.in1 s xs[j] ys[j] (e j)) (hr : ∀ j (h1 : j < xs.size) (h2 : j < ys.size), e j = false → RcLt A.in1 s xs[j] ys[j] (r j))
    (h : Q (.bool (firstLt e r (decide (xs.size < ys.size)) (List.range (min xs.size ys.size)))) s) : wpAny (model prog w) A (call (.builtin "tuple.__lt__") [.ref l, .ref b]) Q E s := by
  obtain ⟨⟨c1, d1, t1, sl1⟩, ho, hc, n, hd⟩ := id hl
  obtain ⟨⟨c2, d2, t2, sl2⟩, ho2, hc2, n2, hd2⟩ := id hb
  simp only at hc hd hc2 hd2
  subst hc hd hc2 hd2
  exact call_meets F.slot_tuple_lt ⟨_, ho, rfl⟩ F.entry_tuple_lt (F.args_tuple_lt_2 _ _) (tuple_ltAt l b xs ys n n2 d1 d2 sl1 sl2 e r) ⟨ho, ho2, he, hr, h⟩
/-- one tuple against another, both known to be tuples -/
theorem one_tup {xs ys : List PyData} {a b : Value} {as bs : List Addr} {Q : Bool → Shared → Prop} (ra : Reads s.heap a (.tuple xs) as) (rb : Reads s.heap b (.tuple ys) bs) (hal : alikeAll xs ys = true)
    (hu : A.units + min (PyData.depth (.tuple xs)) (PyData.depth (.tuple ys)) < cLine) (hq : Q (dataLt (.tuple xs) (.tuple ys)) s) : wpAny (model prog w) A (oneLt' true a b) Q E s := by
  cases ra with
  | @tuple l o vs n _ as₁ h1 h2 h3 h4 =>
    cases rb with
    | @tuple l' o' vs' n' _ bs₁ k1 k2 k3 k4 =>
      have n1 : vs.size = xs.length := by simpa using ReadsAll.length _ _ _ h4
      have n2 : vs'.size = ys.length := by simpa using ReadsAll.length _ _ _ k4
      rw [dataLt_tuple, ← firstLt_toks xs ys hal, ← n1, ← n2] at hq
      rw [oneLt'_eq]
      simp only [if_true]
      refine wpAny_bind (wpAny_cRoomFor (room_here hu) ?_)
      refine wpAny_bind (wpAny_callSpecialIfBound?_slot (T := "tuple") ⟨_, h1, h2⟩ F.slot_tuple_lt (call_tup_lt (e := pairEq xs ys) (r := fun j => dataLt (xs.getD j .none) (ys.getD j .none)) ⟨_, h1, h2, _, h3⟩ ⟨_, k1, k2, _, k3⟩ (fun j j1 j2 => ?_) (fun j j1 j2 hj => ?_) ?_))
      · have := eqAt_alikeAll xs ys A.in1 s vs.toList vs'.toList _ _ h4 k4 hal (room_in hu) j (by simpa using j1) (by simpa using j2)
        simpa using this
      · have := rcLt_alikeAll xs ys A.in1 s vs.toList vs'.toList _ _ h4 k4 hal (room_in hu) j (by simpa using j1) (by simpa using j2) hj
        simpa using this
      · exact wpAny_truthy_bool hq
/-- the first items of tuples, as the sort asks for them -/
theorem firsts_tup {M : Model} : ∀ (vs : List Value) (ds : List PyData) {Q : List (Option Value) → Shared → Prop}, EachIs (fun v d => ∃ as, Reads s.heap v d as) vs ds → (∀ d ∈ ds, ∃ xs, d = .tuple xs) →
    (∀ fs : List (Option Value), fs.map (·.isSome) = ds.map (fun d => match d with | .tuple (_ :: _) => true | _ => false) → Q fs s) → wpAny M A (vs.mapM firstOfTuple') Q E s
  | [], ds, Q, e, _, h => by
    cases e
    rw [List.mapM_nil]
    exact wpAny_pure (h [] rfl)
  | v :: vs, ds, Q, e, ht, h => by
    cases e with
    | @cons _ d _ ds' e1 e2 =>
      obtain ⟨as, r⟩ := e1
      obtain ⟨xs, rfl⟩ := ht d List.mem_cons_self
      cases r with
      | @tuple a o its n _ _ ho hc hd hr =>
        rw [List.mapM_cons]
        refine wpAny_bind ?_
        rw [kas_first_eq]
        refine wpAny_bind (Looks.here (show Looks M s.heap (typeOf (.ref a)) o.cls from (Looks.ld ho).andThen .now) ?_)
        rw [hc, if_neg (by first | decide | simp)]
        refine wpAny_bind (listItems_at ho hd (wpAny_pure ?_))
        refine wpAny_bind (firsts_tup vs ds' (Q := fun bs s' => wpAny M A (pure (its[0]? :: bs)) Q E s') e2 (fun d hd => ht d (List.mem_cons_of_mem _ hd)) fun fs hf => wpAny_pure (h _ ?_))
        rw [List.map_cons, List.map_cons, hf]
        congr 1
        have hl := ReadsAll.length _ _ _ hr
        cases xs with
        | nil =>
          have : its.size = 0 := by simpa using hl
          simp [this]
        | cons x xs =>
          have : 0 < its.size := by simp at hl; omega
          simp [this]
def fstT : List PyData → Bool
  | .tuple (_ :: _) :: _ => true
  | _ => false
theorem tup_kind {M : Model} {vs : List Value} {ds : List PyData} {Q : SortKind → Shared → Prop} (h2 : 2 ≤ vs.length) (e : EachIs (fun v d => ∃ as, Reads s.heap v d as) vs ds) (ht : ∀ d ∈ ds, ∃ xs, d = .tuple xs) (hn : ¬ ∀ d ∈ ds, ∃ x xs, d = .tuple (x :: xs))
    (hq : Q (if fstT ds then general' else oneType') s) : wpAny M A (keyKind' vs.toArray) Q E s := by
  rw [keyKind'_eq, List.mapM_toArray, map_eq_pure_bind]
  refine wpAny_bind (wpAny_bind (firsts_tup vs ds e ht fun fs hf => wpAny_pure ?_))
  have hnall : ¬ (fs.toArray.all fun x => x.isSome) = true := by
    intro h
    apply hn
    intro d hd
    have h' : ∀ b ∈ fs.map (·.isSome), b = true := by
      intro b hb
      obtain ⟨o, ho, rfl⟩ := List.mem_map.mp hb
      have := List.all_eq_true.mp (by simpa using h) o ho
      exact this
    rw [hf] at h'
    have := h' _ (List.mem_map.mpr ⟨d, hd, rfl⟩)
    obtain ⟨xs, rfl⟩ := ht d hd
    cases xs with
    | nil => simp at this
    | cons x xs => exact ⟨x, xs, rfl⟩
  rw [if_neg hnall]
  have hlen : ds.length = vs.length := e.length.symm
  match ds, hq, hf, ht, e, hlen with
  | [], _, _, _, _, hlen => simp at hlen; omega
  | d :: ds', hq, hf, ht, e, _ =>
    obtain ⟨xs, rfl⟩ := ht d List.mem_cons_self
    match fs, hf with
    | [], hf => simp at hf
    | f :: fs', hf =>
      rw [List.map_cons, List.map_cons] at hf
      have hf1 : f.isSome = (match PyData.tuple xs with | .tuple (_ :: _) => true | _ => false) := (List.cons.inj hf).1
      have h0 : ((f :: fs').toArray[0]?.bind id) = f := by simp
      rw [h0]
      cases xs with
      | cons x xs =>
        rw [if_pos (by rw [hf1])]
        exact wpAny_pure hq
      | nil =>
        rw [if_neg (by rw [hf1]; simp)]
        rw [oneTypeOnly'_eq, List.mapM_toArray, map_eq_pure_bind]
        refine wpAny_bind (wpAny_bind (wpAny_bind (kas_mapM (r := Value.type "tuple") _ (fun v hv Q' hq' => ?_) (wpAny_pure ?_))))
        · obtain ⟨d, hd, as, r⟩ := e.left v hv
          obtain ⟨ys, rfl⟩ := ht d hd
          exact (looks_reads (M := M) r).here hq'
        · obtain ⟨v1, vr, rfl⟩ : ∃ v1 vr, vs = v1 :: vr := by
            match vs, h2 with
            | v1 :: vr, _ => exact ⟨v1, vr, rfl⟩
          have hall : ((List.map (fun _ => Value.type "tuple") (v1 :: vr)).toArray.all fun x => x == Value.type "tuple") = true := by
            simp only [List.all_toArray, List.all_map, List.all_eq_true]
            intro _ _
            exact beq_self_eq_true _
          have h0 : (List.map (fun _ => Value.type "tuple") (v1 :: vr)).toArray[0]? = some (Value.type "tuple") := by simp
          rw [h0]
          simp only [hall, if_true]
          exact wpAny_pure (wpAny_pure hq)
/-- tuples that are alike can be sorted -/
theorem sorts_tups {vs : List Value} {ds : List PyData} (e : EachIs (fun v d => ∃ as, Reads s.heap v d as) vs ds) (hal : AllAlike ds) (ht : ∀ d ∈ ds, ∃ xs, d = .tuple xs) (hu : ∀ d, d ∈ ds → A.units + d.depth < cLine) : SortsAt prog w A s (dataKind s.heap ds) vs := by
  by_cases hk : ∀ d ∈ ds, ∃ x xs, d = .tuple (x :: xs)
  · exact SortsAt.data e hal (.inl hk) hu
  · have room : ∀ {d d' : PyData}, d ∈ ds → A.units + min d.depth d'.depth < cLine := fun {d d'} hd => Nat.lt_of_le_of_lt (Nat.add_le_add_left (Nat.min_le_left _ _) _) (hu d hd)
    refine ⟨fun v hv => ?_, (if fstT ds then general' else oneType'), ?_, fun h2 E Q hq => tup_kind h2 e ht hk hq⟩
    · obtain ⟨d, hd, as, r⟩ := e.left v hv
      exact ⟨_, dataKind_some hal hd r⟩
    · have hone : ∀ f : Bool, ∀ (E : Value → Shared → Prop) (x y : Value) (a b : List (Int ⊕ List Nat)) {Q : Bool → Shared → Prop}, (dataKind s.heap ds).keyOf x = some a → (dataKind s.heap ds).keyOf y = some b → Q (PyProof.Rows.lexLt itemOrd a b) s → wpAny (model prog w) A (oneLt' f x y) Q E s := by
        intro f E x y a b Q ha hb hq
        obtain ⟨d, as, hd, ra, rfl⟩ := dataKind_inv ha
        obtain ⟨d', as', hd', rb, rfl⟩ := dataKind_inv hb
        have hdd := hal d hd d' hd'
        obtain ⟨xs, rfl⟩ := ht d hd
        obtain ⟨ys, rfl⟩ := ht d' hd'
        cases f with
        | false => exact oneLt_alike (fun h => nomatch h) ra rb hdd (fun h => nomatch h) (room hd) hq
        | true => exact one_tup ra rb (by simpa [alike] using hdd) (room hd) hq
      cases fstT ds with
      | true => exact fun E x y a b Q ha hb hq => hone false E x y a b ha hb hq
      | false => exact fun E x y a b Q ha hb hq => hone true E x y a b ha hb hq
end
end Ev.Os
end

section
set_option maxRecDepth 100000
set_option maxHeartbeats 1000000
/-! Ob12: sorted of tuples of data. -/
namespace Ev
open PySem L2 PyProof.Rows

/-! ### a list -/
abbrev encP (b : Val × V) : PyData := pyd b.1
def rSortedD (K : PySem.W.Frag) : List V → Hp → VK → Prop := fun vs H Q => ∃ (a : Addr) (bs : List (Val × V)), vs = [V.ref a] ∧ SqL K H a (bs.map (·.2)) ∧ (∀ b ∈ bs, (∃ xs, b.1 = .tup xs) ∧ Dp K H b.2 (pyd b.1) ∧ (pyd b.1).depth ≤ 50) ∧
  PySem.W.AllAlike (bs.map encP) ∧ ∀ p, H p = none → Q (.ref p) (upd H p (.lst ((bs.mergeSort (PySem.W.dataLe false encP)).map (·.2))))
theorem each_of_vals {bs : List (Val × V)} : ∀ {us : List Value}, Vals (bs.map (·.2)) us → PySem.W.EachIs (fun (u : Value) (b : Val × V) => RelV b.2 u) us bs := by
  induction bs with
  | nil => intro us r; cases r; exact .nil
  | cons b bs ih =>
    intro us r
    rw [List.map_cons] at r
    cases r with
    | cons r1 r2 => exact .cons r1 (ih r2)
theorem vals_of_each {bs : List (Val × V)} {us : List Value} (e : PySem.W.EachIs (fun (u : Value) (b : Val × V) => RelV b.2 u) us bs) : Vals (bs.map (·.2)) us := by
  induction e with
  | nil => exact .nil
  | cons h t ih => exact .cons h ih
section
variable {X : Cx}
theorem cr_sortedD (hu : X.A.units + 64 < cLine) : CallR X (.builtin "sorted") (rSortedD X.K) := by
  intro pins s σ H vs us Q I r h
  obtain ⟨a, bs, rfl, hs, hb, hal, q⟩ := h
  obtain ⟨its, rv, hl, hz⟩ := I.list hs
  rw [Vals.ref1 r]
  have e := each_of_vals rv
  have er : PySem.W.EachIs (fun (v : Value) (b : Val × V) => ∃ as, Reads s.heap v (encP b) as) its bs := by
    have e2 := PySem.W.each_mem e
    exact e2.mono fun v b ⟨h1, h2⟩ => by
      obtain ⟨_, hd, _⟩ := hb b h2
      exact Dp.reads I _ _ _ hd h1
  have er' : PySem.W.EachIs (fun (v : Value) (b : Val × V) => ∃ as, Reads (PySem.W.sortingHeap (PySem.W.copyHeap s.heap its) (s.heap.objs.size + 1) its) v (encP b) as) its bs := er.mono fun _ _ ⟨as, r⟩ => ⟨as, PyProof.Rows.Reads.keeps (fun _ _ => PySem.W.sorting_copy_old) r⟩
  have hL : its.length ≤ sizeLine := by rw [← rv.length]; exact hz
  refine PySem.W.sorted_vals hl.isList (Os.sorts_tups (s := { s with heap := PySem.W.sortingHeap (PySem.W.copyHeap s.heap its) (s.heap.objs.size + 1) its }) (PySem.W.each_map (R := fun v d => ∃ as, Reads (PySem.W.sortingHeap (PySem.W.copyHeap s.heap its) (s.heap.objs.size + 1) its) v d as) encP er') hal (fun d hd => ?_) (PySem.W.bound_map fun b hbm => ?_)) hL ?_
  · obtain ⟨b, hbm, rfl⟩ := List.mem_map.mp hd
    obtain ⟨⟨xs, hx⟩, _⟩ := hb b hbm
    exact ⟨pyds xs, by show pyd b.1 = _; rw [hx]; simp [pyd]⟩
  · obtain ⟨_, _, hd⟩ := hb b hbm
    have h1 : X.A.in1.in1.units ≤ X.A.units + 2 := by show X.A.units + 1 + 1 ≤ _; omega
    show X.A.in1.in1.units + (pyd b.1).depth < cLine
    omega
  · have eo := PySem.W.sortVals_data (R := fun (u : Value) (b : Val × V) => RelV b.2 u) false e er' hal
    obtain ⟨n, hn⟩ := sortedAll_at s.heap its (PySem.W.sortVals (PySem.W.dataKind (PySem.W.sortingHeap (PySem.W.copyHeap s.heap its) (s.heap.objs.size + 1) its) (bs.map encP)) false its its).toArray
    have hlen : ((bs.mergeSort (PySem.W.dataLe false encP)).map (·.2)).length ≤ sizeLine := by
      rw [List.length_map, List.length_mergeSort]
      rw [List.length_map] at hz
      exact hz
    exact ⟨.ref (s.heap.objs.size + 1), _, I.laid (t' := s.toks) (o := .lst ((bs.mergeSort (PySem.W.dataLe false encP)).map (·.2))) (fun b o e => sortedAll_old e) (Nat.le_succ _) ⟨hlen, _, n, vals_of_each eo, hn⟩, rfl, q _ (I.hok.fresh (Nat.le_succ _))⟩

/-! ### a set of tuples of ints -/
abbrev encT (q : Addr × List Int) : PyData := .tuple (q.2.map .int)
theorem encT_le : PySem.W.dataLe false encT = fun q r => decide (q.2 ≤ r.2) := by
  have := PySem.W.dataLe_rows (β := Addr × List Int) fun q => q.2
  rw [← this]
  funext q r
  show (!PySem.W.dataLt (.tuple _) (.tuple _)) = !PySem.W.dataLt (.list _) (.list _)
  rw [PySem.W.dataLt_tuple, PySem.W.dataLt_list]
theorem perm_mapL {α β : Type} {f : α → β} {l m : List β} (h : l.Perm m) : ∀ L : List α, m = L.map f → ∃ L' : List α, L'.Perm L ∧ l = L'.map f := by
  induction h with
  | nil => intro L e; exact ⟨L, .refl _, by rw [← e]⟩
  | cons x _ ih =>
    intro L e
    cases L with
    | nil => cases e
    | cons y L =>
      rw [List.map_cons] at e
      obtain ⟨e1, e2⟩ := List.cons.inj e
      obtain ⟨L', h1, h2⟩ := ih L e2
      exact ⟨y :: L', h1.cons y, by rw [List.map_cons, ← h2, e1]⟩
  | swap x y l =>
    intro L e
    match L, e with
    | a :: b :: L, e =>
      simp only [List.map_cons, List.cons.injEq] at e
      exact ⟨b :: a :: L, List.Perm.swap _ _ _, by simp [e.1, e.2.1, e.2.2]⟩
  | trans _ _ ih1 ih2 =>
    intro L e
    obtain ⟨L1, h1, e1⟩ := ih2 L e
    obtain ⟨L2, h2, e2⟩ := ih1 L1 e1
    exact ⟨L2, h2.trans h1, e2⟩
section
variable {prog : Program} {w : World} {A : Around} {E : Value → Shared → Prop} {s : Shared}
theorem each_refs {h0 : Heap} {P : Program} {w : World} : ∀ {L : List (Addr × List Int)}, (∀ q ∈ L, IsT P w h0 q.2 q.1) → PySem.W.EachIs (fun (v : Value) (q : Addr × List Int) => v = .ref q.1 ∧ ∃ as, Reads h0 v (encT q) as) (L.map fun q => Value.ref q.1) L
  | [], _ => .nil
  | q :: L, h => by
    obtain ⟨o, items, n, ho, hc, hd, hi⟩ := h q List.mem_cons_self
    refine .cons ⟨rfl, ?_⟩ (each_refs fun r hr => h r (List.mem_cons_of_mem _ hr))
    have hr : ∀ {ks : List Int} {vs : List Value}, IntsAre vs ks → ∃ as, ReadsAll h0 vs (ks.map .int) as := by
      intro ks vs hh
      induction hh with
      | nil => exact ⟨_, .nil⟩
      | cons k t _ ih => obtain ⟨as, ih⟩ := ih; exact ⟨_, .cons (.int _ _) ih⟩
    obtain ⟨as, h2⟩ := hr (ints_of_items hi)
    exact ⟨_, Reads.tuple ho hc hd h2⟩
theorem sorted_setD {a : Addr} {L : List (Addr × List Int)} {es : Array (Int × Value)} {ep : Nat} {t : SetTable} {Q : Value → Shared → Prop} (R : SetTR prog w s.heap a L es ep t) (hh : A.handled = none) (hu : A.units + 64 < cLine)
    (hQ : ∀ s' p (out : Array Value) (c : Nat) (L' : List (Addr × List Int)), (∀ b o, s.heap.get? b = some o → s'.heap.get? b = some o) → s'.gens = s.gens → s'.os = s.os → s.heap.objs.size ≤ p →
      s'.heap.get? p = some (seqObj "list" out c) → out.toList = L'.map (fun q => Value.ref q.1) → L'.Perm L → L'.Pairwise (fun q r => PySem.W.dataLe false encT q r = true) → Q (.ref p) s') :
    wpAny (model prog w) A (call (.builtin "sorted") [.ref a]) Q E s := by
  obtain ⟨o, ho, hex, hd⟩ := R.ob
  have hsz := R.size
  have hfew := R.few
  refine Calls.call_function_entry kind_sorted plain_sorted entry_sorted (args_sorted1 _) ?_
  unfold Builtin.«sorted»
  refine wpAny_bind (m := checkCount "sorted" 1 1 _) (wpAny_pure ?_)
  refine wpAny_bind (collect_set (A := A.in1) hh ⟨o, ho, hex.1, hd⟩ R.fits (by unfold scanBound; omega) R.tab.ris R.led fun s1 vs k1 hz g1 o1 pm => ?_)
  have hes : es.toList.map (·.2) = L.map fun q => Value.ref q.1 := by
    rw [R.rows]
    unfold rowsOf
    rw [List.map_map] <;> rfl
  rw [hes] at pm
  obtain ⟨L1, p1, e1⟩ := perm_mapL pm L rfl
  have hvl : vs.length < 64 := by rw [pm.length_eq, List.length_map]; exact hfew
  have hL : vs.length ≤ sizeLine := by rw [sizeLine_eq]; omega
  refine wpAny_bind (wpAny_newList ?_ hL)
  have hoL : (s1.heap.push (seqObj "list" vs.toArray 0)).get? s1.heap.objs.size = some (seqObj "list" vs.toArray 0) := Heap.get?_push_size _ rfl
  have tk : ∀ q ∈ L1, IsT prog w (PySem.W.sortingHeap (s1.heap.push (seqObj "list" vs.toArray 0)) s1.heap.objs.size vs) q.2 q.1 := fun q hq => by
    refine isT_keep (R.tup q (p1.mem_iff.mp hq)) fun b u e => ?_
    have h1 := k1 b u e
    have hlt := Heap.lt_size h1
    exact PySem.W.sortingHeap_old (Nat.ne_of_lt hlt) (Heap.get?_push_of_some _ h1)
  have er := each_refs tk
  rw [← e1] at er
  have er' : PySem.W.EachIs (fun (v : Value) (q : Addr × List Int) => ∃ as, Reads (PySem.W.sortingHeap (s1.heap.push (seqObj "list" vs.toArray 0)) s1.heap.objs.size vs) v (encT q) as) vs L1 := er.mono fun _ _ h => h.2
  have hal : PySem.W.AllAlike (L1.map encT) := PySem.W.AllAlike.of fun q r => by show PySem.W.alikeAll _ _ = true; exact PySem.W.alike_ints _ _
  have S : PySem.W.SortsAt prog w A.in1.in1 { s1 with heap := PySem.W.sortingHeap (s1.heap.push (seqObj "list" vs.toArray 0)) s1.heap.objs.size vs } (PySem.W.dataKind (PySem.W.sortingHeap (s1.heap.push (seqObj "list" vs.toArray 0)) s1.heap.objs.size vs) (L1.map encT)) vs := by
    refine Os.sorts_tups (s := { s1 with heap := PySem.W.sortingHeap (s1.heap.push (seqObj "list" vs.toArray 0)) s1.heap.objs.size vs }) (PySem.W.each_map (R := fun v d => ∃ as, Reads (PySem.W.sortingHeap (s1.heap.push (seqObj "list" vs.toArray 0)) s1.heap.objs.size vs) v d as) encT er') hal (fun d hd => ?_) (PySem.W.bound_map fun q hq => ?_)
    · obtain ⟨q, _, rfl⟩ := List.mem_map.mp hd
      exact ⟨_, rfl⟩
    · have h1 : A.in1.in1.units ≤ A.units + 2 := by show A.units + 1 + 1 ≤ _; omega
      show A.in1.in1.units + (PyData.tuple (q.2.map .int)).depth < cLine
      have h2 : (PyData.tuple (q.2.map .int)).depth = 1 := by simp [PyData.depth, PySem.W.depth_ints]
      omega
  have eo := PySem.W.sortVals_data (R := fun (v : Value) (q : Addr × List Int) => v = .ref q.1) false (er.mono fun _ _ h => h.1) er' hal
  refine wpAny_bind (wpAny_holding (wpAny_call_entry slot_list_sort ⟨_, hoL, rfl⟩ entry_list_sort (PySem.W.list_sort_vals (s := { s1 with heap := s1.heap.push (seqObj "list" vs.toArray 0) }) hoL S hL ⟨_, rfl, ?_⟩) (args_list_sort _)))
  obtain ⟨c, hc⟩ := sortedHeap_at (vs := vs) (out := (PySem.W.sortVals (PySem.W.dataKind (PySem.W.sortingHeap (s1.heap.push (seqObj "list" vs.toArray 0)) s1.heap.objs.size vs) (L1.map encT)) false vs vs).toArray) hoL
  have out_eq : ∀ {us : List Value} {M : List (Addr × List Int)}, PySem.W.EachIs (fun (v : Value) (q : Addr × List Int) => v = .ref q.1) us M → us = M.map fun q => Value.ref q.1 := by
    intro us M e
    induction e with
    | nil => rfl
    | cons h _ ih => rw [List.map_cons, h, ih]
  refine wpAny_pure ⟨_, rfl, hQ _ s1.heap.objs.size _ c (L1.mergeSort (PySem.W.dataLe false encT)) (fun b u e => ?_) g1 o1 hz hc (by simpa using out_eq eo) ((List.mergeSort_perm _ _).trans p1) ?_⟩
  · have q := k1 b u e
    have hlt := Heap.lt_size q
    show (sortedHeap (s1.heap.push (seqObj "list" vs.toArray 0)) s1.heap.objs.size vs _).get? b = some u
    rw [sortedHeap_old (Nat.ne_of_lt hlt) (by rw [size_push']; exact Nat.lt_succ_of_lt hlt)]
    exact Heap.get?_push_of_some _ q
  · refine List.pairwise_mergeSort (fun q r z h1 h2 => ?_) (fun q r => ?_) _
    · rw [encT_le] at h1 h2 ⊢
      simp only [decide_eq_true_eq] at h1 h2 ⊢
      exact List.le_trans h1 h2
    · rw [encT_le]
      simp only [Bool.or_eq_true, decide_eq_true_eq]
      exact List.le_total _ _
end
def rSortedDS (K : PySem.W.Frag) (P : Program) (w : World) : List V → Hp → VK → Prop := fun vs H Q => ∃ (a : Addr) (L : List (Addr × List Int)), vs = [V.ref a] ∧ H a = some (SetTO P w a L) ∧ (∀ p ∈ L, SqT K H p.1 (p.2.map V.int)) ∧
  ∀ (L' : List (Addr × List Int)) (p : Addr), L'.Perm L → L'.Pairwise (fun q r => q.2 ≤ r.2) → H p = none → Q (.ref p) (upd H p (.lst (L'.map fun q => V.ref q.1)))
section
variable {X : Cx}
theorem cr_sortedDS (hc : X.calm = true) (hu : X.A.units + 64 < cLine) : CallR X (.builtin "sorted") (rSortedDS X.K X.prog X.w) := by
  intro pins s σ H vs us Q I r h
  obtain ⟨a, L, rfl, ha, hk, q⟩ := h
  have R0 : SetT0 X.prog X.w s.heap a L := (I.hok a _ ha).1
  obtain ⟨es, ep, t, R⟩ := R0.full fun p hp => I.isT (hk p hp)
  rw [Vals.ref1 r]
  refine sorted_setD R (I.ok.hd hc) hu fun s' p out c L' k g o hp hg hout pm pw => ?_
  have hlen : (L'.map fun q => V.ref q.1).length ≤ sizeLine := by rw [List.length_map, pm.length_eq, sizeLine_eq]; have := R.few; omega
  have hn : H p = none := I.hok.fresh hp
  have hv : Vals (L'.map fun q => V.ref q.1) out.toList := by rw [hout]; exact vals_of_refs L'
  obtain ⟨h', g', d', t', o'⟩ := s'
  cases (show g' = s.gens from g)
  cases (show o' = s.os from o)
  have J : L2.Inv X pins σ (upd H p (.lst (L'.map fun q => V.ref q.1))) { s with heap := h', gens := s.gens, drawn := d', toks := t' } :=
    I.call (ch := []) (Un.laid k hp hn) (I.hok.laid k hp ⟨hlen, out.toList, c, hv, hg⟩) (by exact I.bare) (fun _ z => nomatch z)
  refine ⟨.ref p, _, J, rfl, q L' p pm (pw.imp fun h => ?_) hn⟩
  rw [encT_le] at h
  simpa using h
end
/-! ### the rule -/
def tupI (ns : List Int) : Val := .tup (ns.map Val.int)
theorem pyds_ints : ∀ ns : List Int, pyds (ns.map Val.int) = ns.map PyData.int
  | [] => rfl
  | n :: ns => by simp [pyds, pyd, pyds_ints ns]
theorem flats_ints : ∀ ns : List Int, Val.flats (ns.map Val.int) = true
  | [] => rfl
  | n :: ns => by simp [Val.flats, Val.flat, flats_ints ns]
theorem alks_ints : ∀ ns ms : List Int, alks (ns.map Val.int) (ms.map Val.int) = true
  | [], _ => by simp [alks]
  | _ :: _, [] => by simp [alks]
  | n :: ns, m :: ms => by simp [alks, alk, alks_ints ns ms]
theorem ltB_tupI (a b : List Int) : ltB (tupI a) (tupI b) = decide (a < b) := by
  have h := lts_pyd _ _ (flats_ints a) (flats_ints b) (alks_ints a b)
  rw [pyds_ints, pyds_ints] at h
  show ltBs _ _ = _
  rw [← h]
  exact PySem.W.dataLt_ints a b
theorem leV_tupI (a b : List Int) : leV (tupI a) (tupI b) = decide (a ≤ b) := by
  unfold leV
  rw [ltB_tupI]
  by_cases h : b < a
  · have h' : ¬ a ≤ b := fun r => List.not_lt.mpr r h
    simp [h, h']
  · have h' : a ≤ b := List.not_lt.mp h
    simp [h, h']
theorem tupI_inj {a b : List Int} (h : tupI a = tupI b) : a = b := by
  unfold tupI at h
  injection h with h
  exact ints_inj h
theorem sortedL_inv {ok : List Val → Bool} {xs ys : List Val} (h : sortedL ok xs = some ys) : (ok xs = true ∧ sortV xs = some ys) ∨ (sortOkT xs = true ∧ ys = xs.mergeSort leV) := by
  unfold sortedL at h
  split at h
  · rename_i hk; exact .inl ⟨hk, h⟩
  · split at h
    · rename_i hk; cases h; exact .inr ⟨hk, rfl⟩
    · cases h
theorem sortOkT_inv {xs : List Val} (h : sortOkT xs = true) : (∀ x ∈ xs, (∃ ys, x = .tup ys) ∧ x.flat = true ∧ x.sok = true ∧ x.dep ≤ 50) ∧ ∀ x ∈ xs, ∀ y ∈ xs, alk x y = true := by
  unfold sortOkT at h
  simp only [Bool.and_eq_true, List.all_eq_true] at h
  refine ⟨fun x hx => ?_, h.2⟩
  obtain ⟨h1, h2⟩ := h.1 x hx
  refine ⟨?_, datOk_inv h2⟩
  cases x <;> simp [isTup] at h1
  exact ⟨_, rfl⟩
section
variable {Y : Sys} {Z : Wh} {k : Nat} {c : CC} {X : Cx}
theorem zip_pairs {φ : List Addr} {H : Hp} : ∀ {xs : List Val} {vs : List V}, VRs Z φ H xs vs → ∃ bs : List (Val × V), bs.map (·.1) = xs ∧ bs.map (·.2) = vs ∧ ∀ b ∈ bs, VR Z φ H b.1 b.2
  | [], _, h => by cases (show _ = [] from h); exact ⟨[], rfl, rfl, fun _ h => nomatch h⟩
  | x :: xs, _, ⟨v, r, h1, h2, h3⟩ => by
    subst h1
    obtain ⟨bs, e1, e2, e3⟩ := zip_pairs h3
    exact ⟨(x, v) :: bs, by simp [e1], by simp [e2], fun b hb => by
      rcases List.mem_cons.mp hb with rfl | hb
      · exact h2
      · exact e3 b hb⟩
theorem pairs_VRs {φ : List Addr} {H : Hp} : ∀ {bs : List (Val × V)}, (∀ b ∈ bs, VR Z φ H b.1 b.2) → VRs Z φ H (bs.map (·.1)) (bs.map (·.2))
  | [], _ => rfl
  | b :: bs, h => ⟨b.2, _, rfl, h b List.mem_cons_self, pairs_VRs fun c hc => h c (List.mem_cons_of_mem _ hc)⟩
theorem o_sorted (G : Good Y Z k c X) (μ : Store) (n : Nat) (ys : List Val) (hs : sortedM μ n = some ys) (hl : ys.length ≤ sizeLine) :
    ∃ r, CallR X (.builtin "sorted") r ∧ ∀ U H' φ' Q, Rep Z φ' μ H' → VR Z φ' H' (.ref n) U → (∀ p Vs, H' p = none → VRs Z φ' H' ys Vs → Q (.ref p) (upd H' p (.lst Vs))) → r [U] H' Q := by
  unfold sortedM at hs
  split at hs
  · rename_i xs hm
    rcases sortedL_inv hs with ⟨hk, hv⟩ | ⟨hk, rfl⟩
    · exact o_sortedI G μ n xs ys (.inl ⟨hm, hk⟩) hv hl
    · obtain ⟨h1, h2⟩ := sortOkT_inv hk
      refine ⟨rSortedD X.K, cr_sortedD G.room.units, fun U H' φ' Q R hu q => ?_⟩
      obtain ⟨p, vs, rfl, _, t1, t2⟩ := R.ref_lst hu hm
      obtain ⟨bs, e1, e2, e3⟩ := zip_pairs t2
      subst e1 e2
      refine ⟨p, bs, rfl, .of t1, fun b hb => ?_, fun d hd d' hd' => ?_, fun p' hp => ?_⟩
      · obtain ⟨ht, hf, _, hd⟩ := h1 b.1 (List.mem_map.mpr ⟨b, hb, rfl⟩)
        exact ⟨ht, G.K ▸ (e3 b hb).dp _ _ hf, by rw [depth_pyd]; exact hd⟩
      · obtain ⟨b, hb, rfl⟩ := List.mem_map.mp hd
        obtain ⟨b', hb', rfl⟩ := List.mem_map.mp hd'
        have m1 : b.1 ∈ bs.map (·.1) := List.mem_map.mpr ⟨b, hb, rfl⟩
        have m2 : b'.1 ∈ bs.map (·.1) := List.mem_map.mpr ⟨b', hb', rfl⟩
        show PySem.W.alike (pyd b.1) (pyd b'.1) = true
        rw [alk_pyd _ _ (h1 _ m1).2.1 (h1 _ m2).2.1]
        exact h2 _ m1 _ m2
      · refine q p' _ hp ?_
        have em : (bs.mergeSort (PySem.W.dataLe false encP)).map (·.1) = (bs.map (·.1)).mergeSort leV := by
          refine List.map_mergeSort fun b hb b' hb' => ?_
          have m1 : b.1 ∈ bs.map (·.1) := List.mem_map.mpr ⟨b, hb, rfl⟩
          have m2 : b'.1 ∈ bs.map (·.1) := List.mem_map.mpr ⟨b', hb', rfl⟩
          show (!PySem.W.dataLt (pyd b'.1) (pyd b.1)) = !ltB b'.1 b.1
          rw [lt_pyd _ _ (h1 _ m2).2.1 (h1 _ m1).2.1 (h2 _ m2 _ m1)]
        rw [← em]
        exact pairs_VRs fun b hb => e3 b ((List.mergeSort_perm _ _).mem_iff.mp hb)
  · rename_i xs hm
    rcases sortedL_inv hs with ⟨hk, hv⟩ | ⟨hk, rfl⟩
    · exact o_sortedI G μ n xs ys (.inr ⟨hm, hk⟩) hv hl
    · obtain ⟨h1, h2⟩ := sortOkT_inv hk
      by_cases hne : xs = []
      · subst hne
        exact o_sortedI G μ n [] _ (.inr ⟨hm, rfl⟩) (by simp [sortV]) hl
      refine ⟨rSortedDS X.K X.prog X.w, cr_sortedDS G.calm G.room.units, fun U H' φ' Q R hu q => ?_⟩
      obtain ⟨a, ha, rfl⟩ := hu
      obtain ⟨nd, h⟩ := R.obj n _ a hm ha
      rcases h with ⟨ms, S, e, _, _⟩ | ⟨L, g1, g2, g3, g4, g5⟩
      · exfalso
        cases ms with
        | nil => exact hne e
        | cons i ms =>
          obtain ⟨⟨ys, hy⟩, _⟩ := h1 (.int i) (by rw [e]; simp)
          cases hy
      · rw [G.K, G.P, G.w]
        refine ⟨a, L, rfl, g1, fun p hp => .of (g3 p hp), fun L' p pm pw hp => q p _ hp ?_⟩
        have nd2 : (L.map fun q => tupI q.2).Nodup := by
          have := g5
          rw [List.nodup_iff_pairwise_ne, List.pairwise_map] at this ⊢
          exact this.imp fun h e => h (tupI_inj e)
        have pmx : (L.map fun q => tupI q.2).Perm xs := (List.perm_ext_iff_of_nodup nd2 nd).mpr fun x => by
          rw [g2 x, List.mem_map]
          constructor
          · rintro ⟨q, hq, rfl⟩; exact ⟨q, hq, rfl⟩
          · rintro ⟨q, hq, rfl⟩; exact ⟨q, hq, rfl⟩
        have all_tup : ∀ x ∈ xs, ∃ ns, x = tupI ns := fun x hx => by
          obtain ⟨q, _, rfl⟩ := (g2 x).mp hx
          exact ⟨_, rfl⟩
        have es : xs.mergeSort leV = L'.map fun q => tupI q.2 := by
          refine List.Perm.eq_of_pairwise (le := fun x y => leV x y = true) (fun x y hx hy h3 h4 => ?_) ?_ ?_ ((List.mergeSort_perm _ _).trans (pmx.symm.trans (pm.map _).symm))
          · obtain ⟨a, rfl⟩ := all_tup x ((List.mergeSort_perm _ _).mem_iff.mp hx)
            obtain ⟨b, hb, rfl⟩ := List.mem_map.mp hy
            rw [leV_tupI] at h3 h4
            rw [List.le_antisymm (of_decide_eq_true h3) (of_decide_eq_true h4)]
          · obtain ⟨M, hM⟩ : ∃ M : List (List Int), xs = M.map tupI := by
              have : ∀ {l : List Val}, (∀ x ∈ l, ∃ ns, x = tupI ns) → ∃ M : List (List Int), l = M.map tupI := by
                intro l
                induction l with
                | nil => intro _; exact ⟨[], rfl⟩
                | cons x l ih =>
                  intro h
                  obtain ⟨ns, e⟩ := h x List.mem_cons_self
                  obtain ⟨M, e2⟩ := ih fun y hy => h y (List.mem_cons_of_mem _ hy)
                  exact ⟨ns :: M, by rw [e, e2]; rfl⟩
              exact this all_tup
            subst hM
            rw [← List.map_mergeSort (r := fun a b : List Int => decide (a ≤ b)) (fun a _ b _ => (leV_tupI a b).symm), List.pairwise_map]
            refine (List.pairwise_mergeSort (fun a b c h1 h2 => ?_) (fun a b => ?_) M).imp fun h => by rw [leV_tupI]; exact h
            · simp only [decide_eq_true_eq] at h1 h2 ⊢
              exact List.le_trans h1 h2
            · simp only [Bool.or_eq_true, decide_eq_true_eq]
              exact List.le_total _ _
          · rw [List.pairwise_map]
            exact pw.imp fun h => by rw [leV_tupI]; exact decide_eq_true h
        rw [es]
        have : ∀ {M : List (Addr × List Int)}, (∀ q ∈ M, q ∈ L) → VRs Z φ' H' (M.map fun q => tupI q.2) (M.map fun q => V.ref q.1) := by
          intro M
          induction M with
          | nil => intro _; rfl
          | cons q M ih => intro h; exact ⟨_, _, rfl, ⟨q.1, q.2.map V.int, rfl, g3 q (h q List.mem_cons_self), VRs_intL _⟩, ih fun r hr => h r (List.mem_cons_of_mem _ hr)⟩
        exact this fun q hq => pm.mem_iff.mp hq
  · cases hs
theorem all_X {Y : Sys} {Z : Wh} : AllX Y Z := allX fun k c X G => ⟨o_lenS G, o_sorted G, o_set G⟩
end
end
end Ev
end

section
set_option maxRecDepth 100000
set_option maxHeartbeats 1000000
/-! Hd1: a program's layout, the facts asked of the head, every def keeps what the interpreter tells. -/
namespace Ev
open PySem L2
/-- a program's top: its statements; the defs used (name, place, whether generator expressions are made in it); constants; built-ins -/
structure Lay where
  tops : List Stmt
  defs : List (Str × Nat × Bool)
  cons : List (Str × Int)
  bt : List Str
  /-- keywords in calls by keywords alone -/
  kws : List (Str × List Str) := []
namespace Lay
variable (L : Lay)
def st (i : Nat) : Stmt := L.tops.getD i (.Pass ⟨0, 0, 0, 0⟩)
def ps (i : Nat) : List Str := (defArgs (L.st i)).args.map (·.arg)
def kwOf (x : Str) : List (List Str) := L.kws.filterMap fun p => if p.1 = x then some p.2 else none
def num {α β : Type} (f : Nat → α → β) : Nat → List α → List β
  | _, [] => []
  | n, a :: r => f n a :: num f (n + 1) r
def fns : List (Str × Df) := num (fun j (d : Str × Nat × Bool) => (d.1, (⟨j, L.ps d.2.1, L.kwOf d.1⟩ : Df))) 0 L.defs
def cns : List (Str × Nat) := num (fun j (c : Str × Int) => (c.1, j)) 0 L.cons
def cc (d : Str × Nat × Bool) : CC := ⟨slotsOf (L.ps d.2.1) (defScope (L.st d.2.1)) (defBody (L.st d.2.1)), defScope (L.st d.2.1), L.fns, L.cns, L.bt, d.2.2⟩
def comp (d : Str × Nat × Bool) : Option Fn := (cStmts (cS 30 (L.cc d)) (defBody (L.st d.2.1))).map fun b => ⟨(L.ps d.2.1).length, (L.cc d).N.length, b⟩
def con (k : Nat) : Option Val := (L.cons[k]?).map fun c => Val.int c.2
def fa : List He.Fa := L.defs.map (fun d => .glo d.1) ++ (L.cons.map (fun c => .int c.1 c.2) ++ L.bt.map .free)
def dd (d : Str × Nat × Bool) : He.DefD := ⟨(d.1, none), d.1, d.1, defArgs (L.st d.2.1), defBody (L.st d.2.1), defScope (L.st d.2.1), [], []⟩
def fn : List He.DefD := L.defs.map L.dd
def tf : List He.Defn := (L.defs.filter (·.2.2)).map fun d => (d.1, none)
/-- what is asked of one def -/
structure Gd (d : Str × Nat × Bool) (f : Fn) : Prop where
  cmp : L.comp d = some f
  sc : FnScope (L.cc d).N (L.ps d.2.1) (defScope (L.st d.2.1))
  bind : ∀ (kV doc pm : Value) (an : Option Addr) (cdv ct : Value) (us : List Value), us.length = (L.ps d.2.1).length → bindArgs (PySem.W.fnOf d.1 d.1 (defArgs (L.st d.2.1)) (defBody (L.st d.2.1)) (defScope (L.st d.2.1)) .none kV doc pm an cdv ct) ⟨us, []⟩ = pure ((L.ps d.2.1).zip us)
  kw : ∀ (kV doc pm : Value) (an : Option Addr) (cdv ct : Value), KwB (PySem.W.fnOf d.1 d.1 (defArgs (L.st d.2.1)) (defBody (L.st d.2.1)) (defScope (L.st d.2.1)) .none kV doc pm an cdv ct) ⟨0, L.ps d.2.1, L.kwOf d.1⟩
def wh (P : Program) (w : World) (K : PySem.W.Frag) : Wh := ⟨P, w, K, fun j => match L.defs[j]? with | some d => He.ga K d.1 | none => 0, L.tf.map fun p => (He.cT K p).2⟩
def cs (K : PySem.W.Frag) : List (Addr × Addr) := L.tf.map (He.cT K)
theorem num_lookup {α β : Type} {f : α → Str} {g : Nat → α → β} : ∀ (n : Nat) (l : List α) {x : Str} {y : β}, (num (fun j a => (f a, g j a)) n l).lookup x = some y → ∃ i a, l[i]? = some a ∧ x = f a ∧ y = g (n + i) a
  | _, [], x, y, h => by cases h
  | n, a :: r, x, y, h => by
    have h2 : (match x == f a with | true => some (g n a) | false => (num (fun j a => (f a, g j a)) (n + 1) r).lookup x) = some y := h
    cases q : (x == f a) with
    | true =>
      rw [q] at h2
      exact ⟨0, a, rfl, beq_iff_eq.mp q, (Option.some.inj h2).symm⟩
    | false =>
      rw [q] at h2
      obtain ⟨i, b, h3, h4, h5⟩ := num_lookup (n + 1) r h2
      exact ⟨i + 1, b, h3, h4, by rw [h5, Nat.add_assoc, Nat.add_comm 1 i]⟩
end Lay
section
variable {L : Lay} {P : Program} {w : World} {K : PySem.W.Frag} {mg : Str → Option Value} {h base : Heap} {F : Nat → Option Fn}
theorem Lay.mo {k : Nat} (c : He.SaysD L.fa L.fn K) (X : K.In h) (G : h.Ns mainGlobals mg) {Y : Sys} (hY : Y.con = L.con) {d : Str × Nat × Bool}
    (hf : ∀ (x : Str) (d : Df), L.fns.lookup x = some d → FnC Y (L.wh P w K) P w mg base k x d) : Mo Y (L.wh P w K) P w mg base k (L.cc d) := by
  refine ⟨fun x j hx => ?_, fun x hx => ?_, hf⟩
  · obtain ⟨i, a, h1, h2, h3⟩ := Lay.num_lookup (f := fun c : Str × Int => c.1) (g := fun j _ => j) 0 L.cons hx
    obtain ⟨t, ht⟩ := He.int_ok (x := a.1) (i := a.2) X G (c.facts (List.mem_append_right _ (List.mem_append_left _ (List.mem_map.mpr ⟨a, List.mem_of_getElem? h1, rfl⟩))))
    refine ⟨a.2, t, ?_, by rw [h2]; exact ht⟩
    rw [hY, h3, Nat.zero_add]
    unfold Lay.con
    rw [h1]
    rfl
  · exact He.free_ok X G (c.facts (List.mem_append_right _ (List.mem_append_right _ (List.mem_map.mpr ⟨x, hx, rfl⟩))))
theorem Lay.fa_at {i : Nat} {a : Str × Nat × Bool} (h1 : L.defs[i]? = some a) : (L.wh P w K).fa i = He.ga K a.1 := by
  show (match L.defs[i]? with | some d => He.ga K d.1 | none => 0) = _
  rw [h1]
/-- one def, from the level below -/
theorem Lay.fn_ok {n i : Nat} {a : Str × Nat × Bool} {fd : FuncData} {fn : Fn} (c : He.SaysD L.fa L.fn K) (X : K.In h) (G : h.Ns mainGlobals mg) (T : ∀ p ∈ L.cs K, GxR.TabB base mg p.1 p.2) (h1 : L.defs[i]? = some a) (hF : F i = some fn) (gd : L.Gd a fn)
    (D : FunD K a.1 a.1 (defArgs (L.st a.2.1)) (defBody (L.st a.2.1)) (defScope (L.st a.2.1)) [] [] (He.fAd K (a.1, none)) fd)
    (ih : ∀ (x : Str) (d : Df), L.fns.lookup x = some d → FnC ⟨evF F L.con n, L.con⟩ (L.wh P w K) P w mg base (2 * n) x d) :
    FnOk P w K mg base CX0 (2 * (n + 1)) ((L.wh P w K).fa i) fd (L.ps a.2.1) (spG (L.wh P w K) (evF F L.con (n + 1) i) (L.ps a.2.1).length) := by
  have ma : a ∈ L.defs := List.mem_of_getElem? h1
  have cm := gd.cmp
  unfold Lay.comp at cm
  obtain ⟨bd', hb, rfl⟩ := map_some cm
  obtain ⟨oc, od, dV, kV, doc, pm, an, cdv, ct, osl, efd, lk, hcd, hD, hK⟩ := D.ex
  refine fn_sound (Z := L.wh P w K) (df := ⟨i, L.ps a.2.1, L.kwOf a.1⟩) (c := L.cc a) (x := a.1) (body := defBody (L.st a.2.1)) all_X hF ⟨?_, gd.sc, ⟨30, hb⟩, rfl, rfl⟩ (Lay.mo c X G rfl ih)
  refine ⟨a.1, a.1, defArgs (L.st a.2.1), dV, kV, doc, pm, cdv, ct, oc, an, od, osl, efd, ?_, hcd, fun ht => ?_⟩
  · rw [Lay.fa_at h1]; exact lk
  · obtain ⟨cc, ec⟩ := He.codeIn_ref hcd
    have mt : (a.1, none) ∈ L.tf := List.mem_map.mpr ⟨a, List.mem_filter.mpr ⟨ma, ht⟩, rfl⟩
    have hT := T (He.cT K (a.1, none)) (List.mem_map.mpr ⟨_, mt, rfl⟩)
    have e2 : He.codeOf K (a.1, none) = cc := He.codeOf_eq (p := (a.1, none)) lk (by rw [efd]; exact ec)
    refine ⟨cc, (He.cT K (a.1, none)).2, ec, ?_, List.mem_map.mpr ⟨_, mt, rfl⟩⟩
    rw [← e2]
    exact hT
theorem Lay.fns_ok (g : ∀ i d, L.defs[i]? = some d → ∃ f, F i = some f ∧ L.Gd d f) (c : He.SaysD L.fa L.fn K) (X : K.In h) (G : h.Ns mainGlobals mg) (T : ∀ p ∈ L.cs K, GxR.TabB base mg p.1 p.2) :
    ∀ (n : Nat) (x : Str) (d : Df), L.fns.lookup x = some d → FnC ⟨evF F L.con n, L.con⟩ (L.wh P w K) P w mg base (2 * n) x d
  | n, x, d, hx => by
    obtain ⟨i, a, h1, h2, h3⟩ := Lay.num_lookup (f := fun d : Str × Nat × Bool => d.1) (g := fun j (d : Str × Nat × Bool) => (⟨j, L.ps d.2.1, L.kwOf d.1⟩ : Df)) 0 L.defs hx
    rw [Nat.zero_add] at h3
    subst h3
    have ma : a ∈ L.defs := List.mem_of_getElem? h1
    obtain ⟨fd, D⟩ := c.defs (d := L.dd a) (List.mem_map.mpr ⟨a, ma, rfl⟩)
    obtain ⟨fn, hF, gd⟩ := g i a h1
    have eg := He.glo_ok (x := a.1) X G (c.facts (List.mem_append_left _ (List.mem_map.mpr ⟨a, ma, rfl⟩)))
    have efa : (L.wh P w K).fa i = He.ga K a.1 := Lay.fa_at h1
    have hkw : KwB fd ⟨i, L.ps a.2.1, L.kwOf a.1⟩ := by
      obtain ⟨oc, od, dV, kV, doc, pm, an, cdv, ct, osl, efd, lk, hcd, hD, hK⟩ := D.ex
      rcases hD with ⟨_, rfl⟩ | ⟨e, _⟩
      · rw [efd]
        exact gd.kw kV doc pm an cdv ct
      · exact absurd rfl e
    refine ⟨?_, ?_, fd, ?_, D.bindsN gd.bind, hkw⟩
    · rw [h2]
      show mg a.1 = some (.ref ((L.wh P w K).fa i))
      rw [efa]; exact eg
    · show PySem.W.keepIn K (.ref ((L.wh P w K).fa i)) = true
      rw [efa]; exact D.kp
    match n with
    | 0 =>
      refine ⟨fun vs H Q E h => ?_, fun A outer s H args us vs Q E _ _ _ _ h => ?_⟩
      · obtain ⟨_, _, _, _, _, _, _, _, h, _⟩ := h
        cases h
      · obtain ⟨_, _, _, _, _, _, _, _, h, _⟩ := h
        cases h
    | n + 1 => exact Lay.fn_ok c X G T h1 hF gd D fun x d hx => Lay.fns_ok g c X G T n x d hx
end
end Ev
end

section
set_option maxRecDepth 100000
set_option maxHeartbeats 1000000
/-! Hd2: the law's promise from the interpreter's answer. -/
namespace Ev
open PySem L2
/-- the script as a value: a thing of its own, or a list of the store -/
def ScrV (v : Val) (μ : Store) (ns : List Int) : Prop := (v = .scr ns ∧ μ = []) ∨ (v = .ref 0 ∧ μ = [.lst (ns.map .int)])
section
variable {L : Lay} {P : Program} {w : World} {K : PySem.W.Frag} {mg : Str → Option Value} {h : Heap} {F : Nat → Option Fn}
theorem vrs_ints' {Z : Wh} {φ : List Addr} {H : Hp} : ∀ ns : List Int, VRs Z φ H (ns.map Val.int) (ns.map L2.V.int)
  | [] => rfl
  | n :: r => ⟨_, _, rfl, rfl, vrs_ints' r⟩
/-- from what is known of the script to a representation -/
theorem scr_rep {Z : Wh} {H : Hp} {a : Addr} {ns : List Int} (hT : ∀ Q ∈ Z.tb, GxR.TabG H Q) (hS : SqL Z.K H a (ns.map L2.V.int)) :
    ∃ v μ φ, ScrV v μ ns ∧ Rep Z φ μ H ∧ VRs Z φ H [v] [.ref a] := by
  have r0 : Rep Z [] [] H := ⟨rfl, List.nodup_nil, fun n o b e => by simp at e, hT⟩
  rcases hS with (hS | ⟨o, hS⟩) | hS
  · refine ⟨.ref 0, [.lst (ns.map .int)], [a], .inr ⟨rfl, rfl⟩, ⟨rfl, by simp, fun n o b e hb => ?_, hT⟩, .single ⟨a, rfl, rfl⟩⟩
    cases n with
    | zero => simp at e hb; subst e; subst hb; exact ⟨_, hS, vrs_ints' ns⟩
    | succ n => simp at e
  · exact ⟨.scr ns, [], [], .inl ⟨rfl, rfl⟩, r0, .single ⟨a, rfl, .inl ⟨o, hS⟩⟩⟩
  · exact ⟨.scr ns, [], [], .inl ⟨rfl, rfl⟩, r0, .single ⟨a, rfl, .inr hS⟩⟩
theorem Lay.lawAt {l : PySem.W.OpenLaw} {ts : List He.Tab} {ex : PySem.W.Frag → Bool} {n lv i : Nat} {a : Str × Nat × Bool} {fn : Fn} {fa : Addr} (hP : l.prog = P) (c : He.SaysX L.fa L.fn ts L.tf ex w h K) (X : K.In h) (G : h.Ns mainGlobals mg)
    (g : ∀ i d, L.defs[i]? = some d → ∃ f, F i = some f ∧ L.Gd d f) (h1 : L.defs[i]? = some a) (hps : L.ps a.2.1 = [("script" : Str)]) (hmg : mg a.1 = some (.ref fa))
    (tru : ∀ ns : List Int, ns.length ≤ n → (∀ z ∈ ns, Builtin.Int.intBits z ≤ 1048576) → ∀ v μ, ScrV v μ ns → ∃ μ', evF F L.con (lv + 1) i [v] μ = .ok (.bl true) μ') :
    LamX.LawAtS l w K CX0 (2 * (lv + 1)) n "script" mg fa h := by
  subst hP
  have ma : a ∈ L.defs := List.mem_of_getElem? h1
  obtain ⟨fd, D⟩ := c.t.d.defs (d := L.dd a) (List.mem_map.mpr ⟨a, ma, rfl⟩)
  obtain ⟨fn, hF, gd⟩ := g i a h1
  have eg := He.glo_ok (x := a.1) X G (c.t.d.facts (List.mem_append_left _ (List.mem_map.mpr ⟨a, ma, rfl⟩)))
  have efa : fa = (L.wh l.prog w K).fa i := by
    rw [Lay.fa_at h1]
    rw [hmg] at eg
    cases eg
    rfl
  have mem : ∀ p ∈ L.cs K, ∃ q ∈ L.tf, He.cT K q = p := fun p hp => List.mem_map.mp hp
  refine ⟨fd, L.cs K, spG (L.wh l.prog w K) (evF F L.con (lv + 1) i) 1, fun p hp => ?_, fun p hp => ?_, fun p hp => ?_, fun s u => ?_, fun H b ns hl hbits hT hS => ?_, fun base hK hG T => ?_⟩
  · obtain ⟨q, hq, rfl⟩ := mem p hp
    exact c.empty q hq
  · obtain ⟨q, hq, rfl⟩ := mem p hp
    exact c.out q hq
  · obtain ⟨q, hq, rfl⟩ := mem p hp
    exact PySem.W.codeHd_of_K X (c.hd q hq)
  · have := FunD.bindsA D (ps := L.ps a.2.1) gd.bind s [u] (by rw [hps]; rfl)
    rw [hps] at this
    exact this
  · obtain ⟨v, μ, φ, sv, r, vr⟩ := scr_rep (Z := L.wh l.prog w K) (H := H) (a := b) (ns := ns) (fun Q hQ => by
      obtain ⟨q, hq, rfl⟩ := List.mem_map.mp hQ
      exact ⟨#[], hT _ (List.mem_map.mpr ⟨q, hq, rfl⟩), trivial⟩) hS
    obtain ⟨μ', ht⟩ := tru ns hl hbits v μ sv
    exact ⟨[v], μ, φ, rfl, r, vr, _, μ', ht, fun V H' φ' _ _ hv => hv⟩
  · have T' : ∀ p ∈ L.cs K, GxR.TabB base mg p.1 p.2 := fun p hp => ⟨(T p hp).code, (T p hp).bm, (T p hp).gP⟩
    have ok := Lay.fn_ok (P := l.prog) (w := w) (base := base) (n := lv) c.t.d X G T' h1 hF gd D fun x d hx => Lay.fns_ok g c.t.d X G T' lv x d hx
    rw [hps] at ok
    rw [efa]
    exact ok
end
end Ev
end

section
/-! Fk83: the defs in Ev's language (printed by mklay.py). -/
namespace K83
open Ev
def f_is_integer : Fn := ⟨1, 1, (.cons (.ret (.and (.isin (.loc 0) .int) (.nt (.isin (.loc 0) .bool)))) .nil)⟩
def f_is_within : Fn := ⟨3, 3, (.cons (.ret (.and (.call 0 (.cons (.loc 0) .nil)) (.cmp2 .le .le (.loc 1) (.loc 0) (.loc 2)))) .nil)⟩
def f_is_tuple_of : Fn := ⟨3, 3, (.cons (.ret (.and (.isin (.loc 0) .tuple) (.cmp2 .le .le (.loc 1) (.blt .len (.cons (.loc 0) .nil)) (.loc 2)))) .nil)⟩
def f_is_rising : Fn := ⟨1, 3, (.cons (.ret (.all (.cmp .lt (.loc 1) (.loc 2)) (.cons (.cons (.name 1) (.cons (.name 2) .nil)) (.zip (.loc 0) (.sl (.loc 0) (.int 1) .non)) .nil .nil))) .nil)⟩
def f_is_entry_form : Fn := ⟨3, 3, (.cons (.ite (.isN (.loc 0)) (.cons (.ret (.bl true)) .nil) .nil) (.cons (.ret (.and (.call 2 (.cons (.loc 0) (.cons (.int 2) (.cons (.int 2) .nil)))) (.and (.call 1 (.cons (.idx (.loc 0) (.int 0)) (.cons (.int 0) (.cons (.bin .sub (.loc 2) (.int 1)) .nil)))) (.call 1 (.cons (.idx (.loc 0) (.int 1)) (.cons (.int 0) (.cons (.bin .sub (.loc 1) (.int 1)) .nil))))))) .nil))⟩
def f_are_rows : Fn := ⟨3, 5, (.cons (.ite (.nt (.isin (.loc 0) .tuple)) (.cons (.ret (.bl false)) .nil) .nil) (.cons (.for (.name 3) (.seq (.loc 0)) (.cons (.ite (.or (.nt (.call 2 (.cons (.loc 3) (.cons (.loc 1) (.cons (.loc 1) .nil))))) (.nt (.all (.call 4 (.cons (.loc 4) (.cons (.loc 2) (.cons (.blt .len (.cons (.loc 0) .nil)) .nil)))) (.cons (.name 4) (.seq (.loc 3)) .nil .nil)))) (.cons (.ret (.bl false)) .nil) .nil) .nil)) (.cons (.ret (.bl true)) .nil)))⟩
def f_is_tree : Fn := ⟨1, 5, (.cons (.ite (.cmp .ne (.blt .len (.cons (.lc (.int 1) (.cons (.name 4) (.seq (.loc 0)) .nil (.cons (.name 1) (.seq (.loc 4)) (.cons (.notN (.loc 1)) .nil) .nil))) .nil)) (.bin .sub (.blt .len (.cons (.loc 0) .nil)) (.int 1))) (.cons (.ret (.bl false)) .nil) .nil) (.cons (.asg (.cons (.name 2) (.cons (.name 3) .nil)) (.tup (.cons (.dct1 (.int 0) (.bl true)) (.cons (.lst (.cons (.int 0) .nil)) .nil)))) (.cons (.whl (.cmp .ne (.loc 3) (.lst .nil)) (.cons (.for (.name 1) (.seq (.idx (.loc 0) (.mth .pop (.loc 3) .nil))) (.cons (.ite (.and (.notN (.loc 1)) (.cmp .nmem (.idx (.loc 1) (.int 0)) (.loc 2))) (.cons (.sub (.loc 2) (.idx (.loc 1) (.int 0)) (.bl true)) (.cons (.ex (.mth .append (.loc 3) (.cons (.idx (.loc 1) (.int 0)) .nil))) .nil)) .nil) .nil)) .nil)) (.cons (.ret (.cmp .eq (.blt .len (.cons (.loc 2) .nil)) (.blt .len (.cons (.loc 0) .nil)))) .nil))))⟩
def f_is_sketch_form : Fn := ⟨1, 4, (.cons (.ite (.or (.nt (.call 2 (.cons (.loc 0) (.cons (.int 3) (.cons (.int 3) .nil))))) (.nt (.call 1 (.cons (.idx (.loc 0) (.int 0)) (.cons (.int 1) (.cons (.con 0) .nil)))))) (.cons (.ret (.bl false)) .nil) .nil) (.cons (.ite (.or (.nt (.call 1 (.cons (.idx (.loc 0) (.int 1)) (.cons (.con 1) (.cons (.con 2) .nil))))) (.nt (.call 2 (.cons (.idx (.loc 0) (.int 2)) (.cons (.int 1) (.cons (.con 4) .nil)))))) (.cons (.ret (.bl false)) .nil) .nil) (.cons (.asg (.cons (.name 1) (.cons (.name 2) (.cons (.name 3) .nil))) (.loc 0)) (.cons (.ret (.and (.call 5 (.cons (.loc 3) (.cons (.loc 1) (.cons (.loc 2) .nil)))) (.or (.cmp .le (.blt .len (.cons (.loc 3) .nil)) (.con 3)) (.call 6 (.cons (.loc 3) .nil))))) .nil))))⟩
def f_is_machine_form : Fn := ⟨1, 3, (.cons (.ite (.or (.nt (.call 7 (.cons (.loc 0) .nil))) (.cmp .gt (.blt .len (.cons (.idx (.loc 0) (.int 2)) .nil)) (.con 3))) (.cons (.ret (.bl false)) .nil) .nil) (.cons (.ret (.all (.notN (.loc 2)) (.cons (.name 1) (.seq (.idx (.loc 0) (.int 2))) .nil (.cons (.name 2) (.seq (.loc 1)) .nil .nil)))) .nil))⟩
def f_need_machine : Fn := ⟨1, 1, (.cons (.ite (.nt (.call 8 (.cons (.loc 0) .nil))) (.cons .never .nil) .nil) .nil)⟩
def f_fit : Fn := ⟨2, 2, (.cons (.ret (.and (.cmp .eq (.idx (.loc 0) (.int 0)) (.idx (.loc 1) (.int 0))) (.cmp .eq (.idx (.loc 0) (.int 1)) (.idx (.loc 1) (.int 1))))) .nil)⟩
def f_need_fit : Fn := ⟨2, 2, (.cons (.ite (.nt (.call 10 (.cons (.loc 0) (.cons (.loc 1) .nil)))) (.cons .never .nil) .nil) .nil)⟩
def f_is_word_form : Fn := ⟨2, 3, (.cons (.ret (.and (.call 2 (.cons (.loc 1) (.cons (.int 0) (.cons (.con 5) .nil)))) (.all (.call 1 (.cons (.loc 2) (.cons (.int 0) (.cons (.bin .sub (.loc 0) (.int 1)) .nil)))) (.cons (.name 2) (.seq (.loc 1)) .nil .nil)))) .nil)⟩
def f_run_from : Fn := ⟨3, 7, (.cons (.asg (.cons (.name 3) (.cons (.name 4) .nil)) (.tup (.cons (.lst .nil) (.cons (.idx (.loc 0) (.int 2)) .nil)))) (.cons (.for (.name 5) (.seq (.loc 2)) (.cons (.asg (.name 6) (.idx (.idx (.loc 4) (.loc 1)) (.loc 5))) (.cons (.ite (.isN (.loc 6)) (.cons (.ret .non) .nil) .nil) (.cons (.asg (.name 1) (.idx (.loc 6) (.int 0))) (.cons (.ex (.mth .append (.loc 3) (.cons (.idx (.loc 6) (.int 1)) .nil))) .nil))))) (.cons (.ret (.tup (.cons (.blt .tuple (.cons (.loc 3) .nil)) (.cons (.loc 1) .nil)))) .nil)))⟩
def f_answers_from : Fn := ⟨3, 4, (.cons (.asg (.name 3) (.call 13 (.cons (.loc 0) (.cons (.loc 1) (.cons (.loc 2) .nil))))) (.cons (.ret (.ite (.isN (.loc 3)) .non (.idx (.loc 3) (.int 0)))) .nil))⟩
def f_parting_from : Fn := ⟨4, 13, (.cons (.asg (.cons (.name 4) (.cons (.name 5) .nil)) (.tup (.cons (.dct1 (.tup (.cons (.loc 1) (.cons (.loc 3) .nil))) (.bl true)) (.cons (.lst (.cons (.tup (.cons (.loc 1) (.cons (.loc 3) (.cons (.tup .nil) .nil)))) .nil)) .nil)))) (.cons (.for (.name 6) (.range (.int 0) (.bin .mul (.blt .len (.cons (.idx (.loc 0) (.int 2)) .nil)) (.blt .len (.cons (.idx (.loc 2) (.int 2)) .nil)))) (.cons (.ite (.cmp .eq (.loc 6) (.blt .len (.cons (.loc 5) .nil))) (.cons .brk .nil) .nil) (.cons (.asg (.cons (.name 7) (.cons (.name 8) (.cons (.name 9) .nil))) (.idx (.loc 5) (.loc 6))) (.cons (.for (.name 10) (.range (.int 0) (.idx (.loc 0) (.int 0))) (.cons (.asg (.cons (.name 11) (.cons (.name 12) .nil)) (.tup (.cons (.idx (.idx (.idx (.loc 0) (.int 2)) (.loc 7)) (.loc 10)) (.cons (.idx (.idx (.idx (.loc 2) (.int 2)) (.loc 8)) (.loc 10)) .nil)))) (.cons (.ite (.cmp .ne (.idx (.loc 11) (.int 1)) (.idx (.loc 12) (.int 1))) (.cons (.ret (.bin .add (.loc 9) (.tup (.cons (.loc 10) .nil)))) .nil) .nil) (.cons (.ite (.cmp .nmem (.tup (.cons (.idx (.loc 11) (.int 0)) (.cons (.idx (.loc 12) (.int 0)) .nil))) (.loc 4)) (.cons (.sub (.loc 4) (.tup (.cons (.idx (.loc 11) (.int 0)) (.cons (.idx (.loc 12) (.int 0)) .nil))) (.bl true)) (.cons (.ex (.mth .append (.loc 5) (.cons (.tup (.cons (.idx (.loc 11) (.int 0)) (.cons (.idx (.loc 12) (.int 0)) (.cons (.bin .add (.loc 9) (.tup (.cons (.loc 10) .nil))) .nil)))) .nil))) .nil)) .nil) .nil)))) .nil)))) (.cons (.ret .non) .nil)))⟩
def f_are_alike : Fn := ⟨2, 2, (.cons (.ret (.isN (.call 15 (.cons (.loc 0) (.cons (.int 0) (.cons (.loc 1) (.cons (.int 0) .nil))))))) .nil)⟩
def f_access_of : Fn := ⟨1, 8, (.cons (.asg (.cons (.name 1) (.cons (.name 2) .nil)) (.tup (.cons (.dct1 (.int 0) (.tup .nil)) (.cons (.lst (.cons (.int 0) .nil)) .nil)))) (.cons (.for (.name 3) (.range (.int 0) (.blt .len (.cons (.idx (.loc 0) (.int 2)) .nil))) (.cons (.ite (.cmp .eq (.loc 3) (.blt .len (.cons (.loc 2) .nil))) (.cons .brk .nil) .nil) (.cons (.asg (.name 4) (.idx (.loc 2) (.loc 3))) (.cons (.for (.name 5) (.range (.int 0) (.idx (.loc 0) (.int 0))) (.cons (.asg (.name 6) (.idx (.idx (.idx (.idx (.loc 0) (.int 2)) (.loc 4)) (.loc 5)) (.int 0))) (.cons (.ite (.cmp .nmem (.loc 6) (.loc 1)) (.cons (.sub (.loc 1) (.loc 6) (.bin .add (.idx (.loc 1) (.loc 4)) (.tup (.cons (.loc 5) .nil)))) (.cons (.ex (.mth .append (.loc 2) (.cons (.loc 6) .nil))) .nil)) .nil) .nil))) .nil)))) (.cons (.ret (.lc (.mth .get (.loc 1) (.cons (.loc 7) .nil)) (.cons (.name 7) (.range (.int 0) (.blt .len (.cons (.idx (.loc 0) (.int 2)) .nil))) .nil .nil))) .nil)))⟩
def f_is_suite_form : Fn := ⟨2, 3, (.cons (.ite (.or (.nt (.call 2 (.cons (.loc 1) (.cons (.int 0) (.cons (.con 6) .nil))))) (.nt (.all (.call 12 (.cons (.loc 0) (.cons (.loc 2) .nil))) (.cons (.name 2) (.seq (.loc 1)) .nil .nil)))) (.cons (.ret (.bl false)) .nil) .nil) (.cons (.ret (.call 3 (.cons (.loc 1) .nil))) .nil))⟩
def f_need_suite : Fn := ⟨2, 2, (.cons (.ite (.nt (.call 18 (.cons (.loc 0) (.cons (.loc 1) .nil)))) (.cons .never .nil) .nil) .nil)⟩
def f_passes_by : Fn := ⟨3, 4, (.cons (.ret (.all (.cmp .eq (.call 14 (.cons (.loc 0) (.cons (.int 0) (.cons (.loc 3) .nil)))) (.call 14 (.cons (.loc 2) (.cons (.int 0) (.cons (.loc 3) .nil))))) (.cons (.name 3) (.seq (.loc 1)) .nil .nil))) .nil)⟩
def f_with_entry : Fn := ⟨4, 8, (.cons (.asg (.cons (.name 4) (.cons (.name 5) (.cons (.name 6) .nil))) (.loc 0)) (.cons (.asg (.name 7) (.bin .add (.bin .add (.sl (.idx (.loc 6) (.loc 1)) .non (.loc 2)) (.tup (.cons (.loc 3) .nil))) (.sl (.idx (.loc 6) (.loc 1)) (.bin .add (.loc 2) (.int 1)) .non))) (.cons (.ret (.tup (.cons (.loc 4) (.cons (.loc 5) (.cons (.bin .add (.bin .add (.sl (.loc 6) .non (.loc 1)) (.tup (.cons (.loc 7) .nil))) (.sl (.loc 6) (.bin .add (.loc 1) (.int 1)) .non)) .nil))))) .nil)))⟩
def f_other_entries : Fn := ⟨3, 7, (.cons (.asg (.cons (.name 3) (.cons (.name 4) .nil)) (.idx (.idx (.idx (.loc 0) (.int 2)) (.loc 1)) (.loc 2))) (.cons (.asg (.name 5) (.lc (.tup (.cons (.loc 6) (.cons (.loc 4) .nil))) (.cons (.name 6) (.range (.int 0) (.blt .len (.cons (.idx (.loc 0) (.int 2)) .nil))) (.cons (.cmp .ne (.loc 6) (.loc 3)) .nil) .nil))) (.cons (.ret (.bin .add (.loc 5) (.lc (.tup (.cons (.loc 3) (.cons (.loc 6) .nil))) (.cons (.name 6) (.range (.int 0) (.idx (.loc 0) (.int 1))) (.cons (.cmp .ne (.loc 6) (.loc 4)) .nil) .nil)))) .nil)))⟩
def f_mutants_of : Fn := ⟨1, 6, (.cons (.asg (.name 1) (.lst .nil)) (.cons (.for (.cons (.name 2) (.cons (.name 3) .nil)) (.enum (.call 17 (.cons (.loc 0) .nil))) (.cons (.for (.name 4) (.range (.int 0) (.ite (.notN (.loc 3)) (.idx (.loc 0) (.int 0)) (.int 0))) (.cons (.ex (.mth .extend (.loc 1) (.cons (.lc (.call 21 (.cons (.loc 0) (.cons (.loc 2) (.cons (.loc 4) (.cons (.loc 5) .nil))))) (.cons (.name 5) (.seq (.call 22 (.cons (.loc 0) (.cons (.loc 2) (.cons (.loc 4) .nil))))) .nil .nil)) .nil))) .nil)) .nil)) (.cons (.ret (.blt .tuple (.cons (.blt .sorted (.cons (.loc 1) .nil)) .nil))) .nil)))⟩
def f_killed_of : Fn := ⟨2, 3, (.cons (.ret (.blt .tuple (.cons (.lc (.loc 2) (.cons (.name 2) (.seq (.call 23 (.cons (.loc 0) .nil))) (.cons (.nt (.call 20 (.cons (.loc 0) (.cons (.loc 1) (.cons (.loc 2) .nil))))) .nil) .nil)) .nil))) .nil)⟩
def f_score_of : Fn := ⟨2, 4, (.cons (.asg (.name 2) (.lc (.loc 3) (.cons (.name 3) (.seq (.call 23 (.cons (.loc 0) .nil))) (.cons (.nt (.call 16 (.cons (.loc 0) (.cons (.loc 3) .nil)))) .nil) .nil))) (.cons (.ret (.tup (.cons (.blt .len (.cons (.call 24 (.cons (.loc 0) (.cons (.loc 1) .nil))) .nil)) (.cons (.blt .len (.cons (.loc 2) .nil)) .nil)))) .nil))⟩
def f_killed : Fn := ⟨2, 2, (.cons (.ex (.call 9 (.cons (.loc 0) .nil))) (.cons (.ex (.call 19 (.cons (.idx (.loc 0) (.int 0)) (.cons (.loc 1) .nil)))) (.cons (.ret (.call 24 (.cons (.loc 0) (.cons (.loc 1) .nil)))) .nil)))⟩
def f_score : Fn := ⟨2, 2, (.cons (.ex (.call 9 (.cons (.loc 0) .nil))) (.cons (.ex (.call 19 (.cons (.idx (.loc 0) (.int 0)) (.cons (.loc 1) .nil)))) (.cons (.ret (.call 25 (.cons (.loc 0) (.cons (.loc 1) .nil)))) .nil)))⟩
def f_passes : Fn := ⟨3, 3, (.cons (.ex (.call 9 (.cons (.loc 0) .nil))) (.cons (.ex (.call 19 (.cons (.idx (.loc 0) (.int 0)) (.cons (.loc 1) .nil)))) (.cons (.ex (.call 9 (.cons (.loc 2) .nil))) (.cons (.ex (.call 11 (.cons (.loc 0) (.cons (.loc 2) .nil)))) (.cons (.ret (.call 20 (.cons (.loc 0) (.cons (.loc 1) (.cons (.loc 2) .nil))))) .nil)))))⟩
def f_law_springs : Fn := ⟨2, 7, (.cons (.asg (.name 2) (.lst .nil)) (.cons (.for (.name 3) (.range (.int 0) (.blt .max2 (.cons (.int 1) (.cons (.blt .min2 (.cons (.blt .len (.cons (.loc 0) .nil)) (.cons (.loc 1) .nil))) .nil)))) (.cons (.asg (.name 4) (.sl3 (.loc 0) (.loc 3) .non (.loc 1))) (.cons (.asg (.name 5) (.ite (.cmp .ne (.loc 4) (.lst .nil)) (.idx (.loc 4) (.int 0)) (.int 5))) (.cons (.asg (.name 6) (.bin .mod (.blt .int (.cons (.bin .add (.bin .add (.bin .add (.bin .mul (.loc 5) (.int 60013)) (.bin .mul (.blt .sum (.cons (.sl (.loc 4) (.int 1) .non) .nil)) (.int 7919))) (.bin .mul (.int 8191) (.loc 3))) (.int 77)) .nil)) (.bin .add (.bin .pow (.int 10) (.int 35)) (.int 69)))) (.cons (.ex (.mth .append (.loc 2) (.cons (.lst (.cons (.ite (.cmp .ge (.loc 5) (.bin .pow (.int 10) (.int 18))) (.bin .sub (.loc 5) (.bin .pow (.int 10) (.int 18))) (.int 0)) (.cons (.loc 6) (.cons (.int 0) .nil)))) .nil))) .nil))))) (.cons (.ret (.loc 2)) .nil)))⟩
def f_law_few : Fn := ⟨2, 4, (.cons (.ite (.cmp .gt (.idx (.loc 0) (.int 0)) (.int 0)) (.cons (.asg (.name 2) (.bin .mod (.blt .int (.cons (.idx (.loc 0) (.int 0)) .nil)) (.loc 1))) (.cons (.sub (.loc 0) (.int 0) (.bin .fdiv (.idx (.loc 0) (.int 0)) (.loc 1))) (.cons (.ret (.loc 2)) .nil))) .nil) (.cons (.sub (.loc 0) (.int 2) (.bin .add (.idx (.loc 0) (.int 2)) (.int 1))) (.cons (.asg (.name 3) (.bin .add (.bin .mul (.int 5) (.idx (.loc 0) (.int 1))) (.bin .mul (.int 32416190071) (.idx (.loc 0) (.int 2))))) (.cons (.asg (.name 3) (.bin .mod (.blt .int (.cons (.bin .add (.bin .mul (.bin .mul (.loc 3) (.loc 3)) (.loc 3)) (.bin .mul (.int 961748927) (.idx (.loc 0) (.int 2)))) .nil)) (.bin .add (.bin .pow (.int 10) (.int 40)) (.int 121)))) (.cons (.asg (.name 3) (.bin .mod (.blt .int (.cons (.bin .add (.bin .mul (.loc 3) (.loc 3)) (.bin .mul (.int 15487469) (.loc 3))) .nil)) (.bin .add (.bin .pow (.int 10) (.int 39)) (.int 3)))) (.cons (.ret (.bin .mod (.blt .int (.cons (.bin .fdiv (.loc 3) (.bin .pow (.int 10) (.int 9))) .nil)) (.loc 1))) .nil))))))⟩
def f_law_order : Fn := ⟨2, 5, (.cons (.asg (.cons (.name 2) (.cons (.name 3) .nil)) (.tup (.cons (.blt .list (.cons (.loc 1) .nil)) (.cons (.lst .nil) .nil)))) (.cons (.for (.name 4) (.range (.int 0) (.blt .len (.cons (.loc 1) .nil))) (.cons (.ex (.mth .append (.loc 3) (.cons (.mth .pop1 (.loc 2) (.cons (.call 30 (.cons (.loc 0) (.cons (.blt .len (.cons (.loc 2) .nil)) .nil))) .nil)) .nil))) .nil)) (.cons (.ret (.loc 3)) .nil)))⟩
def f_law_same : Fn := ⟨2, 4, (.cons (.ite (.isN (.loc 1)) (.cons (.ret (.isN (.loc 0))) .nil) .nil) (.cons (.ite (.isin (.loc 1) .bool) (.cons (.ret (.and (.isin (.loc 0) .bool) (.cmp .eq (.loc 0) (.loc 1)))) .nil) .nil) (.cons (.ite (.isin (.loc 1) .int) (.cons (.ret (.and (.isin (.loc 0) .int) (.and (.nt (.isin (.loc 0) .bool)) (.cmp .eq (.loc 0) (.loc 1))))) .nil) .nil) (.cons (.ite (.isin (.loc 1) .str) (.cons (.ret (.and (.isin (.loc 0) .str) (.cmp .eq (.loc 0) (.loc 1)))) .nil) .nil) (.cons (.ite (.or (.nt (.isin (.loc 0) .tuple)) (.cmp .ne (.blt .len (.cons (.loc 0) .nil)) (.blt .len (.cons (.loc 1) .nil)))) (.cons (.ret (.bl false)) .nil) .nil) (.cons (.for (.cons (.name 2) (.cons (.name 3) .nil)) (.zip (.loc 0) (.loc 1)) (.cons (.ite (.nt (.call 32 (.cons (.loc 2) (.cons (.loc 3) .nil)))) (.cons (.ret (.bl false)) .nil) .nil) .nil)) (.cons (.ret (.bl true)) .nil)))))))⟩
def f_law_machine : Fn := ⟨4, 13, (.cons (.asg (.cons (.name 4) (.cons (.name 5) .nil)) (.tup (.cons (.call 30 (.cons (.loc 0) (.cons (.int 5) .nil))) (.cons (.lst .nil) .nil)))) (.cons (.asg (.name 7) (.lc (.call 31 (.cons (.loc 0) (.cons (.lrange (.int 0) (.loc 3)) .nil))) (.cons (.name 6) (.range (.int 0) (.loc 1)) .nil .nil))) (.cons (.asg (.name 8) (.tup (.cons (.call 30 (.cons (.loc 0) (.cons (.loc 3) .nil))) (.cons (.call 30 (.cons (.loc 0) (.cons (.loc 1) .nil))) .nil)))) (.cons (.for (.name 9) (.range (.int 0) (.loc 3)) (.cons (.asg (.name 10) (.lst .nil)) (.cons (.for (.name 6) (.range (.int 0) (.loc 1)) (.cons (.asg (.cons (.name 11) (.cons (.name 12) .nil)) (.tup (.cons (.call 30 (.cons (.loc 0) (.cons (.loc 3) .nil))) (.cons (.call 30 (.cons (.loc 0) (.cons (.loc 2) .nil))) .nil)))) (.cons (.ite (.cmp .eq (.loc 4) (.int 1)) (.cons (.asg (.name 12) (.ite (.cmp .eq (.tup (.cons (.loc 9) (.cons (.loc 6) .nil))) (.loc 8)) (.int 1) (.int 0))) .nil) .nil) (.cons (.ite (.and (.cmp .eq (.loc 4) (.int 2)) (.cmp .gt (.call 30 (.cons (.loc 0) (.cons (.int 3) .nil))) (.int 0))) (.cons (.asg (.name 11) (.ite (.cmp .eq (.loc 6) (.int 0)) (.blt .min2 (.cons (.bin .sub (.loc 3) (.int 1)) (.cons (.bin .add (.loc 9) (.int 1)) .nil))) (.int 0))) .nil) .nil) (.cons (.ite (.cmp .eq (.loc 4) (.int 3)) (.cons (.asg (.name 11) (.idx (.idx (.loc 7) (.loc 6)) (.loc 9))) .nil) .nil) (.cons (.ex (.mth .append (.loc 10) (.cons (.tup (.cons (.loc 11) (.cons (.loc 12) .nil))) .nil))) .nil)))))) (.cons (.ex (.mth .append (.loc 5) (.cons (.blt .tuple (.cons (.loc 10) .nil)) .nil))) .nil)))) (.cons (.ret (.tup (.cons (.loc 1) (.cons (.loc 2) (.cons (.blt .tuple (.cons (.loc 5) .nil)) .nil))))) .nil)))))⟩
def f_law_word : Fn := ⟨3, 4, (.cons (.ret (.blt .tuple (.cons (.lc (.call 30 (.cons (.loc 0) (.cons (.loc 1) .nil))) (.cons (.name 3) (.range (.int 0) (.call 30 (.cons (.loc 0) (.cons (.bin .add (.loc 2) (.int 1)) .nil)))) .nil .nil)) .nil))) .nil)⟩
def f_law_run : Fn := ⟨3, 6, (.cons (.asg (.name 3) (.lst .nil)) (.cons (.for (.name 4) (.seq (.loc 2)) (.cons (.asg (.name 5) (.idx (.idx (.idx (.loc 0) (.int 2)) (.loc 1)) (.loc 4))) (.cons (.ite (.isN (.loc 5)) (.cons (.ret .non) .nil) .nil) (.cons (.asg (.name 1) (.idx (.loc 5) (.int 0))) (.cons (.ex (.mth .append (.loc 3) (.cons (.idx (.loc 5) (.int 1)) .nil))) .nil))))) (.cons (.ret (.tup (.cons (.blt .tuple (.cons (.loc 3) .nil)) (.cons (.loc 1) .nil)))) .nil)))⟩
def f_law_parting : Fn := ⟨4, 13, (.cons (.asg (.cons (.name 4) (.cons (.name 5) .nil)) (.tup (.cons (.lst (.cons (.tup (.cons (.loc 1) (.cons (.loc 3) (.cons (.tup .nil) .nil)))) .nil)) (.cons (.dct1 (.tup (.cons (.loc 1) (.cons (.loc 3) .nil))) (.bl true)) .nil)))) (.cons (.for (.name 6) (.range (.int 0) (.bin .add (.bin .mul (.blt .len (.cons (.idx (.loc 0) (.int 2)) .nil)) (.blt .len (.cons (.idx (.loc 2) (.int 2)) .nil))) (.int 1))) (.cons (.ite (.cmp .eq (.loc 6) (.blt .len (.cons (.loc 4) .nil))) (.cons .brk .nil) .nil) (.cons (.asg (.cons (.name 7) (.cons (.name 8) (.cons (.name 9) .nil))) (.idx (.loc 4) (.loc 6))) (.cons (.for (.name 10) (.range (.int 0) (.idx (.loc 0) (.int 0))) (.cons (.asg (.cons (.name 11) (.cons (.name 12) .nil)) (.tup (.cons (.idx (.idx (.idx (.loc 0) (.int 2)) (.loc 7)) (.loc 10)) (.cons (.idx (.idx (.idx (.loc 2) (.int 2)) (.loc 8)) (.loc 10)) .nil)))) (.cons (.ite (.cmp .ne (.idx (.loc 11) (.int 1)) (.idx (.loc 12) (.int 1))) (.cons (.ret (.bin .add (.loc 9) (.tup (.cons (.loc 10) .nil)))) .nil) .nil) (.cons (.ite (.cmp .nmem (.tup (.cons (.idx (.loc 11) (.int 0)) (.cons (.idx (.loc 12) (.int 0)) .nil))) (.loc 5)) (.cons (.sub (.loc 5) (.tup (.cons (.idx (.loc 11) (.int 0)) (.cons (.idx (.loc 12) (.int 0)) .nil))) (.bl true)) (.cons (.ex (.mth .append (.loc 4) (.cons (.tup (.cons (.idx (.loc 11) (.int 0)) (.cons (.idx (.loc 12) (.int 0)) (.cons (.bin .add (.loc 9) (.tup (.cons (.loc 10) .nil))) .nil)))) .nil))) .nil)) .nil) .nil)))) .nil)))) (.cons (.ret .non) .nil)))⟩
def f_law_passes : Fn := ⟨3, 4, (.cons (.for (.name 3) (.seq (.loc 1)) (.cons (.ite (.cmp .ne (.idx (.call 35 (.cons (.loc 0) (.cons (.int 0) (.cons (.loc 3) .nil)))) (.int 0)) (.idx (.call 35 (.cons (.loc 2) (.cons (.int 0) (.cons (.loc 3) .nil)))) (.int 0))) (.cons (.ret (.bl false)) .nil) .nil) .nil)) (.cons (.ret (.bl true)) .nil))⟩
def f_law_reached : Fn := ⟨1, 6, (.cons (.asg (.name 1) (.lst (.cons (.int 0) .nil))) (.cons (.for (.name 2) (.range (.int 0) (.blt .len (.cons (.idx (.loc 0) (.int 2)) .nil))) (.cons (.for (.name 3) (.seq (.blt .list (.cons (.loc 1) .nil))) (.cons (.asg (.name 1) (.bin .add (.loc 1) (.lc (.loc 4) (.cons (.cons (.name 4) (.cons (.name 5) .nil)) (.seq (.idx (.idx (.loc 0) (.int 2)) (.loc 3))) (.cons (.cmp .nmem (.loc 4) (.loc 1)) .nil) .nil)))) .nil)) .nil)) (.cons (.ret (.blt .sorted (.cons (.blt .set (.cons (.loc 1) .nil)) .nil))) .nil)))⟩
def f_law_mutants : Fn := ⟨1, 13, (.cons (.asg (.cons (.name 1) (.cons (.name 2) (.cons (.name 3) .nil))) (.loc 0)) (.cons (.asg (.name 4) (.lst .nil)) (.cons (.for (.name 5) (.seq (.call 38 (.cons (.loc 0) .nil))) (.cons (.for (.name 6) (.range (.int 0) (.loc 1)) (.cons (.asg (.cons (.name 7) (.cons (.name 8) .nil)) (.idx (.idx (.loc 3) (.loc 5)) (.loc 6))) (.cons (.asg (.name 9) (.bin .add (.lc (.tup (.cons (.loc 12) (.cons (.loc 8) .nil))) (.cons (.name 12) (.range (.int 0) (.blt .len (.cons (.loc 3) .nil))) (.cons (.cmp .ne (.loc 12) (.loc 7)) .nil) .nil)) (.lc (.tup (.cons (.loc 7) (.cons (.loc 12) .nil))) (.cons (.name 12) (.range (.int 0) (.loc 2)) (.cons (.cmp .ne (.loc 12) (.loc 8)) .nil) .nil)))) (.cons (.for (.name 10) (.seq (.loc 9)) (.cons (.asg (.name 11) (.bin .add (.bin .add (.sl (.idx (.loc 3) (.loc 5)) .non (.loc 6)) (.tup (.cons (.loc 10) .nil))) (.sl (.idx (.loc 3) (.loc 5)) (.bin .add (.loc 6) (.int 1)) .non))) (.cons (.ex (.mth .append (.loc 4) (.cons (.tup (.cons (.loc 1) (.cons (.loc 2) (.cons (.bin .add (.bin .add (.sl (.loc 3) .non (.loc 5)) (.tup (.cons (.loc 11) .nil))) (.sl (.loc 3) (.bin .add (.loc 5) (.int 1)) .non)) .nil)))) .nil))) .nil))) .nil)))) .nil)) (.cons (.ret (.blt .tuple (.cons (.blt .sorted (.cons (.loc 4) .nil)) .nil))) .nil))))⟩
def f_law : Fn := ⟨1, 10, (.cons (.for (.name 1) (.seq (.call 29 (.cons (.loc 0) (.cons (.int 5) .nil)))) (.cons (.for (.name 2) (.range (.int 0) (.int 2)) (.cons (.asg (.name 3) (.call 33 (.cons (.loc 1) (.cons (.bin .add (.int 1) (.call 30 (.cons (.loc 1) (.cons (.int 3) .nil)))) (.cons (.bin .add (.int 2) (.call 30 (.cons (.loc 1) (.cons (.int 2) .nil)))) (.cons (.bin .add (.int 1) (.call 30 (.cons (.loc 1) (.cons (.int 5) .nil)))) .nil)))))) (.cons (.asg (.name 4) (.blt .tuple (.cons (.blt .sorted (.cons (.blt .set (.cons (.lc (.call 34 (.cons (.loc 1) (.cons (.idx (.loc 3) (.int 0)) (.cons (.int 5) .nil)))) (.cons (.name 9) (.range (.int 0) (.call 30 (.cons (.loc 1) (.cons (.int 10) .nil)))) .nil .nil)) .nil)) .nil)) .nil))) (.cons (.asg (.name 5) (.call 39 (.cons (.loc 3) .nil))) (.cons (.asg (.name 7) (.blt .tuple (.cons (.lc (.loc 6) (.cons (.name 6) (.seq (.loc 5)) (.cons (.nt (.call 37 (.cons (.loc 3) (.cons (.loc 4) (.cons (.loc 6) .nil))))) .nil) .nil)) .nil))) (.cons (.asg (.name 8) (.blt .len (.cons (.lc (.int 1) (.cons (.name 6) (.seq (.loc 5)) (.cons (.notN (.call 36 (.cons (.loc 3) (.cons (.int 0) (.cons (.loc 6) (.cons (.int 0) .nil)))))) .nil) .nil)) .nil))) (.cons (.ite (.or (.nt (.call 32 (.cons (.call 26 (.cons (.loc 3) (.cons (.loc 4) .nil))) (.cons (.loc 7) .nil)))) (.nt (.call 32 (.cons (.call 27 (.cons (.loc 3) (.cons (.loc 4) .nil))) (.cons (.tup (.cons (.blt .len (.cons (.loc 7) .nil)) (.cons (.loc 8) .nil))) .nil))))) (.cons (.ret (.bl false)) .nil) .nil) (.cons (.ite (.nt (.call 32 (.cons (.tup (.cons (.callK 26 (.cons (.loc 4) (.cons (.loc 3) .nil)) [1, 0]) (.cons (.callK 27 (.cons (.loc 4) (.cons (.loc 3) .nil)) [1, 0]) .nil))) (.cons (.tup (.cons (.loc 7) (.cons (.tup (.cons (.blt .len (.cons (.loc 7) .nil)) (.cons (.loc 8) .nil))) .nil))) .nil)))) (.cons (.ret (.bl false)) .nil) .nil) (.cons (.for (.name 6) (.seq (.sl (.loc 5) .non (.int 12))) (.cons (.ite (.cmp .ne (.blt .repr (.cons (.call 28 (.cons (.loc 3) (.cons (.loc 4) (.cons (.loc 6) .nil)))) .nil)) (.blt .repr (.cons (.cmp .nmem (.loc 6) (.loc 7)) .nil))) (.cons (.ret (.bl false)) .nil) .nil) .nil)) .nil))))))))) .nil)) (.cons (.ret (.bl true)) .nil))⟩
def F : Nat → Option Fn
  | 0 => some f_is_integer
  | 1 => some f_is_within
  | 2 => some f_is_tuple_of
  | 3 => some f_is_rising
  | 4 => some f_is_entry_form
  | 5 => some f_are_rows
  | 6 => some f_is_tree
  | 7 => some f_is_sketch_form
  | 8 => some f_is_machine_form
  | 9 => some f_need_machine
  | 10 => some f_fit
  | 11 => some f_need_fit
  | 12 => some f_is_word_form
  | 13 => some f_run_from
  | 14 => some f_answers_from
  | 15 => some f_parting_from
  | 16 => some f_are_alike
  | 17 => some f_access_of
  | 18 => some f_is_suite_form
  | 19 => some f_need_suite
  | 20 => some f_passes_by
  | 21 => some f_with_entry
  | 22 => some f_other_entries
  | 23 => some f_mutants_of
  | 24 => some f_killed_of
  | 25 => some f_score_of
  | 26 => some f_killed
  | 27 => some f_score
  | 28 => some f_passes
  | 29 => some f_law_springs
  | 30 => some f_law_few
  | 31 => some f_law_order
  | 32 => some f_law_same
  | 33 => some f_law_machine
  | 34 => some f_law_word
  | 35 => some f_law_run
  | 36 => some f_law_parting
  | 37 => some f_law_passes
  | 38 => some f_law_reached
  | 39 => some f_law_mutants
  | 40 => some f_law
  | _ => none
def con : Nat → Option Val
  | 0 => some (.int 3)
  | 1 => some (.int 2)
  | 2 => some (.int 9)
  | 3 => some (.int 12)
  | 4 => some (.int 600)
  | 5 => some (.int 600)
  | 6 => some (.int 200)
  | _ => none
end K83
end

section
set_option maxRecDepth 100000
set_option maxHeartbeats 0
namespace K83
open PySem Ev L2
def lay : Lay where
  tops := PySem.Challenge.pw_answertests_k83_mutants_killed.main.body
  defs := [(("is_integer" : PySem.Str), 5, false), (("is_within" : PySem.Str), 6, false), (("is_tuple_of" : PySem.Str), 7, false), (("is_rising" : PySem.Str), 8, true), (("is_entry_form" : PySem.Str), 16, false), (("are_rows" : PySem.Str), 17, true), (("is_tree" : PySem.Str), 18, false), (("is_sketch_form" : PySem.Str), 19, false), (("is_machine_form" : PySem.Str), 20, true), (("need_machine" : PySem.Str), 21, false), (("fit" : PySem.Str), 22, false), (("need_fit" : PySem.Str), 23, false), (("is_word_form" : PySem.Str), 24, true), (("run_from" : PySem.Str), 25, false), (("answers_from" : PySem.Str), 26, false), (("parting_from" : PySem.Str), 27, false), (("are_alike" : PySem.Str), 28, false), (("access_of" : PySem.Str), 29, false), (("is_suite_form" : PySem.Str), 32, true), (("need_suite" : PySem.Str), 33, false), (("passes_by" : PySem.Str), 35, true), (("with_entry" : PySem.Str), 37, false), (("other_entries" : PySem.Str), 38, false), (("mutants_of" : PySem.Str), 39, false), (("killed_of" : PySem.Str), 40, false), (("score_of" : PySem.Str), 41, false), (("killed" : PySem.Str), 43, false), (("score" : PySem.Str), 44, false), (("passes" : PySem.Str), 46, false), (("_law_springs" : PySem.Str), 48, false), (("_law_few" : PySem.Str), 49, false), (("_law_order" : PySem.Str), 50, false), (("_law_same" : PySem.Str), 51, false), (("_law_machine" : PySem.Str), 52, false), (("_law_word" : PySem.Str), 53, false), (("_law_run" : PySem.Str), 54, false), (("_law_parting" : PySem.Str), 55, false), (("_law_passes" : PySem.Str), 56, false), (("_law_reached" : PySem.Str), 57, false), (("_law_mutants" : PySem.Str), 58, false), (("law" : PySem.Str), 59, false)]
  cons := [(("MOST_LETTERS" : PySem.Str), 3), (("LEAST_ANSWERS" : PySem.Str), 2), (("MOST_ANSWERS" : PySem.Str), 9), (("MOST_STATES" : PySem.Str), 12), (("MOST_ROWS" : PySem.Str), 600), (("MOST_WORD" : PySem.Str), 600), (("MOST_WORDS" : PySem.Str), 200)]
  bt := [("len" : PySem.Str), ("int" : PySem.Str), ("max" : PySem.Str), ("min" : PySem.Str), ("sum" : PySem.Str), ("list" : PySem.Str), ("tuple" : PySem.Str), ("sorted" : PySem.Str), ("set" : PySem.Str), ("range" : PySem.Str), ("enumerate" : PySem.Str), ("zip" : PySem.Str), ("all" : PySem.Str), ("isinstance" : PySem.Str), ("bool" : PySem.Str), ("str" : PySem.Str), ("repr" : PySem.Str)]
  kws := [(("killed" : PySem.Str), [("suite" : PySem.Str), ("machine" : PySem.Str)]), (("score" : PySem.Str), [("suite" : PySem.Str), ("machine" : PySem.Str)])]
def loose0 : List PySem.Str := [("TestsError" : PySem.Str), ("BadMachine" : PySem.Str), ("BadSuite" : PySem.Str), ("is_integer" : PySem.Str), ("is_within" : PySem.Str), ("is_tuple_of" : PySem.Str), ("is_rising" : PySem.Str), ("MOST_LETTERS" : PySem.Str), ("LEAST_ANSWERS" : PySem.Str), ("MOST_ANSWERS" : PySem.Str), ("MOST_STATES" : PySem.Str), ("MOST_ROWS" : PySem.Str), ("MOST_WORD" : PySem.Str), ("is_entry_form" : PySem.Str), ("are_rows" : PySem.Str), ("is_tree" : PySem.Str), ("is_sketch_form" : PySem.Str), ("is_machine_form" : PySem.Str), ("need_machine" : PySem.Str), ("fit" : PySem.Str), ("need_fit" : PySem.Str), ("is_word_form" : PySem.Str), ("run_from" : PySem.Str), ("answers_from" : PySem.Str), ("parting_from" : PySem.Str), ("are_alike" : PySem.Str), ("access_of" : PySem.Str), ("MOST_WORDS" : PySem.Str), ("is_suite_form" : PySem.Str), ("need_suite" : PySem.Str)]
def loose1 : List PySem.Str := [("passes_by" : PySem.Str), ("with_entry" : PySem.Str), ("other_entries" : PySem.Str), ("mutants_of" : PySem.Str), ("killed_of" : PySem.Str), ("score_of" : PySem.Str), ("killed" : PySem.Str), ("score" : PySem.Str), ("passes" : PySem.Str), ("_law_springs" : PySem.Str), ("_law_few" : PySem.Str), ("_law_order" : PySem.Str), ("_law_same" : PySem.Str), ("_law_machine" : PySem.Str), ("_law_word" : PySem.Str), ("_law_run" : PySem.Str), ("_law_parting" : PySem.Str), ("_law_passes" : PySem.Str), ("_law_reached" : PySem.Str), ("_law_mutants" : PySem.Str)]
def loose : List PySem.Str := loose0 ++ loose1
-- law at 59, def number 40
theorem gd0 : lay.Gd (lay.defs.getD 0 default) f_is_integer := by
  refine ⟨by kernel_rfl, ⟨rfl, rfl, rfl, by decide +kernel, rfl, by decide +kernel, by decide +kernel⟩, fun _ _ _ _ _ _ us hl => ?_, ?_⟩
  · exact match us, hl with | [_], _ => rfl
  · exact fun _ _ _ _ _ _ ks h => nomatch (show ks ∈ ([] : List (List PySem.Str)) from h)
theorem gd1 : lay.Gd (lay.defs.getD 1 default) f_is_within := by
  refine ⟨by kernel_rfl, ⟨rfl, rfl, rfl, by decide +kernel, rfl, by decide +kernel, by decide +kernel⟩, fun _ _ _ _ _ _ us hl => ?_, ?_⟩
  · exact match us, hl with | [_, _, _], _ => rfl
  · exact fun _ _ _ _ _ _ ks h => nomatch (show ks ∈ ([] : List (List PySem.Str)) from h)
theorem gd2 : lay.Gd (lay.defs.getD 2 default) f_is_tuple_of := by
  refine ⟨by kernel_rfl, ⟨rfl, rfl, rfl, by decide +kernel, rfl, by decide +kernel, by decide +kernel⟩, fun _ _ _ _ _ _ us hl => ?_, ?_⟩
  · exact match us, hl with | [_, _, _], _ => rfl
  · exact fun _ _ _ _ _ _ ks h => nomatch (show ks ∈ ([] : List (List PySem.Str)) from h)
theorem gd3 : lay.Gd (lay.defs.getD 3 default) f_is_rising := by
  refine ⟨by kernel_rfl, ⟨rfl, rfl, rfl, by decide +kernel, rfl, by decide +kernel, by decide +kernel⟩, fun _ _ _ _ _ _ us hl => ?_, ?_⟩
  · exact match us, hl with | [_], _ => rfl
  · exact fun _ _ _ _ _ _ ks h => nomatch (show ks ∈ ([] : List (List PySem.Str)) from h)
theorem gd4 : lay.Gd (lay.defs.getD 4 default) f_is_entry_form := by
  refine ⟨by kernel_rfl, ⟨rfl, rfl, rfl, by decide +kernel, rfl, by decide +kernel, by decide +kernel⟩, fun _ _ _ _ _ _ us hl => ?_, ?_⟩
  · exact match us, hl with | [_, _, _], _ => rfl
  · exact fun _ _ _ _ _ _ ks h => nomatch (show ks ∈ ([] : List (List PySem.Str)) from h)
theorem gd5 : lay.Gd (lay.defs.getD 5 default) f_are_rows := by
  refine ⟨by kernel_rfl, ⟨rfl, rfl, rfl, by decide +kernel, rfl, by decide +kernel, by decide +kernel⟩, fun _ _ _ _ _ _ us hl => ?_, ?_⟩
  · exact match us, hl with | [_, _, _], _ => rfl
  · exact fun _ _ _ _ _ _ ks h => nomatch (show ks ∈ ([] : List (List PySem.Str)) from h)
theorem gd6 : lay.Gd (lay.defs.getD 6 default) f_is_tree := by
  refine ⟨by kernel_rfl, ⟨rfl, rfl, rfl, by decide +kernel, rfl, by decide +kernel, by decide +kernel⟩, fun _ _ _ _ _ _ us hl => ?_, ?_⟩
  · exact match us, hl with | [_], _ => rfl
  · exact fun _ _ _ _ _ _ ks h => nomatch (show ks ∈ ([] : List (List PySem.Str)) from h)
theorem gd7 : lay.Gd (lay.defs.getD 7 default) f_is_sketch_form := by
  refine ⟨by kernel_rfl, ⟨rfl, rfl, rfl, by decide +kernel, rfl, by decide +kernel, by decide +kernel⟩, fun _ _ _ _ _ _ us hl => ?_, ?_⟩
  · exact match us, hl with | [_], _ => rfl
  · exact fun _ _ _ _ _ _ ks h => nomatch (show ks ∈ ([] : List (List PySem.Str)) from h)
theorem gd8 : lay.Gd (lay.defs.getD 8 default) f_is_machine_form := by
  refine ⟨by kernel_rfl, ⟨rfl, rfl, rfl, by decide +kernel, rfl, by decide +kernel, by decide +kernel⟩, fun _ _ _ _ _ _ us hl => ?_, ?_⟩
  · exact match us, hl with | [_], _ => rfl
  · exact fun _ _ _ _ _ _ ks h => nomatch (show ks ∈ ([] : List (List PySem.Str)) from h)
theorem gd9 : lay.Gd (lay.defs.getD 9 default) f_need_machine := by
  refine ⟨by kernel_rfl, ⟨rfl, rfl, rfl, by decide +kernel, rfl, by decide +kernel, by decide +kernel⟩, fun _ _ _ _ _ _ us hl => ?_, ?_⟩
  · exact match us, hl with | [_], _ => rfl
  · exact fun _ _ _ _ _ _ ks h => nomatch (show ks ∈ ([] : List (List PySem.Str)) from h)
theorem gd10 : lay.Gd (lay.defs.getD 10 default) f_fit := by
  refine ⟨by kernel_rfl, ⟨rfl, rfl, rfl, by decide +kernel, rfl, by decide +kernel, by decide +kernel⟩, fun _ _ _ _ _ _ us hl => ?_, ?_⟩
  · exact match us, hl with | [_, _], _ => rfl
  · exact fun _ _ _ _ _ _ ks h => nomatch (show ks ∈ ([] : List (List PySem.Str)) from h)
theorem gd11 : lay.Gd (lay.defs.getD 11 default) f_need_fit := by
  refine ⟨by kernel_rfl, ⟨rfl, rfl, rfl, by decide +kernel, rfl, by decide +kernel, by decide +kernel⟩, fun _ _ _ _ _ _ us hl => ?_, ?_⟩
  · exact match us, hl with | [_, _], _ => rfl
  · exact fun _ _ _ _ _ _ ks h => nomatch (show ks ∈ ([] : List (List PySem.Str)) from h)
theorem gd12 : lay.Gd (lay.defs.getD 12 default) f_is_word_form := by
  refine ⟨by kernel_rfl, ⟨rfl, rfl, rfl, by decide +kernel, rfl, by decide +kernel, by decide +kernel⟩, fun _ _ _ _ _ _ us hl => ?_, ?_⟩
  · exact match us, hl with | [_, _], _ => rfl
  · exact fun _ _ _ _ _ _ ks h => nomatch (show ks ∈ ([] : List (List PySem.Str)) from h)
theorem gd13 : lay.Gd (lay.defs.getD 13 default) f_run_from := by
  refine ⟨by kernel_rfl, ⟨rfl, rfl, rfl, by decide +kernel, rfl, by decide +kernel, by decide +kernel⟩, fun _ _ _ _ _ _ us hl => ?_, ?_⟩
  · exact match us, hl with | [_, _, _], _ => rfl
  · exact fun _ _ _ _ _ _ ks h => nomatch (show ks ∈ ([] : List (List PySem.Str)) from h)
theorem gd14 : lay.Gd (lay.defs.getD 14 default) f_answers_from := by
  refine ⟨by kernel_rfl, ⟨rfl, rfl, rfl, by decide +kernel, rfl, by decide +kernel, by decide +kernel⟩, fun _ _ _ _ _ _ us hl => ?_, ?_⟩
  · exact match us, hl with | [_, _, _], _ => rfl
  · exact fun _ _ _ _ _ _ ks h => nomatch (show ks ∈ ([] : List (List PySem.Str)) from h)
theorem gd15 : lay.Gd (lay.defs.getD 15 default) f_parting_from := by
  refine ⟨by kernel_rfl, ⟨rfl, rfl, rfl, by decide +kernel, rfl, by decide +kernel, by decide +kernel⟩, fun _ _ _ _ _ _ us hl => ?_, ?_⟩
  · exact match us, hl with | [_, _, _, _], _ => rfl
  · exact fun _ _ _ _ _ _ ks h => nomatch (show ks ∈ ([] : List (List PySem.Str)) from h)
theorem gd16 : lay.Gd (lay.defs.getD 16 default) f_are_alike := by
  refine ⟨by kernel_rfl, ⟨rfl, rfl, rfl, by decide +kernel, rfl, by decide +kernel, by decide +kernel⟩, fun _ _ _ _ _ _ us hl => ?_, ?_⟩
  · exact match us, hl with | [_, _], _ => rfl
  · exact fun _ _ _ _ _ _ ks h => nomatch (show ks ∈ ([] : List (List PySem.Str)) from h)
theorem gd17 : lay.Gd (lay.defs.getD 17 default) f_access_of := by
  refine ⟨by kernel_rfl, ⟨rfl, rfl, rfl, by decide +kernel, rfl, by decide +kernel, by decide +kernel⟩, fun _ _ _ _ _ _ us hl => ?_, ?_⟩
  · exact match us, hl with | [_], _ => rfl
  · exact fun _ _ _ _ _ _ ks h => nomatch (show ks ∈ ([] : List (List PySem.Str)) from h)
theorem gd18 : lay.Gd (lay.defs.getD 18 default) f_is_suite_form := by
  refine ⟨by kernel_rfl, ⟨rfl, rfl, rfl, by decide +kernel, rfl, by decide +kernel, by decide +kernel⟩, fun _ _ _ _ _ _ us hl => ?_, ?_⟩
  · exact match us, hl with | [_, _], _ => rfl
  · exact fun _ _ _ _ _ _ ks h => nomatch (show ks ∈ ([] : List (List PySem.Str)) from h)
theorem gd19 : lay.Gd (lay.defs.getD 19 default) f_need_suite := by
  refine ⟨by kernel_rfl, ⟨rfl, rfl, rfl, by decide +kernel, rfl, by decide +kernel, by decide +kernel⟩, fun _ _ _ _ _ _ us hl => ?_, ?_⟩
  · exact match us, hl with | [_, _], _ => rfl
  · exact fun _ _ _ _ _ _ ks h => nomatch (show ks ∈ ([] : List (List PySem.Str)) from h)
theorem gd20 : lay.Gd (lay.defs.getD 20 default) f_passes_by := by
  refine ⟨by kernel_rfl, ⟨rfl, rfl, rfl, by decide +kernel, rfl, by decide +kernel, by decide +kernel⟩, fun _ _ _ _ _ _ us hl => ?_, ?_⟩
  · exact match us, hl with | [_, _, _], _ => rfl
  · exact fun _ _ _ _ _ _ ks h => nomatch (show ks ∈ ([] : List (List PySem.Str)) from h)
theorem gd21 : lay.Gd (lay.defs.getD 21 default) f_with_entry := by
  refine ⟨by kernel_rfl, ⟨rfl, rfl, rfl, by decide +kernel, rfl, by decide +kernel, by decide +kernel⟩, fun _ _ _ _ _ _ us hl => ?_, ?_⟩
  · exact match us, hl with | [_, _, _, _], _ => rfl
  · exact fun _ _ _ _ _ _ ks h => nomatch (show ks ∈ ([] : List (List PySem.Str)) from h)
theorem gd22 : lay.Gd (lay.defs.getD 22 default) f_other_entries := by
  refine ⟨by kernel_rfl, ⟨rfl, rfl, rfl, by decide +kernel, rfl, by decide +kernel, by decide +kernel⟩, fun _ _ _ _ _ _ us hl => ?_, ?_⟩
  · exact match us, hl with | [_, _, _], _ => rfl
  · exact fun _ _ _ _ _ _ ks h => nomatch (show ks ∈ ([] : List (List PySem.Str)) from h)
theorem gd23 : lay.Gd (lay.defs.getD 23 default) f_mutants_of := by
  refine ⟨by kernel_rfl, ⟨rfl, rfl, rfl, by decide +kernel, rfl, by decide +kernel, by decide +kernel⟩, fun _ _ _ _ _ _ us hl => ?_, ?_⟩
  · exact match us, hl with | [_], _ => rfl
  · exact fun _ _ _ _ _ _ ks h => nomatch (show ks ∈ ([] : List (List PySem.Str)) from h)
theorem gd24 : lay.Gd (lay.defs.getD 24 default) f_killed_of := by
  refine ⟨by kernel_rfl, ⟨rfl, rfl, rfl, by decide +kernel, rfl, by decide +kernel, by decide +kernel⟩, fun _ _ _ _ _ _ us hl => ?_, ?_⟩
  · exact match us, hl with | [_, _], _ => rfl
  · exact fun _ _ _ _ _ _ ks h => nomatch (show ks ∈ ([] : List (List PySem.Str)) from h)
theorem gd25 : lay.Gd (lay.defs.getD 25 default) f_score_of := by
  refine ⟨by kernel_rfl, ⟨rfl, rfl, rfl, by decide +kernel, rfl, by decide +kernel, by decide +kernel⟩, fun _ _ _ _ _ _ us hl => ?_, ?_⟩
  · exact match us, hl with | [_, _], _ => rfl
  · exact fun _ _ _ _ _ _ ks h => nomatch (show ks ∈ ([] : List (List PySem.Str)) from h)
theorem gd26 : lay.Gd (lay.defs.getD 26 default) f_killed := by
  refine ⟨by kernel_rfl, ⟨rfl, rfl, rfl, by decide +kernel, rfl, by decide +kernel, by decide +kernel⟩, fun _ _ _ _ _ _ us hl => ?_, ?_⟩
  · exact match us, hl with | [_, _], _ => rfl
  · exact fun _ _ _ _ _ _ ks h0 => by
      have h : ks ∈ [[("suite" : PySem.Str), ("machine" : PySem.Str)]] := h0
      simp only [List.mem_cons, List.not_mem_nil, or_false] at h
      subst h
      exact ⟨by decide +kernel, by decide +kernel, fun us hl => match us, hl with | [_, _], _ => rfl⟩
theorem gd27 : lay.Gd (lay.defs.getD 27 default) f_score := by
  refine ⟨by kernel_rfl, ⟨rfl, rfl, rfl, by decide +kernel, rfl, by decide +kernel, by decide +kernel⟩, fun _ _ _ _ _ _ us hl => ?_, ?_⟩
  · exact match us, hl with | [_, _], _ => rfl
  · exact fun _ _ _ _ _ _ ks h0 => by
      have h : ks ∈ [[("suite" : PySem.Str), ("machine" : PySem.Str)]] := h0
      simp only [List.mem_cons, List.not_mem_nil, or_false] at h
      subst h
      exact ⟨by decide +kernel, by decide +kernel, fun us hl => match us, hl with | [_, _], _ => rfl⟩
theorem gd28 : lay.Gd (lay.defs.getD 28 default) f_passes := by
  refine ⟨by kernel_rfl, ⟨rfl, rfl, rfl, by decide +kernel, rfl, by decide +kernel, by decide +kernel⟩, fun _ _ _ _ _ _ us hl => ?_, ?_⟩
  · exact match us, hl with | [_, _, _], _ => rfl
  · exact fun _ _ _ _ _ _ ks h => nomatch (show ks ∈ ([] : List (List PySem.Str)) from h)
theorem gd29 : lay.Gd (lay.defs.getD 29 default) f_law_springs := by
  refine ⟨by kernel_rfl, ⟨rfl, rfl, rfl, by decide +kernel, rfl, by decide +kernel, by decide +kernel⟩, fun _ _ _ _ _ _ us hl => ?_, ?_⟩
  · exact match us, hl with | [_, _], _ => rfl
  · exact fun _ _ _ _ _ _ ks h => nomatch (show ks ∈ ([] : List (List PySem.Str)) from h)
theorem gd30 : lay.Gd (lay.defs.getD 30 default) f_law_few := by
  refine ⟨by kernel_rfl, ⟨rfl, rfl, rfl, by decide +kernel, rfl, by decide +kernel, by decide +kernel⟩, fun _ _ _ _ _ _ us hl => ?_, ?_⟩
  · exact match us, hl with | [_, _], _ => rfl
  · exact fun _ _ _ _ _ _ ks h => nomatch (show ks ∈ ([] : List (List PySem.Str)) from h)
theorem gd31 : lay.Gd (lay.defs.getD 31 default) f_law_order := by
  refine ⟨by kernel_rfl, ⟨rfl, rfl, rfl, by decide +kernel, rfl, by decide +kernel, by decide +kernel⟩, fun _ _ _ _ _ _ us hl => ?_, ?_⟩
  · exact match us, hl with | [_, _], _ => rfl
  · exact fun _ _ _ _ _ _ ks h => nomatch (show ks ∈ ([] : List (List PySem.Str)) from h)
theorem gd32 : lay.Gd (lay.defs.getD 32 default) f_law_same := by
  refine ⟨by kernel_rfl, ⟨rfl, rfl, rfl, by decide +kernel, rfl, by decide +kernel, by decide +kernel⟩, fun _ _ _ _ _ _ us hl => ?_, ?_⟩
  · exact match us, hl with | [_, _], _ => rfl
  · exact fun _ _ _ _ _ _ ks h => nomatch (show ks ∈ ([] : List (List PySem.Str)) from h)
theorem gd33 : lay.Gd (lay.defs.getD 33 default) f_law_machine := by
  refine ⟨by kernel_rfl, ⟨rfl, rfl, rfl, by decide +kernel, rfl, by decide +kernel, by decide +kernel⟩, fun _ _ _ _ _ _ us hl => ?_, ?_⟩
  · exact match us, hl with | [_, _, _, _], _ => rfl
  · exact fun _ _ _ _ _ _ ks h => nomatch (show ks ∈ ([] : List (List PySem.Str)) from h)
theorem gd34 : lay.Gd (lay.defs.getD 34 default) f_law_word := by
  refine ⟨by kernel_rfl, ⟨rfl, rfl, rfl, by decide +kernel, rfl, by decide +kernel, by decide +kernel⟩, fun _ _ _ _ _ _ us hl => ?_, ?_⟩
  · exact match us, hl with | [_, _, _], _ => rfl
  · exact fun _ _ _ _ _ _ ks h => nomatch (show ks ∈ ([] : List (List PySem.Str)) from h)
theorem gd35 : lay.Gd (lay.defs.getD 35 default) f_law_run := by
  refine ⟨by kernel_rfl, ⟨rfl, rfl, rfl, by decide +kernel, rfl, by decide +kernel, by decide +kernel⟩, fun _ _ _ _ _ _ us hl => ?_, ?_⟩
  · exact match us, hl with | [_, _, _], _ => rfl
  · exact fun _ _ _ _ _ _ ks h => nomatch (show ks ∈ ([] : List (List PySem.Str)) from h)
theorem gd36 : lay.Gd (lay.defs.getD 36 default) f_law_parting := by
  refine ⟨by kernel_rfl, ⟨rfl, rfl, rfl, by decide +kernel, rfl, by decide +kernel, by decide +kernel⟩, fun _ _ _ _ _ _ us hl => ?_, ?_⟩
  · exact match us, hl with | [_, _, _, _], _ => rfl
  · exact fun _ _ _ _ _ _ ks h => nomatch (show ks ∈ ([] : List (List PySem.Str)) from h)
theorem gd37 : lay.Gd (lay.defs.getD 37 default) f_law_passes := by
  refine ⟨by kernel_rfl, ⟨rfl, rfl, rfl, by decide +kernel, rfl, by decide +kernel, by decide +kernel⟩, fun _ _ _ _ _ _ us hl => ?_, ?_⟩
  · exact match us, hl with | [_, _, _], _ => rfl
  · exact fun _ _ _ _ _ _ ks h => nomatch (show ks ∈ ([] : List (List PySem.Str)) from h)
theorem gd38 : lay.Gd (lay.defs.getD 38 default) f_law_reached := by
  refine ⟨by kernel_rfl, ⟨rfl, rfl, rfl, by decide +kernel, rfl, by decide +kernel, by decide +kernel⟩, fun _ _ _ _ _ _ us hl => ?_, ?_⟩
  · exact match us, hl with | [_], _ => rfl
  · exact fun _ _ _ _ _ _ ks h => nomatch (show ks ∈ ([] : List (List PySem.Str)) from h)
theorem gd39 : lay.Gd (lay.defs.getD 39 default) f_law_mutants := by
  refine ⟨by kernel_rfl, ⟨rfl, rfl, rfl, by decide +kernel, rfl, by decide +kernel, by decide +kernel⟩, fun _ _ _ _ _ _ us hl => ?_, ?_⟩
  · exact match us, hl with | [_], _ => rfl
  · exact fun _ _ _ _ _ _ ks h => nomatch (show ks ∈ ([] : List (List PySem.Str)) from h)
theorem gd40 : lay.Gd (lay.defs.getD 40 default) f_law := by
  refine ⟨by kernel_rfl, ⟨rfl, rfl, rfl, by decide +kernel, rfl, by decide +kernel, by decide +kernel⟩, fun _ _ _ _ _ _ us hl => ?_, ?_⟩
  · exact match us, hl with | [_], _ => rfl
  · exact fun _ _ _ _ _ _ ks h => nomatch (show ks ∈ ([] : List (List PySem.Str)) from h)
theorem gd (i : Nat) (d : PySem.Str × Nat × Bool) (h : lay.defs[i]? = some d) : ∃ f, F i = some f ∧ lay.Gd d f := by
  match i, h with
  | 0, h => exact ⟨_, rfl, by cases h; exact gd0⟩
  | 1, h => exact ⟨_, rfl, by cases h; exact gd1⟩
  | 2, h => exact ⟨_, rfl, by cases h; exact gd2⟩
  | 3, h => exact ⟨_, rfl, by cases h; exact gd3⟩
  | 4, h => exact ⟨_, rfl, by cases h; exact gd4⟩
  | 5, h => exact ⟨_, rfl, by cases h; exact gd5⟩
  | 6, h => exact ⟨_, rfl, by cases h; exact gd6⟩
  | 7, h => exact ⟨_, rfl, by cases h; exact gd7⟩
  | 8, h => exact ⟨_, rfl, by cases h; exact gd8⟩
  | 9, h => exact ⟨_, rfl, by cases h; exact gd9⟩
  | 10, h => exact ⟨_, rfl, by cases h; exact gd10⟩
  | 11, h => exact ⟨_, rfl, by cases h; exact gd11⟩
  | 12, h => exact ⟨_, rfl, by cases h; exact gd12⟩
  | 13, h => exact ⟨_, rfl, by cases h; exact gd13⟩
  | 14, h => exact ⟨_, rfl, by cases h; exact gd14⟩
  | 15, h => exact ⟨_, rfl, by cases h; exact gd15⟩
  | 16, h => exact ⟨_, rfl, by cases h; exact gd16⟩
  | 17, h => exact ⟨_, rfl, by cases h; exact gd17⟩
  | 18, h => exact ⟨_, rfl, by cases h; exact gd18⟩
  | 19, h => exact ⟨_, rfl, by cases h; exact gd19⟩
  | 20, h => exact ⟨_, rfl, by cases h; exact gd20⟩
  | 21, h => exact ⟨_, rfl, by cases h; exact gd21⟩
  | 22, h => exact ⟨_, rfl, by cases h; exact gd22⟩
  | 23, h => exact ⟨_, rfl, by cases h; exact gd23⟩
  | 24, h => exact ⟨_, rfl, by cases h; exact gd24⟩
  | 25, h => exact ⟨_, rfl, by cases h; exact gd25⟩
  | 26, h => exact ⟨_, rfl, by cases h; exact gd26⟩
  | 27, h => exact ⟨_, rfl, by cases h; exact gd27⟩
  | 28, h => exact ⟨_, rfl, by cases h; exact gd28⟩
  | 29, h => exact ⟨_, rfl, by cases h; exact gd29⟩
  | 30, h => exact ⟨_, rfl, by cases h; exact gd30⟩
  | 31, h => exact ⟨_, rfl, by cases h; exact gd31⟩
  | 32, h => exact ⟨_, rfl, by cases h; exact gd32⟩
  | 33, h => exact ⟨_, rfl, by cases h; exact gd33⟩
  | 34, h => exact ⟨_, rfl, by cases h; exact gd34⟩
  | 35, h => exact ⟨_, rfl, by cases h; exact gd35⟩
  | 36, h => exact ⟨_, rfl, by cases h; exact gd36⟩
  | 37, h => exact ⟨_, rfl, by cases h; exact gd37⟩
  | 38, h => exact ⟨_, rfl, by cases h; exact gd38⟩
  | 39, h => exact ⟨_, rfl, by cases h; exact gd39⟩
  | 40, h => exact ⟨_, rfl, by cases h; exact gd40⟩
theorem con_eq : lay.con = con := by
  funext k
  match k with
  | 0 => rfl
  | 1 => rfl
  | 2 => rfl
  | 3 => rfl
  | 4 => rfl
  | 5 => rfl
  | 6 => rfl
  | k + 7 => rfl
end K83
end

section
set_option maxRecDepth 100000
set_option maxHeartbeats 0
namespace K83
open PySem Ev
abbrev rwR : PySem.W.OpenRow := PySem.W.OpenLaw.row PySem.Challenge.rw_answertests_k83_mutants_killed
def hk : PySem.W.Hook := He.hookX 5 lay.fa lay.fn [] lay.tf (fun _ => true)
def ob (s : PySem.W.SharedT) : He.AlX := He.obsX 5 lay.fa lay.fn [] lay.tf (fun _ => true) (HandSHeadRun.getT s)
theorem ob_eq (s : PySem.W.SharedT) : ob s = hk.obs s.abs := He.obsX_eq (HandSHeadRun.getT_eq s)
theorem run (w : World) : HandSHeadRun.RunEq rwR (PySem.W.view rwR.prog [59]) hk ob 4000 loose w := by
  intro os
  kernel_rfl
end K83
open PySem PySem.W PySem.Calls PyProof.Rows
theorem K83.holds_of (tru : ∀ ns : List Int, ns.length ≤ 63 → ∀ v μ, Ev.ScrV v μ ns → ∃ μ', Ev.evF K83.F K83.con (19 + 1) 40 [v] μ = .ok (.bl true) μ') : PySem.Challenge.rw_answertests_k83_mutants_killed.Holds := by
  w_on; o_law
  refine HandSHeadRun.head_any (r := OpenLaw.row PySem.Challenge.rw_answertests_k83_mutants_killed) (q := view (OpenLaw.row PySem.Challenge.rw_answertests_k83_mutants_killed).prog [59]) (H := K83.hk) (ob := K83.ob) (M := 4000) (loose := K83.loose) (d := HandSHeadRun.topDef (OpenLaw.row PySem.Challenge.rw_answertests_k83_mutants_killed).prog 59) (kwd := []) K83.ob_eq
    (by kernel_rfl) (fun s => by kernel_rfl) K83.run (by kernel_rfl) (by kernel_rfl) (by kernel_rfl) (by rfl) (by first | assumption | decide +kernel) (by decide +kernel) ⟨rfl, rfl, rfl, rfl, rfl, by decide +kernel⟩ ?hw ?hc
  case hw => w_witness2
  case hc =>
    refine LamX.walk_ofTsE (l := PySem.Challenge.rw_answertests_k83_mutants_killed) (n := 63) (k := 2 * (19 + 1)) (x := "script") (CX := fun _ => L2.CX0) rfl (by decide) (by kernel_rfl) ⟨rfl, by decide, by decide⟩ ?F (fun _ _ _ _ _ z => z)
    intro w mg fa h Y G hmg0
    obtain ⟨K, KX, c⟩ := Y
    have hmg : mg ("law" : PySem.Str) = some (.ref fa) := by
      have e : (HandSHeadRun.topDef (OpenLaw.row PySem.Challenge.rw_answertests_k83_mutants_killed).prog 59).name = ("law" : PySem.Str) := by kernel_rfl
      rw [← e]
      exact hmg0
    refine ⟨K, KX, Ev.Lay.lawAt (L := K83.lay) (F := K83.F) (lv := 19) (i := 40) rfl c KX G K83.gd (a := K83.lay.defs.getD 40 default) (fn := K83.f_law) rfl (by kernel_rfl) hmg fun ns hl _ v μ hv => ?_⟩
    rw [K83.con_eq]
    exact tru ns hl v μ hv
end

section
/-! Wp: what a term of Ev's language brings about, as a condition on what is wanted. -/
namespace Ev
/-- an answer, and what is wanted of it -/
inductive wR {α : Type} : R α → (α → Store → Prop) → Prop
  | mk {a : α} {m : Store} {Q : α → Store → Prop} (h : Q a m) : wR (.ok a m) Q
@[simp] theorem wR_ok {α : Type} {a : α} {m : Store} {Q : α → Store → Prop} : wR (.ok a m) Q = Q a m := propext ⟨fun h => by cases h; assumption, .mk⟩
@[simp] theorem wR_stuck {α : Type} {Q : α → Store → Prop} : wR (.stuck : R α) Q = False := propext ⟨(fun h => nomatch h), False.elim⟩
@[simp] theorem wR_exc {α : Type} {c : Nat} {v : Val} {m : Store} {Q : α → Store → Prop} : wR (.exc c v m : R α) Q = False := propext ⟨(fun h => nomatch h), False.elim⟩
theorem wR_iff {α : Type} {r : R α} {Q : α → Store → Prop} : wR r Q ↔ ∃ a m, r = .ok a m ∧ Q a m := by
  cases r with
  | ok a m => rw [wR_ok]; exact ⟨fun h => ⟨a, m, rfl, h⟩, fun ⟨_, _, e, h⟩ => by cases e; exact h⟩
  | exc c v m => rw [wR_exc]; exact ⟨fun h => h.elim, fun ⟨_, _, e, _⟩ => nomatch e⟩
  | stuck => rw [wR_stuck]; exact ⟨fun h => h.elim, fun ⟨_, _, e, _⟩ => nomatch e⟩
theorem wR.mono {α : Type} {r : R α} {Q Q' : α → Store → Prop} (h : wR r Q) (f : ∀ a m, Q a m → Q' a m) : wR r Q' := by
  rw [wR_iff] at h ⊢
  obtain ⟨a, m, e, q⟩ := h
  exact ⟨a, m, e, f a m q⟩
theorem wR_eq {α : Type} {r : R α} {a : α} {m : Store} {Q : α → Store → Prop} (e : r = .ok a m) : wR r Q = Q a m := by rw [e, wR_ok]
/-- a value that is there -/
def oP {α : Type} (o : Option α) (Q : α → Prop) : Prop := match o with | some a => Q a | none => False
@[simp] theorem oP_some {α : Type} {a : α} {Q : α → Prop} : oP (some a) Q = Q a := rfl
@[simp] theorem oP_none {α : Type} {Q : α → Prop} : oP none Q = False := rfl
theorem oP_of {α : Type} {o : Option α} {a : α} {Q : α → Prop} (h : o = some a) (q : Q a) : oP o Q := by subst h; exact q
@[simp] theorem wR_bind {α β : Type} {x : M α} {f : α → M β} {m : Store} {Q : β → Store → Prop} : wR ((x >>= f) m) Q = wR (x m) (fun a m' => wR (f a m') Q) := by
  show wR (M.bind x f m) Q = _
  unfold M.bind
  cases x m <;> simp only [wR_ok, wR_exc, wR_stuck]
theorem wR_bindM {α β : Type} {x : M α} {f : α → M β} {m : Store} {Q : β → Store → Prop} : wR (M.bind x f m) Q = wR (x m) (fun a m' => wR (f a m') Q) := wR_bind
@[simp] theorem wR_pure {α : Type} {a : α} {m : Store} {Q : α → Store → Prop} : wR ((pure a : M α) m) Q = Q a m := wR_ok
@[simp] theorem wR_must {α : Type} {c : Prop} [Decidable c] {x : M α} {m : Store} {Q : α → Store → Prop} : wR (must c x m) Q = (c ∧ wR (x m) Q) := by
  unfold must
  by_cases h : c
  · simp [h]
  · simp only [h, if_false, false_and]; exact wR_stuck
@[simp] theorem wR_if {α : Type} {c : Prop} [Decidable c] {x y : R α} {Q : α → Store → Prop} : wR (if c then x else y) Q = if c then wR x Q else wR y Q := by
  split <;> rfl
@[simp] theorem wR_ifM {α : Type} {c : Prop} [Decidable c] {x y : M α} {m : Store} {Q : α → Store → Prop} : wR ((if c then x else y) m) Q = if c then wR (x m) Q else wR (y m) Q := by
  split <;> rfl
@[simp] theorem wR_ofO {α : Type} {o : Option α} {m : Store} {Q : α → Store → Prop} : wR (ofO o m) Q = oP o (fun a => Q a m) := by
  cases o
  · exact wR_stuck
  · exact wR_ok
@[simp] theorem wR_alloc {o : Obj} {m : Store} {Q : Val → Store → Prop} : wR (alloc o m) Q = Q (.ref m.length) (m ++ [o]) := wR_ok
@[simp] theorem wR_newTup {xs : List Val} {m : Store} {Q : Val → Store → Prop} : wR (newTup xs m) Q = (xs.length ≤ lim ∧ Q (.tup xs) m) := by unfold newTup; rw [wR_must, wR_pure]
@[simp] theorem wR_newLst {xs : List Val} {m : Store} {Q : Val → Store → Prop} : wR (newLst xs m) Q = (xs.length ≤ lim ∧ Q (.ref m.length) (m ++ [.lst xs])) := by unfold newLst; rw [wR_must, wR_alloc]

section
variable (Y : Sys)
def wE (e : E) (ρ : Env) (m : Store) (Q : Val → Store → Prop) : Prop := wR (evE Y e ρ m) Q
def wEs (es : Es) (ρ : Env) (m : Store) (Q : List Val → Store → Prop) : Prop := wR (evEs Y es ρ m) Q
def wIt (it : It) (ρ : Env) (m : Store) (Q : Walk → Store → Prop) : Prop := wR (evIt Y it ρ m) Q
def wIfs (es : Es) (ρ : Env) (m : Store) (Q : Bool → Store → Prop) : Prop := wR (evIfs Y es ρ m) Q
def wS (s : S) (ρ : Env) (m : Store) (Q : Fl → Store → Prop) : Prop := wR (evS Y s ρ m) Q
def wSs (s : Ss) (ρ : Env) (m : Store) (Q : Fl → Store → Prop) : Prop := wR (evSs Y s ρ m) Q
/-- a value that is a truth -/
def asP (v : Val) (Q : Bool → Prop) : Prop := match v with | .bl b => Q b | _ => False
@[simp] theorem asP_bl {b : Bool} {Q : Bool → Prop} : asP (.bl b) Q = Q b := rfl
def wT (e : E) (ρ : Env) (m : Store) (Q : Bool → Store → Prop) : Prop := wE Y e ρ m (fun v m' => asP v (fun b => Q b m'))
theorem wR_asB {v : Val} {m : Store} {Q : Bool → Store → Prop} : wR (asB v m) Q = asP v (fun b => Q b m) := by
  cases v <;> first | exact wR_ok | exact wR_stuck
theorem wR_toB {e : E} {ρ : Env} {m : Store} {Q : Bool → Store → Prop} : wR (toB (evE Y e ρ) m) Q = wT Y e ρ m Q := by
  unfold toB wT wE
  rw [wR_bind]
  congr 1
  funext v m'
  exact wR_asB
variable {Y} {ρ : Env} {m : Store} {Q : Val → Store → Prop} {QB : Bool → Store → Prop} {QS : Fl → Store → Prop} {QL : List Val → Store → Prop} {QW : Walk → Store → Prop}
@[simp] theorem wE_non : wE Y .non ρ m Q = Q .non m := by simp only [wE, evE, wR_pure]
@[simp] theorem wE_bl {b : Bool} : wE Y (.bl b) ρ m Q = Q (.bl b) m := by simp only [wE, evE, wR_pure]
@[simp] theorem wE_int {i : Int} : wE Y (.int i) ρ m Q = Q (.int i) m := by simp only [wE, evE, wR_pure]
@[simp] theorem wE_str {s : PySem.Str} : wE Y (.str s) ρ m Q = Q (.str s) m := by simp only [wE, evE, wR_pure]
@[simp] theorem wE_loc {i : Nat} : wE Y (.loc i) ρ m Q = oP (ρ[i]?).join (fun v => Q v m) := by simp only [wE, evE, wR_ofO]
@[simp] theorem wE_con {i : Nat} : wE Y (.con i) ρ m Q = oP (Y.con i) (fun v => Q v m) := by simp only [wE, evE, wR_ofO]
@[simp] theorem wE_bin {o : Bop} {a b : E} : wE Y (.bin o a b) ρ m Q = wE Y a ρ m (fun x m1 => wE Y b ρ m1 (fun y m2 => wR (binV o x y m2) Q)) := by simp only [wE, evE, wR_bind]
@[simp] theorem wE_neg {a : E} : wE Y (.neg a) ρ m Q = wE Y a ρ m (fun x m1 => match x with | .int i => Q (.int (-i)) m1 | _ => False) := by
  simp only [wE, evE, wR_bind]; congr 1; funext v m'; cases v <;> first | rfl | exact wR_ok | exact wR_stuck
@[simp] theorem wE_nt {a : E} : wE Y (.nt a) ρ m Q = wT Y a ρ m (fun b m1 => Q (.bl (!b)) m1) := by simp only [wE, evE, wR_bind, wR_toB, wR_pure]
@[simp] theorem wE_and {a b : E} : wE Y (.and a b) ρ m Q = wT Y a ρ m (fun x m1 => if x = true then wE Y b ρ m1 Q else Q (.bl false) m1) := by
  simp only [wE, evE, wR_bind, wT]; congr 1; funext v m'
  cases v with
  | bl b => cases b <;> first | rfl | exact wR_ok | exact wR_stuck
  | _ => first | rfl | exact wR_stuck
@[simp] theorem wE_or {a b : E} : wE Y (.or a b) ρ m Q = wT Y a ρ m (fun x m1 => if x = true then Q (.bl true) m1 else wE Y b ρ m1 Q) := by
  simp only [wE, evE, wR_bind, wT]; congr 1; funext v m'
  cases v with
  | bl b => cases b <;> first | rfl | exact wR_ok | exact wR_stuck
  | _ => first | rfl | exact wR_stuck
@[simp] theorem wE_cmp {o : Cop} {a b : E} : wE Y (.cmp o a b) ρ m Q = wE Y a ρ m (fun x m1 => wE Y b ρ m1 (fun y m2 => wR (cmpV o x y m2) (fun r m3 => Q (.bl r) m3))) := by simp only [wE, evE, wR_bind, wR_pure]
@[simp] theorem wE_cmp2 {o p : Cop} {a b c : E} : wE Y (.cmp2 o p a b c) ρ m Q = wE Y a ρ m (fun x m1 => wE Y b ρ m1 (fun y m2 => wR (cmpV o x y m2) (fun r m3 => if r = true then wE Y c ρ m3 (fun z m4 => wR (cmpV p y z m4) (fun r2 m5 => Q (.bl r2) m5)) else Q (.bl false) m3))) := by
  simp only [wE, evE, wR_bind, wR_pure]
  congr 1; funext x m1; congr 1; funext y m2; congr 1; funext r m3
  cases r <;> simp [wR_bind]
@[simp] theorem wE_isN {a : E} : wE Y (.isN a) ρ m Q = wE Y a ρ m (fun x m1 => Q (.bl (decide (x = .non))) m1) := by simp only [wE, evE, wR_bind, wR_pure]
@[simp] theorem wE_notN {a : E} : wE Y (.notN a) ρ m Q = wE Y a ρ m (fun x m1 => Q (.bl (!decide (x = .non))) m1) := by simp only [wE, evE, wR_bind, wR_pure]
@[simp] theorem wE_ite {c a b : E} : wE Y (.ite c a b) ρ m Q = wT Y c ρ m (fun r m1 => if r = true then wE Y a ρ m1 Q else wE Y b ρ m1 Q) := by
  simp only [wE, evE, wR_bind, wR_toB]
  congr 1; funext r m1
  cases r <;> simp [wE]
@[simp] theorem wE_tup {es : Es} : wE Y (.tup es) ρ m Q = wEs Y es ρ m (fun vs m1 => vs.length ≤ lim ∧ Q (.tup vs) m1) := by simp only [wE, wEs, evE, wR_bind, wR_newTup]
@[simp] theorem wE_lst {es : Es} : wE Y (.lst es) ρ m Q = wEs Y es ρ m (fun vs m1 => vs.length ≤ lim ∧ Q (.ref m1.length) (m1 ++ [.lst vs])) := by simp only [wE, wEs, evE, wR_bind, wR_newLst]
@[simp] theorem wE_dct0 : wE Y .dct0 ρ m Q = Q (.ref m.length) (m ++ [.dct []]) := by simp only [wE, evE, wR_alloc]
@[simp] theorem wE_dct1 {k v : E} : wE Y (.dct1 k v) ρ m Q = wE Y k ρ m (fun x m1 => wE Y v ρ m1 (fun y m2 => okKey x = true ∧ Q (.ref m2.length) (m2 ++ [.dct [(x, y)]]))) := by simp only [wE, evE, wR_bind, wR_must, wR_alloc]
@[simp] theorem wE_idx {a i : E} : wE Y (.idx a i) ρ m Q = wE Y a ρ m (fun x m1 => wE Y i ρ m1 (fun y m2 => wR (idxV x y m2) Q)) := by simp only [wE, evE, wR_bind]
@[simp] theorem wE_sl {a l h : E} : wE Y (.sl a l h) ρ m Q = wE Y a ρ m (fun x m1 => wE Y l ρ m1 (fun y m2 => wE Y h ρ m2 (fun z m3 => wR (slV x y z m3) Q))) := by simp only [wE, evE, wR_bind]
@[simp] theorem wE_sl3 {a l h s : E} : wE Y (.sl3 a l h s) ρ m Q = wE Y a ρ m (fun x m1 => wE Y l ρ m1 (fun y m2 => wE Y h ρ m2 (fun z m3 => wE Y s ρ m3 (fun u m4 => wR (sl3V x y z u m4) Q)))) := by simp only [wE, evE, wR_bind]
@[simp] theorem wE_call {f : Nat} {es : Es} : wE Y (.call f es) ρ m Q = wEs Y es ρ m (fun vs m1 => wR (Y.G f vs m1) Q) := by simp only [wE, wEs, evE, wR_bind]
@[simp] theorem wE_callK {f : Nat} {es : Es} {p : List Nat} : wE Y (.callK f es p) ρ m Q = wEs Y es ρ m (fun vs m1 => wR (Y.G f (p.filterMap fun i => vs[i]?) m1) Q) := by simp only [wE, wEs, evE, wR_bind]
@[simp] theorem wE_lrange {a b : E} : wE Y (.lrange a b) ρ m Q = wE Y a ρ m (fun x m1 => wE Y b ρ m1 (fun y m2 => match x, y with | .int i, .int j => (small i = true ∧ small j = true) ∧ (rangeL i (j - i).toNat).length ≤ lim ∧ Q (.ref m2.length) (m2 ++ [.lst (rangeL i (j - i).toNat)]) | _, _ => False)) := by
  simp only [wE, evE, wR_bind]
  congr 1; funext x m1; congr 1; funext y m2
  split <;> simp
@[simp] theorem wE_blt {f : Blt} {es : Es} : wE Y (.blt f es) ρ m Q = wEs Y es ρ m (fun vs m1 => wR (bltV f vs m1) Q) := by simp only [wE, wEs, evE, wR_bind]
@[simp] theorem wE_mth {f : Mth} {o : E} {es : Es} : wE Y (.mth f o es) ρ m Q = wE Y o ρ m (fun x m1 => wR (kindM f x m1) (fun _ m2 => wEs Y es ρ m2 (fun vs m3 => wR (mthV f x vs m3) Q))) := by simp only [wE, wEs, evE, wR_bind]
@[simp] theorem wE_isin {a : E} {t : Ty} : wE Y (.isin a t) ρ m Q = wE Y a ρ m (fun x m1 => oP (isV m1 x t) (fun b => Q (.bl b) m1)) := by
  simp only [wE, evE, wR_bind]
  congr 1; funext x m1
  cases isV m1 x t <;> first | exact wR_ok | exact wR_stuck
@[simp] theorem wE_lc {e : E} {g : Gs} : wE Y (.lc e g) ρ m Q = wR (evC Y (evE Y e) g ρ m) (fun vs m1 => vs.length ≤ lim ∧ Q (.ref m1.length) (m1 ++ [.lst vs])) := by simp only [wE, evE, wR_bind, wR_newLst]
@[simp] theorem wE_all {e : E} {g : Gs} : wE Y (.all e g) ρ m Q = wR (evA Y false (evE Y e) g ρ m) (fun b m1 => Q (.bl b) m1) := by simp only [wE, evE, wR_bind, wR_pure]
@[simp] theorem wEs_nil : wEs Y .nil ρ m QL = QL [] m := by simp only [wEs, evEs, wR_pure]
@[simp] theorem wEs_cons {e : E} {r : Es} : wEs Y (.cons e r) ρ m QL = wE Y e ρ m (fun v m1 => wEs Y r ρ m1 (fun vs m2 => QL (v :: vs) m2)) := by simp only [wEs, wE, evEs, wR_bind, wR_pure]
@[simp] theorem wIt_seq {e : E} : wIt Y (.seq e) ρ m QW = wE Y e ρ m (fun v m1 => oP (seqW m1 v) (fun w => QW w m1)) := by simp only [wIt, wE, evIt, wR_bind, wR_ofO]
@[simp] theorem wIt_range {a b : E} : wIt Y (.range a b) ρ m QW = wE Y a ρ m (fun x m1 => wE Y b ρ m1 (fun y m2 => match x, y with | .int i, .int j => (small i = true ∧ small j = true) ∧ QW (rangeL i (j - i).toNat, []) m2 | _, _ => False)) := by
  simp only [wIt, wE, evIt, wR_bind]
  congr 1; funext x m1; congr 1; funext y m2
  split <;> simp
@[simp] theorem wIt_enum {e : E} : wIt Y (.enum e) ρ m QW = wE Y e ρ m (fun v m1 => oP (lstW m1 v) (fun w => QW (enumL 0 w.1, w.2) m1)) := by
  simp only [wIt, wE, evIt, wR_bind, wR_ofO]
  congr 1; funext v m1
  cases lstW m1 v <;> first | rfl | exact wR_ok | exact wR_stuck
@[simp] theorem wIt_zip {a b : E} : wIt Y (.zip a b) ρ m QW = wE Y a ρ m (fun x m1 => wE Y b ρ m1 (fun y m2 => oP (seqW m2 x) (fun u => oP (seqW m2 y) (fun w => (isTup x == isTup y) = true ∧ QW (zipL u.1 w.1, u.2 ++ w.2) m2)))) := by
  simp only [wIt, wE, evIt, wR_bind]
  congr 1; funext x m1; congr 1; funext y m2
  cases seqW m2 x <;> cases seqW m2 y <;> first | exact wR_stuck | skip
  simp only [oP_some]
  rw [wR_if]
  split <;> simp_all
@[simp] theorem wIfs_nil : wIfs Y .nil ρ m QB = QB true m := by simp only [wIfs, evIfs, wR_pure]
@[simp] theorem wIfs_cons {e : E} {r : Es} : wIfs Y (.cons e r) ρ m QB = wT Y e ρ m (fun b m1 => if b = true then wIfs Y r ρ m1 QB else QB false m1) := by
  simp only [wIfs, evIfs, wR_bind, wR_toB]
  congr 1; funext b m1
  cases b <;> simp [wIfs]
/-- one turn of a clause -/
def bodyC (Y : Sys) (f : Env → M Val) (ifs : Es) (r : Gs) : Env → M (List Val) := fun ρ' => do if (← evIfs Y ifs ρ') then evC Y f r ρ' else pure []
def bodyA (Y : Sys) (stop : Bool) (f : Env → M Val) (ifs : Es) (r : Gs) : Env → M Bool := fun ρ' => do if (← evIfs Y ifs ρ') then evA Y stop f r ρ' else pure (!stop)
theorem wC_nil {f : Env → M Val} {QL : List Val → Store → Prop} : wR (evC Y f .nil ρ m) QL = wR (f ρ m) (fun v m1 => QL [v] m1) := by simp only [evC, wR_bind, wR_pure]
theorem wC_cons {f : Env → M Val} {t : T} {it : It} {ifs : Es} {r : Gs} {QL : List Val → Store → Prop} : wR (evC Y f (.cons t it ifs r) ρ m) QL = wIt Y it ρ m (fun w m1 => wR (loopC t w.2 (wipeE ρ (slT t ++ slG r)) (bodyC Y f ifs r) w.1 m1) QL) := by simp only [evC, wR_bind, wIt]; rfl
theorem wA_nil {stop : Bool} {f : Env → M Val} : wR (evA Y stop f .nil ρ m) QB = wR (toB (f ρ) m) QB := by simp only [evA]
theorem wA_cons {stop : Bool} {f : Env → M Val} {t : T} {it : It} {ifs : Es} {r : Gs} : wR (evA Y stop f (.cons t it ifs r) ρ m) QB = wIt Y it ρ m (fun w m1 => wR (loopA t w.2 (wipeE ρ (slT t ++ slG r)) stop (bodyA Y stop f ifs r) w.1 m1) QB) := by simp only [evA, wR_bind, wIt]; rfl
/-- what a statement's end leads to -/
def kS (Y : Sys) (r : Ss) (Q : Fl → Store → Prop) (fl : Fl) (m : Store) : Prop := match fl with
  | .nx ρ => wSs Y r ρ m Q
  | fl => Q fl m
@[simp] theorem kS_nx {r : Ss} : kS Y r QS (.nx ρ) m = wSs Y r ρ m QS := rfl
@[simp] theorem kS_bk {r : Ss} : kS Y r QS (.bk ρ) m = QS (.bk ρ) m := rfl
@[simp] theorem kS_ct {r : Ss} : kS Y r QS (.ct ρ) m = QS (.ct ρ) m := rfl
@[simp] theorem kS_rt {r : Ss} {v : Val} : kS Y r QS (.rt v) m = QS (.rt v) m := rfl
@[simp] theorem wSs_nil : wSs Y .nil ρ m QS = QS (.nx ρ) m := by simp only [wSs, evSs, wR_pure]
@[simp] theorem wSs_cons {s : S} {r : Ss} : wSs Y (.cons s r) ρ m QS = wS Y s ρ m (kS Y r QS) := by
  simp only [wSs, wS, evSs]
  cases evS Y s ρ m with
  | ok fl m' => cases fl <;> simp only [wR_ok, kS_nx, kS_bk, kS_ct, kS_rt] <;> rfl
  | exc c v m' => simp only [wR_exc]
  | stuck => simp only [wR_stuck]
@[simp] theorem wS_asg {t : T} {e : E} : wS Y (.asg t e) ρ m QS = wE Y e ρ m (fun v m1 => oP (bindT t v ρ) (fun ρ' => QS (.nx ρ') m1)) := by
  simp only [wS, wE, evS, wR_bind, wR_ofO, wR_pure]
@[simp] theorem wS_sub {a i e : E} : wS Y (.sub a i e) ρ m QS = wE Y e ρ m (fun v m1 => wE Y a ρ m1 (fun x m2 => wE Y i ρ m2 (fun y m3 => wR (subV x y v m3) (fun _ m4 => QS (.nx ρ) m4)))) := by simp only [wS, wE, evS, wR_bind, wR_pure]
@[simp] theorem wS_ex {e : E} : wS Y (.ex e) ρ m QS = wE Y e ρ m (fun _ m1 => QS (.nx ρ) m1) := by simp only [wS, wE, evS, wR_bind, wR_pure]
@[simp] theorem wS_ret {e : E} : wS Y (.ret e) ρ m QS = wE Y e ρ m (fun v m1 => QS (.rt v) m1) := by simp only [wS, wE, evS, wR_bind, wR_pure]
@[simp] theorem wS_ite {c : E} {a b : Ss} : wS Y (.ite c a b) ρ m QS = wT Y c ρ m (fun r m1 => if r = true then wSs Y a ρ m1 QS else wSs Y b ρ m1 QS) := by
  simp only [wS, evS, wR_bind, wR_toB]
  congr 1; funext r m1
  cases r <;> simp [wSs]
@[simp] theorem wS_for {t : T} {it : It} {b : Ss} : wS Y (.for t it b) ρ m QS = wIt Y it ρ m (fun w m1 => wR (loopF t w.2 (evSs Y b) w.1 ρ m1) QS) := by simp only [wS, wIt, evS, wR_bind]
@[simp] theorem wS_brk : wS Y .brk ρ m QS = QS (.bk ρ) m := by simp only [wS, evS, wR_pure]
@[simp] theorem wS_cnt : wS Y .cnt ρ m QS = QS (.ct ρ) m := by simp only [wS, evS, wR_pure]
@[simp] theorem wS_pass : wS Y .pass ρ m QS = QS (.nx ρ) m := by simp only [wS, evS, wR_pure]
end
/-- a def's body: what it returns -/
def kF (Q : Val → Store → Prop) (fl : Fl) (m : Store) : Prop := match fl with
  | .rt v => Q v m
  | .nx _ => Q .non m
  | _ => False
@[simp] theorem kF_rt {Q : Val → Store → Prop} {v : Val} {m : Store} : kF Q (.rt v) m = Q v m := rfl
@[simp] theorem kF_nx {Q : Val → Store → Prop} {ρ : Env} {m : Store} : kF Q (.nx ρ) m = Q .non m := rfl
theorem wF {P : Nat → Option Fn} {con : Nat → Option Val} {n f : Nat} {d : Fn} {vs : List Val} {m : Store} {Q : Val → Store → Prop} (hP : P f = some d) (hl : vs.length = d.np) (h : wSs ⟨evF P con n, con⟩ d.body (start d.ns vs) m (kF Q)) : wR (evF P con (n + 1) f vs m) Q := by
  unfold evF
  rw [hP]
  simp only [runFn, wR_must, hl, true_and]
  unfold wSs at h
  cases hb : evSs ⟨evF P con n, con⟩ d.body (start d.ns vs) m with
  | ok fl m' =>
    rw [hb, wR_ok] at h
    cases fl <;> simp only [wR_ok] <;> first | exact h | exact h.elim
  | exc c v m' => rw [hb, wR_exc] at h; exact h.elim
  | stuck => rw [hb, wR_stuck] at h; exact h.elim

/-! ### loops -/
theorem loopF_inv {t : T} {g : List (Nat × Obj)} {b : Env → M Fl} (I : List Val → Env → Store → Prop) {Q : Fl → Store → Prop}
    (step : ∀ x xs ρ m, I (x :: xs) ρ m → guardOk m g = true ∧ ∃ ρ', bindT t x ρ = some ρ' ∧ wR (b ρ' m) (fun fl m2 => match fl with | .nx ρ2 => I xs ρ2 m2 | .ct ρ2 => I xs ρ2 m2 | .bk ρ2 => Q (.nx ρ2) m2 | .rt v => Q (.rt v) m2))
    (fin : ∀ ρ m, I [] ρ m → guardOk m g = true ∧ Q (.nx ρ) m) : ∀ (xs : List Val) (ρ : Env) (m : Store), I xs ρ m → wR (loopF t g b xs ρ m) Q
  | [], ρ, m, h => by
    obtain ⟨h1, h2⟩ := fin ρ m h
    simp only [loopF, h1, if_true, wR_ok]
    exact h2
  | x :: xs, ρ, m, h => by
    obtain ⟨h1, ρ', h2, h3⟩ := step x xs ρ m h
    simp only [loopF, h1, if_true, h2]
    cases hb : b ρ' m with
    | ok fl m2 =>
      rw [hb, wR_ok] at h3
      cases fl with
      | nx ρ2 => exact loopF_inv I step fin xs ρ2 m2 h3
      | ct ρ2 => exact loopF_inv I step fin xs ρ2 m2 h3
      | bk ρ2 => rw [wR_ok]; exact h3
      | rt v => rw [wR_ok]; exact h3
    | exc c v m2 => rw [hb, wR_exc] at h3; exact h3.elim
    | stuck => rw [hb, wR_stuck] at h3; exact h3.elim
theorem loopC_inv {t : T} {g : List (Nat × Obj)} {ρ : Env} {f : Env → M (List Val)} (I : List Val → List Val → Store → Prop)
    (step : ∀ x xs acc m, I (x :: xs) acc m → guardOk m g = true ∧ ∃ ρ', bindT t x ρ = some ρ' ∧ wR (f ρ' m) (fun a m2 => I xs (acc ++ a) m2))
    (fin : ∀ acc m, I [] acc m → guardOk m g = true) : ∀ (xs acc : List Val) (m : Store), I xs acc m → wR (loopC t g ρ f xs m) (fun vs m' => I [] (acc ++ vs) m')
  | [], acc, m, h => by
    have h1 := fin acc m h
    simp only [loopC, h1, if_true, wR_ok]
    rw [List.append_nil]
    exact h
  | x :: xs, acc, m, h => by
    obtain ⟨h1, ρ', h2, h3⟩ := step x xs acc m h
    simp only [loopC, h1, if_true, h2]
    rw [wR_bindM]
    refine h3.mono fun a m2 h4 => ?_
    rw [wR_bindM]
    refine (loopC_inv I step fin xs (acc ++ a) m2 h4).mono fun vs m3 h5 => ?_
    rw [wR_pure, ← List.append_assoc]
    exact h5
/-- the clause's things one by one, what each gives is known, K stays -/
theorem loopC_keep {t : T} {g : List (Nat × Obj)} {ρ : Env} {f : Env → M (List Val)} (K : Store → Prop) (h : Val → List Val) {xs : List Val} {m : Store}
    (hg : ∀ m, K m → guardOk m g = true) (step : ∀ x ∈ xs, ∀ m, K m → ∃ ρ', bindT t x ρ = some ρ' ∧ wR (f ρ' m) (fun a m2 => a = h x ∧ K m2)) (hK : K m) :
    wR (loopC t g ρ f xs m) (fun vs m' => vs = xs.flatMap h ∧ K m') := by
  have := loopC_inv (t := t) (g := g) (ρ := ρ) (f := f) (fun rest acc m => K m ∧ (∀ x ∈ rest, x ∈ xs) ∧ acc ++ rest.flatMap h = xs.flatMap h) (fun x rest acc m ⟨k, hs, e⟩ => ?_) (fun acc m ⟨k, _⟩ => hg m k) xs [] m ⟨hK, fun _ h => h, rfl⟩
  · refine this.mono fun vs m' ⟨k, _, e⟩ => ⟨by simpa using e, k⟩
  · obtain ⟨ρ', h1, h2⟩ := step x (hs x List.mem_cons_self) m k
    refine ⟨hg m k, ρ', h1, h2.mono fun a m2 ⟨ea, k2⟩ => ⟨k2, fun y hy => hs y (List.mem_cons_of_mem _ hy), ?_⟩⟩
    rw [ea, List.append_assoc]
    exact e
theorem loopA_keep {t : T} {g : List (Nat × Obj)} {ρ : Env} {stop : Bool} {f : Env → M Bool} (K : Store → Prop) (p : Val → Bool) (hg : ∀ m, K m → guardOk m g = true) : ∀ {xs : List Val} {m : Store},
    (∀ x ∈ xs, ∀ m, K m → ∃ ρ', bindT t x ρ = some ρ' ∧ wR (f ρ' m) (fun b m2 => b = p x ∧ K m2)) → K m → wR (loopA t g ρ stop f xs m) (fun b m' => b = (if stop then xs.any p else xs.all p) ∧ K m')
  | [], m, step, hK => by
    simp only [loopA, hg m hK, if_true, wR_ok]
    exact ⟨by cases stop <;> rfl, hK⟩
  | x :: xs, m, step, hK => by
    obtain ⟨ρ', h1, h2⟩ := step x List.mem_cons_self m hK
    simp only [loopA, hg m hK, if_true, h1]
    rw [wR_bindM]
    refine h2.mono fun b m2 ⟨eb, k2⟩ => ?_
    subst eb
    rw [wR_ifM]
    by_cases hs : (p x == stop) = true
    · rw [if_pos hs]
      simp only [wR_pure]
      refine ⟨?_, k2⟩
      have := beq_iff_eq.mp hs
      cases stop <;> simp [this]
    · rw [if_neg hs]
      refine (loopA_keep K p hg (fun y hy => step y (List.mem_cons_of_mem _ hy)) k2).mono fun b m3 ⟨e, k3⟩ => ⟨?_, k3⟩
      rw [e]
      have : p x ≠ stop := fun e => hs (by simp [e])
      cases stop <;> cases hp : p x <;> simp_all
section
variable {Y : Sys} {ρ : Env} {m : Store} {e e2 : E} {r : Gs} {stop : Bool} {QL : List Val → Store → Prop} {QB : Bool → Store → Prop}
theorem bC_0 : wR (bodyC Y (evE Y e) .nil .nil ρ m) QL = wE Y e ρ m (fun v m1 => QL [v] m1) := by
  unfold bodyC wE
  simp only [wR_bind, evIfs, wR_pure, if_true, evC]
theorem bC_1 : wR (bodyC Y (evE Y e) (.cons e2 .nil) .nil ρ m) QL = wT Y e2 ρ m (fun b m1 => if b = true then wE Y e ρ m1 (fun v m2 => QL [v] m2) else QL [] m1) := by
  have := @wIfs_cons Y ρ m (fun b m1 => wR ((if b = true then evC Y (evE Y e) .nil ρ else pure [] : M (List Val)) m1) QL) e2 .nil
  unfold wIfs at this
  unfold bodyC
  simp only [wR_bind]
  rw [this]
  congr 1
  funext b m1
  cases b with
  | true => simp [evIfs, evC, wE]
  | false => simp
theorem bC_g {t : T} {it : It} {ifs : Es} : wR (bodyC Y (evE Y e) .nil (.cons t it ifs r) ρ m) QL = wR (evC Y (evE Y e) (.cons t it ifs r) ρ m) QL := by
  unfold bodyC
  simp only [wR_bind, evIfs, wR_pure, if_true]
theorem bA_0 : wR (bodyA Y stop (evE Y e) .nil .nil ρ m) QB = wT Y e ρ m QB := by
  unfold bodyA
  simp only [wR_bind, evIfs, wR_pure, if_true, evA, wR_toB]
theorem bA_g {t : T} {it : It} {ifs : Es} : wR (bodyA Y stop (evE Y e) .nil (.cons t it ifs r) ρ m) QB = wR (evA Y stop (evE Y e) (.cons t it ifs r) ρ m) QB := by
  unfold bodyA
  simp only [wR_bind, evIfs, wR_pure, if_true]
end
end Ev
namespace Ev
theorem loopA_map {β : Type} {t : T} {g : List (Nat × Obj)} {ρ : Env} {stop : Bool} {f : Env → M Bool} (fv : β → Val) (K : Store → Prop) (p : β → Bool) (hg : ∀ m, K m → guardOk m g = true) : ∀ {ws : List β} {m : Store},
    (∀ x ∈ ws, ∀ m, K m → ∃ ρ', bindT t (fv x) ρ = some ρ' ∧ wR (f ρ' m) (fun b m2 => b = p x ∧ K m2)) → K m → wR (loopA t g ρ stop f (ws.map fv) m) (fun b m' => b = (if stop then ws.any p else ws.all p) ∧ K m')
  | [], m, step, hK => by
    simp only [List.map_nil, loopA, hg m hK, if_true, wR_ok]
    exact ⟨by cases stop <;> rfl, hK⟩
  | x :: xs, m, step, hK => by
    obtain ⟨ρ', h1, h2⟩ := step x List.mem_cons_self m hK
    simp only [List.map_cons, loopA, hg m hK, if_true, h1]
    rw [wR_bindM]
    refine h2.mono fun b m2 ⟨eb, k2⟩ => ?_
    subst eb
    rw [wR_ifM]
    by_cases hs : (p x == stop) = true
    · rw [if_pos hs]
      simp only [wR_pure]
      refine ⟨?_, k2⟩
      have := beq_iff_eq.mp hs
      cases stop <;> simp [this]
    · rw [if_neg hs]
      refine (loopA_map fv K p hg (fun y hy => step y (List.mem_cons_of_mem _ hy)) k2).mono fun b m3 ⟨e, k3⟩ => ⟨?_, k3⟩
      rw [e]
      have : p x ≠ stop := fun e => hs (by simp [e])
      cases stop <;> cases hp : p x <;> simp_all
theorem loopC_map {β : Type} {t : T} {g : List (Nat × Obj)} {ρ : Env} {f : Env → M (List Val)} (fv : β → Val) (K : Store → Prop) (h : β → List Val) (hg : ∀ m, K m → guardOk m g = true) : ∀ {ws : List β} {m : Store},
    (∀ x ∈ ws, ∀ m, K m → ∃ ρ', bindT t (fv x) ρ = some ρ' ∧ wR (f ρ' m) (fun a m2 => a = h x ∧ K m2)) → K m → wR (loopC t g ρ f (ws.map fv) m) (fun vs m' => vs = ws.flatMap h ∧ K m')
  | [], m, step, hK => by
    simp only [List.map_nil, loopC, hg m hK, if_true, wR_ok]
    exact ⟨rfl, hK⟩
  | x :: xs, m, step, hK => by
    obtain ⟨ρ', h1, h2⟩ := step x List.mem_cons_self m hK
    simp only [List.map_cons, loopC, hg m hK, if_true, h1]
    rw [wR_bindM]
    refine h2.mono fun a m2 ⟨ea, k2⟩ => ?_
    rw [wR_bindM]
    refine (loopC_map fv K h hg (fun y hy => step y (List.mem_cons_of_mem _ hy)) k2).mono fun vs m3 ⟨e, k3⟩ => ?_
    rw [wR_pure]
    refine ⟨?_, k3⟩
    rw [ea, e]
    rfl
/-- a loop over things one by one: K tells what holds ahead of those that are left -/
theorem loopF_map {β : Type} {t : T} {g : List (Nat × Obj)} {b : Env → M Fl} (fv : β → Val) (I : List β → Env → Store → Prop) {Q : Fl → Store → Prop}
    (step : ∀ x xs ρ m, I (x :: xs) ρ m → guardOk m g = true ∧ ∃ ρ', bindT t (fv x) ρ = some ρ' ∧ wR (b ρ' m) (fun fl m2 => match fl with | .nx ρ2 => I xs ρ2 m2 | .ct ρ2 => I xs ρ2 m2 | .bk ρ2 => Q (.nx ρ2) m2 | .rt v => Q (.rt v) m2))
    (fin : ∀ ρ m, I [] ρ m → guardOk m g = true ∧ Q (.nx ρ) m) : ∀ (xs : List β) (ρ : Env) (m : Store), I xs ρ m → wR (loopF t g b (xs.map fv) ρ m) Q
  | [], ρ, m, h => by
    obtain ⟨h1, h2⟩ := fin ρ m h
    simp only [List.map_nil, loopF, h1, if_true, wR_ok]
    exact h2
  | x :: xs, ρ, m, h => by
    obtain ⟨h1, ρ', h2, h3⟩ := step x xs ρ m h
    simp only [List.map_cons, loopF, h1, if_true, h2]
    cases hb : b ρ' m with
    | ok fl m2 =>
      rw [hb, wR_ok] at h3
      cases fl with
      | nx ρ2 => exact loopF_map fv I step fin xs ρ2 m2 h3
      | ct ρ2 => exact loopF_map fv I step fin xs ρ2 m2 h3
      | bk ρ2 => rw [wR_ok]; exact h3
      | rt v => rw [wR_ok]; exact h3
    | exc c v m2 => rw [hb, wR_exc] at h3; exact h3.elim
    | stuck => rw [hb, wR_stuck] at h3; exact h3.elim
end Ev
end

section
/-! Md: machines, words as plain data, and as values. -/
namespace Ev
theorem eq_of_wR {α : Type} {r : R α} {v : α} {m : Store} (h : wR r (fun a m' => a = v ∧ m' = m)) : r = .ok v m := by
  obtain ⟨a, m', e, rfl, rfl⟩ := wR_iff.mp h
  exact e
abbrev iv (n : Nat) : Val := .int (n : Int)
abbrev Ent := Nat × Nat
def entV (e : Ent) : Val := .tup [iv e.1, iv e.2]
def rowV (r : List Ent) : Val := .tup (r.map entV)
structure Mc where
  L : Nat
  A : Nat
  rows : List (List Ent)
  deriving DecidableEq, Repr
def mcV (M : Mc) : Val := .tup [iv M.L, iv M.A, .tup (M.rows.map rowV)]
def wdV (w : List Nat) : Val := .tup (w.map iv)
/-- a machine as the document says -/
structure Mc.Ok (M : Mc) : Prop where
  l1 : 1 ≤ M.L
  l3 : M.L ≤ 3
  a2 : 2 ≤ M.A
  a9 : M.A ≤ 9
  s1 : 1 ≤ M.rows.length
  s12 : M.rows.length ≤ 12
  row : ∀ r ∈ M.rows, r.length = M.L
  ent : ∀ r ∈ M.rows, ∀ e ∈ r, e.1 < M.rows.length ∧ e.2 < M.A
def Mc.n (M : Mc) : Nat := M.rows.length
def Mc.rw (M : Mc) (s : Nat) : List Ent := M.rows.getD s []
def Mc.at (M : Mc) (s a : Nat) : Ent := (M.rw s).getD a (0, 0)
theorem Mc.row_at {M : Mc} (h : M.Ok) {s : Nat} (hs : s < M.n) : M.rows[s]? = some (M.rw s) ∧ (M.rw s).length = M.L ∧ M.rw s ∈ M.rows := by
  have e : M.rows[s]? = some M.rows[s] := List.getElem?_eq_getElem hs
  have e2 : M.rw s = M.rows[s] := by unfold Mc.rw; rw [List.getD_eq_getElem?_getD, e]; rfl
  rw [e2]
  exact ⟨e, h.row _ (List.getElem_mem _), List.getElem_mem _⟩
theorem Mc.ent_at {M : Mc} (h : M.Ok) {s a : Nat} (hs : s < M.n) (ha : a < M.L) : (M.rw s)[a]? = some (M.at s a) ∧ (M.at s a).1 < M.n ∧ (M.at s a).2 < M.A := by
  obtain ⟨h1, h2, h3⟩ := Mc.row_at h hs
  have hl : a < (M.rw s).length := by rw [h2]; exact ha
  have e : (M.rw s)[a]? = some (M.rw s)[a] := List.getElem?_eq_getElem hl
  have e2 : M.at s a = (M.rw s)[a] := by
    unfold Mc.at
    rw [List.getD_eq_getElem?_getD, e]; rfl
  rw [e2]
  exact ⟨e, h.ent _ h3 _ (List.getElem_mem _)⟩
/-- the answers to a word, from a state -/
def Mc.run (M : Mc) : Nat → List Nat → List Nat × Nat
  | s, [] => ([], s)
  | s, a :: w => ((M.at s a).2 :: (Mc.run M (M.at s a).1 w).1, (Mc.run M (M.at s a).1 w).2)

/-! ### the store's change -/
/-- only places in S may differ; there may be more -/
structure Fr (S : List Nat) (m m' : Store) : Prop where
  le : m.length ≤ m'.length
  same : ∀ i, i < m.length → i ∉ S → m'[i]? = m[i]?
theorem Fr.refl {S : List Nat} {m : Store} : Fr S m m := ⟨Nat.le_refl _, fun _ _ _ => rfl⟩
theorem Fr.trans {S : List Nat} {m m1 m2 : Store} (a : Fr S m m1) (b : Fr S m1 m2) : Fr S m m2 := ⟨Nat.le_trans a.le b.le, fun i h1 h2 => (b.same i (Nat.lt_of_lt_of_le h1 a.le) h2).trans (a.same i h1 h2)⟩
theorem Fr.mono {S T : List Nat} {m m1 : Store} (a : Fr S m m1) (h : ∀ i ∈ S, i ∈ T) : Fr T m m1 := ⟨a.le, fun i h1 h2 => a.same i h1 fun h3 => h2 (h i h3)⟩
theorem Fr.nil {S : List Nat} {m m1 : Store} (a : Fr [] m m1) : Fr S m m1 := a.mono fun _ h => nomatch h
theorem Fr.app {S : List Nat} {m l : Store} : Fr S m (m ++ l) := ⟨by simp, fun i h _ => List.getElem?_append_left h⟩
theorem Fr.set {S : List Nat} {m : Store} {i : Nat} {o : Obj} (h : i ∈ S) : Fr S m (m.set i o) := ⟨by simp, fun j h1 h2 => by
  rw [List.getElem?_set_ne]
  rintro rfl
  exact h2 h⟩
theorem Fr.setN {S : List Nat} {m m1 : Store} {i : Nat} {o : Obj} (a : Fr S m m1) (h : m.length ≤ i) : Fr S m (m1.set i o) := ⟨by simp; exact a.le, fun j h1 h2 => by
  rw [List.getElem?_set_ne (by omega)]
  exact a.same j h1 h2⟩
theorem Fr.lt {S : List Nat} {m m1 : Store} {i : Nat} {o : Obj} (a : Fr S m m1) (h : m[i]? = some o) (hs : i ∉ S) : m1[i]? = some o := by
  have hl : i < m.length := by
    rcases Nat.lt_or_ge i m.length with h1 | h1
    · exact h1
    · rw [List.getElem?_eq_none h1] at h; cases h
  rw [a.same i hl hs]; exact h
theorem Fr.get {m m1 : Store} {i : Nat} {o : Obj} (a : Fr [] m m1) (h : m[i]? = some o) : m1[i]? = some o := a.lt h (fun h => nomatch h)
theorem lt_of_get {m : Store} {i : Nat} {o : Obj} (h : m[i]? = some o) : i < m.length := by
  rcases Nat.lt_or_ge i m.length with h1 | h1
  · exact h1
  · rw [List.getElem?_eq_none h1] at h; cases h
@[simp] theorem get_new {m : Store} {o : Obj} : (m ++ [o])[m.length]? = some o := by simp
theorem get_set {m : Store} {i : Nat} {o o' : Obj} (h : m[i]? = some o) : (m.set i o')[i]? = some o' := by
  rw [List.getElem?_set_self (lt_of_get h)]

/-! ### small facts of values -/
@[simp] theorem ixOf_nat {n k : Nat} : ixOf n (k : Int) = if k < n then some k else none := by
  unfold ixOf
  by_cases h : k < n
  · simp [h]
  · simp [h]
@[simp] theorem ixOf_0 {n : Nat} : ixOf (n + 1) 0 = some 0 := by unfold ixOf; simp
@[simp] theorem ixOf_1 {n : Nat} : ixOf (n + 2) 1 = some 1 := by unfold ixOf; simp; omega
@[simp] theorem ixOf_2 {n : Nat} : ixOf (n + 3) 2 = some 2 := by unfold ixOf; simp; omega
theorem eqM_int {m : Store} {i j : Int} : eqM m (.int i) (.int j) = some (decide (i = j)) := by
  simp [eqM, Val.flat, Val.sok, Val.dep, Val.eqv]
  by_cases h : i = j <;> simp [h]
theorem rangeL_map {n : Nat} : ∀ {lo : Nat}, rangeL (lo : Int) n = (List.range' lo n).map iv := by
  induction n with
  | zero => intro lo; rfl
  | succ n ih =>
    intro lo
    rw [rangeL, List.range'_succ, List.map_cons]
    have := @ih (lo + 1)
    rw [← this]
    rfl
theorem rangeL_0 {n : Nat} : rangeL 0 n = (List.range n).map iv := by
  rw [List.range_eq_range']
  exact rangeL_map (lo := 0)
theorem small_nat {n : Nat} (h : n < 1000000) : small (n : Int) = true := by
  unfold small
  rw [decide_eq_true_eq]
  have : ((n : Int)).natAbs = n := rfl
  rw [this]
  exact Nat.lt_trans h (by decide)
theorem small_0 : small 0 = true := by decide
theorem lim_num : lim = 16777216 := rfl
end Ev
namespace Ev
section
variable {M : Mc} {s a : Nat} {m : Store} {e : Ent}
theorem idx_row (h : M.Ok) (hs : s < M.n) : idxV (.tup (M.rows.map rowV)) (iv s) m = .ok (rowV (M.rw s)) m := by
  obtain ⟨h1, _, _⟩ := Mc.row_at h hs
  have hs' : s < M.rows.length := hs
  simp only [idxV, ixOf_nat, List.length_map, hs', if_true, List.getElem?_map, h1, Option.map_some]
theorem idx_ent (h : M.Ok) (hs : s < M.n) (ha : a < M.L) : idxV (rowV (M.rw s)) (iv a) m = .ok (entV (M.at s a)) m := by
  obtain ⟨_, h2, _⟩ := Mc.row_at h hs
  obtain ⟨h1, _⟩ := Mc.ent_at h hs ha
  simp only [rowV, idxV, ixOf_nat, List.length_map, h2, ha, if_true, List.getElem?_map, h1, Option.map_some]
theorem idx_e0 : idxV (entV e) (.int 0) m = .ok (iv e.1) m := rfl
theorem idx_e1 : idxV (entV e) (.int 1) m = .ok (iv e.2) m := rfl
theorem idx_m0 : idxV (mcV M) (.int 0) m = .ok (iv M.L) m := rfl
theorem idx_m1 : idxV (mcV M) (.int 1) m = .ok (iv M.A) m := rfl
theorem idx_m2 : idxV (mcV M) (.int 2) m = .ok (.tup (M.rows.map rowV)) m := rfl
theorem entV_ne : entV e ≠ .non := fun h => nomatch h
theorem wdV_ne {w : List Nat} : wdV w ≠ .non := fun h => nomatch h
theorem tup_ne {xs : List Val} : Val.tup xs ≠ .non := fun h => nomatch h
theorem seqW_wd {w : List Nat} : seqW m (wdV w) = some (w.map iv, []) := rfl
theorem seqW_row {r : List Ent} : seqW m (rowV r) = some (r.map entV, []) := rfl
theorem seqW_tup {xs : List Val} : seqW m (.tup xs) = some (xs, []) := rfl
end
theorem Mc.run_app {M : Mc} : ∀ {w v : List Nat} {s : Nat}, M.run s (w ++ v) = ((M.run s w).1 ++ (M.run (M.run s w).2 v).1, (M.run (M.run s w).2 v).2)
  | [], v, s => rfl
  | a :: w, v, s => by
    show ((M.at s a).2 :: (M.run (M.at s a).1 (w ++ v)).1, (M.run (M.at s a).1 (w ++ v)).2) = _
    rw [Mc.run_app (w := w)]
    rfl
theorem Mc.run_lt {M : Mc} (h : M.Ok) : ∀ {w : List Nat} {s : Nat}, s < M.n → (∀ a ∈ w, a < M.L) → (M.run s w).2 < M.n
  | [], s, hs, _ => hs
  | a :: w, s, hs, hw => Mc.run_lt h (w := w) (Mc.ent_at h hs (hw a List.mem_cons_self)).2.1 fun b hb => hw b (List.mem_cons_of_mem _ hb)
theorem Mc.run_len {M : Mc} : ∀ {w : List Nat} {s : Nat}, (M.run s w).1.length = w.length
  | [], s => rfl
  | a :: w, s => congrArg (· + 1) (Mc.run_len (w := w))
end Ev
namespace Ev
theorem flats_iv : ∀ w : List Nat, Val.flats (w.map iv) = true
  | [] => rfl
  | _ :: w => by simp [Val.flats, Val.flat, flats_iv w]
theorem soks_iv : ∀ w : List Nat, Val.soks (w.map iv) = true
  | [] => rfl
  | _ :: w => by simp [Val.soks, Val.sok, soks_iv w]
theorem deps_iv : ∀ w : List Nat, Val.deps (w.map iv) = 0
  | [] => rfl
  | _ :: w => by simp [Val.deps, Val.dep, deps_iv w]
theorem eqvs_iv : ∀ a b : List Nat, Val.eqvs (a.map iv) (b.map iv) = decide (a = b)
  | [], [] => by simp [Val.eqvs]
  | [], _ :: _ => by simp [Val.eqvs]
  | _ :: _, [] => by simp [Val.eqvs]
  | x :: a, y :: b => by
    simp only [List.map_cons, Val.eqvs, Val.eqv, eqvs_iv a b]
    by_cases h : x = y
    · subst h; simp
    · have : ((x : Int) == (y : Int)) = false := by simp; omega
      simp [this, h]
theorem alks_iv : ∀ a b : List Nat, alks (a.map iv) (b.map iv) = true
  | [], _ => by simp [alks]
  | _ :: _, [] => by simp [alks]
  | _ :: a, _ :: b => by simp [alks, alk, alks_iv a b]
theorem ltBs_iv : ∀ a b : List Nat, ltBs (a.map iv) (b.map iv) = decide (a < b)
  | [], [] => by simp [ltBs]
  | [], _ :: _ => by simp [ltBs]
  | _ :: _, [] => by simp [ltBs]
  | x :: a, y :: b => by
    simp only [List.map_cons, ltBs, ltBs_iv a b, Val.eqv, ltB]
    by_cases h : x = y
    · subst h; simp [List.cons_lt_cons_iff]
    · have : ((x : Int) == (y : Int)) = false := by simp; omega
      simp only [this, Bool.false_eq_true, if_false]
      have h2 : ((x : Int) < (y : Int)) ↔ x < y := Int.ofNat_lt
      by_cases h3 : x < y
      · simp [h2, h3, List.cons_lt_cons_iff]
      · simp [h2, h3, h, List.cons_lt_cons_iff]
theorem datOk_wd {w : List Nat} : datOk (wdV w) = true := by simp [datOk, wdV, Val.flat, Val.sok, Val.dep, flats_iv, soks_iv, deps_iv]
theorem eqM_wd {m : Store} {a b : List Nat} : eqM m (wdV a) (wdV b) = some (decide (a = b)) := by
  simp [eqM, wdV, Val.flat, Val.sok, Val.dep, Val.eqv, flats_iv, soks_iv, deps_iv, eqvs_iv]
theorem lt_wd {m : Store} {a b : List Nat} : cmpV .lt (wdV a) (wdV b) m = .ok (decide (a < b)) m := by
  have h1 := datOk_wd (w := a)
  have h2 := datOk_wd (w := b)
  simp only [wdV] at h1 h2
  simp [cmpV, wdV, h1, h2, alks_iv, ltBs_iv]
theorem cut1 {xs : List Val} : cutV xs (some 1) none = xs.drop 1 := by
  unfold cutV sIx
  cases xs with
  | nil => simp
  | cons x xs => simp
theorem zip_rise : ∀ {ws : List (List Nat)}, ws.Pairwise (· < ·) → ∀ v ∈ zipL (ws.map wdV) ((ws.map wdV).drop 1), ∃ a b, v = .tup [wdV a, wdV b] ∧ a < b
  | [], _, v, h => nomatch h
  | [a], _, v, h => nomatch h
  | a :: b :: ws, hp, v, h => by
    rcases List.mem_cons.mp (show v ∈ Val.tup [wdV a, wdV b] :: zipL ((b :: ws).map wdV) (((b :: ws).map wdV).drop 1) from h) with rfl | h
    · exact ⟨a, b, rfl, (List.pairwise_cons.mp hp).1 b List.mem_cons_self⟩
    · exact zip_rise (List.pairwise_cons.mp hp).2 v h
/-- which machines answer a suite alike -/
def Mc.pass (M M' : Mc) (ws : List (List Nat)) : Bool := ws.all fun w => decide ((M.run 0 w).1 = (M'.run 0 w).1)
/-- a suite -/
structure SuOk (L : Nat) (ws : List (List Nat)) : Prop where
  len : ws.length ≤ 200
  wl : ∀ w ∈ ws, w.length ≤ 600
  let_ : ∀ w ∈ ws, ∀ a ∈ w, a < L
  up : ws.Pairwise (· < ·)
def suV (ws : List (List Nat)) : Val := .tup (ws.map wdV)
end Ev
namespace Ev
theorem erase_map {α β : Type} (f : α → β) : ∀ (l : List α) (i : Nat), (l.map f).eraseIdx i = (l.eraseIdx i).map f
  | [], i => rfl
  | x :: l, 0 => rfl
  | x :: l, i + 1 => by simp [erase_map f l i]
theorem erase_perm {α : Type} : ∀ (l : List α) (i : Nat) (h : i < l.length), (l[i] :: l.eraseIdx i).Perm l
  | [], i, h => by simp at h
  | x :: l, 0, h => by simp
  | x :: l, i + 1, h => by
    have := erase_perm l i (by simpa using h)
    simp only [List.getElem_cons_succ, List.eraseIdx_cons_succ]
    exact (List.Perm.swap _ _ _).trans (this.cons x)
end Ev
end

section
/-! Mp: the search for a parting word, as plain data. -/
namespace Ev
abbrev Tr := Nat × Nat × List Nat
def Tr.pr (t : Tr) : Nat × Nat := (t.1, t.2.1)
section
variable (M M' : Mc)
def pIn (o t : Nat) (w : List Nat) : List Nat → List Tr → (List Nat) ⊕ (List Tr)
  | [], wt => .inr wt
  | a :: as, wt => if (M.at o a).2 = (M'.at t a).2 then (if ((M.at o a).1, (M'.at t a).1) ∈ wt.map Tr.pr then pIn o t w as wt else pIn o t w as (wt ++ [((M.at o a).1, (M'.at t a).1, w ++ [a])])) else .inl (w ++ [a])
def pOut : List Nat → List Tr → Option (List Nat)
  | [], _ => none
  | k :: ks, wt => if k = wt.length then none else match wt[k]? with
    | none => none
    | some (o, t, w) => match pIn M M' o t w (List.range M.L) wt with
      | .inl v => some v
      | .inr wt' => pOut ks wt'
def part (s t c : Nat) : Option (List Nat) := pOut M M' (List.range c) [(s, t, [])]
end
variable {M M' : Mc}
/-- the pairs are in the bounds, each once -/
structure WtOk (n n' : Nat) (wt : List Tr) : Prop where
  bd : ∀ t ∈ wt, t.1 < n ∧ t.2.1 < n'
  nd : (wt.map Tr.pr).Nodup
theorem sub_len {α : Type} [DecidableEq α] : ∀ {l r : List α}, l.Nodup → (∀ x ∈ l, x ∈ r) → l.length ≤ r.length
  | [], r, _, _ => Nat.zero_le _
  | x :: l, r, hn, hs => by
    have hx := hs x List.mem_cons_self
    rw [List.nodup_cons] at hn
    have := sub_len (l := l) (r := r.erase x) hn.2 fun y hy => (List.mem_erase_of_ne (fun e => hn.1 (by rw [← e]; exact hy))).mpr (hs y (List.mem_cons_of_mem _ hy))
    rw [List.length_erase_of_mem hx] at this
    have h0 := List.length_pos_of_mem hx
    simp only [List.length_cons]
    omega
theorem WtOk.len {n n' : Nat} {wt : List Tr} (h : WtOk n n' wt) : wt.length ≤ n * n' := by
  have h1 : ((wt.map Tr.pr).map fun p => p.1 * n' + p.2).Nodup := by
    rw [List.nodup_iff_pairwise_ne, List.pairwise_map]
    refine h.nd.imp_of_mem fun {p q} hp hq hne e => hne ?_
    obtain ⟨t, ht, rfl⟩ := List.mem_map.mp hp
    obtain ⟨u, hu, rfl⟩ := List.mem_map.mp hq
    have b1 := (h.bd t ht).2
    have b2 := (h.bd u hu).2
    have e' : t.1 * n' + t.2.1 = u.1 * n' + u.2.1 := e
    have e1 : t.1 = u.1 := by
      have k1 : (t.1 * n' + t.2.1) / n' = t.1 := by rw [Nat.mul_comm, Nat.mul_add_div (by omega), Nat.div_eq_of_lt b1]; rfl
      have k2 : (u.1 * n' + u.2.1) / n' = u.1 := by rw [Nat.mul_comm, Nat.mul_add_div (by omega), Nat.div_eq_of_lt b2]; rfl
      rw [← k1, ← k2, e']
    have e2 : t.2.1 = u.2.1 := by rw [e1] at e'; omega
    show (t.1, t.2.1) = (u.1, u.2.1)
    rw [e1, e2]
  have h2 := sub_len (r := List.range (n * n')) h1 fun x hx => by
    obtain ⟨p, hp, rfl⟩ := List.mem_map.mp hx
    obtain ⟨t, ht, rfl⟩ := List.mem_map.mp hp
    have b := h.bd t ht
    rw [List.mem_range]
    show t.1 * n' + t.2.1 < n * n'
    have : (t.1 + 1) * n' ≤ n * n' := Nat.mul_le_mul_right _ b.1
    rw [Nat.succ_mul] at this
    omega
  simpa using h2
theorem WtOk.add {n n' : Nat} {wt : List Tr} (h : WtOk n n' wt) {t : Tr} (h1 : t.1 < n) (h2 : t.2.1 < n') (h3 : t.pr ∉ wt.map Tr.pr) : WtOk n n' (wt ++ [t]) := by
  refine ⟨fun u hu => ?_, ?_⟩
  · rcases List.mem_append.mp hu with hu | hu
    · exact h.bd u hu
    · rw [List.mem_singleton.mp hu]; exact ⟨h1, h2⟩
  · rw [List.map_append, List.nodup_append]
    exact ⟨h.nd, by simp, fun a ha b hb e => h3 (by simp at hb; rw [← hb, ← e]; exact ha)⟩
theorem pIn_ok (h : M.Ok) (h' : M'.Ok) (hL : M'.L = M.L) {o t : Nat} {w : List Nat} (ho : o < M.n) (ht : t < M'.n) : ∀ {as : List Nat} {wt wt' : List Tr}, (∀ a ∈ as, a < M.L) → WtOk M.n M'.n wt → pIn M M' o t w as wt = .inr wt' → WtOk M.n M'.n wt' ∧ wt.length ≤ wt'.length
  | [], wt, wt', _, hw, e => by cases e; exact ⟨hw, Nat.le_refl _⟩
  | a :: as, wt, wt', ha, hw, e => by
    have h1 := (Mc.ent_at h ho (ha a List.mem_cons_self)).2
    have h2 := (Mc.ent_at h' ht (by rw [hL]; exact ha a List.mem_cons_self)).2
    have hr := fun b hb => ha b (List.mem_cons_of_mem _ hb)
    unfold pIn at e
    split at e
    · split at e
      · exact pIn_ok h h' hL ho ht hr hw e
      · rename_i hn
        obtain ⟨k1, k2⟩ := pIn_ok h h' hL ho ht hr (hw.add (t := ((M.at o a).1, (M'.at t a).1, w ++ [a])) h1.1 h2.1 hn) e
        exact ⟨k1, by simp at k2; omega⟩
    · cases e
/-- one turn more tells nothing new -/
theorem pOut_more (h : M.Ok) (h' : M'.Ok) (hL : M'.L = M.L) : ∀ (d k : Nat) (wt : List Tr), k + d = M.n * M'.n → k ≤ wt.length → WtOk M.n M'.n wt → pOut M M' (List.range' k d) wt = pOut M M' (List.range' k (d + 1)) wt
  | 0, k, wt, hk, hl, hw => by
    have := hw.len
    have e : k = wt.length := by omega
    show none = pOut M M' [k] wt
    rw [pOut, if_pos e]
  | d + 1, k, wt, hk, hl, hw => by
    rw [List.range'_succ, List.range'_succ, pOut, pOut]
    by_cases e : k = wt.length
    · rw [if_pos e, if_pos e]
    · rw [if_neg e, if_neg e]
      have hlt : k < wt.length := by omega
      have hg : wt[k]? = some wt[k] := List.getElem?_eq_getElem hlt
      rw [hg]
      obtain ⟨b1, b2⟩ := hw.bd _ (List.getElem_mem hlt)
      rcases hq : wt[k] with ⟨o, t, w⟩
      rw [hq] at b1 b2
      cases hp : pIn M M' o t w (List.range M.L) wt with
      | inl v => simp only [hp]
      | inr wt' =>
        obtain ⟨k1, k2⟩ := pIn_ok h h' hL b1 b2 (fun a ha => by simpa using ha) hw hp
        simp only [hp]
        exact pOut_more h h' hL d (k + 1) wt' (by omega) (by omega) k1
theorem part_more (h : M.Ok) (h' : M'.Ok) (hL : M'.L = M.L) {s t : Nat} (hs : s < M.n) (ht : t < M'.n) : part M M' s t (M.n * M'.n) = part M M' s t (M.n * M'.n + 1) := by
  unfold part
  rw [List.range_eq_range', List.range_eq_range']
  exact pOut_more h h' hL _ 0 _ (by omega) (by simp) ⟨fun u hu => by rw [List.mem_singleton.mp hu]; exact ⟨hs, ht⟩, by simp⟩
def trV (t : Tr) : Val := .tup [iv t.1, iv t.2.1, wdV t.2.2]
def kpV (t : Tr) : Val × Val := (.tup [iv t.1, iv t.2.1], .bl true)
def opV : Option (List Nat) → Val
  | none => .non
  | some w => wdV w
theorem iv_inj {a b : Nat} (h : iv a = iv b) : a = b := by
  unfold iv at h
  injection h with h
  omega
theorem pairV_inj {a b c d : Nat} (h : Val.tup [iv a, iv b] = .tup [iv c, iv d]) : a = c ∧ b = d := by
  injection h with h
  simp only [List.cons.injEq, and_true] at h
  exact ⟨iv_inj h.1, iv_inj h.2⟩
theorem has_kp {a b : Nat} : ∀ {wt : List Tr}, hasK (wt.map kpV) (.tup [iv a, iv b]) = decide ((a, b) ∈ wt.map Tr.pr)
  | [] => by simp [hasK, findK]
  | t :: wt => by
    have ih := has_kp (a := a) (b := b) (wt := wt)
    unfold hasK at ih ⊢
    rw [List.map_cons, List.map_cons]
    show (findK ((.tup [iv t.1, iv t.2.1], .bl true) :: wt.map kpV) _).isSome = _
    rw [findK]
    by_cases e : Val.tup [iv t.1, iv t.2.1] = .tup [iv a, iv b]
    · obtain ⟨e1, e2⟩ := pairV_inj e
      rw [if_pos e]
      have : (a, b) ∈ Tr.pr t :: wt.map Tr.pr := by
        rw [← e1, ← e2]; exact List.mem_cons_self
      simp [this]
    · rw [if_neg e, ih]
      have hne : (a, b) ≠ Tr.pr t := fun h => e (by
        unfold Tr.pr at h
        injection h with h1 h2
        rw [h1, h2])
      simp [hne]
theorem key_kp {a b : Nat} {wt : List Tr} (h : wt ≠ []) : keyFor ((wt.map kpV).map (·.1)) (.tup [iv a, iv b]) = true := by
  unfold keyFor
  have h1 : okKey (.tup [iv a, iv b]) = true := by simp [okKey, isIS]
  have h2 : (((wt.map kpV).map (·.1)).all fun x => isTup x == isTup (.tup [iv a, iv b])) = true := by
    rw [List.all_eq_true]
    intro x hx
    obtain ⟨p, hp, rfl⟩ := List.mem_map.mp hx
    obtain ⟨t, _, rfl⟩ := List.mem_map.mp hp
    rfl
  have h3 : ((wt.map kpV).map (·.1)).isEmpty = false := by
    cases wt with
    | nil => exact absurd rfl h
    | cons t wt => rfl
  rw [h1, h2, h3]
  rfl
theorem put_kp {a b : Nat} {w : List Nat} {wt : List Tr} (h : (a, b) ∉ wt.map Tr.pr) : putKs (wt.map kpV) (.tup [iv a, iv b]) (.bl true) = (wt ++ [(a, b, w)]).map kpV := by
  unfold putKs
  have : ¬ ((wt.map kpV).any fun p => decide (p.1 = Val.tup [iv a, iv b])) = true := by
    rw [List.any_eq_true]
    rintro ⟨p, hp, e⟩
    obtain ⟨t, ht, rfl⟩ := List.mem_map.mp hp
    obtain ⟨e1, e2⟩ := pairV_inj (of_decide_eq_true e)
    exact h (List.mem_map.mpr ⟨t, ht, by unfold Tr.pr; rw [e1, e2]⟩)
  rw [if_neg this, List.map_append]
  rfl
end Ev
end

section
/-! Ma: the states that are reached, as plain data. -/
namespace Ev
abbrev Aw := Nat × List Nat
def kvA (q : Aw) : Val × Val := (iv q.1, wdV q.2)
def lkA : List Aw → Nat → Option (List Nat)
  | [], _ => none
  | q :: r, s => if q.1 = s then some q.2 else lkA r s
theorem find_A {s : Nat} : ∀ {wl : List Aw}, findK (wl.map kvA) (iv s) = (lkA wl s).map wdV
  | [] => rfl
  | q :: wl => by
    show findK ((iv q.1, wdV q.2) :: wl.map kvA) (iv s) = _
    rw [findK, lkA]
    by_cases h : q.1 = s
    · rw [if_pos h, if_pos (by rw [h])]; rfl
    · rw [if_neg h, if_neg (fun e => h (iv_inj e)), find_A]
theorem lk_mem {s : Nat} : ∀ {wl : List Aw}, (lkA wl s).isSome = decide (s ∈ wl.map (·.1))
  | [] => rfl
  | q :: wl => by
    rw [lkA]
    by_cases h : q.1 = s
    · rw [if_pos h]; simp [h]
    · rw [if_neg h, lk_mem]
      have : ¬ s = q.1 := fun e => h e.symm
      simp [this]
theorem lk_get {s : Nat} {w : List Nat} : ∀ {wl : List Aw} {i : Nat}, (wl.map (·.1)).Nodup → wl[i]? = some (s, w) → lkA wl s = some w
  | [], i, _, h => by simp at h
  | q :: wl, 0, _, h => by
    simp at h
    rw [lkA, if_pos (by rw [h]), h]
  | q :: wl, i + 1, hn, h => by
    simp at h
    rw [List.map_cons, List.nodup_cons] at hn
    have hne : q.1 ≠ s := fun e => hn.1 (by rw [e]; exact List.mem_map.mpr ⟨(s, w), List.mem_of_getElem? h, rfl⟩)
    rw [lkA, if_neg hne]
    exact lk_get hn.2 h
theorem has_A {s : Nat} {wl : List Aw} : hasK (wl.map kvA) (iv s) = decide (s ∈ wl.map (·.1)) := by
  unfold hasK
  rw [find_A, Option.isSome_map, lk_mem]
theorem key_A {s : Nat} {wl : List Aw} : keyFor ((wl.map kvA).map (·.1)) (iv s) = true := by
  unfold keyFor
  have h2 : (((wl.map kvA).map (·.1)).all fun x => isTup x == isTup (iv s)) = true := by
    rw [List.all_eq_true]
    intro x hx
    obtain ⟨p, hp, rfl⟩ := List.mem_map.mp hx
    obtain ⟨t, _, rfl⟩ := List.mem_map.mp hp
    rfl
  rw [h2]
  rfl
theorem put_A {s : Nat} {w : List Nat} {wl : List Aw} (h : s ∉ wl.map (·.1)) : putKs (wl.map kvA) (iv s) (wdV w) = (wl ++ [(s, w)]).map kvA := by
  unfold putKs
  have : ¬ ((wl.map kvA).any fun p => decide (p.1 = iv s)) = true := by
    rw [List.any_eq_true]
    rintro ⟨p, hp, e⟩
    obtain ⟨t, ht, rfl⟩ := List.mem_map.mp hp
    exact h (List.mem_map.mpr ⟨t, ht, iv_inj (of_decide_eq_true e)⟩)
  rw [if_neg this, List.map_append]
  rfl
/-- what stands for a state in the list that access_of returns -/
def accV (wl : List Aw) (s : Nat) : Val := match lkA wl s with
  | some w => wdV w
  | none => .non
theorem accV_non {wl : List Aw} {s : Nat} : decide (accV wl s = .non) = !decide (s ∈ wl.map (·.1)) := by
  unfold accV
  rw [← lk_mem]
  cases lkA wl s with
  | none => simp
  | some w => simp [wdV]
/-- states in the sequence in which they are met -/
structure AccS (M : Mc) (S : List Nat) : Prop where
  nd : S.Nodup
  bd : ∀ s ∈ S, s < M.n
  h0 : S[0]? = some 0
  par : ∀ i s, S[i]? = some s → 0 < i → ∃ j a t, j < i ∧ a < M.L ∧ S[j]? = some t ∧ s = (M.at t a).1
theorem AccS.len {M : Mc} {S : List Nat} (h : AccS M S) : S.length ≤ M.n := by
  have := sub_len (r := List.range M.n) h.nd fun s hs => List.mem_range.mpr (h.bd s hs)
  simpa using this
theorem AccS.add {M : Mc} {S : List Nat} (h : AccS M S) {j a t s : Nat} (hs : s ∉ S) (hb : s < M.n) (ha : a < M.L) (hj : S[j]? = some t) (e : s = (M.at t a).1) : AccS M (S ++ [s]) := by
  have hjl : j < S.length := by
    rcases Nat.lt_or_ge j S.length with h1 | h1
    · exact h1
    · rw [List.getElem?_eq_none h1] at hj; cases hj
  refine ⟨?_, ?_, ?_, ?_⟩
  · rw [List.nodup_append]
    exact ⟨h.nd, by simp, fun x hx y hy e2 => hs (by simp at hy; rw [← hy, ← e2]; exact hx)⟩
  · intro x hx
    rcases List.mem_append.mp hx with hx | hx
    · exact h.bd x hx
    · rw [List.mem_singleton.mp hx]; exact hb
  · rw [List.getElem?_append_left (by omega)]; exact h.h0
  · intro i x hi h0
    by_cases hil : i < S.length
    · rw [List.getElem?_append_left hil] at hi
      obtain ⟨j', a', t', k1, k2, k3, k4⟩ := h.par i x hi h0
      exact ⟨j', a', t', k1, k2, by rw [List.getElem?_append_left (by omega)]; exact k3, k4⟩
    · have e1 : i = S.length := by
        have : i < (S ++ [s]).length := by
          rcases Nat.lt_or_ge i (S ++ [s]).length with h1 | h1
          · exact h1
          · rw [List.getElem?_eq_none h1] at hi; cases hi
        simp at this
        omega
      subst e1
      simp at hi
      subst hi
      exact ⟨j, a, t, hjl, ha, by rw [List.getElem?_append_left hjl]; exact hj, e⟩
/-- .. all that are met -/
structure AccF (M : Mc) (S : List Nat) : Prop extends AccS M S where
  cl : ∀ t ∈ S, ∀ a, a < M.L → (M.at t a).1 ∈ S
end Ev
end

section
/-! Mr: sets and sorts of plain data. -/
namespace Ev
/-! ### a set's things -/
def dd {α : Type} [DecidableEq α] : List α → List α → List α
  | acc, [] => acc
  | acc, x :: r => dd (if x ∈ acc then acc else acc ++ [x]) r
theorem setOf_map {α : Type} [DecidableEq α] {f : α → Val} (hf : ∀ a b, f a = f b → a = b) : ∀ (l acc : List α), setOf (acc.map f) (l.map f) = (dd acc l).map f
  | [], acc => rfl
  | x :: l, acc => by
    rw [List.map_cons, setOf, dd]
    have e : addV (acc.map f) (f x) = (if x ∈ acc then acc else acc ++ [x]).map f := by
      unfold addV
      by_cases h : x ∈ acc
      · rw [if_pos h, if_pos (List.mem_map.mpr ⟨x, h, rfl⟩)]
      · rw [if_neg h, if_neg (fun hm => h (by
          obtain ⟨y, hy, e⟩ := List.mem_map.mp hm
          rw [← hf _ _ e]; exact hy)), List.map_append]
        rfl
    rw [e]
    exact setOf_map hf l _
theorem mem_dd {α : Type} [DecidableEq α] {x : α} : ∀ {l acc : List α}, x ∈ dd acc l ↔ x ∈ acc ∨ x ∈ l
  | [], acc => by simp [dd]
  | y :: l, acc => by
    rw [dd, mem_dd]
    by_cases h : y ∈ acc
    · rw [if_pos h]
      constructor
      · rintro (h1 | h1)
        · exact .inl h1
        · exact .inr (List.mem_cons_of_mem _ h1)
      · rintro (h1 | h1)
        · exact .inl h1
        · rcases List.mem_cons.mp h1 with rfl | h1
          · exact .inl h
          · exact .inr h1
    · rw [if_neg h]
      simp [or_assoc]
theorem nodup_dd {α : Type} [DecidableEq α] : ∀ {l acc : List α}, acc.Nodup → (dd acc l).Nodup
  | [], acc, h => h
  | y :: l, acc, h => by
    rw [dd]
    refine nodup_dd ?_
    by_cases hy : y ∈ acc
    · rw [if_pos hy]; exact h
    · rw [if_neg hy, List.nodup_append]
      exact ⟨h, by simp, fun a ha b hb e => hy (by simp at hb; rw [← hb, ← e]; exact ha)⟩
theorem len_dd {α : Type} [DecidableEq α] : ∀ {l acc : List α}, (dd acc l).length ≤ acc.length + l.length
  | [], acc => by simp [dd]
  | y :: l, acc => by
    rw [dd]
    refine Nat.le_trans (len_dd (l := l)) ?_
    split <;> simp <;> omega
/-! ### sorted ints -/
def insN (x : Nat) : List Nat → List Nat
  | [] => [x]
  | y :: r => if x < y then x :: y :: r else y :: insN x r
def srtN : List Nat → List Nat
  | [] => []
  | x :: r => insN x (srtN r)
theorem insN_v {x : Nat} : ∀ {l : List Nat}, insSorted (iv x) (l.map iv) = some ((insN x l).map iv)
  | [] => rfl
  | y :: r => by
    rw [List.map_cons, insSorted, insN]
    simp only [Val.lt]
    by_cases h : x < y
    · have : (x : Int) < (y : Int) := by omega
      simp [h, this]
    · have : ¬ (x : Int) < (y : Int) := by omega
      simp only [this, h, decide_false, if_false]
      have ih := insN_v (x := x) (l := r)
      unfold iv at ih
      rw [ih]; rfl
theorem sortV_iv : ∀ {l : List Nat}, sortV (l.map iv) = some ((srtN l).map iv)
  | [] => rfl
  | x :: r => by
    rw [List.map_cons, sortV, sortV_iv]
    exact insN_v
theorem insN_perm {x : Nat} : ∀ {l : List Nat}, (insN x l).Perm (x :: l)
  | [] => List.Perm.refl _
  | y :: r => by
    rw [insN]
    split
    · exact List.Perm.refl _
    · exact (List.Perm.cons y insN_perm).trans (List.Perm.swap x y r)
theorem srtN_perm : ∀ {l : List Nat}, (srtN l).Perm l
  | [] => List.Perm.refl _
  | x :: r => insN_perm.trans (List.Perm.cons x srtN_perm)
theorem insN_up {x : Nat} : ∀ {l : List Nat}, l.Pairwise (· ≤ ·) → (insN x l).Pairwise (· ≤ ·)
  | [], _ => List.pairwise_singleton _ _
  | y :: r, h => by
    rw [List.pairwise_cons] at h
    rw [insN]
    split
    · rename_i hlt
      rw [List.pairwise_cons]
      refine ⟨fun z hz => ?_, List.pairwise_cons.mpr h⟩
      rcases List.mem_cons.mp hz with rfl | hz
      · omega
      · have := h.1 z hz; omega
    · rename_i hge
      rw [List.pairwise_cons]
      refine ⟨fun z hz => ?_, insN_up h.2⟩
      rcases List.mem_cons.mp (insN_perm.mem_iff.mp hz) with rfl | hz
      · omega
      · exact h.1 z hz
theorem srtN_up : ∀ {l : List Nat}, (srtN l).Pairwise (· ≤ ·)
  | [] => List.Pairwise.nil
  | x :: r => insN_up srtN_up
/-- the sorted list of a set of numbers below n -/
theorem srtN_filter {n : Nat} {l S : List Nat} (hn : l.Nodup) (hS : ∀ x, x ∈ l ↔ x ∈ S) (hb : ∀ x ∈ S, x < n) : srtN l = (List.range n).filter (fun s => decide (s ∈ S)) := by
  have h2 : ((List.range n).filter (fun s => decide (s ∈ S))).Nodup := List.nodup_range.filter _
  refine List.Perm.eq_of_pairwise (le := fun a b => a ≤ b) (fun a b _ _ h1 h2 => Nat.le_antisymm h1 h2) srtN_up ((List.pairwise_lt_range.imp (fun h => Nat.le_of_lt h)).filter _) ?_
  refine srtN_perm.trans ((List.perm_ext_iff_of_nodup hn h2).mpr fun x => ?_)
  rw [hS x, List.mem_filter, List.mem_range]
  simp
  exact fun h => hb x h
/-! ### how long -/
theorem len_count {c : Nat} : ∀ (n : Nat) (l : List Nat), (∀ x ∈ l, x < n) → (∀ x, l.count x ≤ c) → l.length ≤ c * n
  | 0, l, h, _ => by
    cases l with
    | nil => simp
    | cons x l => have := h x List.mem_cons_self; omega
  | n + 1, l, h, hc => by
    have h1 := len_count n (l.filter (fun x => decide (x ≠ n))) (fun x hx => by
      obtain ⟨h1, h2⟩ := List.mem_filter.mp hx
      have := h x h1
      have := of_decide_eq_true h2
      omega) (fun x => Nat.le_trans (List.Sublist.count_le x List.filter_sublist) (hc x))
    have h2 := List.length_eq_countP_add_countP (fun x => decide (x ≠ n)) (l := l)
    have h3 : l.countP (fun a => decide ¬ (decide (a ≠ n)) = true) = l.count n := by
      unfold List.count
      congr 1
      funext a
      by_cases e : a = n <;> simp [e]
    rw [List.countP_eq_length_filter] at h2
    rw [h3] at h2
    have := hc n
    rw [Nat.mul_succ]
    omega
/-! ### the rounds -/
def rowF (M : Mc) (s : Nat) : List Nat := (M.rw s).map (·.1)
def updR (M : Mc) (met : List Nat) (s : Nat) : List Nat := met ++ (rowF M s).filter (fun x => decide (x ∉ met))
/-- what is known of a list of states met -/
structure MetOk (M : Mc) (S met : List Nat) : Prop where
  sub : ∀ x ∈ met, x ∈ S
  cnt : ∀ x, met.count x ≤ 3
theorem MetOk.len {M : Mc} {S met : List Nat} (h : MetOk M S met) (hS : AccS M S) : met.length ≤ 3 * M.n := len_count _ _ (fun x hx => hS.bd x (h.sub x hx)) h.cnt
theorem mem_rowF {M : Mc} (hM : M.Ok) {s : Nat} (hs : s < M.n) {x : Nat} : x ∈ rowF M s ↔ ∃ a, a < M.L ∧ x = (M.at s a).1 := by
  obtain ⟨_, h2, _⟩ := Mc.row_at hM hs
  unfold rowF
  rw [List.mem_map]
  constructor
  · rintro ⟨e, he, rfl⟩
    obtain ⟨i, hi, e2⟩ := List.getElem_of_mem he
    refine ⟨i, by omega, ?_⟩
    have := (Mc.ent_at hM hs (show i < M.L by omega)).1
    rw [List.getElem?_eq_getElem hi, e2] at this
    rw [Option.some.inj this]
  · rintro ⟨a, ha, rfl⟩
    exact ⟨_, List.mem_of_getElem? (Mc.ent_at hM hs ha).1, rfl⟩
theorem MetOk.upd {M : Mc} {S met : List Nat} (hM : M.Ok) (hS : AccF M S) (h : MetOk M S met) {s : Nat} (hs : s ∈ S) : MetOk M S (updR M met s) := by
  have hsn := hS.bd s hs
  refine ⟨fun x hx => ?_, fun x => ?_⟩
  · rcases List.mem_append.mp hx with hx | hx
    · exact h.sub x hx
    · obtain ⟨a, ha, rfl⟩ := (mem_rowF hM hsn).mp (List.mem_filter.mp hx).1
      exact hS.cl s hs a ha
  · unfold updR
    rw [List.count_append]
    by_cases hx : x ∈ met
    · have : ((rowF M s).filter (fun x => decide (x ∉ met))).count x = 0 := List.count_eq_zero.mpr fun hm => by
        have := (List.mem_filter.mp hm).2
        simp [hx] at this
      have := h.cnt x
      omega
    · have h0 : met.count x = 0 := List.count_eq_zero.mpr hx
      have h1 : ((rowF M s).filter (fun x => decide (x ∉ met))).count x ≤ (rowF M s).length := Nat.le_trans List.count_le_length (List.length_filter_le _ _)
      have h2 : (rowF M s).length = M.L := by unfold rowF; rw [List.length_map]; exact (Mc.row_at hM hsn).2.1
      have := hM.l3
      omega
theorem upd_mono {M : Mc} {met : List Nat} {s x : Nat} (h : x ∈ met) : x ∈ updR M met s := List.mem_append_left _ h
theorem upd_succ {M : Mc} (hM : M.Ok) {met : List Nat} {s a : Nat} (hs : s < M.n) (ha : a < M.L) : (M.at s a).1 ∈ updR M met s := by
  unfold updR
  by_cases h : (M.at s a).1 ∈ met
  · exact List.mem_append_left _ h
  · exact List.mem_append_right _ (List.mem_filter.mpr ⟨(mem_rowF hM hs).mpr ⟨a, ha, rfl⟩, by simpa using h⟩)
end Ev
end

section
/-! Mm: mutants as plain data. -/
namespace Ev
def Mc.wth (M : Mc) (s a : Nat) (e : Ent) : Mc := ⟨M.L, M.A, M.rows.take s ++ [(M.rw s).take a ++ [e] ++ (M.rw s).drop (a + 1)] ++ M.rows.drop (s + 1)⟩
def others (M : Mc) (s a : Nat) : List Ent := ((List.range M.n).filter (fun x => decide (x ≠ (M.at s a).1))).map (fun x => (x, (M.at s a).2)) ++ ((List.range M.A).filter (fun x => decide (x ≠ (M.at s a).2))).map (fun x => ((M.at s a).1, x))
def mutsS (M : Mc) (s : Nat) : List Mc := (List.range M.L).flatMap fun a => (others M s a).map (M.wth s a)
def muts (M : Mc) (S : List Nat) : List Mc := ((List.range M.n).filter (fun s => decide (s ∈ S))).flatMap (mutsS M)
theorem others_len {M : Mc} {s a : Nat} : (others M s a).length ≤ M.n + M.A := by
  unfold others
  rw [List.length_append, List.length_map, List.length_map]
  have h1 := List.length_filter_le (fun x => decide (x ≠ (M.at s a).1)) (List.range M.n)
  have h2 := List.length_filter_le (fun x => decide (x ≠ (M.at s a).2)) (List.range M.A)
  rw [List.length_range] at h1 h2
  omega
theorem others_ok {M : Mc} {s a : Nat} (h1 : (M.at s a).1 < M.n) (h2 : (M.at s a).2 < M.A) : ∀ e ∈ others M s a, e.1 < M.n ∧ e.2 < M.A := by
  intro e he
  rcases List.mem_append.mp he with he | he
  · obtain ⟨x, hx, rfl⟩ := List.mem_map.mp he
    exact ⟨List.mem_range.mp (List.mem_filter.mp hx).1, h2⟩
  · obtain ⟨x, hx, rfl⟩ := List.mem_map.mp he
    exact ⟨h1, List.mem_range.mp (List.mem_filter.mp hx).1⟩
/-- of one shape -/
structure Shp (M N : Mc) : Prop where
  l : N.L = M.L
  a : N.A = M.A
  n : N.rows.length = M.rows.length
theorem wth_rows {M : Mc} {s a : Nat} {e : Ent} (hs : s < M.n) : (M.wth s a e).rows.length = M.rows.length := by
  unfold Mc.wth
  have : s < M.rows.length := hs
  simp
  omega
theorem wth_ok {M : Mc} (h : M.Ok) {s a : Nat} {e : Ent} (hs : s < M.n) (ha : a < M.L) (h1 : e.1 < M.n) (h2 : e.2 < M.A) : (M.wth s a e).Ok ∧ Shp M (M.wth s a e) := by
  have hn := wth_rows (M := M) (a := a) (e := e) hs
  have hr := Mc.row_at h hs
  have rows : ∀ r ∈ (M.wth s a e).rows, r ∈ M.rows ∨ r = (M.rw s).take a ++ [e] ++ (M.rw s).drop (a + 1) := by
    intro r hr
    have hr : r ∈ M.rows.take s ++ [(M.rw s).take a ++ [e] ++ (M.rw s).drop (a + 1)] ++ M.rows.drop (s + 1) := hr
    rcases List.mem_append.mp hr with hr | hr
    · rcases List.mem_append.mp hr with hr | hr
      · exact .inl (List.mem_of_mem_take hr)
      · exact .inr (List.mem_singleton.mp hr)
    · exact .inl (List.mem_of_mem_drop hr)
  refine ⟨⟨h.l1, h.l3, h.a2, h.a9, by rw [hn]; exact h.s1, by rw [hn]; exact h.s12, fun r hr' => ?_, fun r hr' e' he' => ?_⟩, ⟨rfl, rfl, hn⟩⟩
  · rcases rows r hr' with h3 | rfl
    · exact h.row r h3
    · have := hr.2.1
      show _ = M.L
      simp
      omega
  · rw [hn]
    rcases rows r hr' with h3 | rfl
    · exact h.ent r h3 e' he'
    · rcases List.mem_append.mp he' with h4 | h4
      · rcases List.mem_append.mp h4 with h4 | h4
        · exact h.ent _ hr.2.2 e' (List.mem_of_mem_take h4)
        · rw [List.mem_singleton.mp h4]; exact ⟨h1, h2⟩
      · exact h.ent _ hr.2.2 e' (List.mem_of_mem_drop h4)
theorem muts_ok {M : Mc} (h : M.Ok) {S : List Nat} : ∀ N ∈ muts M S, N.Ok ∧ Shp M N := by
  intro N hN
  obtain ⟨s, hs, h1⟩ := List.mem_flatMap.mp hN
  obtain ⟨a, ha, h2⟩ := List.mem_flatMap.mp h1
  obtain ⟨e, he, rfl⟩ := List.mem_map.mp h2
  have hs' := List.mem_range.mp (List.mem_filter.mp hs).1
  have ha' := List.mem_range.mp ha
  obtain ⟨_, k1, k2⟩ := Mc.ent_at h hs' ha'
  obtain ⟨k3, k4⟩ := others_ok k1 k2 e he
  exact wth_ok h hs' ha' k3 k4
/-! ### slices -/
theorem cut_take {xs : List Val} {k : Nat} : cutV xs none (some (k : Int)) = xs.take k := by
  unfold cutV sIx
  have h : ¬ (k : Int) < 0 := by omega
  simp only [h, if_false, Int.toNat_natCast, List.drop_zero, Nat.sub_zero]
  by_cases hk : k ≤ xs.length
  · rw [Nat.min_eq_left hk]
  · rw [Nat.min_eq_right (by omega), List.take_of_length_le (Nat.le_refl _), List.take_of_length_le (by omega)]
theorem cut_drop {xs : List Val} {k : Nat} : cutV xs (some (k : Int)) none = xs.drop k := by
  unfold cutV sIx
  have h : ¬ (k : Int) < 0 := by omega
  simp only [h, if_false, Int.toNat_natCast]
  by_cases hk : k ≤ xs.length
  · rw [Nat.min_eq_left hk, List.take_of_length_le]
    rw [List.length_drop]; exact Nat.le_refl _
  · rw [Nat.min_eq_right (by omega)]
    simp
    omega
section
variable {m : Store}
theorem sl_row_t {r : List Ent} {k : Nat} : slV (rowV r) .non (iv k) m = .ok (.tup ((r.take k).map entV)) m := by
  simp only [slV, partOf, rowV, cut_take, List.map_take]
theorem sl_row_d {r : List Ent} {k : Nat} : slV (rowV r) (iv k) .non m = .ok (.tup ((r.drop k).map entV)) m := by
  simp only [slV, partOf, rowV, cut_drop, List.map_drop]
theorem sl_rows_t {r : List (List Ent)} {k : Nat} : slV (.tup (r.map rowV)) .non (iv k) m = .ok (.tup ((r.take k).map rowV)) m := by
  simp only [slV, partOf, cut_take, List.map_take]
theorem sl_rows_d {r : List (List Ent)} {k : Nat} : slV (.tup (r.map rowV)) (iv k) .non m = .ok (.tup ((r.drop k).map rowV)) m := by
  simp only [slV, partOf, cut_drop, List.map_drop]
theorem add_tt {xs ys : List Val} {Q : Val → Store → Prop} : wR (binV .add (.tup xs) (.tup ys) m) Q = (xs.length + ys.length ≤ lim ∧ Q (.tup (xs ++ ys)) m) := by
  show wR (must (xs.length + ys.length ≤ lim) (pure (.tup (xs ++ ys))) m) Q = _
  rw [wR_must, wR_pure]
theorem add_1 {a : Nat} {Q : Val → Store → Prop} : wR (binV .add (iv a) (.int 1) m) Q = Q (iv (a + 1)) m := by
  show wR ((pure (.int ((a : Int) + 1)) : M Val) m) Q = _
  rw [wR_pure]
  rfl
end
theorem mcV_wth {M : Mc} {s a : Nat} {e : Ent} : Val.tup [iv M.L, iv M.A, .tup ((M.rows.take s).map rowV ++ [.tup (((M.rw s).take a).map entV ++ [entV e] ++ ((M.rw s).drop (a + 1)).map entV)] ++ (M.rows.drop (s + 1)).map rowV)] = mcV (M.wth s a e) := by
  unfold mcV Mc.wth
  rw [List.map_append, List.map_append]
  have : rowV ((M.rw s).take a ++ [e] ++ (M.rw s).drop (a + 1)) = .tup (((M.rw s).take a).map entV ++ [entV e] ++ ((M.rw s).drop (a + 1)).map entV) := by
    unfold rowV
    rw [List.map_append, List.map_append]
    rfl
  rw [List.map_cons, List.map_nil, this]
theorem entV_iv {a b : Nat} : Val.tup [iv a, iv b] = entV (a, b) := rfl
end Ev
end

section
set_option maxRecDepth 100000
/-! Wa: the forms. -/
namespace K83
open Ev
variable {n : Nat} {m : Store}
theorem is_integer_i {i : Int} : evF F con (n + 1) 0 [.int i] m = .ok (.bl true) m := eq_of_wR (wF rfl rfl (by simp [f_is_integer, start, wT, isV]))
theorem is_within_i {i l h : Int} : evF F con (n + 2) 1 [.int i, .int l, .int h] m = .ok (.bl (decide (l ≤ i ∧ i ≤ h))) m := eq_of_wR (wF rfl rfl (by
  simp [f_is_within, start, wT, is_integer_i, cmpV]
  by_cases h1 : l ≤ i <;> simp [h1]))
theorem is_tuple_of_t {xs : List Val} {l h : Int} : evF F con (n + 1) 2 [.tup xs, .int l, .int h] m = .ok (.bl (decide (l ≤ xs.length ∧ (xs.length : Int) ≤ h))) m := eq_of_wR (wF rfl rfl (by
  simp [f_is_tuple_of, start, wT, isV, cmpV, bltV, lenM]
  by_cases h1 : l ≤ (xs.length : Int) <;> simp [h1]))
theorem is_entry_form_e {e : Ent} {A N : Nat} (h1 : e.1 < N) (h2 : e.2 < A) : evF F con (n + 3) 4 [entV e, iv A, iv N] m = .ok (.bl true) m := eq_of_wR (wF rfl rfl (by
  have i1 : ((e.1 : Int) ≤ (N : Int) - 1) := by omega
  have i2 : ((e.2 : Int) ≤ (A : Int) - 1) := by omega
  simp [f_is_entry_form, start, wT, entV, is_tuple_of_t, is_within_i, idxV, binV, i1, i2]))
/-- every entry of a row is one -/
theorem are_rows_r {L A : Nat} {rows : List (List Ent)} (h : ∀ r ∈ rows, r.length = L ∧ ∀ e ∈ r, e.1 < rows.length ∧ e.2 < A) : evF F con (n + 4) 5 [.tup (rows.map rowV), iv L, iv A] m = .ok (.bl true) m := eq_of_wR (wF rfl rfl (by
  simp [f_are_rows, start, wT, isV, seqW]
  refine loopF_inv (fun rest ρ m' => (∃ rs, rest = rs.map rowV ∧ ∀ r ∈ rs, r ∈ rows) ∧ m' = m ∧ ∃ a b, ρ = [some (.tup (rows.map rowV)), some (iv L), some (iv A), a, b]) ?_ ?_ _ _ _ ⟨⟨rows, rfl, fun _ h => h⟩, rfl, _, _, rfl⟩
  · rintro x xs ρ m' ⟨⟨rs, e, hr⟩, rfl, a, b, rfl⟩
    cases rs with
    | nil => cases e
    | cons r rs =>
      obtain ⟨rfl, rfl⟩ := List.cons.inj e
      obtain ⟨h1, h2⟩ := h r (hr r List.mem_cons_self)
      refine ⟨rfl, _, rfl, ?_⟩
      show wSs _ _ _ _ _
      simp [wT, rowV, is_tuple_of_t, h1, wA_cons, seqW]
      refine (loopA_keep (fun m1 => m1 = m') (fun _ => true) (fun _ _ => rfl) (fun x hx m1 hm => ?_) rfl).mono ?_
      · subst hm
        obtain ⟨e, he, rfl⟩ := List.mem_map.mp hx
        refine ⟨_, rfl, ?_⟩
        rw [bA_0]
        obtain ⟨e1, e2⟩ := h2 e he
        have := is_entry_form_e (n := n) (m := m1) (N := rows.length) e1 e2
        simp [wT, wipeE, slT, slG, bltV, lenM]
        simp only [entV] at this
        simp [entV, this]
      · rintro bb m1 ⟨rfl, rfl⟩
        simp
        exact ⟨rs, rfl, fun q hq => hr q (List.mem_cons_of_mem _ hq)⟩
  · rintro ρ m' ⟨_, rfl, a, b, rfl⟩
    exact ⟨rfl, by simp⟩))
theorem is_sketch_form_m {M : Mc} (h : M.Ok) : evF F con (n + 5) 7 [mcV M] m = .ok (.bl true) m := eq_of_wR (wF rfl rfl (by
  have := h.l1; have := h.l3; have := h.a2; have := h.a9; have := h.s1; have := h.s12
  have ar := are_rows_r (n := n) (m := m) (L := M.L) (A := M.A) (rows := M.rows) fun r hr => ⟨h.row r hr, h.ent r hr⟩
  have e1 : (1 : Int) ≤ (M.L : Int) ∧ (M.L : Int) ≤ 3 := by omega
  have e2 : (2 : Int) ≤ (M.A : Int) ∧ (M.A : Int) ≤ 9 := by omega
  have e3 : (1 : Int) ≤ (M.rows.length : Int) ∧ (M.rows.length : Int) ≤ 600 := by omega
  have e4 : (M.rows.length : Int) ≤ 12 := by omega
  simp [f_is_sketch_form, start, wT, mcV, is_tuple_of_t, is_within_i, idxV, con, bindT, e1, e2, e3, ar, cmpV, bltV, lenM, e4]))
theorem is_machine_form_m {M : Mc} (h : M.Ok) : evF F con (n + 6) 8 [mcV M] m = .ok (.bl true) m := eq_of_wR (wF rfl rfl (by
  have := h.s12
  have e4 : (M.rows.length : Int) ≤ 12 := by omega
  have e5 := is_sketch_form_m (n := n) (m := m) h
  simp only [mcV] at e5
  simp [f_is_machine_form, start, wT, mcV, e5, idxV, con, cmpV, bltV, lenM, e4, wA_cons, seqW]
  refine (loopA_keep (fun m1 => m1 = m) (fun _ => true) (fun _ _ => rfl) (fun x hx m1 hm => ?_) rfl).mono ?_
  · subst hm
    obtain ⟨r, hr, rfl⟩ := List.mem_map.mp hx
    refine ⟨_, rfl, ?_⟩
    rw [bA_g, wA_cons]
    simp [rowV, seqW, wipeE, slT, slG]
    refine (loopA_keep (fun m2 => m2 = m1) (fun _ => true) (fun _ _ => rfl) (fun x hx m2 hm => ?_) rfl).mono ?_
    · subst hm
      obtain ⟨e, he, rfl⟩ := List.mem_map.mp hx
      refine ⟨_, rfl, ?_⟩
      rw [bA_0]
      simp [wT, entV]
    · rintro bb m2 ⟨rfl, rfl⟩
      simp
  · rintro bb m2 ⟨rfl, rfl⟩
    simp))
theorem need_machine_m {M : Mc} (h : M.Ok) : evF F con (n + 7) 9 [mcV M] m = .ok .non m := eq_of_wR (wF rfl rfl (by
  simp [f_need_machine, start, wT, is_machine_form_m h]))
end K83
end

section
set_option maxRecDepth 100000
/-! Wb: runs. -/
namespace K83
open Ev
variable {n : Nat} {m : Store} {M : Mc}
structure RunI (M : Mc) (s : Nat) (w : List Nat) (m : Store) (rest : List Val) (ρ : Env) (m' : Store) : Prop where
  ex : ∃ w' s' acc l e, rest = w'.map iv ∧ (∀ a ∈ w', a < M.L) ∧ s' < M.n ∧ ρ = [some (mcV M), some (iv s'), some (wdV w), some (.ref m.length), some (.tup (M.rows.map rowV)), l, e] ∧ m'[m.length]? = some (.lst (acc.map iv)) ∧ Fr [] m m' ∧
    acc ++ (M.run s' w').1 = (M.run s w).1 ∧ (M.run s' w').2 = (M.run s w).2 ∧ acc.length + w'.length = w.length
theorem run_from_m {s : Nat} {w : List Nat} {Q : Val → Store → Prop} (h : M.Ok) (hs : s < M.n) (hw : ∀ a ∈ w, a < M.L) (hl : w.length ≤ 10000) (q : ∀ m', Fr [] m m' → Q (.tup [wdV (M.run s w).1, iv (M.run s w).2]) m') : wR (evF F con (n + 1) 13 [mcV M, iv s, wdV w] m) Q := by
  refine wF rfl rfl ?_
  simp [f_run_from, start, idx_m2, seqW_wd, bindT, lim_num]
  refine loopF_inv (RunI M s w m) ?_ ?_ _ _ _ ⟨w, s, [], _, _, rfl, hw, hs, rfl, get_new, .app, rfl, rfl, by simp⟩
  · rintro x xs ρ m' ⟨w', s', acc, l, e, e1, e2, e3, rfl, e5, e6, e7, e8, e9⟩
    cases w' with
    | nil => cases e1
    | cons a w' =>
      obtain ⟨rfl, rfl⟩ := List.cons.inj e1
      have ha := e2 a List.mem_cons_self
      obtain ⟨_, n1, n2⟩ := Mc.ent_at h e3 ha
      refine ⟨rfl, _, rfl, ?_⟩
      show wSs _ _ _ _ _
      have hlim : acc.length < 16777216 := by simp at e9; omega
      simp [wT, idx_row h e3, idx_ent h e3 ha, bindT, entV_ne, idx_e0, idx_e1, kindM, mthV, e5, hlim, lim_num]
      exact ⟨w', _, acc ++ [(M.at s' a).2], _, _, rfl, fun b hb => e2 b (List.mem_cons_of_mem _ hb), n1, rfl, by rw [get_set e5]; simp, e6.setN (Nat.le_refl _), by rw [← e7]; simp [Mc.run], by rw [← e8]; simp [Mc.run], by simp at e9 ⊢; omega⟩
  · rintro ρ m' ⟨w', s', acc, l, e, e1, e2, e3, rfl, e5, e6, e7, e8, e9⟩
    have : w' = [] := by cases w' <;> simp at e1 ⊢
    subst this
    have e7' : acc = (M.run s w).1 := by simpa [Mc.run] using e7
    have e8' : s' = (M.run s w).2 := e8
    have hlim : acc.length ≤ 16777216 := by simp at e9; omega
    refine ⟨rfl, ?_⟩
    simp [bltV, itemsM, e5, hlim, lim_num]
    rw [e7', e8']
    exact q _ e6
theorem answers_from_m {s : Nat} {w : List Nat} {Q : Val → Store → Prop} (h : M.Ok) (hs : s < M.n) (hw : ∀ a ∈ w, a < M.L) (hl : w.length ≤ 10000) (q : ∀ m', Fr [] m m' → Q (wdV (M.run s w).1) m') : wR (evF F con (n + 2) 14 [mcV M, iv s, wdV w] m) Q := by
  refine wF rfl rfl ?_
  simp [f_answers_from, start]
  refine run_from_m h hs hw hl fun m' fr => ?_
  simp [wT, bindT, idxV]
  exact q _ fr
/-- _law_run is the same def but for a local -/
structure LRunI (M : Mc) (s : Nat) (w : List Nat) (m : Store) (rest : List Val) (ρ : Env) (m' : Store) : Prop where
  ex : ∃ w' s' acc l e, rest = w'.map iv ∧ (∀ a ∈ w', a < M.L) ∧ s' < M.n ∧ ρ = [some (mcV M), some (iv s'), some (wdV w), some (.ref m.length), l, e] ∧ m'[m.length]? = some (.lst (acc.map iv)) ∧ Fr [] m m' ∧
    acc ++ (M.run s' w').1 = (M.run s w).1 ∧ (M.run s' w').2 = (M.run s w).2 ∧ acc.length + w'.length = w.length
theorem law_run_m {s : Nat} {w : List Nat} {Q : Val → Store → Prop} (h : M.Ok) (hs : s < M.n) (hw : ∀ a ∈ w, a < M.L) (hl : w.length ≤ 10000) (q : ∀ m', Fr [] m m' → Q (.tup [wdV (M.run s w).1, iv (M.run s w).2]) m') : wR (evF F con (n + 1) 35 [mcV M, iv s, wdV w] m) Q := by
  refine wF rfl rfl ?_
  simp [f_law_run, start, idx_m2, seqW_wd, bindT, lim_num]
  refine loopF_inv (LRunI M s w m) ?_ ?_ _ _ _ ⟨w, s, [], _, _, rfl, hw, hs, rfl, get_new, .app, rfl, rfl, by simp⟩
  · rintro x xs ρ m' ⟨w', s', acc, l, e, e1, e2, e3, rfl, e5, e6, e7, e8, e9⟩
    cases w' with
    | nil => cases e1
    | cons a w' =>
      obtain ⟨rfl, rfl⟩ := List.cons.inj e1
      have ha := e2 a List.mem_cons_self
      obtain ⟨_, n1, n2⟩ := Mc.ent_at h e3 ha
      refine ⟨rfl, _, rfl, ?_⟩
      show wSs _ _ _ _ _
      have hlim : acc.length < 16777216 := by simp at e9; omega
      simp [wT, idx_m2, idx_row h e3, idx_ent h e3 ha, bindT, entV_ne, idx_e0, idx_e1, kindM, mthV, e5, hlim, lim_num]
      exact ⟨w', _, acc ++ [(M.at s' a).2], _, _, rfl, fun b hb => e2 b (List.mem_cons_of_mem _ hb), n1, rfl, by rw [get_set e5]; simp, e6.setN (Nat.le_refl _), by rw [← e7]; simp [Mc.run], by rw [← e8]; simp [Mc.run], by simp at e9 ⊢; omega⟩
  · rintro ρ m' ⟨w', s', acc, l, e, e1, e2, e3, rfl, e5, e6, e7, e8, e9⟩
    have : w' = [] := by cases w' <;> simp at e1 ⊢
    subst this
    have e7' : acc = (M.run s w).1 := by simpa [Mc.run] using e7
    have e8' : s' = (M.run s w).2 := e8
    have hlim : acc.length ≤ 16777216 := by simp at e9; omega
    refine ⟨rfl, ?_⟩
    simp [bltV, itemsM, e5, hlim, lim_num]
    rw [e7', e8']
    exact q _ e6
end K83
end

section
set_option maxRecDepth 100000
/-! Wc: suites. -/
namespace K83
open Ev
variable {n : Nat} {m : Store} {M M' : Mc}
theorem is_word_form_w {w : List Nat} {L : Nat} (hl : w.length ≤ 600) (hw : ∀ a ∈ w, a < L) : evF F con (n + 3) 12 [iv L, wdV w] m = .ok (.bl true) m := eq_of_wR (wF rfl rfl (by
  have e1 : ((w.length : Int) ≤ 600) := by omega
  simp [f_is_word_form, start, wT, wdV, is_tuple_of_t, con, e1, wA_cons, seqW]
  refine (loopA_keep (fun m1 => m1 = m) (fun _ => true) (fun _ _ => rfl) (fun x hx m1 hm => ?_) rfl).mono ?_
  · subst hm
    obtain ⟨a, ha, rfl⟩ := List.mem_map.mp hx
    refine ⟨_, rfl, ?_⟩
    rw [bA_0]
    have := hw a ha
    have e2 : (a : Int) ≤ (L : Int) - 1 := by omega
    simp [wT, wipeE, slT, slG, is_within_i, binV, e2]
  · rintro bb m1 ⟨rfl, rfl⟩
    simp))
theorem is_rising_w {ws : List (List Nat)} (hp : ws.Pairwise (· < ·)) : evF F con (n + 1) 3 [suV ws] m = .ok (.bl true) m := eq_of_wR (wF rfl rfl (by
  simp [f_is_rising, start, wT, suV, wA_cons, slV, partOf, cut1, seqW, isTup]
  refine (loopA_keep (fun m1 => m1 = m) (fun _ => true) (fun _ _ => rfl) (fun x hx m1 hm => ?_) rfl).mono ?_
  · subst hm
    obtain ⟨a, b, rfl, hab⟩ := zip_rise hp x (by rw [List.drop_one]; exact hx)
    refine ⟨_, rfl, ?_⟩
    rw [bA_0]
    simp [wT, wipeE, slT, slG, lt_wd, hab]
  · rintro bb m1 ⟨rfl, rfl⟩
    simp))
theorem is_suite_form_w {ws : List (List Nat)} {L : Nat} (h : SuOk L ws) : evF F con (n + 4) 18 [iv L, suV ws] m = .ok (.bl true) m := eq_of_wR (wF rfl rfl (by
  have h1 := h.len
  have e1 : ((ws.length : Int) ≤ 200) := by omega
  have e2 := is_rising_w (n := n + 2) (m := m) h.up
  simp only [suV] at e2
  simp [f_is_suite_form, start, wT, suV, is_tuple_of_t, con, e1, wA_cons, seqW]
  refine (loopA_keep (fun m1 => m1 = m) (fun _ => true) (fun _ _ => rfl) (fun x hx m1 hm => ?_) rfl).mono ?_
  · subst hm
    obtain ⟨w, hw, rfl⟩ := List.mem_map.mp hx
    refine ⟨_, rfl, ?_⟩
    rw [bA_0]
    simp [wT, wipeE, slT, slG, is_word_form_w (h.wl w hw) (h.let_ w hw)]
  · rintro bb m1 ⟨rfl, rfl⟩
    simp [e2]))
theorem need_suite_w {ws : List (List Nat)} {L : Nat} (h : SuOk L ws) : evF F con (n + 5) 19 [iv L, suV ws] m = .ok .non m := eq_of_wR (wF rfl rfl (by
  simp [f_need_suite, start, wT, is_suite_form_w h]))
theorem passes_by_m {ws : List (List Nat)} {Q : Val → Store → Prop} (h : M.Ok) (h' : M'.Ok) (hL : M'.L = M.L) (hs : SuOk M.L ws) (q : ∀ m', Fr [] m m' → Q (.bl (M.pass M' ws)) m') : wR (evF F con (n + 3) 20 [mcV M, suV ws, mcV M'] m) Q := by
  refine wF rfl rfl ?_
  simp [f_passes_by, start, suV, wA_cons, seqW]
  refine (loopA_map wdV (fun m1 => Fr [] m m1) (fun w => decide ((M.run 0 w).1 = (M'.run 0 w).1)) (fun _ _ => rfl) (fun w hw m1 hm => ?_) .refl).mono ?_
  · refine ⟨_, rfl, ?_⟩
    rw [bA_0]
    simp [wT, wipeE, slT, slG]
    have hwl := hs.wl w hw
    have l1 := hs.let_ w hw
    refine answers_from_m (s := 0) h h.s1 l1 (by omega) fun m2 f2 => ?_
    refine answers_from_m (s := 0) h' h'.s1 (by rw [hL]; exact l1) (by omega) fun m3 f3 => ?_
    simp [cmpV, eqM_wd]
    exact hm.trans (f2.trans f3)
  · rintro bb m1 ⟨rfl, fr⟩
    exact q _ fr
structure LpI (M M' : Mc) (wsV : Val) (ws : List (List Nat)) (m : Store) (rest : List (List Nat)) (ρ : Env) (m' : Store) : Prop where
  ex : ∃ l, ρ = [some (mcV M), some wsV, some (mcV M'), l] ∧ Fr [] m m' ∧ (∀ w ∈ rest, w ∈ ws) ∧ M.pass M' ws = M.pass M' rest
theorem law_passes_m {ws : List (List Nat)} {Q : Val → Store → Prop} (h : M.Ok) (h' : M'.Ok) (hL : M'.L = M.L) (hs : SuOk M.L ws) (q : ∀ m', Fr [] m m' → Q (.bl (M.pass M' ws)) m') : wR (evF F con (n + 2) 37 [mcV M, suV ws, mcV M'] m) Q := by
  refine wF rfl rfl ?_
  simp [f_law_passes, start, seqW_tup]
  simp only [suV, seqW_tup, oP_some]
  refine loopF_map wdV (LpI M M' (suV ws) ws m) ?_ ?_ _ _ _ ⟨_, rfl, .refl, fun _ h => h, rfl⟩
  · rintro w xs ρ m' ⟨l, rfl, fr, hin, e⟩
    refine ⟨rfl, _, rfl, ?_⟩
    show wSs _ _ _ _ _
    have hw := hin w List.mem_cons_self
    have hwl := hs.wl w hw
    have l1 := hs.let_ w hw
    simp [wT]
    refine law_run_m (s := 0) h h.s1 l1 (by omega) fun m2 f2 => ?_
    simp [idxV]
    refine law_run_m (s := 0) h' h'.s1 (by rw [hL]; exact l1) (by omega) fun m3 f3 => ?_
    simp [idxV, cmpV, eqM_wd]
    have fr2 := fr.trans (f2.trans f3)
    by_cases hc : (M.run 0 w).1 = (M'.run 0 w).1
    · simp [hc]
      exact ⟨_, rfl, fr2, fun v hv => hin v (List.mem_cons_of_mem _ hv), by rw [e]; simp [Mc.pass, hc]⟩
    · simp [hc]
      have := q _ fr2
      rw [e] at this
      simpa [Mc.pass, hc] using this
  · rintro ρ m' ⟨l, rfl, fr, _, e⟩
    refine ⟨rfl, ?_⟩
    simp
    have := q _ fr
    rw [e] at this
    simpa [Mc.pass] using this
end K83
end

section
set_option maxRecDepth 100000
/-! Wd: what is drawn. -/
namespace K83
open Ev
variable {n : Nat} {m : Store} {M M' : Mc}
def Spr (p k : Nat) (m : Store) : Prop := ∃ a b c : Int, m[p]? = some (.lst [.int a, .int b, .int c]) ∧ 0 ≤ b ∧ b < 10 ^ 36 ∧ 0 ≤ c ∧ c ≤ k
theorem mulOk_s {i j : Int} (h : -(2 ^ 64) < i ∧ i < 2 ^ 64) : mulOk i j = true := by
  unfold mulOk
  rw [Bool.or_eq_true]
  exact .inl (by rw [decide_eq_true_eq]; exact .inl h)
theorem log_lt {x a : Nat} (h : x < 2 ^ a) (ha : 0 < a) : x.log2 < a := by
  by_cases h0 : x = 0
  · subst h0
    have : Nat.log2 0 = 0 := by decide
    rw [this]; exact ha
  · exact (Nat.log2_lt h0).mpr h
theorem mulOk_b {i j : Int} (h1 : i.natAbs < 2 ^ 500) (h2 : j.natAbs < 2 ^ 500) : mulOk i j = true := by
  unfold mulOk
  rw [Bool.or_eq_true]
  refine .inr ?_
  rw [decide_eq_true_eq]
  have := log_lt h1 (by decide)
  have := log_lt h2 (by decide)
  omega
theorem law_few_m {p k many : Nat} {Q : Val → Store → Prop} (hs : Spr p k m) (hk : k < 1000000) (hm : 0 < many) (hmm : many < 1000000) (q : ∀ r m', r < many → Fr [p] m m' → m'.length = m.length → Spr p (k + 1) m' → Q (iv r) m') : wR (evF F con (n + 1) 30 [.ref p, iv many] m) Q := by
  obtain ⟨a, b, c, h0, b0, b1, c0, c1⟩ := hs
  have hset : ∀ o, (m.set p o)[p]? = some o := fun o => get_set h0
  refine wF rfl rfl ?_
  simp [f_law_few, start, wT, idxV, h0, cmpV, bltV, bindT, binV, subV, hset]
  have hlog : many.log2 < 9000 := log_lt (Nat.lt_trans (show many < 2 ^ 20 by omega) (Nat.pow_lt_pow_right (by decide) (by decide))) (by decide)
  have hQ : ∀ (x : Int) (a' c' : Int), 0 ≤ c' → c' ≤ k + 1 → Q (.int (x % many)) (m.set p (.lst [.int a', .int b, .int c'])) := fun x a' c' h1 h2 => by
    have e : x % (many : Int) = ((x % many).toNat : Int) := (Int.toNat_of_nonneg (Int.emod_nonneg _ (by omega))).symm
    rw [e]
    refine q _ _ ?_ (.set (by simp)) (by simp) ⟨a', b, c', hset _, b0, b1, h1, by push_cast; exact h2⟩
    have := Int.emod_lt_of_pos x (show (0 : Int) < many by omega)
    omega
  split
  · exact ⟨hm, ⟨hm, hlog⟩, hQ _ _ _ c0 (by omega)⟩
  · have hd0 : 0 ≤ 5 * b + 32416190071 * (c + 1) := by omega
    have hd1 : 5 * b + 32416190071 * (c + 1) < 2 ^ 130 := by omega
    generalize 5 * b + 32416190071 * (c + 1) = d at hd0 hd1 ⊢
    have hdn : d.natAbs < 2 ^ 130 := by omega
    have hd2 : (d * d).natAbs < 2 ^ 260 := by
      rw [Int.natAbs_mul]
      calc d.natAbs * d.natAbs < 2 ^ 130 * 2 ^ 130 := Nat.mul_lt_mul'' hdn hdn
        _ = 2 ^ 260 := by rw [← Nat.pow_add]
    have big : ∀ {x y : Nat}, x < 2 ^ y → y ≤ 500 → x < 2 ^ 500 := fun h1 h2 => Nat.lt_of_lt_of_le h1 (Nat.pow_le_pow_right (by decide) h2)
    have he0 : 0 ≤ (d * d * d + 961748927 * (c + 1)) % 10000000000000000000000000000000000000121 := Int.emod_nonneg _ (by decide)
    have he1 : (d * d * d + 961748927 * (c + 1)) % 10000000000000000000000000000000000000121 < 10000000000000000000000000000000000000121 := Int.emod_lt_of_pos _ (by decide)
    generalize (d * d * d + 961748927 * (c + 1)) % 10000000000000000000000000000000000000121 = e at he0 he1 ⊢
    have hen : e.natAbs < 2 ^ 140 := by omega
    refine ⟨mulOk_s (by decide), mulOk_s (by decide), mulOk_b (big hdn (by decide)) (big hdn (by decide)), mulOk_b (big hd2 (by decide)) (big hdn (by decide)), mulOk_s (by decide), mulOk_b (big hen (by decide)) (big hen (by decide)), mulOk_s (by decide), log_lt (Nat.lt_of_lt_of_le (show 1000000000 < 2 ^ 30 by decide) (Nat.pow_le_pow_right (by decide) (by decide))) (by decide), hm, hQ _ _ _ (by omega) (by omega)⟩
theorem Spr.le {p k k' : Nat} (h : Spr p k m) (hk : k ≤ k') : Spr p k' m := by
  obtain ⟨a, b, c, h0, h1, h2, h3, h4⟩ := h
  exact ⟨a, b, c, h0, h1, h2, h3, by omega⟩
theorem Spr.lt {p k : Nat} (h : Spr p k m) : p < m.length := by
  obtain ⟨a, b, c, h0, _⟩ := h
  exact lt_of_get h0
theorem Spr.fr {p k : Nat} {S : List Nat} {m' : Store} (h : Spr p k m) (f : Fr S m m') (hp : p ∉ S) : Spr p k m' := by
  obtain ⟨a, b, c, h0, h1⟩ := h
  exact ⟨a, b, c, f.lt h0 hp, h1⟩
structure OrdI (p k : Nat) (tv : Val) (xs : List Nat) (m : Store) (rest : List Nat) (ρ : Env) (m' : Store) : Prop where
  ex : ∃ (ls fs : List Nat) (tn : Option Val), ρ = [some (.ref p), some tv, some (.ref m.length), some (.ref (m.length + 1)), tn] ∧ m'[m.length]? = some (.lst (ls.map iv)) ∧ m'[m.length + 1]? = some (.lst (fs.map iv)) ∧ (fs ++ ls).Perm xs ∧ rest.length = ls.length ∧ Fr [p] m m' ∧ Spr p (k + fs.length) m'
theorem law_order_m {p k t : Nat} {xs : List Nat} {Q : Val → Store → Prop} (hs : Spr p k m) (hk : k + xs.length < 1000000) (ht : m[t]? = some (.lst (xs.map iv)))
    (q : ∀ (ys : List Nat) (a : Nat) (m' : Store), ys.Perm xs → m.length ≤ a → m'[a]? = some (.lst (ys.map iv)) → Fr [p] m m' → Spr p (k + xs.length) m' → Q (.ref a) m') : wR (evF F con (n + 2) 31 [.ref p, .ref t] m) Q := by
  have hl : xs.length < 1000000 := by omega
  have hsm := small_nat hl
  have hlt : t < m.length := lt_of_get ht
  have e1 : ∀ l, (m ++ l)[t]? = some (.lst (xs.map iv)) := fun l => by rw [List.getElem?_append_left hlt]; exact ht
  refine wF rfl rfl ?_
  simp [f_law_order, start, bltV, itemsM, ht, lim_num, bindT, lenM, e1, hsm, small_0, rangeL_0]
  refine ⟨by omega, ?_⟩
  have hp := hs.lt
  refine loopF_map iv (OrdI p k (.ref t) xs m) ?_ ?_ _ _ _ ⟨xs, [], _, rfl, by simp, by simp, by simp, by simp, .app, ?_⟩
  · rintro x rest ρ m' ⟨ls, fs, tn, rfl, h1, h2, h3, h4, h5, h6⟩
    have hlen : fs.length + ls.length = xs.length := by rw [← List.length_append]; exact h3.length_eq
    have h4' : rest.length + 1 = ls.length := h4
    refine ⟨rfl, _, rfl, ?_⟩
    show wSs _ _ _ _ _
    simp [kindM, h2, h1, bltV, lenM]
    refine law_few_m h6 (by omega) (by omega) (by omega) fun r m2 hr f2 l2 s2 => ?_
    have g1 : m2[m.length]? = some (.lst (ls.map iv)) := f2.lt h1 (by simp; omega)
    have g2 : m2[m.length + 1]? = some (.lst (fs.map iv)) := f2.lt h2 (by simp; omega)
    have g3 : ∀ o, (m2.set m.length o)[m.length + 1]? = some (.lst (fs.map iv)) := fun o => by
      rw [List.getElem?_set_ne (by omega)]; exact g2
    have hrs := small_nat (show r < 1000000 by omega)
    have e2 : ls[r]? = some ls[r] := List.getElem?_eq_getElem hr
    have hfl : fs.length < 16777216 := by omega
    simp [mthV, g1, hrs, hr, e2, g3, hfl, lim_num]
    refine ⟨ls.eraseIdx r, fs ++ [ls[r]], _, rfl, ?_, ?_, ?_, ?_, ?_, ?_⟩
    · rw [List.getElem?_set_ne (by omega), get_set g1, erase_map]
    · rw [get_set (g3 _)]; simp
    · refine List.Perm.trans ?_ h3
      rw [List.append_assoc]
      refine List.Perm.append_left _ ?_
      exact erase_perm ls r hr
    · rw [List.length_eraseIdx_of_lt hr]; omega
    · exact ((h5.trans f2).setN (Nat.le_refl _)).setN (by omega)
    · obtain ⟨a, b, c, k0, k1⟩ := s2
      have hpl : p ≠ m.length := by omega
      have hpl2 : p ≠ m.length + 1 := by omega
      refine (show Spr p (k + fs.length + 1) _ from ⟨a, b, c, ?_, k1⟩).le (by simp; omega)
      rw [List.getElem?_set_ne (by omega), List.getElem?_set_ne (by omega)]
      exact k0
  · rintro ρ m' ⟨ls, fs, tn, rfl, h1, h2, h3, h4, h5, h6⟩
    have hls : ls = [] := List.eq_nil_of_length_eq_zero h4.symm
    subst hls
    rw [List.append_nil] at h3
    refine ⟨rfl, ?_⟩
    simp
    refine q fs _ m' h3 (by omega) h2 h5 (h6.le (by rw [h3.length_eq]; exact Nat.le_refl _))
  · exact (hs.fr (S := []) .app (fun h => nomatch h)).le (by simp)
end K83
end

section
set_option maxRecDepth 100000
/-! We: drawn machines and words. -/
namespace K83
open Ev
variable {n : Nat} {m : Store} {M M' : Mc}
/-- what is known while the sequences are drawn -/
structure TurI (p k many letters : Nat) (m m0 : Store) (rest acc : List Val) (m' : Store) : Prop where
  ex : ∃ (ts ls : List Nat), rest = ls.map iv ∧ acc = ts.map Val.ref ∧ (∀ t ∈ ts, m.length ≤ t ∧ ∃ ys : List Nat, m'[t]? = some (.lst (ys.map iv)) ∧ ys.Perm (List.range many)) ∧ Fr [p] m0 m' ∧ Spr p (k + 12 * ts.length) m' ∧ ts.length + ls.length = letters
theorem tur_ok {p k many letters : Nat} {Y : Sys} {ρ ρ0 : Env} {m0 : Store} {Q : List Val → Store → Prop} (hY : Y.G = evF F con (n + 2)) (hρ : ρ = [some (.ref p), some (iv letters)] ++ ρ0) (h3 : ρ[3]? = some (some (iv many))) (h6 : 6 < ρ.length) (hs : Spr p k m0) (hk : k < 1000) (hl : letters ≤ 3) (hm : many ≤ 12) (hm0 : m.length ≤ m0.length) (hpm : p < m.length)
    (q : ∀ (ts : List Nat) m', ts.length = letters → (∀ t ∈ ts, m.length ≤ t ∧ ∃ ys : List Nat, m'[t]? = some (.lst (ys.map iv)) ∧ ys.Perm (List.range many)) → Fr [p] m0 m' → Spr p (k + 36) m' → Q (ts.map Val.ref) m') :
    wR (loopC (.name 6) [] (ρ.set 6 none) (bodyC Y (evE Y (.call 31 (.cons (.loc 0) (.cons (.lrange (.int 0) (.loc 3)) .nil)))) .nil .nil) ((List.range letters).map iv) m0) Q := by
  refine (loopC_inv (TurI p k many letters m m0) ?_ ?_ _ [] _ ⟨[], List.range letters, rfl, rfl, (fun _ h => nomatch h), .refl, hs, by simp⟩).mono ?_
  · rintro x xs acc m' ⟨ts, ls, e1, rfl, e3, e4, e5, e6⟩
    cases ls with
    | nil => cases e1
    | cons a ls =>
      obtain ⟨rfl, rfl⟩ := List.cons.inj e1
      refine ⟨rfl, _, rfl, ?_⟩
      rw [bC_0]
      have g0 : ρ[0]? = some (some (.ref p)) := by rw [hρ]; rfl
      have hml : many ≤ lim := by rw [lim_num]; omega
      simp [g0, h3, small_0, small_nat (show many < 1000000 by omega), rangeL_0, hml, hY]
      have e6' : ts.length + (ls.length + 1) = letters := e6
      have l0 := e4.le
      have fr1 : Fr [p] m' (m' ++ [.lst ((List.range many).map iv)]) := .app
      have hpl := e5.lt
      refine law_order_m (t := m'.length) (xs := List.range many) (k := k + 12 * ts.length) (e5.fr (S := []) .app (fun h => nomatch h)) (by simp; omega) get_new fun ys a2 m2 p2 la ga f2 s2 => ?_
      have ff := fr1.trans f2
      refine ⟨ts ++ [a2], ls, rfl, by simp, ?_, e4.trans ff, s2.le (by simp; omega), by simp; omega⟩
      intro t ht
      rcases List.mem_append.mp ht with ht | ht
      · obtain ⟨k1, ys', k2, k3⟩ := e3 t ht
        exact ⟨k1, ys', ff.lt k2 (by simp; omega), k3⟩
      · rw [List.mem_singleton.mp ht]
        simp at la
        exact ⟨by omega, ys, ga, p2⟩
  · exact fun _ _ _ => rfl
  · rintro vs m' ⟨ts, ls, e1, e2, e3, e4, e5, e6⟩
    have : ls = [] := by cases ls <;> simp at e1 ⊢
    subst this
    simp at e2 e6
    rw [e2]
    exact q ts m' e6 e3 e4 (e5.le (by omega))
def sW1 : S := (.ite (.cmp .eq (.loc 4) (.int 1)) (.cons (.asg (.name 12) (.ite (.cmp .eq (.tup (.cons (.loc 9) (.cons (.loc 6) .nil))) (.loc 8)) (.int 1) (.int 0))) .nil) .nil)
def sW2 : S := (.ite (.and (.cmp .eq (.loc 4) (.int 2)) (.cmp .gt (.call 30 (.cons (.loc 0) (.cons (.int 3) .nil))) (.int 0))) (.cons (.asg (.name 11) (.ite (.cmp .eq (.loc 6) (.int 0)) (.blt .min2 (.cons (.bin .sub (.loc 3) (.int 1)) (.cons (.bin .add (.loc 9) (.int 1)) .nil))) (.int 0))) .nil) .nil)
def sW3 : S := (.ite (.cmp .eq (.loc 4) (.int 3)) (.cons (.asg (.name 11) (.idx (.idx (.loc 7) (.loc 6)) (.loc 9))) .nil) .nil)
def sAp : S := (.ex (.mth .append (.loc 10) (.cons (.tup (.cons (.loc 11) (.cons (.loc 12) .nil))) .nil)))
/-- the locals of _law_machine -/
def eM (p L A N way pr le pt o1 o2 st pw a b : Nat) : Env := [some (.ref p), some (iv L), some (iv A), some (iv N), some (iv way), some (.ref pr), some (iv le), some (.ref pt), some (.tup [iv o1, iv o2]), some (iv st), some (.ref pw), some (iv a), some (iv b)]
theorem eqM_pair {a b c d : Nat} : eqM m (.tup [iv a, iv b]) (.tup [iv c, iv d]) = some (decide (a = c) && decide (b = d)) := by
  have := eqM_wd (m := m) (a := [a, b]) (b := [c, d])
  simp only [wdV, List.map_cons, List.map_nil] at this
  rw [this]
  by_cases h1 : a = c <;> by_cases h2 : b = d <;> simp [h1, h2]
theorem few_step {p k L A N way pr le pt o1 o2 st pw a b : Nat} {Y : Sys} {Q : Fl → Store → Prop} (hY : Y.G = evF F con (n + 1)) (hs : Spr p k m) (hk : k < 1000) (ha : a < N) (hb : b < A) (hA : 2 ≤ A) (hA9 : A ≤ 9) (hN : N ≤ 12) (hst : st < N)
    (ht : ∃ (ts : List Nat) (ys : List Nat) (t : Nat), m[pt]? = some (.lst (ts.map Val.ref)) ∧ ts[le]? = some t ∧ m[t]? = some (.lst (ys.map iv)) ∧ ys.Perm (List.range N) ∧ p ≠ pt ∧ p ≠ t)
    (q : ∀ (a b : Nat) m', a < N → b < A → Fr [p] m m' → m'.length = m.length → Spr p (k + 1) m' → wSs Y (.cons sAp .nil) (eM p L A N way pr le pt o1 o2 st pw a b) m' Q) :
    wSs Y (.cons sW1 (.cons sW2 (.cons sW3 (.cons sAp .nil)))) (eM p L A N way pr le pt o1 o2 st pw a b) m Q := by
  obtain ⟨ts, ys, t, t1, t2, t3, t4, t5, t6⟩ := ht
  have hle : le < ts.length := by
    rcases Nat.lt_or_ge le ts.length with h | h
    · exact h
    · rw [List.getElem?_eq_none h] at t2; cases t2
  have et : t = ts[le] := by rw [List.getElem?_eq_getElem hle] at t2; exact (Option.some.inj t2).symm
  subst et
  have hys : st < ys.length := by rw [t4.length_eq]; simpa using hst
  -- the last test
  have st3 : ∀ (a b : Nat) m', a < N → b < A → Fr [p] m m' → m'.length = m.length → Spr p (k + 1) m' → wSs Y (.cons sW3 (.cons sAp .nil)) (eM p L A N way pr le pt o1 o2 st pw a b) m' Q := fun a b m' h1 h2 h3 h4 h5 => by
    have g1 : m'[pt]? = some (.lst (ts.map Val.ref)) := h3.lt t1 (by simp; omega)
    have g2 : m'[ts[le]]? = some (.lst (ys.map iv)) := h3.lt t3 (by simp; omega)
    rw [wSs_cons]
    by_cases hw : way = 3
    · have e : ys[st]? = some ys[st] := List.getElem?_eq_getElem hys
      have hlt : ys[st] < N := by
        have := t4.mem_iff.mp (List.getElem_mem hys)
        simpa using this
      simp [sW3, wT, eM, cmpV, eqM_int, hw, idxV, g1, hle, g2, hys, e, bindT]
      rw [← hw]
      have := q ys[st] b m' hlt h2 h3 h4 h5
      rw [wSs_cons] at this
      exact this
    · have hw' : ¬ ((way : Int) = 3) := by omega
      simp only [sW3, wS_ite, wT, eM, wE_cmp, wE_loc, wE_int, List.getElem?_cons_succ, List.getElem?_cons_zero, Option.join_some, oP_some, cmpV, eqM_int, hw', wR_ok, asP_bl, decide_false, Bool.false_eq_true, if_false, wSs_nil, kS_nx]
      exact q a b m' h1 h2 h3 h4 h5
  have st2 : ∀ (a b : Nat), a < N → b < A → wSs Y (.cons sW2 (.cons sW3 (.cons sAp .nil))) (eM p L A N way pr le pt o1 o2 st pw a b) m Q := fun a b h1 h2 => by
    rw [wSs_cons]
    by_cases hw : way = 2
    · subst hw
      simp [sW2, wT, eM, cmpV, eqM_int, hY]
      refine law_few_m (many := 3) hs (by omega) (by omega) (by omega) fun r m2 hr f2 l2 s2 => ?_
      by_cases hr0 : 0 < r
      · simp [hr0]
        by_cases hle0 : le = 0
        · subst hle0
          simp [binV, bltV, bindT]
          have e : (if (st : Int) + 1 < (N : Int) - 1 then (st : Int) + 1 else (N : Int) - 1) = ((if st + 1 < N - 1 then st + 1 else N - 1 : Nat) : Int) := by
            split <;> split <;> omega
          rw [e]
          have := st3 _ b m2 (show (if st + 1 < N - 1 then st + 1 else N - 1) < N by split <;> omega) h2 f2 l2 s2
          rw [wSs_cons] at this
          exact this
        · simp [hle0, bindT]
          have := st3 0 b m2 (by omega) h2 f2 l2 s2
          rw [wSs_cons] at this
          exact this
      · simp [hr0]
        have := st3 a b m2 h1 h2 f2 l2 s2
        rw [wSs_cons] at this
        exact this
    · have hw' : ¬ ((way : Int) = 2) := by omega
      simp only [sW2, wS_ite, wT, eM, wE_and, wE_cmp, wE_loc, wE_int, List.getElem?_cons_succ, List.getElem?_cons_zero, Option.join_some, oP_some, cmpV, eqM_int, hw', wR_ok, asP_bl, decide_false, Bool.false_eq_true, if_false, wSs_nil, kS_nx]
      exact st3 a b m h1 h2 .refl rfl (hs.le (by omega))
  rw [wSs_cons]
  by_cases hw : way = 1
  · subst hw
    by_cases hc : st = o1 ∧ le = o2
    · simp [sW1, wT, eM, cmpV, eqM_int, eqM_pair, lim_num, hc, bindT]
      have := st2 a 1 ha (by omega)
      simp only [eM] at this
      rw [hc.1, hc.2, wSs_cons] at this
      exact this
    · have hc' : (decide (st = o1) && decide (le = o2)) = false := by
        by_cases h1 : st = o1 <;> by_cases h2 : le = o2 <;> simp_all
      simp only [sW1, wS_ite, wT, eM, wE_cmp, wE_loc, wE_int, wE_ite, wE_tup, wEs_cons, wEs_nil, List.getElem?_cons_succ, List.getElem?_cons_zero, Option.join_some, oP_some, cmpV, eqM_int, eqM_pair, hc', wR_ok, asP_bl, wSs_nil, wSs_cons, wS_asg, bindT, kS_nx]
      simp [lim_num]
      have := st2 a 0 ha (by omega)
      rw [wSs_cons] at this
      exact this
  · have hw' : ¬ ((way : Int) = 1) := by omega
    simp only [sW1, wS_ite, wT, eM, wE_cmp, wE_loc, wE_int, List.getElem?_cons_succ, List.getElem?_cons_zero, Option.join_some, oP_some, cmpV, eqM_int, hw', wR_ok, asP_bl, decide_false, Bool.false_eq_true, if_false, wSs_nil, kS_nx]
    exact st2 a b ha hb
/-- the drawn sequences stand -/
structure TF (p pr N L pt bd : Nat) (ts : List Nat) (m' : Store) : Prop where
  pt_ : m'[pt]? = some (.lst (ts.map Val.ref))
  len : ts.length = L
  t_ : ∀ t ∈ ts, (∃ ys : List Nat, m'[t]? = some (.lst (ys.map iv)) ∧ ys.Perm (List.range N)) ∧ t ≠ p ∧ t ≠ pr ∧ t < bd
  np : pt ≠ p ∧ pt ≠ pr ∧ pt < bd
theorem TF.fr {p pr N L pt bd : Nat} {ts : List Nat} {m m' : Store} {S : List Nat} (h : TF p pr N L pt bd ts m) (f : Fr S m m') (hS : ∀ s ∈ S, s = p ∨ s = pr ∨ bd ≤ s) : TF p pr N L pt bd ts m' := by
  have no : ∀ t, t ≠ p → t ≠ pr → t < bd → t ∉ S := fun t h1 h2 h3 h4 => by
    rcases hS t h4 with e | e | e <;> omega
  refine ⟨f.lt h.pt_ (no _ h.np.1 h.np.2.1 h.np.2.2), h.len, fun t ht => ?_, h.np⟩
  obtain ⟨⟨ys, y1, y2⟩, h1, h2, h3⟩ := h.t_ t ht
  exact ⟨⟨ys, f.lt y1 (no _ h1 h2 h3), y2⟩, h1, h2, h3⟩
structure InI (p k L A N way pr pt o1 o2 st pw bd : Nat) (ts : List Nat) (rs : List (List Ent)) (m : Store) (rest : List Nat) (ρ : Env) (m' : Store) : Prop where
  ex : ∃ (es : List Ent) (le a b : Option Val), ρ = [some (.ref p), some (iv L), some (iv A), some (iv N), some (iv way), some (.ref pr), le, some (.ref pt), some (.tup [iv o1, iv o2]), some (iv st), some (.ref pw), a, b] ∧ (∀ x ∈ rest, x < L) ∧ es.length + rest.length = L ∧ (∀ e ∈ es, e.1 < N ∧ e.2 < A) ∧
    m'[pw]? = some (.lst (es.map entV)) ∧ m'[pr]? = some (.lst (rs.map rowV)) ∧ TF p pr N L pt bd ts m' ∧ Fr [p] m m' ∧ Spr p (k + 3 * es.length) m'
structure OutI (p k L A N way pr pt o1 o2 bd : Nat) (ts : List Nat) (m : Store) (rest : List Nat) (ρ : Env) (m' : Store) : Prop where
  ex : ∃ (rs : List (List Ent)) (le st pw a b : Option Val), ρ = [some (.ref p), some (iv L), some (iv A), some (iv N), some (iv way), some (.ref pr), le, some (.ref pt), some (.tup [iv o1, iv o2]), st, pw, a, b] ∧ (∀ x ∈ rest, x < N) ∧ rs.length + rest.length = N ∧ (∀ r ∈ rs, r.length = L ∧ ∀ e ∈ r, e.1 < N ∧ e.2 < A) ∧
    m'[pr]? = some (.lst (rs.map rowV)) ∧ TF p pr N L pt bd ts m' ∧ Fr [p] m m' ∧ bd ≤ m'.length ∧ Spr p (k + 9 * rs.length) m'
theorem law_machine_m {p k L A N : Nat} {Q : Val → Store → Prop} (hs : Spr p k m) (hk : k < 500) (l1 : 1 ≤ L) (l3 : L ≤ 3) (a2 : 2 ≤ A) (a9 : A ≤ 9) (s1 : 1 ≤ N) (s12 : N ≤ 12)
    (q : ∀ (M : Mc) m', M.Ok → M.L = L → M.A = A → M.rows.length = N → Fr [p] m m' → Spr p (k + 150) m' → Q (mcV M) m') : wR (evF F con (n + 3) 33 [.ref p, iv L, iv A, iv N] m) Q := by
  have hp := hs.lt
  refine wF rfl rfl ?_
  simp [f_law_machine, start]
  refine law_few_m (n := n + 1) (many := 5) hs (by omega) (by omega) (by omega) fun way m1 hw f1 e1 sp1 => ?_
  have hp1 := sp1.lt
  simp [bindT, lim_num, wC_cons, small_0, small_nat (show L < 1000000 by omega), rangeL_0, wipeE, slT, slG]
  have fr2 : Fr [p] m1 (m1 ++ [.lst []]) := .app
  refine tur_ok (n := n) (m := m1 ++ [.lst []]) (p := p) (k := k + 1) (letters := L) (many := N) (ρ0 := [some (iv A), some (iv N), some (iv way), some (.ref m1.length), none, none, none, none, none, none, none]) rfl rfl rfl (by simp) (sp1.fr (S := []) .app (fun h => nomatch h)) (by omega) l3 s12 (Nat.le_refl _) (by simp; omega) fun ts m3 t1 t2 f3 sp3 => ?_
  have l3' := f3.le
  simp at l3'
  have hp3 := sp3.lt
  have hpr : m3[m1.length]? = some (.lst []) := f3.lt (get_new) (by simp; omega)
  simp [t1, show L ≤ 16777216 by omega]
  have fr4 : Fr [p] m3 (m3 ++ [.lst (ts.map Val.ref)]) := .app
  refine law_few_m (n := n + 1) (many := N) (sp3.fr (S := []) .app (fun h => nomatch h)) (by omega) (by omega) (by omega) fun o1 m5 ho1 f5 e5 sp5 => ?_
  skip
  refine law_few_m (n := n + 1) (many := L) sp5 (by omega) (by omega) (by omega) fun o2 m6 ho2 f6 e6 sp6 => ?_
  simp [small_nat (show N < 1000000 by omega)]
  have fr36 : Fr [p] m3 m6 := fr4.trans (f5.trans f6)
  have fr06 : Fr [p] m m6 := f1.trans (fr2.trans (f3.trans fr36))
  have tf : TF p m1.length N L m3.length (m3.length + 1) ts m6 := by
    refine ⟨(f5.trans f6).lt get_new (by simp; omega), t1, fun t ht => ?_, by omega, by omega, by omega⟩
    obtain ⟨k1, ys, k2, k3⟩ := t2 t ht
    simp at k1
    have := lt_of_get k2
    exact ⟨⟨ys, fr36.lt k2 (by simp; omega), k3⟩, by omega, by omega, by omega⟩
  have l6 : m3.length + 1 ≤ m6.length := by have := (f5.trans f6).le; simpa using this
  refine loopF_map iv (OutI p (k + 40) L A N way m1.length m3.length o1 o2 (m3.length + 1) ts m) ?_ ?_ _ _ _ ⟨[], _, _, _, _, _, rfl, by simp, by simp, (fun _ h => nomatch h), fr36.lt hpr (by simp; omega), tf, fr06, l6, sp6.le (by simp)⟩
  · rintro st rest ρ m7 ⟨rs, le, st0, pw0, a, b, rfl, r1, r2, r3, r4, r5, r6, r7, r8⟩
    have hst := r1 st List.mem_cons_self
    have r2' : rs.length + (rest.length + 1) = N := r2
    refine ⟨rfl, _, rfl, ?_⟩
    show wSs _ _ _ _ _
    simp [bindT, lim_num, small_0, small_nat (show L < 1000000 by omega), rangeL_0]
    have hp7 := r8.lt
    have hpr7 := lt_of_get r4
    have l7 := r6.le
    refine loopF_map iv (InI p (k + 40 + 9 * rs.length) L A N way m1.length m3.length o1 o2 st m7.length (m3.length + 1) ts rs m) ?_ ?_ _ _ _ ⟨[], _, _, _, rfl, by simp, by simp, (fun _ h => nomatch h), get_new, by rw [List.getElem?_append_left hpr7]; exact r4, r5.fr (S := []) .app (fun _ h => nomatch h), r6.trans .app, (r8.fr (S := []) .app (fun h => nomatch h)).le (by simp)⟩
    · rintro x xs ρ m8 ⟨es, le, a, b, rfl, i1, i2, i3, i4, i5, i6, i7, i8⟩
      have hx := i1 x List.mem_cons_self
      have i2' : es.length + (xs.length + 1) = L := i2
      refine ⟨rfl, _, rfl, ?_⟩
      show wSs _ _ _ _ _
      simp only [List.set_cons_succ, List.set_cons_zero]
      rw [wSs_cons]
      simp only [wS_asg, wE_tup, wEs_cons, wEs_nil, wE_call, wE_loc, List.getElem?_cons_succ, List.getElem?_cons_zero, Option.join_some, oP_some]
      refine law_few_m (n := n + 1) (many := N) i8 (by omega) (by omega) (by omega) fun a1 m9 ha1 f9 e9 sp9 => ?_
      refine law_few_m (n := n + 1) (many := A) sp9 (by omega) (by omega) (by omega) fun b1 m10 hb1 f10 e10 sp10 => ?_
      simp only [lim_num, List.length_cons, List.length_nil, bindT, oP_some, kS_nx, List.set_cons_succ, List.set_cons_zero]
      refine ⟨by omega, ?_⟩
      have f810 := f9.trans f10
      have tf10 := i6.fr f810 (fun s h => .inl (by simpa using h))
      have hxl : x < ts.length := by rw [i6.len]; exact hx
      obtain ⟨⟨ys, y1, y2⟩, y3, y4, y5⟩ := tf10.t_ ts[x] (List.getElem_mem hxl)
      refine few_step (Y := ⟨evF F con (n + 2), con⟩) (n := n + 1) (k := k + 40 + 9 * rs.length + 3 * es.length + 1 + 1) (a := a1) (b := b1) (le := x) (pt := m3.length) rfl sp10 (by omega) ha1 hb1 a2 a9 s12 hst ⟨ts, ys, ts[x], tf10.pt_, List.getElem?_eq_getElem hxl, y1, y2, fun e => tf10.np.1 e.symm, fun e => y3 e.symm⟩ fun a3 b3 m11 ha3 hb3 f11 e11 sp11 => ?_
      have f811 := f810.trans f11
      have hw8 := i4
      have hwlt := lt_of_get i4
      have g4 : m11[m7.length]? = some (.lst (es.map entV)) := f811.lt i4 (by simp; omega)
      have g5 : m11[m1.length]? = some (.lst (rs.map rowV)) := f811.lt i5 (by simp; omega)
      have hel : es.length < 16777216 := by omega
      simp [sAp, eM, kindM, mthV, g4, lim_num, hel]
      refine ⟨es ++ [(a3, b3)], _, _, _, rfl, fun y hy => i1 y (List.mem_cons_of_mem _ hy), by simp; omega, ?_, by rw [get_set g4]; simp [entV], ?_, ?_, (i7.trans f811).setN l7, ?_⟩
      · intro e he
        rcases List.mem_append.mp he with he | he
        · exact i3 e he
        · rw [List.mem_singleton.mp he]; exact ⟨ha3, hb3⟩
      · rw [List.getElem?_set_ne (by omega)]; exact g5
      · exact (i6.fr f811 (fun s h => .inl (by simpa using h))).fr (S := [m7.length]) (.set (by simp)) (fun s h => .inr (.inr (by simp at h; omega)))
      · exact (sp11.fr (S := [m7.length]) (.set (by simp)) (by simp; omega)).le (by simp; omega)
    · rintro ρ m8 ⟨es, le, a, b, rfl, i1, i2, i3, i4, i5, i6, i7, i8⟩
      have i2' : es.length = L := by simpa using i2
      have hwlt := lt_of_get i4
      have hrl : rs.length < 16777216 := by omega
      have hel : es.length ≤ 16777216 := by omega
      refine ⟨rfl, ?_⟩
      simp [kindM, mthV, bltV, itemsM, i4, i5, lim_num, hrl, hel]
      refine ⟨rs ++ [es], _, _, _, _, _, rfl, fun y hy => r1 y (List.mem_cons_of_mem _ hy), by simp; omega, ?_, by rw [get_set i5]; simp [rowV], ?_, ?_, ?_, ?_⟩
      · intro r hr
        rcases List.mem_append.mp hr with hr | hr
        · exact r3 r hr
        · rw [List.mem_singleton.mp hr]; exact ⟨i2', i3⟩
      · exact i6.fr (S := [m1.length]) (.set (by simp)) (fun s h => .inr (.inl (by simpa using h)))
      · refine i7.setN ?_
        omega
      · simp; omega
      · exact (i8.fr (S := [m1.length]) (.set (by simp)) (by simp; omega)).le (by simp; omega)
  · rintro ρ m7 ⟨rs, le, st0, pw0, a, b, rfl, r1, r2, r3, r4, r5, r6, r7, r8⟩
    have r2' : rs.length = N := by simpa using r2
    have hrl : rs.length ≤ 16777216 := by omega
    refine ⟨rfl, ?_⟩
    simp [bltV, itemsM, r4, lim_num, hrl]
    refine q ⟨L, A, rs⟩ m7 ⟨l1, l3, a2, a9, by simp; omega, by simp; omega, fun r hr => (r3 r hr).1, fun r hr e he => ?_⟩ rfl rfl r2' r6 (r8.le (by omega))
    have := (r3 r hr).2 e he
    simp
    omega
end K83
end

section
set_option maxRecDepth 100000
/-! Wf: words, springs. -/
namespace K83
open Ev
variable {n : Nat} {m : Store} {M M' : Mc}
theorem law_word_m {p k L most : Nat} {Q : Val → Store → Prop} (hs : Spr p k m) (hk : k < 2000) (l1 : 1 ≤ L) (l3 : L ≤ 3) (hm : most ≤ 100)
    (q : ∀ (w : List Nat) m', w.length ≤ most → (∀ a ∈ w, a < L) → Fr [p] m m' → Spr p (k + 1 + most) m' → Q (wdV w) m') : wR (evF F con (n + 2) 34 [.ref p, iv L, iv most] m) Q := by
  refine wF rfl rfl ?_
  simp only [f_law_word, start, List.map_cons, List.map_nil, List.length_cons, List.length_nil, List.cons_append, List.nil_append, wSs_cons, wS_ret, wE_blt, wEs_cons, wEs_nil, wE_lc, wC_cons, wIt_range, wE_int, wE_call, wE_loc, wE_bin, List.getElem?_cons_succ, List.getElem?_cons_zero, Option.join_some, oP_some]
  simp only [binV, wR_pure]
  have e1 : (((most : Nat) : Int) + 1) = ((most + 1 : Nat) : Int) := by push_cast; rfl
  rw [e1]
  refine law_few_m (many := most + 1) hs (by omega) (by omega) (by omega) fun r m1 hr f1 _ s1 => ?_
  simp only [small_0, small_nat (show r < 1000000 by omega), and_self, true_and, Int.sub_zero, Int.toNat_natCast, rangeL_0]
  have key : wR (loopC (.name 3) [] (wipeE [some (.ref p), some (iv L), some (iv most), none] (slT (.name 3) ++ slG .nil)) (bodyC ⟨evF F con (n + 1), con⟩ (evE ⟨evF F con (n + 1), con⟩ (.call 30 (.cons (.loc 0) (.cons (.loc 1) .nil)))) .nil .nil) ((List.range r).map iv) m1)
      (fun vs m' => ∃ w : List Nat, vs = w.map iv ∧ w.length = r ∧ (∀ a ∈ w, a < L) ∧ Fr [p] m1 m' ∧ Spr p (k + 1 + r) m') := by
    refine (loopC_inv (fun rest acc m' => ∃ (w ls : List Nat), rest = ls.map iv ∧ acc = w.map iv ∧ w.length + ls.length = r ∧ (∀ a ∈ w, a < L) ∧ Fr [p] m1 m' ∧ Spr p (k + 1 + w.length) m') ?_ ?_ _ [] _ ⟨[], List.range r, rfl, rfl, by simp, (fun _ h => nomatch h), .refl, s1⟩).mono ?_
    · rintro x xs acc m' ⟨w, ls, e1, rfl, e3, e4, e5, e6⟩
      cases ls with
      | nil => cases e1
      | cons a ls =>
        obtain ⟨rfl, rfl⟩ := List.cons.inj e1
        have e3' : w.length + (ls.length + 1) = r := e3
        refine ⟨rfl, _, rfl, ?_⟩
        rw [bC_0]
        simp [wipeE, slT, slG]
        refine law_few_m (many := L) e6 (by omega) (by omega) (by omega) fun r2 m2 hr2 f2 _ s2 => ?_
        refine ⟨w ++ [r2], ls, rfl, by simp, by simp; omega, ?_, e5.trans f2, s2.le (by simp; omega)⟩
        intro b hb
        rcases List.mem_append.mp hb with hb | hb
        · exact e4 b hb
        · rw [List.mem_singleton.mp hb]; exact hr2
    · exact fun _ _ _ => rfl
    · rintro vs m' ⟨w, ls, e1, e2, e3, e4, e5, e6⟩
      have : ls = [] := by cases ls <;> simp at e1 ⊢
      subst this
      simp at e2 e3
      exact ⟨w, e2, e3, e4, e5, e6.le (by omega)⟩
  refine key.mono ?_
  rintro vs m2 ⟨w, rfl, hw, hL, f2, s2⟩
  have hwl : w.length ≤ 16777216 := by omega
  simp [bltV, itemsM, lim_num, hwl]
  exact q w _ (by omega) hL ((f1.trans f2).trans .app) ((s2.fr (S := []) .app (fun h => nomatch h)).le (by omega))
/-! ### springs -/
theorem mulOk_r {i j : Int} (h : -(2 ^ 64) < j ∧ j < 2 ^ 64) : mulOk i j = true := by
  unfold mulOk
  rw [Bool.or_eq_true]
  exact .inl (by rw [decide_eq_true_eq]; exact .inr h)
theorem stepV_ints {ns : List Int} {lo st : Int} : ∃ cs : List Int, stepV (ns.map .int) lo st = cs.map .int := by
  unfold stepV
  generalize PySem.sliceRange _ _ _ = is
  induction is with
  | nil => exact ⟨[], rfl⟩
  | cons i is ih =>
    obtain ⟨cs, e⟩ := ih
    by_cases hi : i < ns.length
    · have e2 : (ns.map Val.int)[i]? = some (.int ns[i]) := by simp [hi]
      exact ⟨ns[i] :: cs, by rw [List.filterMap_cons_some e2, e]; rfl⟩
    · have e2 : (ns.map Val.int)[i]? = none := by simp; omega
      exact ⟨cs, by rw [List.filterMap_cons_none e2, e]⟩
theorem stepV_len {xs : List Val} {k : Nat} (h : xs.length ≤ 63) : (stepV xs k 5).length ≤ 100 := by
  unfold stepV
  refine Nat.le_trans (List.length_filterMap_le _ _) ?_
  unfold PySem.sliceRange
  simp only [List.length_map, List.length_range]
  split
  · split
    · omega
    · simp
  · omega
theorem flats_int : ∀ w : List Int, Val.flats (w.map Val.int) = true
  | [] => rfl
  | _ :: w => by simp [Val.flats, Val.flat, flats_int w]
theorem soks_int : ∀ w : List Int, Val.soks (w.map Val.int) = true
  | [] => rfl
  | _ :: w => by simp [Val.soks, Val.sok, soks_int w]
theorem deps_int : ∀ w : List Int, Val.deps (w.map Val.int) = 0
  | [] => rfl
  | _ :: w => by simp [Val.deps, Val.dep, deps_int w]
theorem sumI_int : ∀ w : List Int, sumI (w.map Val.int) = some w.sum
  | [] => rfl
  | x :: w => by simp [sumI, sumI_int w]
/-- the script -/
def Scr (v : Val) (m : Store) (ns : List Int) : Prop := v = .scr ns ∨ (v = .ref 0 ∧ m[0]? = some (.lst (ns.map .int)))
theorem Scr.fr {v : Val} {m m' : Store} {ns : List Int} {S : List Nat} (h : Scr v m ns) (f : Fr S m m') (h0 : v = .ref 0 → 0 ∉ S) : Scr v m' ns := by
  rcases h with h | ⟨h1, h2⟩
  · exact .inl h
  · exact .inr ⟨h1, f.lt h2 (h0 h1)⟩
theorem Scr.len {v : Val} {m : Store} {ns : List Int} (h : Scr v m ns) : lenM m v = some ns.length := by
  rcases h with rfl | ⟨rfl, h2⟩
  · rfl
  · simp [lenM, h2]
theorem Scr.sl3 {v : Val} {m : Store} {ns : List Int} {k : Nat} (h : Scr v m ns) : sl3V v (iv k) .non (.int 5) m = newLst (stepV (ns.map .int) k 5) m := by
  rcases h with rfl | ⟨rfl, h2⟩
  · simp [sl3V]
  · simp [sl3V, h2]
structure SpI (v : Val) (ns : List Int) (cnt : Nat) (m : Store) (rest : List Nat) (ρ : Env) (m' : Store) : Prop where
  ex : ∃ (ps : List Nat) (x3 x4 x5 x6 : Option Val), ρ = [some v, some (.int 5), some (.ref m.length), x3, x4, x5, x6] ∧ m'[m.length]? = some (.lst (ps.map Val.ref)) ∧ (∀ p ∈ ps, m.length < p ∧ Spr p 0 m') ∧ ps.Nodup ∧ Scr v m' ns ∧ ps.length + rest.length = cnt ∧ (∀ x ∈ rest, x < 64)
/-- one spring's making, behind `cells` -/
theorem spring_ok {Y : Sys} {v : Val} {x c : Nat} {Q : Fl → Store → Prop} {cs : List Int} {ps : List Nat} {a : Nat} (hx : x < 64) (hc : m[c]? = some (.lst (cs.map .int))) (ha : m[a]? = some (.lst (ps.map Val.ref))) (hcl : cs.length ≤ 100) (hps : ps.length < 1000) (hac : a ≠ c)
    (q : ∀ (b d : Int) (m2 : Store) (p : Nat) (x5 x6 : Option Val), 0 ≤ d → d < 10 ^ 36 → Fr [a] m m2 → m.length ≤ p → m2[p]? = some (.lst [.int b, .int d, .int 0]) → m2[a]? = some (.lst ((ps ++ [p]).map Val.ref)) → Q (.nx [some v, some (.int 5), some (.ref a), some (iv x), some (.ref c), x5, x6]) m2) (x5 x6 : Option Val) :
    wSs Y (.cons (.asg (.name 5) (.ite (.cmp .ne (.loc 4) (.lst .nil)) (.idx (.loc 4) (.int 0)) (.int 5))) (.cons (.asg (.name 6) (.bin .mod (.blt .int (.cons (.bin .add (.bin .add (.bin .add (.bin .mul (.loc 5) (.int 60013)) (.bin .mul (.blt .sum (.cons (.sl (.loc 4) (.int 1) .non) .nil)) (.int 7919))) (.bin .mul (.int 8191) (.loc 3))) (.int 77)) .nil)) (.bin .add (.bin .pow (.int 10) (.int 35)) (.int 69)))) (.cons (.ex (.mth .append (.loc 2) (.cons (.lst (.cons (.ite (.cmp .ge (.loc 5) (.bin .pow (.int 10) (.int 18))) (.bin .sub (.loc 5) (.bin .pow (.int 10) (.int 18))) (.int 0)) (.cons (.loc 6) (.cons (.int 0) .nil)))) .nil))) .nil)))
      [some v, some (.int 5), some (.ref a), some (iv x), some (.ref c), x5, x6] m Q := by
  have hcl2 := lt_of_get hc
  have hal2 := lt_of_get ha
  have g1 : ∀ l, (m ++ l)[c]? = some (.lst (cs.map .int)) := fun l => by rw [List.getElem?_append_left hcl2]; exact hc
  have g2 : ∀ l, (m ++ l)[a]? = some (.lst (ps.map Val.ref)) := fun l => by rw [List.getElem?_append_left hal2]; exact ha
  have e1 : eqM (m ++ [.lst []]) (.ref c) (.ref m.length) = some (decide (cs = [])) := by
    simp only [eqM, Val.flat, Bool.false_and, Bool.false_eq_true, if_false, g1, get_new]
    simp [flats_int, soks_int, deps_int, Val.flats, Val.soks, Val.deps]
    cases cs <;> simp [Val.eqvs]
  have fin : ∀ (F0 : Int) (l : Store), wSs Y (.cons (.asg (.name 6) (.bin .mod (.blt .int (.cons (.bin .add (.bin .add (.bin .add (.bin .mul (.loc 5) (.int 60013)) (.bin .mul (.blt .sum (.cons (.sl (.loc 4) (.int 1) .non) .nil)) (.int 7919))) (.bin .mul (.int 8191) (.loc 3))) (.int 77)) .nil)) (.bin .add (.bin .pow (.int 10) (.int 35)) (.int 69)))) (.cons (.ex (.mth .append (.loc 2) (.cons (.lst (.cons (.ite (.cmp .ge (.loc 5) (.bin .pow (.int 10) (.int 18))) (.bin .sub (.loc 5) (.bin .pow (.int 10) (.int 18))) (.int 0)) (.cons (.loc 6) (.cons (.int 0) .nil)))) .nil))) .nil))
      [some v, some (.int 5), some (.ref a), some (iv x), some (.ref c), some (.int F0), x6] (m ++ l) Q := fun F0 l => by
    have hs : sumI (List.map Val.int cs).tail = some cs.tail.sum := by rw [← List.map_tail]; exact sumI_int _
    have k1 : mulOk F0 60013 = true := mulOk_r (by decide)
    have k2 : ∀ z, mulOk z 7919 = true := fun z => mulOk_r (by decide)
    have k3 : ∀ z, mulOk 8191 z = true := fun z => mulOk_s (by decide)
    have hpl : ps.length < 16777216 := by omega
    simp [binV, bltV, wT, cmpV, bindT, g1, g2, slV, partOf, cut1, hs, k1, k2, k3, kindM, mthV, lim_num, hpl]
    have d0 : 0 ≤ (F0 * 60013 + cs.tail.sum * 7919 + 8191 * ↑x + 77) % 100000000000000000000000000000000069 := Int.emod_nonneg _ (by decide)
    have d1 : (F0 * 60013 + cs.tail.sum * 7919 + 8191 * ↑x + 77) % 100000000000000000000000000000000069 < 10 ^ 36 := Int.lt_trans (Int.emod_lt_of_pos _ (by decide)) (by decide)
    generalize (F0 * 60013 + cs.tail.sum * 7919 + 8191 * ↑x + 77) % 100000000000000000000000000000000069 = d at d0 d1 ⊢
    have fin2 : ∀ (b : Int) (x5 x6 : Option Val), Q (.nx [some v, some (.int 5), some (.ref a), some (iv x), some (.ref c), x5, x6]) ((m ++ (l ++ [Obj.lst (List.map Val.int cs).tail, Obj.lst [Val.int b, Val.int d, Val.int 0]])).set a (Obj.lst (List.map Val.ref ps ++ [Val.ref (List.length m + (List.length l + 1))]))) := fun b x5 x6 => by
      refine q b d _ (m.length + (l.length + 1)) x5 x6 d0 d1 (.trans .app (.set (by simp))) (by omega) ?_ ?_
      · rw [List.getElem?_set_ne (by omega), List.getElem?_append_right (by omega), List.getElem?_append_right (by omega)]
        have : m.length + (l.length + 1) - m.length - l.length = 1 := by omega
        rw [this]; rfl
      · rw [List.getElem?_set_self (by simp; omega)]; simp
    split
    · exact fin2 _ _ _
    · exact fin2 _ _ _
  rw [wSs_cons]
  cases cs with
  | nil =>
    simp only [wS_asg, wE_ite, wT, wE_cmp, wE_loc, wE_lst, wEs_nil, wE_int, wE_idx, List.getElem?_cons_succ, List.getElem?_cons_zero, Option.join_some, oP_some, cmpV, e1, wR_ok, asP_bl, bindT, kS_nx, List.set_cons_succ, List.set_cons_zero, List.length_nil, Nat.zero_le, true_and, decide_true, Bool.not_true, Bool.false_eq_true, if_false]
    exact fin 5 [.lst []]
  | cons y cs =>
    have g3 : (m ++ [Obj.lst []])[c]? = some (.lst (.int y :: cs.map .int)) := g1 _
    have g4 : idxV (.ref c) (.int 0) (m ++ [Obj.lst []]) = .ok (.int y) (m ++ [Obj.lst []]) := by simp [idxV, g3]
    have ne : decide (y :: cs = []) = false := by simp
    simp only [wS_asg, wE_ite, wT, wE_cmp, wE_loc, wE_lst, wEs_nil, wE_int, wE_idx, List.getElem?_cons_succ, List.getElem?_cons_zero, Option.join_some, oP_some, cmpV, e1, wR_ok, asP_bl, bindT, kS_nx, List.set_cons_succ, List.set_cons_zero, List.length_nil, Nat.zero_le, true_and, ne, Bool.not_false, if_true, g4]
    exact fin y [.lst []]
theorem law_springs_m {v : Val} {ns : List Int} {Q : Val → Store → Prop} (hv : Scr v m ns) (hl : ns.length ≤ 63)
    (q : ∀ (ps : List Nat) m' (r : Nat), m'[r]? = some (.lst (ps.map Val.ref)) → (∀ p ∈ ps, p ≠ r ∧ Spr p 0 m') → ps.Nodup → Q (.ref r) m') : wR (evF F con (n + 1) 29 [v, .int 5] m) Q := by
  refine wF rfl rfl ?_
  have fr1 : Fr [] m (m ++ [.lst []]) := .app
  have hl1 := (hv.fr fr1 (fun _ h => nomatch h)).len
  obtain ⟨cnt, hc, hcl⟩ : ∃ cnt : Nat, (if (if (5 : Int) < ns.length then 5 else (ns.length : Int)) > 1 then (if (5 : Int) < ns.length then 5 else (ns.length : Int)) else 1) = (cnt : Int) ∧ cnt ≤ 5 := by
    by_cases h1 : (5 : Int) < ns.length
    · exact ⟨5, by simp [h1], by omega⟩
    · by_cases h2 : (ns.length : Int) > 1
      · exact ⟨ns.length, by simp only [if_neg h1, if_pos h2], by omega⟩
      · exact ⟨1, by simp only [if_neg h1, if_neg h2]; rfl, by omega⟩
  simp only [f_law_springs, start, List.map_cons, List.map_nil, List.length_cons, List.length_nil, wSs_cons, wS_asg, wE_lst, wEs_nil, wEs_cons, wS_for, wIt_range, wE_int, wE_blt, wE_loc]
  simp [bltV, hl1, bindT, lim_num]
  rw [hc]
  simp only [small_0, small_nat (show cnt < 1000000 by omega), and_self, true_and, Int.toNat_natCast, rangeL_0]
  refine loopF_map iv (SpI v ns cnt m) ?_ ?_ _ _ _ ⟨[], _, _, _, _, rfl, get_new, (fun _ h => nomatch h), List.nodup_nil, hv.fr fr1 (fun _ h => nomatch h), by simp, fun x hx => by simp at hx; omega⟩
  · rintro x rest ρ m1 ⟨ps, x3, x4, x5, x6, rfl, e1, e2, e3, e4, e5, e6⟩
    have hx := e6 x List.mem_cons_self
    have e5' : ps.length + (rest.length + 1) = cnt := e5
    refine ⟨rfl, _, rfl, ?_⟩
    show wSs _ _ _ _ _
    rw [wSs_cons]
    simp only [wS_asg, wE_sl3, wE_loc, wE_non, List.set_cons_succ, List.set_cons_zero, List.getElem?_cons_succ, List.getElem?_cons_zero, Option.join_some, oP_some, e4.sl3, wR_newLst]
    obtain ⟨cs, hcs⟩ := stepV_ints (ns := ns) (lo := x) (st := 5)
    have hcl := stepV_len (xs := ns.map Val.int) (k := x) (by simpa using hl)
    refine ⟨by rw [lim_num]; omega, ?_⟩
    simp only [bindT, oP_some, kS_nx, List.set_cons_succ, List.set_cons_zero]
    rw [hcs] at hcl ⊢
    have hm1 := lt_of_get e1
    refine spring_ok (c := m1.length) (a := m.length) (cs := cs) (ps := ps) hx get_new (by rw [List.getElem?_append_left hm1]; exact e1) (by simpa using hcl) (by omega) (by omega) (fun b d m2 p y5 y6 d0 d1 f2 hp g1 g2 => ?_) _ _
    have ff : Fr [m.length] m1 m2 := (Fr.app).trans f2
    simp at hp
    refine ⟨ps ++ [p], _, _, _, _, rfl, g2, ?_, ?_, e4.fr ff ?_, by simp; omega, fun y hy => e6 y (List.mem_cons_of_mem _ hy)⟩
    · intro r hr
      rcases List.mem_append.mp hr with hr | hr
      · obtain ⟨k1, k2⟩ := e2 r hr
        exact ⟨k1, k2.fr ff (by simp; omega)⟩
      · rw [List.mem_singleton.mp hr]
        exact ⟨by omega, b, d, 0, g1, d0, d1, Int.le_refl _, by simp⟩
    · rw [List.nodup_append]
      refine ⟨e3, by simp, fun a ha b hb => ?_⟩
      rw [List.mem_singleton.mp hb]
      obtain ⟨_, k2⟩ := e2 a ha
      have := k2.lt
      omega
    · rintro rfl
      rcases hv with hv | ⟨_, h0⟩
      · cases hv
      · have := lt_of_get h0
        simp
        omega
  · rintro ρ m1 ⟨ps, x3, x4, x5, x6, rfl, e1, e2, e3, e4, e5, e6⟩
    refine ⟨rfl, ?_⟩
    simp
    exact q ps m1 m.length e1 (fun p hp => ⟨by have := (e2 p hp).1; omega, (e2 p hp).2⟩) e3
end K83
end

section
set_option maxRecDepth 100000
/-! Wg: the search for a parting word. -/
namespace K83
open Ev
variable {n : Nat} {m : Store} {M M' : Mc}
/-- the two loops; sm, sw: the slots of met, of waiting -/
def sIn (sm sw : Nat) : Ss := (.cons (.asg (.cons (.name 11) (.cons (.name 12) .nil)) (.tup (.cons (.idx (.idx (.idx (.loc 0) (.int 2)) (.loc 7)) (.loc 10)) (.cons (.idx (.idx (.idx (.loc 2) (.int 2)) (.loc 8)) (.loc 10)) .nil)))) (.cons (.ite (.cmp .ne (.idx (.loc 11) (.int 1)) (.idx (.loc 12) (.int 1))) (.cons (.ret (.bin .add (.loc 9) (.tup (.cons (.loc 10) .nil)))) .nil) .nil) (.cons (.ite (.cmp .nmem (.tup (.cons (.idx (.loc 11) (.int 0)) (.cons (.idx (.loc 12) (.int 0)) .nil))) (.loc sm)) (.cons (.sub (.loc sm) (.tup (.cons (.idx (.loc 11) (.int 0)) (.cons (.idx (.loc 12) (.int 0)) .nil))) (.bl true)) (.cons (.ex (.mth .append (.loc sw) (.cons (.tup (.cons (.idx (.loc 11) (.int 0)) (.cons (.idx (.loc 12) (.int 0)) (.cons (.bin .add (.loc 9) (.tup (.cons (.loc 10) .nil))) .nil)))) .nil))) .nil)) .nil) .nil)))
def sOut (sm sw : Nat) : Ss := (.cons (.ite (.cmp .eq (.loc 6) (.blt .len (.cons (.loc sw) .nil))) (.cons .brk .nil) .nil) (.cons (.asg (.cons (.name 7) (.cons (.name 8) (.cons (.name 9) .nil))) (.idx (.loc sw) (.loc 6))) (.cons (.for (.name 10) (.range (.int 0) (.idx (.loc 0) (.int 0))) (sIn sm sw)) .nil)))
/-- the locals -/
def eP (M M' : Mc) (s t : Nat) (b : Bool) (pm pw : Nat) (r : Env) : Env := [some (mcV M), some (iv s), some (mcV M'), some (iv t), some (.ref (if b then pm else pw)), some (.ref (if b then pw else pm))] ++ r
structure PIn (M M' : Mc) (s t : Nat) (b : Bool) (pm pw : Nat) (m : Store) (at_ : Option Val) (o u : Nat) (w : List Nat) (k : Nat) (R : (List Nat) ⊕ (List Tr)) (rest : List Nat) (ρ : Env) (m' : Store) : Prop where
  ex : ∃ (wt : List Tr) (l x y : Option Val), ρ = eP M M' s t b pm pw [at_, some (iv o), some (iv u), some (wdV w), l, x, y] ∧ m'[pm]? = some (.dct (wt.map kpV)) ∧ m'[pw]? = some (.lst (wt.map trV)) ∧ wt ≠ [] ∧ (∀ a ∈ rest, a < M.L) ∧ pIn M M' o u w rest wt = R ∧ (∀ q ∈ wt, q.2.2.length ≤ k + 1) ∧ wt.length + rest.length ≤ 1 + 3 * (k + 1) ∧ Fr [] m m'
theorem inner_ok {s t : Nat} {b : Bool} {pm pw : Nat} {at_ l x y : Option Val} {o u : Nat} {w : List Nat} {k : Nat} {wt : List Tr} {Y : Sys} {m0 : Store} {Q : Fl → Store → Prop} (h : M.Ok) (h' : M'.Ok) (hL : M'.L = M.L) (ho : o < M.n) (hu : u < M'.n) (hw : w.length ≤ k) (hk : k ≤ 1000)
    (hpm : m0.length ≤ pm) (hpw : m0.length ≤ pw) (hne : pm ≠ pw) (g1 : m[pm]? = some (.dct (wt.map kpV))) (g2 : m[pw]? = some (.lst (wt.map trV))) (gn : wt ≠ []) (gl : ∀ q ∈ wt, q.2.2.length ≤ k + 1) (gc : wt.length + M.L ≤ 1 + 3 * (k + 1)) (f0 : Fr [] m0 m)
    (q1 : ∀ v m', pIn M M' o u w (List.range M.L) wt = .inl v → Fr [] m0 m' → Q (.rt (wdV v)) m')
    (q2 : ∀ wt' m' r, pIn M M' o u w (List.range M.L) wt = .inr wt' → m'[pm]? = some (.dct (wt'.map kpV)) → m'[pw]? = some (.lst (wt'.map trV)) → wt' ≠ [] → (∀ q ∈ wt', q.2.2.length ≤ k + 1) → wt'.length ≤ 1 + 3 * (k + 1) → Fr [] m0 m' → r.length = 7 → Q (.nx (eP M M' s t b pm pw r)) m') :
    wR (loopF (.name 10) [] (evSs Y (sIn (if b then 4 else 5) (if b then 5 else 4))) ((List.range M.L).map iv) (eP M M' s t b pm pw [at_, some (iv o), some (iv u), some (wdV w), l, x, y]) m) Q := by
  generalize hR : pIn M M' o u w (List.range M.L) wt = R at q1 q2
  refine loopF_map iv (PIn M M' s t b pm pw m0 at_ o u w k R) ?_ ?_ _ _ _ ⟨wt, l, x, y, rfl, g1, g2, gn, (fun a ha => by simpa using ha), hR, gl, by simpa using gc, f0⟩
  · rintro a rest ρ m1 ⟨wt1, l, x, y, rfl, e1, e2, e3, e4, e5, e6, e7, e8⟩
    have ha := e4 a List.mem_cons_self
    have ha' : a < M'.L := by rw [hL]; exact ha
    refine ⟨rfl, _, rfl, ?_⟩
    show wSs _ _ _ _ _
    have hle : wt1.length + (rest.length + 1) ≤ 1 + 3 * (k + 1) := e7
    have hwl : w.length + 1 ≤ 16777216 := by omega
    have i1 := idx_row h ho (m := m1)
    have i2 := idx_ent h ho ha (m := m1)
    have i3 := idx_row h' hu (m := m1)
    have i4 := idx_ent h' hu ha' (m := m1)
    unfold pIn at e5
    have hkey := key_kp (a := (M.at o a).1) (b := (M'.at u a).1) e3
    have hhas := has_kp (a := (M.at o a).1) (b := (M'.at u a).1) (wt := wt1)
    rw [List.map_map] at hkey
    by_cases hc : (M.at o a).2 = (M'.at u a).2
    · rw [if_pos hc] at e5
      by_cases hm : ((M.at o a).1, (M'.at u a).1) ∈ wt1.map Tr.pr
      · rw [if_pos hm] at e5
        rw [show decide (((M.at o a).1, (M'.at u a).1) ∈ wt1.map Tr.pr) = true from decide_eq_true hm] at hhas
        have fin : ∀ x y, PIn M M' s t b pm pw m0 at_ o u w k R rest (eP M M' s t b pm pw [at_, some (iv o), some (iv u), some (wdV w), some (iv a), x, y]) m1 := fun x y => ⟨wt1, _, _, _, rfl, e1, e2, e3, fun c hc => e4 c (List.mem_cons_of_mem _ hc), e5, e6, by omega, e8⟩
        cases b <;>
        · simp only [Bool.false_eq_true, if_false, if_true]
          simp [sIn, eP, wT, idx_m2, i1, i2, i3, i4, lim_num, bindT, idx_e1, idx_e0, cmpV, eqM_int, hc, memM, e1, hkey, hhas]
          exact fin _ _
      · rw [if_neg hm] at e5
        rw [show decide (((M.at o a).1, (M'.at u a).1) ∈ wt1.map Tr.pr) = false from decide_eq_false hm] at hhas
        have hput := put_kp (w := w ++ [a]) hm
        have hl1 : (wt1.map kpV).length < 16777216 := by simp; omega
        have hl2 : wt1.length < 16777216 := by omega
        have g3 : ∀ o, (m1.set pm o)[pw]? = some (.lst (wt1.map trV)) := fun o => by rw [List.getElem?_set_ne hne]; exact e2
        have fin : ∀ x y, PIn M M' s t b pm pw m0 at_ o u w k R rest (eP M M' s t b pm pw [at_, some (iv o), some (iv u), some (wdV w), some (iv a), x, y]) ((m1.set pm (.dct ((wt1 ++ [((M.at o a).1, (M'.at u a).1, w ++ [a])]).map kpV))).set pw (.lst ((wt1 ++ [((M.at o a).1, (M'.at u a).1, w ++ [a])]).map trV))) := fun x y => by
          refine ⟨wt1 ++ [((M.at o a).1, (M'.at u a).1, w ++ [a])], _, _, _, rfl, ?_, get_set (g3 _), by simp, fun c hc => e4 c (List.mem_cons_of_mem _ hc), e5, ?_, by simp; omega, (e8.setN hpm).setN hpw⟩
          · rw [List.getElem?_set_ne (Ne.symm hne), get_set e1]
          · intro q hq
            rcases List.mem_append.mp hq with hq | hq
            · exact e6 q hq
            · rw [List.mem_singleton.mp hq]; simp; omega
        have tv : trV ((M.at o a).1, (M'.at u a).1, w ++ [a]) = .tup [iv (M.at o a).1, iv (M'.at u a).1, .tup (w.map iv ++ [iv a])] := by simp [trV, wdV]
        have bw : ∀ m : Store, binV .add (wdV w) (.tup [iv a]) m = .ok (.tup (w.map iv ++ [iv a])) m := fun m => by simp [binV, wdV, must, lim_num, hwl]; rfl
        simp only [List.map_append, List.map_cons, List.map_nil] at fin
        cases b <;>
        · simp only [Bool.false_eq_true, if_false, if_true]
          simp [sIn, eP, wT, idx_m2, i1, i2, i3, i4, lim_num, bindT, idx_e1, idx_e0, cmpV, eqM_int, hc, memM, e1, hkey, hhas, subV, hl1, hl2, hput, kindM, mthV, g3, bw]
          rw [← tv]
          exact fin _ _
    · rw [if_neg hc] at e5
      have bw : ∀ m : Store, binV .add (wdV w) (.tup [iv a]) m = .ok (.tup (w.map iv ++ [iv a])) m := fun m => by simp [binV, wdV, must, lim_num, hwl]; rfl
      have := q1 (w ++ [a]) m1 e5.symm e8
      simp only [wdV, List.map_append, List.map_cons, List.map_nil] at this
      have hcI : ¬ ((M.at o a).2 : Int) = ((M'.at u a).2 : Int) := by omega
      cases b <;>
      · simp only [Bool.false_eq_true, if_false, if_true]
        simp [sIn, eP, wT, idx_m2, i1, i2, i3, i4, lim_num, bindT, idx_e1, idx_e0, cmpV, eqM_int, hcI, bw]
        exact this
  · rintro ρ m1 ⟨wt1, l, x, y, rfl, e1, e2, e3, e4, e5, e6, e7, e8⟩
    refine ⟨rfl, ?_⟩
    exact q2 wt1 m1 _ e5.symm e1 e2 e3 e6 (by simpa using e7) e8 rfl
structure POut (M M' : Mc) (s t : Nat) (b : Bool) (pm pw : Nat) (m : Store) (c : Nat) (R : Option (List Nat)) (rest : List Nat) (ρ : Env) (m' : Store) : Prop where
  ex : ∃ (k : Nat) (wt : List Tr) (r : Env), r.length = 7 ∧ ρ = eP M M' s t b pm pw r ∧ rest = List.range' k rest.length ∧ k + rest.length = c ∧ k ≤ wt.length ∧ WtOk M.n M'.n wt ∧ wt.length ≤ 1 + 3 * k ∧ (∀ q ∈ wt, q.2.2.length ≤ k) ∧ wt ≠ [] ∧ m'[pm]? = some (.dct (wt.map kpV)) ∧ m'[pw]? = some (.lst (wt.map trV)) ∧ pOut M M' rest wt = R ∧ Fr [] m m'
theorem outer_ok {s t : Nat} {b : Bool} {pm pw c : Nat} {r : Env} {Y : Sys} {m0 : Store} {Q : Fl → Store → Prop} (h : M.Ok) (h' : M'.Ok) (hL : M'.L = M.L) (hs : s < M.n) (ht : t < M'.n) (hc : c ≤ 1000) (hr : r.length = 7)
    (hpm : m0.length ≤ pm) (hpw : m0.length ≤ pw) (hne : pm ≠ pw) (g1 : m[pm]? = some (.dct ([(s, t, [])].map kpV))) (g2 : m[pw]? = some (.lst ([(s, t, [])].map trV))) (f0 : Fr [] m0 m)
    (q1 : ∀ v m', part M M' s t c = some v → Fr [] m0 m' → Q (.rt (wdV v)) m')
    (q2 : ∀ ρ m', part M M' s t c = none → Fr [] m0 m' → Q (.nx ρ) m') :
    wR (loopF (.name 6) [] (evSs Y (sOut (if b then 4 else 5) (if b then 5 else 4))) ((List.range c).map iv) (eP M M' s t b pm pw r) m) Q := by
  unfold part at q1 q2
  generalize hR : pOut M M' (List.range c) [(s, t, [])] = R at q1 q2
  have w0 : WtOk M.n M'.n [(s, t, [])] := ⟨fun u hu => by rw [List.mem_singleton.mp hu]; exact ⟨hs, ht⟩, by simp⟩
  refine loopF_map iv (POut M M' s t b pm pw m0 c R) ?_ ?_ _ _ _ ⟨0, [(s, t, [])], r, hr, rfl, by simp [List.range_eq_range'], by simp, by simp, w0, by simp, by simp, by simp, g1, g2, hR, f0⟩
  · rintro x rest ρ m1 ⟨k, wt, r, hr, rfl, e1, e2, e3, e4, e5, e6, e7, e8, e9, e10, e11⟩
    rw [List.length_cons, List.range'_succ] at e1
    obtain ⟨rfl, e1'⟩ := List.cons.inj e1
    rw [List.length_cons] at e2
    obtain ⟨r6, r7, r8, r9, r10, r11, r12, rfl⟩ : ∃ a b c d e f g, r = [a, b, c, d, e, f, g] := by
      match r, hr with
      | [a, b, c, d, e, f, g], _ => exact ⟨a, b, c, d, e, f, g, rfl⟩
    refine ⟨rfl, _, rfl, ?_⟩
    show wSs _ _ _ _ _
    rw [pOut] at e10
    by_cases hk : x = wt.length
    · rw [if_pos hk] at e10
      have := q2 (eP M M' s t b pm pw [some (iv x), r7, r8, r9, r10, r11, r12]) m1 e10.symm e11
      cases b <;>
      · simp only [Bool.false_eq_true, if_false, if_true]
        simp [sOut, eP, wT, cmpV, eqM_int, bltV, lenM, e9, hk]
        simpa [eP, hk] using this
    · rw [if_neg hk] at e10
      have hlt : x < wt.length := by omega
      have hg : wt[x]? = some wt[x] := List.getElem?_eq_getElem hlt
      rw [hg] at e10
      obtain ⟨b1, b2⟩ := e4.bd _ (List.getElem_mem hlt)
      have b3 := e6 _ (List.getElem_mem hlt)
      rcases hq : wt[x] with ⟨o, u, w⟩
      rw [hq] at b1 b2 b3 e10
      have hkI : ¬ ((x : Int) = (wt.length : Int)) := by omega
      have hl3 := h.l3
      have hIx : idxV (.ref pw) (iv x) m1 = .ok (trV (o, u, w)) m1 := by
        simp only [idxV, e9, ixOf_nat, List.length_map, hlt, if_true, List.getElem?_map, hg, hq, Option.map_some]
      have main : ∀ l x1 y1, wR (loopF (.name 10) [] (evSs Y (sIn (if b then 4 else 5) (if b then 5 else 4))) ((List.range M.L).map iv) (eP M M' s t b pm pw [some (iv x), some (iv o), some (iv u), some (wdV w), l, x1, y1]) m1)
          (fun fl m2 => match fl with | .nx ρ2 => POut M M' s t b pm pw m0 c R rest ρ2 m2 | .ct ρ2 => POut M M' s t b pm pw m0 c R rest ρ2 m2 | .bk ρ2 => Q (.nx ρ2) m2 | .rt v => Q (.rt v) m2) := fun l x1 y1 => by
        refine inner_ok (k := x) (wt := wt) (m0 := m0) h h' hL b1 b2 b3 (by omega) hpm hpw hne e8 e9 e7 (fun q hq => by have := e6 q hq; omega) (by omega) e11 (fun v m' hv hf => ?_) (fun wt' m' r' hv g1 g2 g3 g4 g5 hf hr' => ?_)
        · simp only [hv] at e10
          exact q1 v m' e10.symm hf
        · simp only [hv] at e10
          obtain ⟨k1, k2⟩ := pIn_ok h h' hL b1 b2 (fun a ha => by simpa using ha) e4 hv
          exact ⟨x + 1, wt', r', hr', rfl, e1', by omega, by omega, k1, g5, g4, g3, g1, g2, e10, hf⟩
      have fin : ∀ (ρ : Env) (m2 : Store) (fl : Fl), True := fun _ _ _ => trivial
      have sm := small_nat (show M.L < 1000000 by omega)
      have tr1 : trV (o, u, w) = .tup [iv o, iv u, wdV w] := rfl
      cases b
      · have mm := main r10 r11 r12
        simp only [Bool.false_eq_true, if_false] at mm ⊢
        simp only [eP, Bool.false_eq_true, if_false, List.cons_append, List.nil_append] at mm ⊢
        simp only [sOut, wSs_cons, wS_ite, wT, wE_cmp, wE_loc, wE_blt, wEs_cons, wEs_nil, List.set_cons_succ, List.set_cons_zero, List.getElem?_cons_succ, List.getElem?_cons_zero, Option.join_some, oP_some, bltV, lenM, e9, wR_ok, cmpV, eqM_int, List.length_map, hkI, decide_false, asP_bl, Bool.false_eq_true, if_false, wSs_nil, kS_nx, wS_asg, wE_idx, hIx, tr1, bindT, wS_for, wIt_range, wE_int, idx_m0, small_0, sm, and_self, true_and, Int.sub_zero, Int.toNat_natCast, rangeL_0]
        refine mm.mono fun fl m2 hh => ?_
        cases fl <;> first | exact hh | (simp only [kS_nx, wSs_nil]; exact hh)
      · have mm := main r10 r11 r12
        simp only [if_true] at mm ⊢
        simp only [eP, if_true, List.cons_append, List.nil_append] at mm ⊢
        simp only [sOut, wSs_cons, wS_ite, wT, wE_cmp, wE_loc, wE_blt, wEs_cons, wEs_nil, List.set_cons_succ, List.set_cons_zero, List.getElem?_cons_succ, List.getElem?_cons_zero, Option.join_some, oP_some, bltV, lenM, e9, wR_ok, cmpV, eqM_int, List.length_map, hkI, decide_false, asP_bl, Bool.false_eq_true, if_false, wSs_nil, kS_nx, wS_asg, wE_idx, hIx, tr1, bindT, wS_for, wIt_range, wE_int, idx_m0, small_0, sm, and_self, true_and, Int.sub_zero, Int.toNat_natCast, rangeL_0]
        refine mm.mono fun fl m2 hh => ?_
        cases fl <;> first | exact hh | (simp only [kS_nx, wSs_nil]; exact hh)
  · rintro ρ m1 ⟨k, wt, r, hr, rfl, e1, e2, e3, e4, e5, e6, e7, e8, e9, e10, e11⟩
    exact ⟨rfl, q2 _ m1 e10.symm e11⟩
theorem prod_le (h : M.Ok) (h' : M'.Ok) : M.n * M'.n ≤ 144 := by
  have h1 : M.n ≤ 12 := h.s12
  have h2 : M'.n ≤ 12 := h'.s12
  exact Nat.le_trans (Nat.mul_le_mul h1 h2) (by decide)
theorem w_len {Y : Sys} {i : Nat} {ρ : Env} {Q : Val → Store → Prop} (h0 : ρ[i]? = some (some (mcV M))) : wE Y (.blt .len (.cons (.idx (.loc i) (.int 2)) .nil)) ρ m Q = Q (.int (M.n : Nat)) m := by
  simp only [wE_blt, wEs_cons, wEs_nil, wE_idx, wE_loc, wE_int, h0, Option.join_some, oP_some, idx_m2, wR_ok, bltV, lenM, List.length_map]
  rfl
theorem w_mulN {a b : Nat} {Q : Val → Store → Prop} (h : a < 1000000) : wR (binV .mul (iv a) (iv b) m) Q = Q (iv (a * b)) m := by
  have mo : mulOk (a : Int) (b : Int) = true := mulOk_s (by omega)
  have e : ((a : Int) * (b : Int)) = ((a * b : Nat) : Int) := by push_cast; rfl
  show wR (must (mulOk (a : Int) (b : Int) = true) (pure (.int ((a : Int) * (b : Int)))) m) Q = _
  rw [wR_must, e]
  simp only [mo, true_and]
  exact wR_pure
theorem w_len2 {Y : Sys} {ρ : Env} {Q : Val → Store → Prop} (h : M.Ok) (h0 : ρ[0]? = some (some (mcV M))) (h2 : ρ[2]? = some (some (mcV M'))) : wE Y (.bin .mul (.blt .len (.cons (.idx (.loc 0) (.int 2)) .nil)) (.blt .len (.cons (.idx (.loc 2) (.int 2)) .nil))) ρ m Q = Q (iv (M.n * M'.n)) m := by
  rw [wE_bin, w_len h0]
  rw [w_len h2]
  exact w_mulN (by have := h.s12; unfold Mc.n; omega)
theorem w_add1 {a : Nat} {Q : Val → Store → Prop} : wR (binV .add (iv a) (.int 1) m) Q = Q (iv (a + 1)) m := by
  show wR ((pure (.int ((a : Int) + 1)) : M Val) m) Q = _
  rw [wR_pure]
  rfl
theorem parting_from_m {Q : Val → Store → Prop} (h : M.Ok) (h' : M'.Ok) (hL : M'.L = M.L) (q : ∀ m', Fr [] m m' → Q (opV (part M M' 0 0 (M.n * M'.n))) m') :
    ∀ vs, vs = [mcV M, .int 0, mcV M', .int 0] → wR (evF F con (n + 1) 15 vs m) Q := by
  intro vs hvs
  have hp := prod_le h h'
  have hs : 0 < M.n := h.s1
  have ht : 0 < M'.n := h'.s1
  refine wF rfl (by rw [hvs]; rfl) ?_
  rw [hvs]
  simp only [f_parting_from, start, List.map_cons, List.map_nil, List.length_cons, List.length_nil, wSs_cons, wS_asg, wE_tup, wEs_cons, wEs_nil, wE_dct1, wE_lst, wE_loc, wE_bl, List.cons_append, List.nil_append, List.getElem?_cons_succ, List.getElem?_cons_zero, Option.join_some, oP_some, lim_num]
  refine ⟨by omega, by simp [okKey, isIS], by omega, by omega, by omega, by omega, ?_⟩
  simp only [List.length_append, List.length_cons, List.length_nil, Nat.zero_add, bindT, oP_some, kS_nx, wSs_cons, wS_for, wIt_range, wE_int, List.set_cons_succ, List.set_cons_zero]
  rw [w_len2 (M := M) (M' := M') h rfl rfl]
  simp only [small_0, small_nat (show M.n * M'.n < 1000000 by omega), and_self, true_and, Int.sub_zero, Int.toNat_natCast, rangeL_0]
  refine outer_ok (s := 0) (t := 0) (b := true) (pm := m.length) (pw := m.length + 1) (m0 := m) (c := M.n * M'.n) (r := [none, none, none, none, none, none, none]) h h' hL hs ht (by omega) rfl (Nat.le_refl _) (by omega) (by omega) ?_ ?_ (.trans .app .app) (fun v m' hv hf => ?_) (fun ρ m' hv hf => ?_)
  · rw [List.getElem?_append_left (by simp)]; exact get_new
  · have e2 : m.length + 1 = (m ++ [Obj.dct [(.tup [.int 0, .int 0], .bl true)]]).length := by simp
    rw [e2]; exact get_new
  · have := q m' hf
    rw [hv] at this
    exact this
  · have := q m' hf
    rw [hv] at this
    simpa [opV] using this
theorem law_parting_m {Q : Val → Store → Prop} (h : M.Ok) (h' : M'.Ok) (hL : M'.L = M.L) (q : ∀ m', Fr [] m m' → Q (opV (part M M' 0 0 (M.n * M'.n))) m') :
    ∀ vs, vs = [mcV M, .int 0, mcV M', .int 0] → wR (evF F con (n + 1) 36 vs m) Q := by
  intro vs hvs
  have hp := prod_le h h'
  have hs : 0 < M.n := h.s1
  have ht : 0 < M'.n := h'.s1
  rw [part_more h h' hL hs ht] at q
  refine wF rfl (by rw [hvs]; rfl) ?_
  rw [hvs]
  simp only [f_law_parting, start, List.map_cons, List.map_nil, List.length_cons, List.length_nil, wSs_cons, wS_asg, wE_tup, wEs_cons, wEs_nil, wE_dct1, wE_lst, wE_loc, wE_bl, List.cons_append, List.nil_append, List.getElem?_cons_succ, List.getElem?_cons_zero, Option.join_some, oP_some, lim_num]
  refine ⟨by omega, by omega, by omega, by omega, by simp [okKey, isIS], by omega, ?_⟩
  simp only [List.length_append, List.length_cons, List.length_nil, Nat.zero_add, bindT, oP_some, kS_nx, wSs_cons, wS_for, wIt_range, wE_int, List.set_cons_succ, List.set_cons_zero]
  rw [wE_bin, w_len2 (M := M) (M' := M') h rfl rfl, wE_int, w_add1]
  simp only [small_0, small_nat (show M.n * M'.n + 1 < 1000000 by omega), and_self, true_and, Int.sub_zero, Int.toNat_natCast, rangeL_0]
  refine outer_ok (s := 0) (t := 0) (b := false) (pm := m.length + 1) (pw := m.length) (m0 := m) (c := M.n * M'.n + 1) (r := [none, none, none, none, none, none, none]) h h' hL hs ht (by omega) rfl (by omega) (Nat.le_refl _) (by omega) ?_ ?_ (.trans .app .app) (fun v m' hv hf => ?_) (fun ρ m' hv hf => ?_)
  · have e2 : m.length + 1 = (m ++ [Obj.lst [.tup [.int 0, .int 0, .tup []]]]).length := by simp
    rw [e2]; exact get_new
  · rw [List.getElem?_append_left (by simp)]; exact get_new
  · have := q m' hf
    rw [hv] at this
    exact this
  · have := q m' hf
    rw [hv] at this
    simpa [opV] using this
def alikeB (M M' : Mc) : Bool := (part M M' 0 0 (M.n * M'.n)).isNone
theorem opV_non {o : Option (List Nat)} : decide (opV o = .non) = o.isNone := by
  cases o with
  | none => simp [opV]
  | some w => simp [opV, wdV]
theorem are_alike_m {Q : Val → Store → Prop} (h : M.Ok) (h' : M'.Ok) (hL : M'.L = M.L) (q : ∀ m', Fr [] m m' → Q (.bl (alikeB M M')) m') : ∀ vs, vs = [mcV M, mcV M'] → wR (evF F con (n + 2) 16 vs m) Q := by
  intro vs hvs
  refine wF rfl (by rw [hvs]; rfl) ?_
  rw [hvs]
  simp only [f_are_alike, start, List.map_cons, List.map_nil, List.length_cons, List.length_nil, wSs_cons, wS_ret, wE_isN, wE_call, wEs_cons, wEs_nil, wE_loc, wE_int, List.cons_append, List.nil_append, List.getElem?_cons_succ, List.getElem?_cons_zero, Option.join_some, oP_some]
  refine parting_from_m h h' hL (fun m' hf => ?_) _ rfl
  simp only [opV_non, kS_rt, kF_rt]
  exact q m' hf
theorem fit_m (hL : M'.L = M.L) (hA : M'.A = M.A) : evF F con (n + 1) 10 [mcV M, mcV M'] m = .ok (.bl true) m := eq_of_wR (wF rfl rfl (by
  simp [f_fit, start, wT, idx_m0, idx_m1, cmpV, eqM_int, hL, hA]))
theorem need_fit_m (hL : M'.L = M.L) (hA : M'.A = M.A) : evF F con (n + 2) 11 [mcV M, mcV M'] m = .ok .non m := eq_of_wR (wF rfl rfl (by
  simp [f_need_fit, start, wT, fit_m hL hA]))
end K83
end

section
set_option maxRecDepth 100000
/-! Wh: access_of. -/
namespace K83
open Ev
variable {n : Nat} {m : Store} {M M' : Mc}
def sAi : Ss := (.cons (.asg (.name 6) (.idx (.idx (.idx (.idx (.loc 0) (.int 2)) (.loc 4)) (.loc 5)) (.int 0))) (.cons (.ite (.cmp .nmem (.loc 6) (.loc 1)) (.cons (.sub (.loc 1) (.loc 6) (.bin .add (.idx (.loc 1) (.loc 4)) (.tup (.cons (.loc 5) .nil)))) (.cons (.ex (.mth .append (.loc 2) (.cons (.loc 6) .nil))) .nil)) .nil) .nil))
def sAo : Ss := (.cons (.ite (.cmp .eq (.loc 3) (.blt .len (.cons (.loc 2) .nil))) (.cons .brk .nil) .nil) (.cons (.asg (.name 4) (.idx (.loc 2) (.loc 3))) (.cons (.for (.name 5) (.range (.int 0) (.idx (.loc 0) (.int 0))) sAi) .nil)))
def ivA (q : Aw) : Val := iv q.1
/-- what holds of the two objects -/
structure AObj (M : Mc) (pm pw : Nat) (m0 : Store) (k : Nat) (wl : List Aw) (m' : Store) : Prop where
  dm : m'[pm]? = some (.dct (wl.map kvA))
  dw : m'[pw]? = some (.lst (wl.map ivA))
  acc : AccS M (wl.map (·.1))
  cl : ∀ i t, (wl.map (·.1))[i]? = some t → i < k → ∀ a, a < M.L → (M.at t a).1 ∈ wl.map (·.1)
  wd : ∀ q ∈ wl, q.2.length ≤ 1000
  fr : Fr [] m0 m'
structure AIn (M : Mc) (pm pw : Nat) (m0 : Store) (at_ : Option Val) (k h : Nat) (wh : List Nat) (rest : List Nat) (ρ : Env) (m' : Store) : Prop where
  ex : ∃ (wl : List Aw) (l x y : Option Val), ρ = [some (mcV M), some (.ref pm), some (.ref pw), at_, some (iv h), l, x, y] ∧ AObj M pm pw m0 k wl m' ∧ wl[k]? = some (h, wh) ∧ (∀ a ∈ rest, a < M.L) ∧ (∀ a, a < M.L → a ∈ rest ∨ (M.at h a).1 ∈ wl.map (·.1)) ∧ (∀ q ∈ wl, q.2.length ≤ k + 1)
theorem acc_inner {pm pw k h : Nat} {wh : List Nat} {at_ l x y : Option Val} {wl : List Aw} {Y : Sys} {m0 : Store} {Q : Fl → Store → Prop} (hM : M.Ok) (hk : k ≤ 100) (hpm : m0.length ≤ pm) (hpw : m0.length ≤ pw) (hne : pm ≠ pw) (ho : AObj M pm pw m0 k wl m) (hw : wl[k]? = some (h, wh)) (hl : ∀ q ∈ wl, q.2.length ≤ k) (hwh : wh.length ≤ k)
    (q : ∀ wl' m' l x y, AObj M pm pw m0 (k + 1) wl' m' → k < wl'.length → (∀ q ∈ wl', q.2.length ≤ k + 1) → Q (.nx [some (mcV M), some (.ref pm), some (.ref pw), at_, some (iv h), l, x, y]) m') :
    wR (loopF (.name 5) [] (evSs Y sAi) ((List.range M.L).map iv) [some (mcV M), some (.ref pm), some (.ref pw), at_, some (iv h), l, x, y] m) Q := by
  have hh : h < M.n := ho.acc.bd h (List.mem_map.mpr ⟨_, List.mem_of_getElem? hw, rfl⟩)
  refine loopF_map iv (AIn M pm pw m0 at_ k h wh) ?_ ?_ _ _ _ ⟨wl, l, x, y, rfl, ho, hw, (fun a ha => by simpa using ha), (fun a ha => .inl (by simpa using ha)), fun q hq => by have := hl q hq; omega⟩
  · rintro a rest ρ m1 ⟨wl1, l, x, y, rfl, e1, e2, e3, e4, e5⟩
    have ha := e3 a List.mem_cons_self
    refine ⟨rfl, _, rfl, ?_⟩
    show wSs _ _ _ _ _
    have i1 := idx_row hM hh (m := m1)
    have i2 := idx_ent hM hh ha (m := m1)
    have nx := (Mc.ent_at hM hh ha).2.1
    have hkey := key_A (s := (M.at h a).1) (wl := wl1)
    have hkey2 := key_A (s := h) (wl := wl1)
    have hhas := has_A (s := (M.at h a).1) (wl := wl1)
    have hfind := find_A (s := h) (wl := wl1)
    rw [lk_get e1.acc.nd e2] at hfind
    rw [List.map_map] at hkey hkey2
    have step : ∀ a', a' < M.L → a' ∈ a :: rest → a' ∈ rest ∨ a' = a := fun a' _ h2 => by
      rcases List.mem_cons.mp h2 with e | h2
      · exact .inr e
      · exact .inl h2
    by_cases hm : (M.at h a).1 ∈ wl1.map (·.1)
    · rw [show decide ((M.at h a).1 ∈ wl1.map (·.1)) = true from decide_eq_true hm] at hhas
      simp [sAi, wT, idx_m2, i1, i2, bindT, idx_e0, cmpV, memM, e1.dm, hkey, hhas]
      exact ⟨wl1, _, _, _, rfl, e1, e2, fun b hb => e3 b (List.mem_cons_of_mem _ hb), fun a' h1 => by
        rcases e4 a' h1 with h2 | h2
        · rcases step a' h1 h2 with h3 | rfl
          · exact .inl h3
          · exact .inr hm
        · exact .inr h2, e5⟩
    · rw [show decide ((M.at h a).1 ∈ wl1.map (·.1)) = false from decide_eq_false hm] at hhas
      have hput := put_A (w := wh ++ [a]) hm
      have hlen := e1.acc.len
      rw [List.length_map] at hlen
      have hn12 : M.n ≤ 12 := hM.s12
      have hl1 : wl1.length < 16777216 := by omega
      have hwl : wh.length + 1 ≤ 16777216 := by omega
      have bw : ∀ m : Store, binV .add (wdV wh) (.tup [iv a]) m = .ok (wdV (wh ++ [a])) m := fun m => by simp [binV, wdV, must, lim_num, hwl]; rfl
      have g3 : ∀ o, (m1.set pm o)[pw]? = some (.lst (wl1.map ivA)) := fun o => by rw [List.getElem?_set_ne hne]; exact e1.dw
      have hix : idxV (.ref pm) (iv h) m1 = .ok (wdV wh) m1 := by simp [idxV, e1.dm, hkey2, hfind]
      simp [sAi, wT, idx_m2, i1, i2, bindT, idx_e0, cmpV, memM, e1.dm, hkey, hhas, hix, bw, lim_num, subV, hl1, hput, kindM, mthV, g3]
      have hk1 := lt_of_get e1.dm
      have acc2 : AccS M ((wl1 ++ [((M.at h a).1, wh ++ [a])]).map (·.1)) := by
        rw [List.map_append]
        exact e1.acc.add (j := k) (a := a) (t := h) hm nx ha (by rw [List.getElem?_map, e2]; rfl) rfl
      have hkl : k < wl1.length := by
        rcases Nat.lt_or_ge k wl1.length with h1 | h1
        · exact h1
        · rw [List.getElem?_eq_none h1] at e2; cases e2
      refine ⟨wl1 ++ [((M.at h a).1, wh ++ [a])], _, _, _, rfl, ⟨?_, ?_, acc2, ?_, ?_, (e1.fr.setN hpm).setN hpw⟩, by rw [List.getElem?_append_left hkl]; exact e2, fun b hb => e3 b (List.mem_cons_of_mem _ hb), ?_, ?_⟩
      · rw [List.getElem?_set_ne (Ne.symm hne), get_set e1.dm]
        simp
      · rw [get_set (g3 _)]
        simp [ivA]
      · intro i t hi hik a' ha'
        rw [List.map_append, List.getElem?_append_left (by rw [List.length_map]; omega)] at hi
        rw [List.map_append]
        exact List.mem_append_left _ (e1.cl i t hi hik a' ha')
      · intro q hq
        rcases List.mem_append.mp hq with hq | hq
        · exact e1.wd q hq
        · rw [List.mem_singleton.mp hq]; simp; omega
      · intro a' h1
        rw [List.map_append]
        rcases e4 a' h1 with h2 | h2
        · rcases step a' h1 h2 with h3 | rfl
          · exact .inl h3
          · exact .inr (by simp)
        · exact .inr (List.mem_append_left _ h2)
      · intro q hq
        rcases List.mem_append.mp hq with hq | hq
        · exact e5 q hq
        · rw [List.mem_singleton.mp hq]; simp; omega
  · rintro ρ m1 ⟨wl1, l, x, y, rfl, e1, e2, e3, e4, e5⟩
    have hkl : k < wl1.length := by
      rcases Nat.lt_or_ge k wl1.length with h1 | h1
      · exact h1
      · rw [List.getElem?_eq_none h1] at e2; cases e2
    refine ⟨rfl, q wl1 m1 _ _ _ ⟨e1.dm, e1.dw, e1.acc, ?_, e1.wd, e1.fr⟩ hkl e5⟩
    intro i t hi hik a ha
    by_cases hik2 : i < k
    · exact e1.cl i t hi hik2 a ha
    · have : i = k := by omega
      subst this
      rw [List.getElem?_map, e2] at hi
      cases hi
      rcases e4 a ha with h2 | h2
      · exact nomatch h2
      · exact h2
structure AOut (M : Mc) (pm pw : Nat) (m0 : Store) (rest : List Nat) (ρ : Env) (m' : Store) : Prop where
  ex : ∃ (k : Nat) (wl : List Aw) (x3 x4 x5 x6 x7 : Option Val), ρ = [some (mcV M), some (.ref pm), some (.ref pw), x3, x4, x5, x6, x7] ∧ rest = List.range' k rest.length ∧ k + rest.length = M.n ∧ k ≤ wl.length ∧ AObj M pm pw m0 k wl m' ∧ (∀ q ∈ wl, q.2.length ≤ k)
theorem acc_outer {pm pw : Nat} {x3 x4 x5 x6 x7 : Option Val} {Y : Sys} {m0 : Store} {Q : Fl → Store → Prop} (hM : M.Ok) (hpm : m0.length ≤ pm) (hpw : m0.length ≤ pw) (hne : pm ≠ pw) (g1 : m[pm]? = some (.dct ([(0, [])].map kvA))) (g2 : m[pw]? = some (.lst ([((0, []) : Aw)].map ivA))) (f0 : Fr [] m0 m)
    (q : ∀ (wl : List Aw) (m' : Store) (x3 x4 x5 x6 x7 : Option Val), AccF M (wl.map (·.1)) → m'[pm]? = some (.dct (wl.map kvA)) → Fr [] m0 m' → Q (.nx [some (mcV M), some (.ref pm), some (.ref pw), x3, x4, x5, x6, x7]) m') :
    wR (loopF (.name 3) [] (evSs Y sAo) ((List.range M.n).map iv) [some (mcV M), some (.ref pm), some (.ref pw), x3, x4, x5, x6, x7] m) Q := by
  have h0 : 0 < M.n := hM.s1
  have hn12 : M.n ≤ 12 := hM.s12
  have a0 : AccS M ([((0, []) : Aw)].map (·.1)) := ⟨by simp, fun s hs => by simp at hs; omega, rfl, fun i s hi h0 => by
    cases i with
    | zero => omega
    | succ i => simp at hi⟩
  refine loopF_map iv (AOut M pm pw m0) ?_ ?_ _ _ _ ⟨0, [(0, [])], _, _, _, _, _, rfl, by simp [List.range_eq_range'], by simp, by simp, ⟨g1, g2, a0, fun i t _ h => by omega, by simp, f0⟩, by simp⟩
  · rintro x rest ρ m1 ⟨k, wl, x3, x4, x5, x6, x7, rfl, e1, e2, e3, e4, e5⟩
    rw [List.length_cons, List.range'_succ] at e1
    obtain ⟨rfl, e1'⟩ := List.cons.inj e1
    rw [List.length_cons] at e2
    refine ⟨rfl, _, rfl, ?_⟩
    show wSs _ _ _ _ _
    by_cases hk : x = wl.length
    · simp [sAo, wT, cmpV, eqM_int, bltV, lenM, e4.dw, hk]
      refine q wl m1 _ _ _ _ _ ⟨e4.acc, fun t ht a ha => ?_⟩ e4.dm e4.fr
      obtain ⟨i, hi, e⟩ := List.getElem_of_mem ht
      rw [List.length_map] at hi
      exact e4.cl i t (by rw [← e]; exact List.getElem?_eq_getElem _) (by omega) a ha
    · have hlt : x < wl.length := by omega
      have hg : wl[x]? = some wl[x] := List.getElem?_eq_getElem hlt
      rcases hq : wl[x] with ⟨h, wh⟩
      rw [hq] at hg
      have b3 := e5 _ (List.getElem_mem hlt)
      rw [hq] at b3
      have hkI : ¬ ((x : Int) = (wl.length : Int)) := by omega
      have hl3 := hM.l3
      have hIx : idxV (.ref pw) (iv x) m1 = .ok (iv h) m1 := by
        simp only [idxV, e4.dw, ixOf_nat, List.length_map, hlt, if_true, List.getElem?_map, hg, Option.map_some]
        rfl
      have sm := small_nat (show M.L < 1000000 by omega)
      simp only [sAo, wSs_cons, wS_ite, wT, wE_cmp, wE_loc, wE_blt, wEs_cons, wEs_nil, List.set_cons_succ, List.set_cons_zero, List.getElem?_cons_succ, List.getElem?_cons_zero, Option.join_some, oP_some, bltV, lenM, e4.dw, wR_ok, cmpV, eqM_int, List.length_map, hkI, decide_false, asP_bl, Bool.false_eq_true, if_false, wSs_nil, kS_nx, wS_asg, wE_idx, hIx, bindT, wS_for, wIt_range, wE_int, idx_m0, small_0, sm, and_self, true_and, Int.sub_zero, Int.toNat_natCast, rangeL_0]
      refine acc_inner (k := x) (h := h) (wh := wh) hM (by omega) hpm hpw hne e4 hg e5 b3 fun wl' m' l y z o2 hl2 w2 => ?_
      exact ⟨x + 1, wl', _, _, _, _, _, rfl, e1', by omega, by omega, o2, w2⟩
  · rintro ρ m1 ⟨k, wl, x3, x4, x5, x6, x7, rfl, e1, e2, e3, e4, e5⟩
    have hlen := e4.acc.len
    rw [List.length_map] at hlen
    refine ⟨rfl, q wl m1 _ _ _ _ _ ⟨e4.acc, fun t ht a ha => ?_⟩ e4.dm e4.fr⟩
    obtain ⟨i, hi, e⟩ := List.getElem_of_mem ht
    rw [List.length_map] at hi
    have e2' : k = M.n := by simpa using e2
    exact e4.cl i t (by rw [← e]; exact List.getElem?_eq_getElem _) (by omega) a ha
theorem access_of_m {Q : Val → Store → Prop} (hM : M.Ok) (q : ∀ (wl : List Aw) m' r, AccF M (wl.map (·.1)) → m'[r]? = some (.lst ((List.range M.n).map (accV wl))) → m.length ≤ r → Fr [] m m' → Q (.ref r) m') : ∀ vs, vs = [mcV M] → wR (evF F con (n + 1) 17 vs m) Q := by
  intro vs hvs
  have hn12 : M.n ≤ 12 := hM.s12
  refine wF rfl (by rw [hvs]; rfl) ?_
  rw [hvs]
  simp only [f_access_of, start, List.map_cons, List.map_nil, List.length_cons, List.length_nil, wSs_cons, wS_asg, wE_tup, wEs_cons, wEs_nil, wE_dct1, wE_lst, wE_loc, wE_int, List.cons_append, List.nil_append, lim_num]
  refine ⟨by omega, rfl, by omega, by omega, ?_⟩
  simp only [List.length_append, List.length_cons, List.length_nil, Nat.zero_add, bindT, oP_some, kS_nx, wSs_cons, wS_for, wIt_range, wE_int, List.set_cons_succ, List.set_cons_zero]
  rw [w_len (M := M) rfl]
  simp only [small_0, small_nat (show M.n < 1000000 by omega), and_self, true_and, Int.sub_zero, Int.toNat_natCast, rangeL_0]
  refine acc_outer (pm := m.length) (pw := m.length + 1) (m0 := m) (x3 := none) (x4 := none) (x5 := none) (x6 := none) (x7 := none) hM (Nat.le_refl _) (by omega) (by omega) ?_ ?_ (.trans .app .app) fun wl m1 x3 x4 x5 x6 x7 hA g1 f1 => ?_
  · rw [List.getElem?_append_left (by simp)]; exact get_new
  · have e2 : m.length + 1 = (m ++ [Obj.dct [(.int 0, .tup [])]]).length := by simp
    rw [e2]; exact get_new
  · simp only [kS_nx, wSs_cons, wS_ret, wE_lc, wC_cons, wIt_range, wE_int]
    rw [w_len (M := M) rfl]
    simp only [small_0, small_nat (show M.n < 1000000 by omega), and_self, true_and, Int.sub_zero, Int.toNat_natCast, rangeL_0]
    refine (loopC_map iv (fun m' => m' = m1) (fun s => [accV wl s]) (fun _ _ => rfl) (fun s hs m' hm => ?_) rfl).mono ?_
    · subst hm
      refine ⟨_, rfl, ?_⟩
      rw [bC_0]
      have hkey := key_A (s := s) (wl := wl)
      have hfind := find_A (s := s) (wl := wl)
      rw [List.map_map] at hkey
      simp [wipeE, slT, slG, kindM, mthV, g1, hkey, hfind]
      unfold accV
      cases lkA wl s <;> rfl
    · rintro vs m' ⟨rfl, rfl⟩
      have e : ((List.range M.n).flatMap fun s => [accV wl s]) = (List.range M.n).map (accV wl) := by
        generalize List.range M.n = l
        induction l with
        | nil => rfl
        | cons x l ih => rw [List.flatMap_cons, ih]; rfl
      rw [e]
      refine ⟨by rw [List.length_map, List.length_range, lim_num]; omega, ?_⟩
      simp only [kS_rt, kF_rt]
      exact q wl _ _ hA get_new f1.le (f1.trans .app)
end K83
end

section
set_option maxRecDepth 100000
/-! Wi: _law_reached. -/
namespace K83
open Ev
variable {n : Nat} {m : Store} {M M' : Mc}
theorem inVs_iv {x : Nat} : ∀ {l : List Nat}, inVs (l.map iv) (iv x) = decide (x ∈ l)
  | [] => by simp [inVs]
  | y :: l => by
    have ih := inVs_iv (x := x) (l := l)
    unfold inVs at ih ⊢
    rw [List.map_cons, List.any_cons, ih]
    simp only [Val.eqv]
    by_cases h : y = x
    · subst h; simp
    · have h1 : ((y : Int) == (x : Int)) = false := by simp; omega
      have h2 : ¬ x = y := fun e => h e.symm
      simp [h1, h2]
theorem nmem_iv {x r : Nat} {l : List Nat} (h : m[r]? = some (.lst (l.map iv))) : cmpV .nmem (iv x) (.ref r) m = .ok (!decide (x ∈ l)) m := by
  simp [cmpV, memM, h, Val.flat, Val.sok, Val.dep, flats_iv, soks_iv, deps_iv, inVs_iv]
def sRi : Ss := (.cons (.asg (.name 1) (.bin .add (.loc 1) (.lc (.loc 4) (.cons (.cons (.name 4) (.cons (.name 5) .nil)) (.seq (.idx (.idx (.loc 0) (.int 2)) (.loc 3))) (.cons (.cmp .nmem (.loc 4) (.loc 1)) .nil) .nil)))) .nil)
theorem upd_w {Y : Sys} {r s : Nat} {met : List Nat} {x2 x4 x5 : Option Val} {Q : Fl → Store → Prop} (hM : M.Ok) (hs : s < M.n) (hr : m[r]? = some (.lst (met.map iv))) (hl : met.length ≤ 1000)
    (q : ∀ m' r', m'[r']? = some (.lst ((updR M met s).map iv)) → Fr [] m m' → Q (.nx [some (mcV M), some (.ref r'), x2, some (iv s), x4, x5]) m') : wSs Y sRi [some (mcV M), some (.ref r), x2, some (iv s), x4, x5] m Q := by
  have i1 := idx_row hM hs (m := m)
  have hrow := (Mc.row_at hM hs).2.1
  have hl3 := hM.l3
  simp only [sRi, wSs_cons, wS_asg, wE_bin, wE_loc, wE_lc, wC_cons, wIt_seq, wE_idx, wE_int, List.getElem?_cons_succ, List.getElem?_cons_zero, Option.join_some, oP_some, idx_m2, wR_ok, i1, seqW_row]
  refine (loopC_map entV (fun m' => m' = m) (fun e => if e.1 ∈ met then [] else [iv e.1]) (fun _ _ => rfl) (fun e he m' hm => ?_) rfl).mono ?_
  · subst hm
    refine ⟨_, rfl, ?_⟩
    rw [bC_1]
    have hn := nmem_iv (x := e.1) hr
    by_cases hc : e.1 ∈ met
    · rw [show decide (e.1 ∈ met) = true from decide_eq_true hc] at hn
      simp [wT, wipeE, slT, slG, hn, hc]
    · rw [show decide (e.1 ∈ met) = false from decide_eq_false hc] at hn
      simp [wT, wipeE, slT, slG, hn, hc]
  · rintro vs m' ⟨rfl, rfl⟩
    have e : ((M.rw s).flatMap fun e => if e.1 ∈ met then [] else [iv e.1]) = ((rowF M s).filter (fun x => decide (x ∉ met))).map iv := by
      unfold rowF
      generalize M.rw s = l
      induction l with
      | nil => rfl
      | cons x l ih =>
        rw [List.flatMap_cons, ih, List.map_cons]
        by_cases h : x.1 ∈ met <;> simp [h]
    rw [e]
    have hfl : ((rowF M s).filter (fun x => decide (x ∉ met))).length ≤ M.L := by
      refine Nat.le_trans (List.length_filter_le _ _) ?_
      unfold rowF
      rw [List.length_map, hrow]
      exact Nat.le_refl _
    refine ⟨by rw [List.length_map, lim_num]; omega, ?_⟩
    have g1 : (m' ++ [Obj.lst (((rowF M s).filter (fun x => decide (x ∉ met))).map iv)])[r]? = some (.lst (met.map iv)) := by rw [List.getElem?_append_left (lt_of_get hr)]; exact hr
    have g2 : (m' ++ [Obj.lst (((rowF M s).filter (fun x => decide (x ∉ met))).map iv)])[m'.length]? = some (.lst (((rowF M s).filter (fun x => decide (x ∉ met))).map iv)) := get_new
    have e3 : binV .add (.ref r) (.ref m'.length) (m' ++ [Obj.lst (((rowF M s).filter (fun x => decide (x ∉ met))).map iv)]) = newLst (met.map iv ++ ((rowF M s).filter (fun x => decide (x ∉ met))).map iv) (m' ++ [Obj.lst (((rowF M s).filter (fun x => decide (x ∉ met))).map iv)]) := by
      simp only [binV, g1, g2]
    rw [e3, wR_newLst]
    refine ⟨by rw [List.length_append, List.length_map, List.length_map, lim_num]; omega, ?_⟩
    simp only [bindT, oP_some, kS_nx, wSs_nil, List.set_cons_succ, List.set_cons_zero]
    refine q _ _ ?_ (.trans .app .app)
    rw [get_new]
    unfold updR
    rw [List.map_append]
structure RIn (M : Mc) (S met0 : List Nat) (c : Nat) (x2 : Option Val) (m : Store) (rest : List Nat) (ρ : Env) (m' : Store) : Prop where
  ex : ∃ (met : List Nat) (r : Nat) (x3 x4 x5 : Option Val), ρ = [some (mcV M), some (.ref r), x2, x3, x4, x5] ∧ m'[r]? = some (.lst (met.map iv)) ∧ MetOk M S met ∧ (∀ x ∈ met0, x ∈ met) ∧ (∀ t ∈ met0, t ∈ rest ∨ ∀ a, a < M.L → (M.at t a).1 ∈ met) ∧ (∀ t ∈ rest, t ∈ S) ∧ m'[c]? = some (.lst (met0.map iv)) ∧ Fr [] m m'
structure ROut (M : Mc) (S : List Nat) (m : Store) (rest : List Nat) (ρ : Env) (m' : Store) : Prop where
  ex : ∃ (k : Nat) (met : List Nat) (r : Nat) (x2 x3 x4 x5 : Option Val), ρ = [some (mcV M), some (.ref r), x2, x3, x4, x5] ∧ m'[r]? = some (.lst (met.map iv)) ∧ k + rest.length = M.n ∧ MetOk M S met ∧ (∀ i s, i ≤ k → S[i]? = some s → s ∈ met) ∧ Fr [] m m'
theorem law_reached_m {S : List Nat} {Q : Val → Store → Prop} (hM : M.Ok) (hS : AccF M S) (q : ∀ m' r, m'[r]? = some (.lst (((List.range M.n).filter (fun s => decide (s ∈ S))).map iv)) → m.length ≤ r → Fr [] m m' → Q (.ref r) m') : ∀ vs, vs = [mcV M] → wR (evF F con (n + 1) 38 vs m) Q := by
  intro vs hvs
  have hn12 : M.n ≤ 12 := hM.s12
  have h0S : 0 ∈ S := List.mem_of_getElem? hS.h0
  refine wF rfl (by rw [hvs]; rfl) ?_
  rw [hvs]
  simp only [f_law_reached, start, List.map_cons, List.map_nil, List.length_cons, List.length_nil, wSs_cons, wS_asg, wE_lst, wEs_cons, wEs_nil, wE_int, List.cons_append, List.nil_append]
  refine ⟨by rw [lim_num]; omega, ?_⟩
  simp only [bindT, oP_some, kS_nx, wSs_cons, wS_for, wIt_range, wE_int, List.set_cons_succ, List.set_cons_zero]
  rw [w_len (M := M) rfl]
  simp only [small_0, small_nat (show M.n < 1000000 by omega), and_self, true_and, Int.sub_zero, Int.toNat_natCast, rangeL_0]
  refine loopF_map iv (ROut M S m) ?_ ?_ _ _ _ ⟨0, [0], m.length, none, none, none, none, rfl, get_new, by simp, ⟨fun x hx => by simp at hx; rw [hx]; exact h0S, fun x => Nat.le_trans List.count_le_length (by simp)⟩, fun i s hi hs => ?_, .app⟩
  · rintro x rest ρ m1 ⟨k, met, r, x2, x3, x4, x5, rfl, g1, e1, e2, e3, f1⟩
    have hlen := e2.len hS.toAccS
    rw [List.length_cons] at e1
    refine ⟨rfl, _, rfl, ?_⟩
    show wSs _ _ _ _ _
    simp only [wSs_cons, wS_for, wIt_seq, wE_blt, wEs_cons, wEs_nil, wE_loc, List.set_cons_succ, List.set_cons_zero, List.getElem?_cons_succ, List.getElem?_cons_zero, Option.join_some, oP_some, bltV, itemsM, g1, wR_newLst]
    refine ⟨by rw [List.length_map, lim_num]; omega, ?_⟩
    have hc : seqW (m1 ++ [Obj.lst (met.map iv)]) (.ref m1.length) = some (met.map iv, [(m1.length, .lst (met.map iv))]) := by simp [seqW]
    rw [hc]
    simp only [oP_some]
    refine loopF_map iv (RIn M S met m1.length (some (iv x)) m) ?_ ?_ _ _ _ ⟨met, r, x3, x4, x5, rfl, by rw [List.getElem?_append_left (lt_of_get g1)]; exact g1, e2, fun _ h => h, fun t ht => .inl ht, e2.sub, get_new, f1.trans .app⟩
    · rintro s rest2 ρ m2 ⟨met2, r2, y3, y4, y5, rfl, h1, h2, h3, h4, h5, h6, h7⟩
      have hs := h5 s List.mem_cons_self
      have hlen2 := h2.len hS.toAccS
      refine ⟨by simp [guardOk, h6], _, rfl, ?_⟩
      show wSs _ sRi _ _ _
      refine upd_w hM (hS.bd s hs) h1 (by omega) fun m3 r3 g3 f3 => ?_
      refine ⟨updR M met2 s, r3, _, _, _, rfl, g3, h2.upd hM hS hs, fun x hx => upd_mono (h3 x hx), fun t ht => ?_, fun t ht => h5 t (List.mem_cons_of_mem _ ht), f3.get h6, h7.trans f3⟩
      rcases h4 t ht with h | h
      · rcases List.mem_cons.mp h with rfl | h
        · exact .inr fun a ha => upd_succ hM (hS.bd _ hs) ha
        · exact .inl h
      · exact .inr fun a ha => upd_mono (h a ha)
    · rintro ρ m2 ⟨met2, r2, y3, y4, y5, rfl, h1, h2, h3, h4, h5, h6, h7⟩
      refine ⟨by simp [guardOk, h6], ?_⟩
      simp only [kS_nx, wSs_nil]
      refine ⟨k + 1, met2, r2, _, _, _, _, rfl, h1, by omega, h2, fun i s hi hs => ?_, h7⟩
      by_cases hik : i ≤ k
      · exact h3 s (e3 i s hik hs)
      · obtain ⟨j, a, t, j1, j2, j3, j4⟩ := hS.par i s hs (by omega)
        have ht := e3 j t (by omega) j3
        rcases h4 t ht with h | h
        · exact nomatch h
        · rw [j4]; exact h a j2
  · rintro ρ m1 ⟨k, met, r, x2, x3, x4, x5, rfl, g1, e1, e2, e3, f1⟩
    have hlen := e2.len hS.toAccS
    have hk : k = M.n := by simpa using e1
    have hmem : ∀ x, x ∈ met ↔ x ∈ S := fun x => ⟨e2.sub x, fun hx => by
      obtain ⟨i, hi, e⟩ := List.getElem_of_mem hx
      have := hS.toAccS.len
      exact e3 i x (by omega) (by rw [← e]; exact List.getElem?_eq_getElem hi)⟩
    refine ⟨rfl, ?_⟩
    have hints : ∀ l : List Nat, (l.map iv).all isInt = true := fun l => by
      rw [List.all_eq_true]
      intro v hv
      obtain ⟨x, _, rfl⟩ := List.mem_map.mp hv
      rfl
    have hok : setOk false (met.map iv) = true := by
      unfold setOk
      rw [hints, List.length_map]
      have : decide (met.length + 1 < 4096) = true := decide_eq_true (by omega)
      rw [this]
      rfl
    have hso := setOf_map (f := iv) (fun a b h => iv_inj h) met []
    have hdn := nodup_dd (l := met) (acc := []) List.nodup_nil
    have hdl := len_dd (l := met) (acc := [])
    have hdm : ∀ x, x ∈ dd [] met ↔ x ∈ S := fun x => by rw [mem_dd]; simp [hmem x]
    have hsrt := srtN_filter hdn hdm hS.bd
    have hb : bltV .set [.ref r] m1 = alloc (.set ((dd [] met).map iv)) m1 := by
      rw [← hso]
      simp [bltV, itemsM, g1, isTup, hok]
    have hsm : sortedM (m1 ++ [.set ((dd [] met).map iv)]) m1.length = some (((List.range M.n).filter (fun s => decide (s ∈ S))).map iv) := by
      unfold sortedM
      rw [get_new]
      have h1 : sortOkS ((dd [] met).map iv) = true := by
        unfold sortOkS
        rw [hints, List.length_map]
        have : decide ((dd [] met).length < 64) = true := decide_eq_true (by simp at hdl; omega)
        rw [this]
        rfl
      simp only [sortedL, h1, if_true]
      rw [sortV_iv, hsrt]
    simp only [kS_nx, wSs_cons, wS_ret, wE_blt, wEs_cons, wEs_nil, wE_loc, List.getElem?_cons_succ, List.getElem?_cons_zero, Option.join_some, oP_some, hb, wR_alloc]
    have hb2 : bltV .sorted [.ref m1.length] (m1 ++ [.set ((dd [] met).map iv)]) = newLst (((List.range M.n).filter (fun s => decide (s ∈ S))).map iv) (m1 ++ [.set ((dd [] met).map iv)]) := by
      simp only [bltV, hsm]
    rw [hb2, wR_newLst]
    have hfl : ((List.range M.n).filter (fun s => decide (s ∈ S))).length ≤ M.n := by
      refine Nat.le_trans (List.length_filter_le _ _) ?_
      rw [List.length_range]
      exact Nat.le_refl _
    refine ⟨by rw [List.length_map, lim_num]; omega, ?_⟩
    simp only [kS_rt, kF_rt]
    exact q _ _ get_new (by rw [List.length_append]; have := f1.le; omega) (f1.trans (.trans .app .app))
  · have : i = 0 := by omega
    subst this
    rw [hS.h0] at hs
    cases hs
    exact List.mem_cons_self
end K83
end

section
set_option maxRecDepth 100000
/-! Wj: mutants. -/
namespace K83
open Ev
variable {n : Nat} {m : Store} {M M' : Mc}
/-- the new machine's term: the machine's parts at three slots -/
theorem wth_expr {Y : Sys} {s a : Nat} {e : Ent} {ρ : Env} {ir is_ ia ie : Nat} {Q : Val → Store → Prop} (h : M.Ok) (hs : s < M.n) (ha : a < M.L) (h1 : ρ[ir]? = some (some (.tup (M.rows.map rowV)))) (h2 : ρ[is_]? = some (some (iv s))) (h3 : ρ[ia]? = some (some (iv a))) (h4 : ρ[ie]? = some (some (entV e)))
    (q : Q (.tup (((M.rw s).take a).map entV ++ [entV e] ++ ((M.rw s).drop (a + 1)).map entV)) m) :
    wE Y (.bin .add (.bin .add (.sl (.idx (.loc ir) (.loc is_)) .non (.loc ia)) (.tup (.cons (.loc ie) .nil))) (.sl (.idx (.loc ir) (.loc is_)) (.bin .add (.loc ia) (.int 1)) .non)) ρ m Q := by
  have i1 := idx_row h hs (m := m)
  have hrow := (Mc.row_at h hs).2.1
  have hl3 := h.l3
  simp only [wE_bin, wE_sl, wE_idx, wE_loc, wE_non, wE_tup, wEs_cons, wEs_nil, wE_int, h1, h2, h3, h4, Option.join_some, oP_some, i1, wR_ok, sl_row_t, add_tt, add_1, sl_row_d, List.length_map, List.length_take, List.length_cons, List.length_nil, List.length_append, List.length_drop, lim_num]
  refine ⟨by omega, by omega, by omega, q⟩
theorem wth_expr2 {Y : Sys} {s a : Nat} {e : Ent} {ρ : Env} {il iA ir is_ iw : Nat} {Q : Val → Store → Prop} (h : M.Ok) (hs : s < M.n) (h0 : ρ[il]? = some (some (iv M.L))) (h0' : ρ[iA]? = some (some (iv M.A))) (h1 : ρ[ir]? = some (some (.tup (M.rows.map rowV)))) (h2 : ρ[is_]? = some (some (iv s)))
    (h4 : ρ[iw]? = some (some (.tup (((M.rw s).take a).map entV ++ [entV e] ++ ((M.rw s).drop (a + 1)).map entV)))) (q : Q (mcV (M.wth s a e)) m) :
    wE Y (.tup (.cons (.loc il) (.cons (.loc iA) (.cons (.bin .add (.bin .add (.sl (.loc ir) .non (.loc is_)) (.tup (.cons (.loc iw) .nil))) (.sl (.loc ir) (.bin .add (.loc is_) (.int 1)) .non)) .nil)))) ρ m Q := by
  have hn := h.s12
  have hs' : s < M.rows.length := hs
  simp only [wE_bin, wE_sl, wE_loc, wE_non, wE_tup, wEs_cons, wEs_nil, wE_int, h0, h0', h1, h2, h4, Option.join_some, oP_some, wR_ok, sl_rows_t, add_tt, add_1, sl_rows_d, List.length_map, List.length_take, List.length_cons, List.length_nil, List.length_append, List.length_drop, lim_num]
  refine ⟨by omega, by omega, by omega, by omega, ?_⟩
  rw [mcV_wth]
  exact q
theorem with_entry_m {s a : Nat} {e : Ent} {Q : Val → Store → Prop} (h : M.Ok) (hs : s < M.n) (ha : a < M.L) (q : Q (mcV (M.wth s a e)) m) : ∀ vs, vs = [mcV M, iv s, iv a, entV e] → wR (evF F con (n + 1) 21 vs m) Q := by
  intro vs hvs
  refine wF rfl (by rw [hvs]; rfl) ?_
  rw [hvs]
  simp only [f_with_entry, start, List.map_cons, List.map_nil, List.length_cons, List.length_nil, wSs_cons, wS_asg, wS_ret, wE_loc, List.cons_append, List.nil_append, List.getElem?_cons_zero, Option.join_some, oP_some]
  simp only [mcV, bindT, oP_some, kS_nx, wSs_cons, wS_asg, List.set_cons_succ]
  refine wth_expr (M := M) (s := s) (a := a) (e := e) h hs ha rfl rfl rfl rfl ?_
  simp only [bindT, oP_some, kS_nx, wSs_cons, wS_ret]
  refine wth_expr2 (M := M) (s := s) (a := a) (e := e) h hs rfl rfl rfl rfl rfl ?_
  simp only [kS_rt, kF_rt]
  exact q
theorem ne_int {a b : Nat} : cmpV .ne (iv a) (iv b) m = .ok (decide (a ≠ b)) m := by
  simp [cmpV, eqM_int]
  by_cases h : a = b
  · subst h; simp
  · have : ¬ (a : Int) = (b : Int) := by omega
    simp [h, this]
/-- [(x, ..) for x in range(k) if x != d] and the other way round -/
theorem lc_pair {Y : Sys} {ρ : Env} {it id_ k d c : Nat} {fst : Bool} {Q : List Val → Store → Prop} (hk : k < 1000) (hlt : it < ρ.length) (hd : id_ ≠ it) {ic : Nat} (hc : ic ≠ it) (h1 : ρ[id_]? = some (some (iv d))) (h2 : ρ[ic]? = some (some (iv c)))
    (q : Q (((List.range k).filter (fun x => decide (x ≠ d))).map (fun x => entV (if fst then (x, c) else (c, x)))) m) :
    wR (loopC (.name it) [] (wipeE ρ (slT (.name it) ++ slG .nil)) (bodyC Y (evE Y (.tup (.cons (.loc (if fst then it else ic)) (.cons (.loc (if fst then ic else it)) .nil)))) (.cons (.cmp .ne (.loc it) (.loc id_)) .nil) .nil) ((List.range k).map iv) m) Q := by
  refine (loopC_map iv (fun m' => m' = m) (fun x => if x ≠ d then [entV (if fst then (x, c) else (c, x))] else []) (fun _ _ => rfl) (fun x hx m' hm => ?_) rfl).mono ?_
  · subst hm
    refine ⟨_, rfl, ?_⟩
    rw [bC_1]
    have g0 : ((wipeE ρ (slT (.name it) ++ slG .nil)).set it (some (iv x)))[it]? = some (some (iv x)) := by
      rw [List.getElem?_set_self]
      simp [wipeE, slT, slG, hlt]
    have g1 : ((wipeE ρ (slT (.name it) ++ slG .nil)).set it (some (iv x)))[id_]? = some (some (iv d)) := by
      rw [List.getElem?_set_ne (Ne.symm hd)]
      simp [wipeE, slT, slG]
      rw [List.getElem?_set_ne (Ne.symm hd)]
      exact h1
    have g2 : ((wipeE ρ (slT (.name it) ++ slG .nil)).set it (some (iv x)))[ic]? = some (some (iv c)) := by
      rw [List.getElem?_set_ne (Ne.symm hc)]
      simp [wipeE, slT, slG]
      rw [List.getElem?_set_ne (Ne.symm hc)]
      exact h2
    simp only [wT, wE_cmp, wE_loc, g0, g1, Option.join_some, oP_some, ne_int, wR_ok, asP_bl]
    by_cases hx : x = d
    · simp [hx]
    · simp only [hx, ne_eq, not_false_eq_true, decide_true, if_true]
      cases fst <;> simp [g0, g2, lim_num, entV]
  · rintro vs m' ⟨rfl, rfl⟩
    have e : ((List.range k).flatMap fun x => if x ≠ d then [entV (if fst then (x, c) else (c, x))] else []) = ((List.range k).filter (fun x => decide (x ≠ d))).map (fun x => entV (if fst then (x, c) else (c, x))) := by
      generalize List.range k = l
      induction l with
      | nil => rfl
      | cons x l ih =>
        rw [List.flatMap_cons, ih]
        by_cases h : x = d <;> simp [h]
    rw [e]
    exact q
theorem flat_single {α β : Type} {f : α → β} : ∀ l : List α, (l.flatMap fun x => [f x]) = l.map f
  | [] => rfl
  | x :: l => by rw [List.flatMap_cons, flat_single l]; rfl
theorem others_v {s a : Nat} : (others M s a).map entV = ((List.range M.n).filter (fun x => decide (x ≠ (M.at s a).1))).map (fun x => entV (x, (M.at s a).2)) ++ ((List.range M.A).filter (fun x => decide (x ≠ (M.at s a).2))).map (fun x => entV ((M.at s a).1, x)) := by
  unfold others
  rw [List.map_append, List.map_map, List.map_map]
  rfl
theorem add_ll {a b : Nat} {xs ys : List Val} {Q : Val → Store → Prop} (h1 : m[a]? = some (.lst xs)) (h2 : m[b]? = some (.lst ys)) : wR (binV .add (.ref a) (.ref b) m) Q = (xs.length + ys.length ≤ lim ∧ Q (.ref m.length) (m ++ [.lst (xs ++ ys)])) := by
  have : binV .add (.ref a) (.ref b) m = newLst (xs ++ ys) m := by simp only [binV, h1, h2]
  rw [this, wR_newLst, List.length_append]
theorem other_entries_m {s a : Nat} {Q : Val → Store → Prop} (h : M.Ok) (hs : s < M.n) (ha : a < M.L) (q : ∀ m' r, m'[r]? = some (.lst ((others M s a).map entV)) → m.length ≤ r → Fr [] m m' → Q (.ref r) m') : ∀ vs, vs = [mcV M, iv s, iv a] → wR (evF F con (n + 1) 22 vs m) Q := by
  intro vs hvs
  have hn12 : M.n ≤ 12 := h.s12
  have ha9 := h.a9
  have i1 := idx_row h hs (m := m)
  have i2 := idx_ent h hs ha (m := m)
  refine wF rfl (by rw [hvs]; rfl) ?_
  rw [hvs]
  simp only [f_other_entries, start, List.map_cons, List.map_nil, List.length_cons, List.length_nil, wSs_cons, wS_asg, wE_idx, wE_loc, wE_int, List.cons_append, List.nil_append, List.getElem?_cons_zero, List.getElem?_cons_succ, Option.join_some, oP_some, idx_m2, wR_ok, i1, i2]
  simp only [entV, bindT, oP_some, kS_nx, wSs_cons, wS_asg, List.set_cons_succ, wE_lc, wC_cons, wIt_range, wE_int]
  rw [w_len (M := M) rfl]
  simp only [small_0, small_nat (show M.n < 1000000 by omega), and_self, true_and, Int.sub_zero, Int.toNat_natCast, rangeL_0]
  refine lc_pair (fst := true) (it := 6) (id_ := 3) (ic := 4) (k := M.n) (d := (M.at s a).1) (c := (M.at s a).2) (by omega) (by simp) (by decide) (by decide) rfl rfl ?_
  have f1 := List.length_filter_le (fun x => decide (x ≠ (M.at s a).1)) (List.range M.n)
  have f2 := List.length_filter_le (fun x => decide (x ≠ (M.at s a).2)) (List.range M.A)
  rw [List.length_range] at f1 f2
  refine ⟨by rw [List.length_map, lim_num]; omega, ?_⟩
  simp only [bindT, oP_some, kS_nx, wSs_cons, wS_ret, List.set_cons_succ, wE_bin, wE_loc, List.getElem?_cons_succ, wE_lc, wC_cons, wIt_range, wE_int, wE_idx]
  show oP _ _
  simp only [List.replicate, Nat.reduceSub, Nat.reduceAdd, List.set_cons_zero, List.set_cons_succ, List.getElem?_cons_succ, List.getElem?_cons_zero, Option.join_some, oP_some, idx_m1, wR_ok, small_0, small_nat (show M.A < 1000000 by omega), and_self, true_and, Int.sub_zero, Int.toNat_natCast, rangeL_0]
  refine lc_pair (fst := false) (it := 6) (id_ := 4) (ic := 3) (k := M.A) (d := (M.at s a).2) (c := (M.at s a).1) (by omega) (by simp) (by decide) (by decide) rfl rfl ?_
  refine ⟨by rw [List.length_map, lim_num]; omega, ?_⟩
  simp only [if_true, Bool.false_eq_true, if_false, List.length_append, List.length_cons, List.length_nil, Nat.zero_add]
  rw [add_ll (by rw [List.getElem?_append_left (by simp)]; exact get_new) (by
    have e2 : m.length + 1 = (m ++ [Obj.lst (((List.range M.n).filter (fun x => decide (x ≠ (M.at s a).1))).map (fun x => entV (x, (M.at s a).2)))]).length := by simp
    rw [e2]; exact get_new)]
  rw [← others_v]
  refine ⟨by rw [List.length_map, List.length_map, lim_num]; omega, ?_⟩
  simp only [kS_rt, kF_rt]
  exact q _ _ get_new (by simp) (.trans .app (.trans .app .app))
end K83
end

section
set_option maxRecDepth 100000
/-! Wk: mutants_of. -/
namespace K83
open Ev
variable {n : Nat} {m : Store} {M M' : Mc}
theorem enumL_from {f : Nat → Val} : ∀ (k d : Nat), enumL k ((List.range' k d).map f) = (List.range' k d).map fun s => Val.tup [iv s, f s]
  | k, 0 => rfl
  | k, d + 1 => by
    rw [List.range'_succ, List.map_cons, List.map_cons, enumL, enumL_from (k + 1) d]
theorem enumL_range {f : Nat → Val} {c : Nat} : enumL 0 ((List.range c).map f) = (List.range c).map fun s => Val.tup [iv s, f s] := by
  rw [List.range_eq_range']
  exact enumL_from 0 c
theorem mutsS_len {s : Nat} (h : M.Ok) : ∀ (l : List Nat), (l.flatMap fun a => (others M s a).map (M.wth s a)).length ≤ 21 * l.length
  | [] => Nat.zero_le _
  | a :: l => by
    have ih := mutsS_len (s := s) h l
    have h1 := others_len (M := M) (s := s) (a := a)
    have h2 : M.n ≤ 12 := h.s12
    have h3 := h.a9
    rw [List.flatMap_cons, List.length_append, List.length_map, List.length_cons]
    omega
def sMi : Ss := (.cons (.ex (.mth .extend (.loc 1) (.cons (.lc (.call 21 (.cons (.loc 0) (.cons (.loc 2) (.cons (.loc 4) (.cons (.loc 5) .nil))))) (.cons (.name 5) (.seq (.call 22 (.cons (.loc 0) (.cons (.loc 2) (.cons (.loc 4) .nil))))) .nil .nil)) .nil))) .nil)
structure MIn (M : Mc) (pf gr s : Nat) (xs0 : List Val) (w : Val) (T : List Mc) (m : Store) (rest : List Nat) (ρ : Env) (m' : Store) : Prop where
  ex : ∃ (acc : List Mc) (x4 x5 : Option Val), ρ = [some (mcV M), some (.ref pf), some (iv s), some w, x4, x5] ∧ (∀ a ∈ rest, a < M.L) ∧ m'[pf]? = some (.lst (acc.map mcV)) ∧ m'[gr]? = some (.lst xs0) ∧ acc ++ (rest.flatMap fun a => (others M s a).map (M.wth s a)) = T ∧ acc.length ≤ 2000 ∧ acc.length + 21 * rest.length ≤ 2000 ∧ Fr [pf] m m'
theorem mut_inner {pf gr s c : Nat} {xs0 : List Val} {w : Val} {acc : List Mc} {x4 x5 : Option Val} {Q : Fl → Store → Prop} (h : M.Ok) (hs : s < M.n) (hc : c ≤ M.L) (hg : gr ≠ pf) (g1 : m[pf]? = some (.lst (acc.map mcV))) (g2 : m[gr]? = some (.lst xs0)) (hl : acc.length + 21 * c ≤ 2000)
    (q : ∀ acc' m' x4 x5, acc' = acc ++ ((List.range c).flatMap fun a => (others M s a).map (M.wth s a)) → m'[pf]? = some (.lst (acc'.map mcV)) → m'[gr]? = some (.lst xs0) → Fr [pf] m m' → Q (.nx [some (mcV M), some (.ref pf), some (iv s), some w, x4, x5]) m') :
    wR (loopF (.name 4) [] (evSs ⟨evF F con (n + 1), con⟩ sMi) ((List.range c).map iv) [some (mcV M), some (.ref pf), some (iv s), some w, x4, x5] m) Q := by
  refine loopF_map iv (MIn M pf gr s xs0 w (acc ++ ((List.range c).flatMap fun a => (others M s a).map (M.wth s a))) m) ?_ ?_ _ _ _ ⟨acc, x4, x5, rfl, (fun a ha => by have := List.mem_range.mp ha; omega), g1, g2, rfl, by omega, by simpa using hl, .refl⟩
  · rintro a rest ρ m1 ⟨acc1, y4, y5, rfl, e1, e2, e3, e4, e5, e6, e7⟩
    have ha := e1 a List.mem_cons_self
    rw [List.length_cons] at e6
    refine ⟨rfl, _, rfl, ?_⟩
    show wSs _ sMi _ _ _
    have hpl := lt_of_get e2
    have hol := others_len (M := M) (s := s) (a := a)
    have hn12 : M.n ≤ 12 := h.s12
    have ha9 := h.a9
    have hkm : kindM .extend (.ref pf) m1 = .ok () m1 := by simp [kindM, e2]
    simp only [sMi, wSs_cons, wS_ex, wE_mth, wE_loc, List.set_cons_succ, List.set_cons_zero, List.getElem?_cons_succ, List.getElem?_cons_zero, Option.join_some, oP_some, hkm, wR_ok, wEs_cons, wEs_nil, wE_lc, wC_cons, wIt_seq, wE_call]
    refine other_entries_m (n := n) h hs ha (fun m2 r hr hl2 f2 => ?_) _ rfl
    have hseq : seqW m2 (.ref r) = some ((others M s a).map entV, [(r, .lst ((others M s a).map entV))]) := by simp [seqW, hr]
    rw [hseq]
    simp only [oP_some]
    refine (loopC_map entV (fun m' => m' = m2) (fun e => [mcV (M.wth s a e)]) (fun m' hm => by subst hm; simp [guardOk, hr]) (fun e he m' hm => ?_) rfl).mono ?_
    · subst hm
      refine ⟨_, rfl, ?_⟩
      rw [bC_0]
      simp only [wE_call, wEs_cons, wEs_nil, wE_loc, wipeE, slT, slG, List.append_nil, List.set_cons_succ, List.set_cons_zero, List.getElem?_cons_succ, List.getElem?_cons_zero, Option.join_some, oP_some]
      refine with_entry_m (n := n) (e := e) h hs ha ⟨rfl, rfl⟩ _ rfl
    · rintro vs m' ⟨rfl, rfl⟩
      rw [flat_single]
      refine ⟨by rw [List.length_map, lim_num]; omega, ?_⟩
      have hpf2 : m'[pf]? = some (.lst (acc1.map mcV)) := f2.get e2
      have k1 : (m' ++ [Obj.lst ((others M s a).map fun e => mcV (M.wth s a e))])[pf]? = some (.lst (acc1.map mcV)) := by rw [List.getElem?_append_left (lt_of_get hpf2)]; exact hpf2
      have hb : mthV .extend (.ref pf) [.ref m'.length] (m' ++ [Obj.lst ((others M s a).map fun e => mcV (M.wth s a e))]) = .ok .non ((m' ++ [Obj.lst ((others M s a).map fun e => mcV (M.wth s a e))]).set pf (.lst ((acc1 ++ (others M s a).map (M.wth s a)).map mcV))) := by
        have hlim : acc1.length + (others M s a).length ≤ 16777216 := by omega
        simp [mthV, k1, hlim, lim_num]
        rfl
      rw [hb, wR_ok]
      simp only [kS_nx, wSs_nil]
      refine ⟨acc1 ++ (others M s a).map (M.wth s a), _, _, rfl, fun b hb => e1 b (List.mem_cons_of_mem _ hb), get_set k1, ?_, by rw [← e4]; simp, by simp; omega, by simp; omega, e7.trans ((f2.nil).trans (.trans .app (.set (by simp))))⟩
      rw [List.getElem?_set_ne (Ne.symm hg)]
      have := f2.get e3
      rw [List.getElem?_append_left (lt_of_get this)]
      exact this
  · rintro ρ m1 ⟨acc1, y4, y5, rfl, e1, e2, e3, e4, e5, e6, e7⟩
    refine ⟨rfl, q acc1 m1 _ _ ?_ e2 e3 e7⟩
    rw [← e4]; simp
/-! ### all mutants, sorted -/
def leM (a b : Mc) : Bool := leV (mcV a) (mcV b)
def srtM (M : Mc) (S : List Nat) : List Mc := (muts M S).mergeSort leM
theorem mem_srtM {S : List Nat} {N : Mc} : N ∈ srtM M S ↔ N ∈ muts M S := (List.mergeSort_perm _ _).mem_iff
theorem muts_len {S : List Nat} (h : M.Ok) : (muts M S).length ≤ 1000 := by
  have aux : ∀ l : List Nat, (l.flatMap (mutsS M)).length ≤ 63 * l.length := by
    intro l
    induction l with
    | nil => simp
    | cons s l ih =>
      have h1 := mutsS_len (M := M) (s := s) h (List.range M.L)
      rw [List.length_range] at h1
      have h2 := h.l3
      rw [List.flatMap_cons, List.length_append, List.length_cons]
      have h3 : (mutsS M s).length ≤ 21 * M.L := h1
      omega
  have h1 := aux ((List.range M.n).filter (fun s => decide (s ∈ S)))
  have h2 := List.length_filter_le (fun s => decide (s ∈ S)) (List.range M.n)
  rw [List.length_range] at h2
  have h3 : M.n ≤ 12 := h.s12
  have : (muts M S).length ≤ 63 * ((List.range M.n).filter (fun s => decide (s ∈ S))).length := h1
  omega
theorem flats_map {α : Type} {f : α → Val} (h : ∀ a, (f a).flat = true) : ∀ l : List α, Val.flats (l.map f) = true
  | [] => rfl
  | a :: l => by simp [Val.flats, h a, flats_map h l]
theorem soks_map {α : Type} {f : α → Val} (h : ∀ a, (f a).sok = true) : ∀ l : List α, Val.soks (l.map f) = true
  | [] => rfl
  | a :: l => by simp [Val.soks, h a, soks_map h l]
theorem deps_map {α : Type} {f : α → Val} {d : Nat} (h : ∀ a, (f a).dep ≤ d) : ∀ l : List α, Val.deps (l.map f) ≤ d
  | [] => Nat.zero_le _
  | a :: l => by
    have := deps_map h l
    have := h a
    simp only [List.map_cons, Val.deps]
    omega
theorem alks_map {α : Type} {f : α → Val} (h : ∀ a b, alk (f a) (f b) = true) : ∀ l r : List α, alks (l.map f) (r.map f) = true
  | [], _ => by simp [alks]
  | _ :: _, [] => by simp [alks]
  | a :: l, b :: r => by simp [alks, h a b, alks_map h l r]
theorem eqvs_map {α : Type} [DecidableEq α] {f : α → Val} (h : ∀ a b, Val.eqv (f a) (f b) = decide (a = b)) : ∀ l r : List α, Val.eqvs (l.map f) (r.map f) = decide (l = r)
  | [], [] => by simp [Val.eqvs]
  | [], _ :: _ => by simp [Val.eqvs]
  | _ :: _, [] => by simp [Val.eqvs]
  | a :: l, b :: r => by
    simp only [List.map_cons, Val.eqvs, h a b, eqvs_map h l r]
    by_cases h1 : a = b <;> by_cases h2 : l = r <;> simp [h1, h2]
theorem eqv_iv {a b : Nat} : Val.eqv (iv a) (iv b) = decide (a = b) := by
  have := eqvs_iv [a] [b]
  simp [Val.eqvs] at this
  exact this
theorem eqv_ent (a b : Ent) : Val.eqv (entV a) (entV b) = decide (a = b) := by
  unfold entV
  simp only [Val.eqv, Val.eqvs, Bool.and_true]
  have h1 := eqv_iv (a := a.1) (b := b.1)
  have h2 := eqv_iv (a := a.2) (b := b.2)
  simp only [Val.eqv] at h1 h2
  rw [h1, h2]
  by_cases k1 : a.1 = b.1 <;> by_cases k2 : a.2 = b.2 <;> simp [k1, k2, Prod.ext_iff]
theorem eqv_row (a b : List Ent) : Val.eqv (rowV a) (rowV b) = decide (a = b) := by
  unfold rowV
  simp only [Val.eqv]
  exact eqvs_map eqv_ent a b
theorem eqv_mc (a b : Mc) : Val.eqv (mcV a) (mcV b) = decide (a = b) := by
  unfold mcV
  simp only [Val.eqv, Val.eqvs, Bool.and_true]
  have h1 := eqv_iv (a := a.L) (b := b.L)
  have h2 := eqv_iv (a := a.A) (b := b.A)
  simp only [Val.eqv] at h1 h2
  rw [h1, h2, eqvs_map eqv_row]
  obtain ⟨l, A, r⟩ := a
  obtain ⟨l', A', r'⟩ := b
  by_cases k1 : l = l' <;> by_cases k2 : A = A' <;> by_cases k3 : r = r' <;> simp [k1, k2, k3]
theorem flat_ent (e : Ent) : (entV e).flat = true := rfl
theorem flat_row (r : List Ent) : (rowV r).flat = true := by unfold rowV; simp [Val.flat, flats_map flat_ent]
theorem flat_mc (N : Mc) : (mcV N).flat = true := by unfold mcV; simp [Val.flat, Val.flats, flats_map flat_row]
theorem sok_ent (e : Ent) : (entV e).sok = true := rfl
theorem sok_row (r : List Ent) : (rowV r).sok = true := by unfold rowV; simp [Val.sok, soks_map sok_ent]
theorem sok_mc (N : Mc) : (mcV N).sok = true := by unfold mcV; simp [Val.sok, Val.soks, soks_map sok_row]
theorem dep_ent (e : Ent) : (entV e).dep ≤ 1 := by simp [entV, Val.dep, Val.deps]
theorem dep_row (r : List Ent) : (rowV r).dep ≤ 2 := by
  have := deps_map dep_ent r
  unfold rowV
  simp only [Val.dep]
  omega
theorem dep_mc (N : Mc) : (mcV N).dep ≤ 4 := by
  have := deps_map dep_row N.rows
  unfold mcV
  simp only [Val.dep, Val.deps]
  omega
theorem alk_ent (a b : Ent) : alk (entV a) (entV b) = true := by simp [entV, alk, alks]
theorem alk_row (a b : List Ent) : alk (rowV a) (rowV b) = true := by unfold rowV; simp only [alk]; exact alks_map alk_ent a b
theorem alk_mc (a b : Mc) : alk (mcV a) (mcV b) = true := by
  unfold mcV
  simp only [alk, alks, alks_map alk_row, Bool.and_true]
theorem datOk_mc (N : Mc) : datOk (mcV N) = true := by
  have := dep_mc N
  unfold datOk
  rw [flat_mc, sok_mc]
  simp
  omega
theorem sorted_mcs {r : Nat} {l : List Mc} (h : m[r]? = some (.lst (l.map mcV))) : bltV .sorted [.ref r] m = newLst ((l.mergeSort leM).map mcV) m := by
  have hs : sortedM m r = some ((l.mergeSort leM).map mcV) := by
    unfold sortedM
    rw [h]
    simp only [sortedL]
    cases l with
    | nil => simp [sortOk, sortV]
    | cons a l =>
      have h1 : sortOk ((a :: l).map mcV) = false := by simp [sortOk, mcV, isInt]
      have h2 : sortOkT ((a :: l).map mcV) = true := by
        unfold sortOkT
        rw [Bool.and_eq_true]
        refine ⟨List.all_eq_true.mpr fun v hv => ?_, List.all_eq_true.mpr fun v hv => List.all_eq_true.mpr fun u hu => ?_⟩
        · obtain ⟨x, _, rfl⟩ := List.mem_map.mp hv
          rw [datOk_mc]; rfl
        · obtain ⟨x, _, rfl⟩ := List.mem_map.mp hv
          obtain ⟨y, _, rfl⟩ := List.mem_map.mp hu
          exact alk_mc x y
      rw [h1, h2]
      simp only [Bool.false_eq_true, if_false, if_true]
      have := List.map_mergeSort (f := mcV) (r := leM) (s := leV) (l := a :: l) (fun _ _ _ _ => rfl)
      rw [this]
  simp only [bltV, hs]
def mtV (l : List Mc) : Val := .tup (l.map mcV)
structure MOut (M : Mc) (S : List Nat) (pf gr : Nat) (xs0 : List Val) (m : Store) (rest : List Nat) (ρ : Env) (m' : Store) : Prop where
  ex : ∃ (acc : List Mc) (x2 x3 x4 x5 : Option Val), ρ = [some (mcV M), some (.ref pf), x2, x3, x4, x5] ∧ (∀ s ∈ rest, s < M.n) ∧ m'[pf]? = some (.lst (acc.map mcV)) ∧ m'[gr]? = some (.lst xs0) ∧ acc ++ ((rest.filter (fun s => decide (s ∈ S))).flatMap (mutsS M)) = muts M S ∧ acc.length + 63 * rest.length ≤ 800 ∧ Fr [] m m'
theorem mutants_of_m {Q : Val → Store → Prop} (h : M.Ok) (q : ∀ S m', AccF M S → Fr [] m m' → Q (mtV (srtM M S)) m') : ∀ vs, vs = [mcV M] → wR (evF F con (n + 2) 23 vs m) Q := by
  intro vs hvs
  have hn12 : M.n ≤ 12 := h.s12
  have hl3 := h.l3
  refine wF rfl (by rw [hvs]; rfl) ?_
  rw [hvs]
  simp only [f_mutants_of, start, List.map_cons, List.map_nil, List.length_cons, List.length_nil, wSs_cons, wS_asg, wE_lst, wEs_nil, wEs_cons, List.cons_append, List.nil_append]
  refine ⟨Nat.zero_le _, ?_⟩
  simp only [bindT, oP_some, kS_nx, wSs_cons, wS_for, wIt_enum, wE_call, wEs_cons, wEs_nil, wE_loc, List.set_cons_succ, List.set_cons_zero, List.getElem?_cons_zero, Option.join_some]
  refine access_of_m (n := n) h (fun wl m1 gr hA hg hgl f1 => ?_) _ rfl
  have hl : lstW m1 (.ref gr) = some ((List.range M.n).map (accV wl), [(gr, .lst ((List.range M.n).map (accV wl)))]) := by simp [lstW, hg]
  rw [hl]
  simp only [oP_some, enumL_range]
  have hpf : m1[m.length]? = some (.lst []) := f1.get get_new
  have hne : gr ≠ m.length := fun e => by
    simp at hgl
    omega
  refine loopF_map (fun s => Val.tup [iv s, accV wl s]) (MOut M (wl.map (·.1)) m.length gr ((List.range M.n).map (accV wl)) m) ?_ ?_ _ _ _ ⟨[], none, none, none, none, rfl, (fun s hs => List.mem_range.mp hs), hpf, hg, rfl, by simp; omega, .trans .app f1⟩
  · rintro s rest ρ m2 ⟨acc, x2, x3, x4, x5, rfl, e1, e2, e3, e4, e5, e6⟩
    have hs := e1 s List.mem_cons_self
    rw [List.length_cons] at e5
    refine ⟨by simp [guardOk, e3], _, rfl, ?_⟩
    show wSs _ _ _ _ _
    obtain ⟨c, hc, hcL, hT⟩ : ∃ c : Nat, (if (!!decide (s ∈ wl.map (·.1))) = true then M.L else 0) = c ∧ c ≤ M.L ∧ acc ++ ((List.range c).flatMap fun a => (others M s a).map (M.wth s a)) ++ ((rest.filter (fun s => decide (s ∈ wl.map (·.1)))).flatMap (mutsS M)) = muts M (wl.map (·.1)) := by
      by_cases hm : s ∈ wl.map (·.1)
      · refine ⟨M.L, by rw [decide_eq_true hm]; rfl, Nat.le_refl _, ?_⟩
        rw [← e4, List.filter_cons_of_pos (by rw [decide_eq_true hm]), List.flatMap_cons, List.append_assoc]
        rfl
      · refine ⟨0, by rw [decide_eq_false hm]; rfl, Nat.zero_le _, ?_⟩
        rw [← e4, List.filter_cons_of_neg (by rw [decide_eq_false hm]; decide)]
        simp
    have hrange : ∀ (QW : Walk → Store → Prop), QW ((List.range c).map iv, []) m2 → wIt ⟨evF F con (n + 1), con⟩ (.range (.int 0) (.ite (.notN (.loc 3)) (.idx (.loc 0) (.int 0)) (.int 0))) [some (mcV M), some (.ref m.length), some (iv s), some (accV wl s), x4, x5] m2 QW := fun QW hq => by
      simp only [wIt_range, wE_int, wE_ite, wT, wE_notN, wE_loc, List.getElem?_cons_succ, List.getElem?_cons_zero, Option.join_some, oP_some, accV_non, asP_bl, wE_idx, idx_m0, wR_ok]
      split
      · rename_i hh
        rw [if_pos hh] at hc
        subst hc
        simp only [small_0, small_nat (show M.L < 1000000 by omega), and_self, true_and, Int.sub_zero, Int.toNat_natCast, rangeL_0]
        exact hq
      · rename_i hh
        rw [if_neg hh] at hc
        subst hc
        refine ⟨⟨small_0, small_0⟩, ?_⟩
        exact hq
    simp only [wSs_cons, wS_for]
    refine hrange _ ?_
    refine mut_inner (n := n) (gr := gr) (pf := m.length) (s := s) (c := c) (acc := acc) (xs0 := (List.range M.n).map (accV wl)) h hs hcL hne e2 e3 (by omega) fun acc' m3 y4 y5 ha g1 g2 f3 => ?_
    simp only [kS_nx, wSs_nil]
    have hacc := mutsS_len (M := M) (s := s) h (List.range c)
    rw [List.length_range] at hacc
    refine ⟨acc', _, _, _, _, rfl, fun t ht => e1 t (List.mem_cons_of_mem _ ht), g1, g2, ?_, ?_, ?_⟩
    · rw [ha]; exact hT
    · rw [ha, List.length_append]
      omega
    · refine ⟨Nat.le_trans e6.le f3.le, fun i hi _ => ?_⟩
      have hi2 := e6.le
      rw [f3.same i (by omega) (by simp; omega)]
      exact e6.same i hi (fun h => nomatch h)
  · rintro ρ m2 ⟨acc, x2, x3, x4, x5, rfl, e1, e2, e3, e4, e5, e6⟩
    refine ⟨by simp [guardOk, e3], ?_⟩
    have ha : acc = muts M (wl.map (·.1)) := by rw [← e4]; simp
    subst ha
    have hlen := muts_len (S := wl.map (·.1)) h
    simp only [kS_nx, wSs_cons, wS_ret, wE_blt, wEs_cons, wEs_nil, wE_loc, List.getElem?_cons_succ, List.getElem?_cons_zero, Option.join_some, oP_some, sorted_mcs e2, wR_newLst]
    have hl2 : (srtM M (wl.map (·.1))).length = (muts M (wl.map (·.1))).length := List.length_mergeSort _
    refine ⟨by rw [List.length_map, List.length_mergeSort, lim_num]; omega, ?_⟩
    have hb : bltV .tuple [.ref m2.length] (m2 ++ [.lst ((srtM M (wl.map (·.1))).map mcV)]) = newTup ((srtM M (wl.map (·.1))).map mcV) (m2 ++ [.lst ((srtM M (wl.map (·.1))).map mcV)]) := by simp only [bltV, itemsM, get_new]
    show wR (bltV .tuple [.ref m2.length] (m2 ++ [.lst ((srtM M (wl.map (·.1))).map mcV)])) _
    rw [hb, wR_newTup]
    refine ⟨by rw [List.length_map, lim_num]; omega, ?_⟩
    simp only [kS_rt, kF_rt]
    exact q _ _ hA (e6.trans .app)
end K83
end

section
set_option maxRecDepth 100000
/-! Wl: _law_mutants. -/
namespace K83
open Ev
variable {n : Nat} {m : Store} {M M' : Mc}
theorem ex_acc (h : M.Ok) : ∃ S, AccF M S := by
  have := access_of_m (n := 0) (m := []) (Q := fun _ _ => ∃ S, AccF M S) h (fun wl m' r hA _ _ _ => ⟨_, hA⟩) _ rfl
  obtain ⟨_, _, _, hS⟩ := wR_iff.mp this
  exact hS
theorem acc_sub {S S' : List Nat} (h : AccS M S) (h' : AccF M S') : ∀ (k i s : Nat), i ≤ k → S[i]? = some s → s ∈ S' := by
  intro k
  induction k with
  | zero =>
    intro i s hi hs
    have : i = 0 := by omega
    subst this
    rw [h.h0] at hs
    cases hs
    exact List.mem_of_getElem? h'.h0
  | succ k ih =>
    intro i s hi hs
    by_cases h0 : i = 0
    · subst h0; exact ih 0 s (by omega) hs
    · obtain ⟨j, a, t, h1, h2, h3, h4⟩ := h.par i s hs (by omega)
      rw [h4]
      exact h'.cl t (ih j t (by omega) h3) a h2
theorem acc_uniq {S S' : List Nat} (h : AccF M S) (h' : AccF M S') : ∀ x, x ∈ S ↔ x ∈ S' := fun x => by
  constructor
  · intro hx
    obtain ⟨i, hi, e⟩ := List.getElem_of_mem hx
    exact acc_sub h.toAccS h' i i x (Nat.le_refl _) (by rw [← e]; exact List.getElem?_eq_getElem hi)
  · intro hx
    obtain ⟨i, hi, e⟩ := List.getElem_of_mem hx
    exact acc_sub h'.toAccS h i i x (Nat.le_refl _) (by rw [← e]; exact List.getElem?_eq_getElem hi)
theorem srtM_uniq {S S' : List Nat} (h : AccF M S) (h' : AccF M S') : srtM M S = srtM M S' := by
  have : (fun s => decide (s ∈ S)) = fun s => decide (s ∈ S') := funext fun s => by
    have := acc_uniq h h' s
    by_cases hs : s ∈ S
    · rw [decide_eq_true hs, decide_eq_true (this.mp hs)]
    · rw [decide_eq_false hs, decide_eq_false fun h2 => hs (this.mpr h2)]
  unfold srtM muts
  rw [this]
/-- the locals -/
def eL (M : Mc) (pf : Nat) (r : Env) : Env := [some (mcV M), some (iv M.L), some (iv M.A), some (.tup (M.rows.map rowV)), some (.ref pf)] ++ r
def sLe : Ss := (.cons (.asg (.name 11) (.bin .add (.bin .add (.sl (.idx (.loc 3) (.loc 5)) .non (.loc 6)) (.tup (.cons (.loc 10) .nil))) (.sl (.idx (.loc 3) (.loc 5)) (.bin .add (.loc 6) (.int 1)) .non))) (.cons (.ex (.mth .append (.loc 4) (.cons (.tup (.cons (.loc 1) (.cons (.loc 2) (.cons (.bin .add (.bin .add (.sl (.loc 3) .non (.loc 5)) (.tup (.cons (.loc 11) .nil))) (.sl (.loc 3) (.bin .add (.loc 5) (.int 1)) .non)) .nil)))) .nil))) .nil))
structure LEn (M : Mc) (pf so gr s a : Nat) (xs0 : List Val) (x7 x8 : Option Val) (os : List Ent) (T : List Mc) (m : Store) (rest : List Ent) (ρ : Env) (m' : Store) : Prop where
  ex : ∃ (acc : List Mc) (x10 x11 x12 : Option Val), ρ = eL M pf [some (iv s), some (iv a), x7, x8, some (.ref so), x10, x11, x12] ∧ m'[pf]? = some (.lst (acc.map mcV)) ∧ m'[gr]? = some (.lst xs0) ∧ m'[so]? = some (.lst (os.map entV)) ∧ acc ++ rest.map (M.wth s a) = T ∧ acc.length + rest.length ≤ 2000 ∧ Fr [pf] m m'
theorem lm_ent {pf so gr s a : Nat} {xs0 : List Val} {x7 x8 x10 x11 x12 : Option Val} {os : List Ent} {acc : List Mc} {Y : Sys} {Q : Fl → Store → Prop} (h : M.Ok) (hs : s < M.n) (ha : a < M.L) (hg : gr ≠ pf) (hso : so ≠ pf) (g1 : m[pf]? = some (.lst (acc.map mcV))) (g2 : m[gr]? = some (.lst xs0)) (g3 : m[so]? = some (.lst (os.map entV))) (hl : acc.length + os.length ≤ 2000)
    (q : ∀ m' x10 x11 x12, m'[pf]? = some (.lst ((acc ++ os.map (M.wth s a)).map mcV)) → m'[gr]? = some (.lst xs0) → Fr [pf] m m' → Q (.nx (eL M pf [some (iv s), some (iv a), x7, x8, some (.ref so), x10, x11, x12])) m') :
    wR (loopF (.name 10) [(so, .lst (os.map entV))] (evSs Y sLe) (os.map entV) (eL M pf [some (iv s), some (iv a), x7, x8, some (.ref so), x10, x11, x12]) m) Q := by
  refine loopF_map entV (LEn M pf so gr s a xs0 x7 x8 os (acc ++ os.map (M.wth s a)) m) ?_ ?_ _ _ _ ⟨acc, x10, x11, x12, rfl, g1, g2, g3, rfl, hl, .refl⟩
  · rintro e rest ρ m1 ⟨acc1, y10, y11, y12, rfl, e1, e2, e3, e4, e5, e6⟩
    rw [List.length_cons] at e5
    refine ⟨by simp [guardOk, e3], _, rfl, ?_⟩
    show wSs _ sLe _ _ _
    have hkm : kindM .append (.ref pf) m1 = .ok () m1 := by simp [kindM, e1]
    simp only [sLe, wSs_cons, wS_asg, eL, List.cons_append, List.nil_append, List.set_cons_succ, List.set_cons_zero]
    refine wth_expr (M := M) (s := s) (a := a) (e := e) h hs ha rfl rfl rfl rfl ?_
    simp only [bindT, oP_some, kS_nx, wSs_cons, wS_ex, wE_mth, wE_loc, List.set_cons_succ, List.set_cons_zero, List.getElem?_cons_succ, List.getElem?_cons_zero, Option.join_some, hkm, wR_ok]
    rw [wEs_cons]
    refine wth_expr2 (M := M) (s := s) (a := a) (e := e) h hs rfl rfl rfl rfl rfl ?_
    have hb : mthV .append (.ref pf) [mcV (M.wth s a e)] m1 = .ok .non (m1.set pf (.lst ((acc1 ++ [M.wth s a e]).map mcV))) := by
      have hlim : acc1.length < 16777216 := by omega
      simp [mthV, e1, hlim, lim_num]
    simp only [wEs_nil, hb, wR_ok, kS_nx, wSs_nil]
    refine ⟨acc1 ++ [M.wth s a e], _, _, _, rfl, get_set e1, ?_, ?_, by rw [← e4]; simp, by simp; omega, e6.trans (.set (by simp))⟩
    · rw [List.getElem?_set_ne (Ne.symm hg)]; exact e2
    · rw [List.getElem?_set_ne (Ne.symm hso)]; exact e3
  · rintro ρ m1 ⟨acc1, y10, y11, y12, rfl, e1, e2, e3, e4, e5, e6⟩
    have : acc1 = acc ++ os.map (M.wth s a) := by rw [← e4]; simp
    rw [this] at e1
    exact ⟨by simp [guardOk, e3], q m1 _ _ _ e1 e2 e6⟩
def sLl : Ss := (.cons (.asg (.cons (.name 7) (.cons (.name 8) .nil)) (.idx (.idx (.loc 3) (.loc 5)) (.loc 6))) (.cons (.asg (.name 9) (.bin .add (.lc (.tup (.cons (.loc 12) (.cons (.loc 8) .nil))) (.cons (.name 12) (.range (.int 0) (.blt .len (.cons (.loc 3) .nil))) (.cons (.cmp .ne (.loc 12) (.loc 7)) .nil) .nil)) (.lc (.tup (.cons (.loc 7) (.cons (.loc 12) .nil))) (.cons (.name 12) (.range (.int 0) (.loc 2)) (.cons (.cmp .ne (.loc 12) (.loc 8)) .nil) .nil)))) (.cons (.for (.name 10) (.seq (.loc 9)) sLe) .nil)))
structure LLe (M : Mc) (pf gr s : Nat) (xs0 : List Val) (T : List Mc) (m : Store) (rest : List Nat) (ρ : Env) (m' : Store) : Prop where
  ex : ∃ (acc : List Mc) (x6 x7 x8 x9 x10 x11 x12 : Option Val), ρ = eL M pf [some (iv s), x6, x7, x8, x9, x10, x11, x12] ∧ (∀ a ∈ rest, a < M.L) ∧ m'[pf]? = some (.lst (acc.map mcV)) ∧ m'[gr]? = some (.lst xs0) ∧ acc ++ (rest.flatMap fun a => (others M s a).map (M.wth s a)) = T ∧ acc.length + 21 * rest.length ≤ 1900 ∧ Fr [pf] m m'
theorem lm_let {pf gr s : Nat} {xs0 : List Val} {x6 x7 x8 x9 x10 x11 x12 : Option Val} {acc : List Mc} {Y : Sys} {Q : Fl → Store → Prop} (h : M.Ok) (hs : s < M.n) (hg : gr ≠ pf) (g1 : m[pf]? = some (.lst (acc.map mcV))) (g2 : m[gr]? = some (.lst xs0)) (hl : acc.length + 21 * M.L ≤ 1900)
    (q : ∀ m' x6 x7 x8 x9 x10 x11 x12, m'[pf]? = some (.lst ((acc ++ mutsS M s).map mcV)) → m'[gr]? = some (.lst xs0) → Fr [pf] m m' → Q (.nx (eL M pf [some (iv s), x6, x7, x8, x9, x10, x11, x12])) m') :
    wR (loopF (.name 6) [] (evSs Y sLl) ((List.range M.L).map iv) (eL M pf [some (iv s), x6, x7, x8, x9, x10, x11, x12]) m) Q := by
  refine loopF_map iv (LLe M pf gr s xs0 (acc ++ mutsS M s) m) ?_ ?_ _ _ _ ⟨acc, x6, x7, x8, x9, x10, x11, x12, rfl, (fun a ha => List.mem_range.mp ha), g1, g2, rfl, by simpa using hl, .refl⟩
  · rintro a rest ρ m1 ⟨acc1, y6, y7, y8, y9, y10, y11, y12, rfl, e1, e2, e3, e4, e5, e6⟩
    have ha := e1 a List.mem_cons_self
    rw [List.length_cons] at e5
    refine ⟨rfl, _, rfl, ?_⟩
    show wSs _ sLl _ _ _
    have hn12 : M.n ≤ 12 := h.s12
    have ha9 := h.a9
    have i1 := idx_row h hs (m := m1)
    have i2 := idx_ent h hs ha (m := m1)
    have f1 := List.length_filter_le (fun x => decide (x ≠ (M.at s a).1)) (List.range M.n)
    have f2 := List.length_filter_le (fun x => decide (x ≠ (M.at s a).2)) (List.range M.A)
    rw [List.length_range] at f1 f2
    have hlen : ∀ z : Store, lenM z (.tup (M.rows.map rowV)) = some M.n := fun z => by simp [lenM]; rfl
    simp only [sLl, wSs_cons, wS_asg, eL, List.cons_append, List.nil_append, List.set_cons_succ, List.set_cons_zero, wE_idx, wE_loc, List.getElem?_cons_succ, List.getElem?_cons_zero, Option.join_some, oP_some, i1, i2, wR_ok]
    simp only [entV, bindT, oP_some, kS_nx, wSs_cons, wS_asg, List.set_cons_succ, List.set_cons_zero, wE_bin, wE_lc, wC_cons, wIt_range, wE_int, wE_blt, wEs_cons, wEs_nil, wE_loc, List.getElem?_cons_succ, List.getElem?_cons_zero, Option.join_some, bltV, hlen, wR_ok]
    simp only [small_0, small_nat (show M.n < 1000000 by omega), and_self, true_and, Int.sub_zero, Int.toNat_natCast, rangeL_0]
    refine lc_pair (fst := true) (it := 12) (id_ := 7) (ic := 8) (k := M.n) (d := (M.at s a).1) (c := (M.at s a).2) (by omega) (by simp) (by decide) (by decide) rfl rfl ?_
    refine ⟨by rw [List.length_map, lim_num]; omega, ?_⟩
    simp only [small_0, small_nat (show M.A < 1000000 by omega), and_self, true_and, Int.sub_zero, Int.toNat_natCast, rangeL_0]
    refine lc_pair (fst := false) (it := 12) (id_ := 8) (ic := 7) (k := M.A) (d := (M.at s a).2) (c := (M.at s a).1) (by omega) (by simp) (by decide) (by decide) rfl rfl ?_
    refine ⟨by rw [List.length_map, lim_num]; omega, ?_⟩
    simp only [if_true, Bool.false_eq_true, if_false, List.length_append, List.length_cons, List.length_nil, Nat.zero_add]
    rw [add_ll (by rw [List.getElem?_append_left (by simp)]; exact get_new) (by
      have e2 : m1.length + 1 = (m1 ++ [Obj.lst (((List.range M.n).filter (fun x => decide (x ≠ (M.at s a).1))).map (fun x => entV (x, (M.at s a).2)))]).length := by simp
      rw [e2]; exact get_new)]
    rw [← others_v]
    refine ⟨by rw [List.length_map, List.length_map, lim_num]; omega, ?_⟩
    generalize hz : m1 ++ [Obj.lst (((List.range M.n).filter (fun x => decide (x ≠ (M.at s a).1))).map (fun x => entV (x, (M.at s a).2)))] ++ [Obj.lst (((List.range M.A).filter (fun x => decide (x ≠ (M.at s a).2))).map (fun x => entV ((M.at s a).1, x)))] = z
    have fz : Fr [pf] m1 z := by rw [← hz]; exact .trans .app .app
    have hzl : m1.length ≤ z.length := fz.le
    have k1 : z[pf]? = some (.lst (acc1.map mcV)) := by rw [← hz, List.append_assoc, List.getElem?_append_left (lt_of_get e2)]; exact e2
    have k2 : z[gr]? = some (.lst xs0) := by rw [← hz, List.append_assoc, List.getElem?_append_left (lt_of_get e3)]; exact e3
    have hpl := lt_of_get e2
    have hol := others_len (M := M) (s := s) (a := a)
    have hsq : seqW (z ++ [Obj.lst ((others M s a).map entV)]) (.ref z.length) = some ((others M s a).map entV, [(z.length, .lst ((others M s a).map entV))]) := by simp [seqW]
    simp only [bindT, oP_some, kS_nx, wSs_cons, wS_for, wIt_seq, wE_loc, List.set_cons_succ, List.set_cons_zero, List.getElem?_cons_succ, List.getElem?_cons_zero, Option.join_some, hsq]
    refine lm_ent (M := M) (pf := pf) (so := z.length) (gr := gr) (s := s) (a := a) (xs0 := xs0) (os := others M s a) (acc := acc1) (x7 := some (iv (M.at s a).1)) (x8 := some (iv (M.at s a).2)) (x10 := y10) (x11 := y11) (x12 := y12) h hs ha hg (by omega) (by rw [List.getElem?_append_left (by omega)]; exact k1) (by rw [List.getElem?_append_left (lt_of_get k2)]; exact k2) get_new (by omega) fun m3 z10 z11 z12 g1 g2 f3 => ?_
    simp only [kS_nx, wSs_nil]
    exact ⟨acc1 ++ (others M s a).map (M.wth s a), _, _, _, _, _, _, _, rfl, fun b hb => e1 b (List.mem_cons_of_mem _ hb), g1, g2, by rw [← e4]; simp, by simp; omega, e6.trans (fz.trans (.trans .app f3))⟩
  · rintro ρ m1 ⟨acc1, y6, y7, y8, y9, y10, y11, y12, rfl, e1, e2, e3, e4, e5, e6⟩
    have : acc1 = acc ++ mutsS M s := by rw [← e4]; simp
    rw [this] at e2
    exact ⟨rfl, q m1 _ _ _ _ _ _ _ e2 e3 e6⟩
structure LOu (M : Mc) (S : List Nat) (pf gr : Nat) (xs0 : List Val) (m : Store) (rest : List Nat) (ρ : Env) (m' : Store) : Prop where
  ex : ∃ (acc : List Mc) (x5 x6 x7 x8 x9 x10 x11 x12 : Option Val), ρ = eL M pf [x5, x6, x7, x8, x9, x10, x11, x12] ∧ (∀ s ∈ rest, s < M.n) ∧ m'[pf]? = some (.lst (acc.map mcV)) ∧ m'[gr]? = some (.lst xs0) ∧ acc ++ rest.flatMap (mutsS M) = muts M S ∧ acc.length + 63 * rest.length ≤ 800 ∧ Fr [] m m'
theorem law_mutants_m {S : List Nat} {Q : Val → Store → Prop} (h : M.Ok) (hS : AccF M S) (q : ∀ m', Fr [] m m' → Q (mtV (srtM M S)) m') : ∀ vs, vs = [mcV M] → wR (evF F con (n + 2) 39 vs m) Q := by
  intro vs hvs
  have hn12 : M.n ≤ 12 := h.s12
  have hl3 := h.l3
  refine wF rfl (by rw [hvs]; rfl) ?_
  rw [hvs]
  simp only [f_law_mutants, start, List.map_cons, List.map_nil, List.length_cons, List.length_nil, wSs_cons, wS_asg, wE_loc, wE_lst, wEs_nil, wEs_cons, List.cons_append, List.nil_append, List.getElem?_cons_zero, Option.join_some, oP_some]
  simp only [mcV, bindT, oP_some, kS_nx, wSs_cons, wS_asg, wE_lst, wEs_nil, List.set_cons_succ, List.length_nil]
  refine ⟨Nat.zero_le _, ?_⟩
  simp only [bindT, oP_some, kS_nx, wSs_cons, wS_for, wIt_seq, wE_call, wEs_cons, wEs_nil, wE_loc, List.getElem?_cons_zero, Option.join_some, List.set_cons_succ]
  refine law_reached_m (n := n) h hS (fun m1 gr hg hgl f1 => ?_) _ rfl
  have hsq : seqW m1 (.ref gr) = some (((List.range M.n).filter (fun s => decide (s ∈ S))).map iv, [(gr, .lst (((List.range M.n).filter (fun s => decide (s ∈ S))).map iv))]) := by simp [seqW, hg]
  rw [hsq]
  simp only [oP_some]
  have hpf : m1[m.length]? = some (.lst []) := f1.get get_new
  have hne : gr ≠ m.length := fun e => by simp at hgl; omega
  have h2 := List.length_filter_le (fun s => decide (s ∈ S)) (List.range M.n)
  rw [List.length_range] at h2
  refine loopF_map iv (LOu M S m.length gr (((List.range M.n).filter (fun s => decide (s ∈ S))).map iv) m) ?_ ?_ _ _ _ ⟨[], none, none, none, none, none, none, none, none, rfl, (fun s hs => List.mem_range.mp (List.mem_filter.mp hs).1), hpf, hg, rfl, by simp only [List.length_nil]; omega, .trans .app f1⟩
  · rintro s rest ρ m2 ⟨acc, x5, x6, x7, x8, x9, x10, x11, x12, rfl, e1, e2, e3, e4, e5, e6⟩
    have hs := e1 s List.mem_cons_self
    rw [List.length_cons] at e5
    refine ⟨by simp [guardOk, e3], _, rfl, ?_⟩
    show wSs _ _ _ _ _
    simp only [wSs_cons, wS_for, wIt_range, wE_int, wE_loc, eL, List.cons_append, List.nil_append, List.set_cons_succ, List.set_cons_zero, List.getElem?_cons_succ, List.getElem?_cons_zero, Option.join_some, oP_some, small_0, small_nat (show M.L < 1000000 by omega), and_self, true_and, Int.sub_zero, Int.toNat_natCast, rangeL_0]
    refine lm_let (M := M) (pf := m.length) (gr := gr) (s := s) (xs0 := ((List.range M.n).filter (fun s => decide (s ∈ S))).map iv) (acc := acc) h hs hne e2 e3 (by omega) fun m3 y6 y7 y8 y9 y10 y11 y12 g1 g2 f3 => ?_
    simp only [kS_nx, wSs_nil]
    have hacc := mutsS_len (M := M) (s := s) h (List.range M.L)
    rw [List.length_range] at hacc
    refine ⟨acc ++ mutsS M s, _, _, _, _, _, _, _, _, rfl, fun t ht => e1 t (List.mem_cons_of_mem _ ht), g1, g2, by rw [← e4]; simp, ?_, ?_⟩
    · have : (mutsS M s).length ≤ 21 * M.L := hacc
      rw [List.length_append]; omega
    · refine ⟨Nat.le_trans e6.le f3.le, fun i hi _ => ?_⟩
      have hi2 := e6.le
      rw [f3.same i (by omega) (by simp; omega)]
      exact e6.same i hi (fun h => nomatch h)
  · rintro ρ m2 ⟨acc, x5, x6, x7, x8, x9, x10, x11, x12, rfl, e1, e2, e3, e4, e5, e6⟩
    refine ⟨by simp [guardOk, e3], ?_⟩
    have ha : acc = muts M S := by rw [← e4]; simp
    subst ha
    have hlen := muts_len (S := S) h
    simp only [kS_nx, wSs_cons, wS_ret, wE_blt, wEs_cons, wEs_nil, wE_loc, eL, List.cons_append, List.nil_append, List.getElem?_cons_succ, List.getElem?_cons_zero, Option.join_some, oP_some, sorted_mcs e2, wR_newLst]
    have hl2 : (srtM M S).length = (muts M S).length := List.length_mergeSort _
    refine ⟨by rw [List.length_map, List.length_mergeSort, lim_num]; omega, ?_⟩
    have hb : bltV .tuple [.ref m2.length] (m2 ++ [.lst ((srtM M S).map mcV)]) = newTup ((srtM M S).map mcV) (m2 ++ [.lst ((srtM M S).map mcV)]) := by simp only [bltV, itemsM, get_new]
    show wR (bltV .tuple [.ref m2.length] (m2 ++ [.lst ((srtM M S).map mcV)])) _
    rw [hb, wR_newTup]
    refine ⟨by rw [List.length_map, lim_num]; omega, ?_⟩
    simp only [kS_rt, kF_rt]
    exact q _ (e6.trans .app)
end K83
end

section
set_option maxRecDepth 100000
/-! Wm: killed, score, passes, _law_same. -/
namespace K83
open Ev
variable {n : Nat} {m : Store} {M M' : Mc}
theorem srtM_ok (h : M.Ok) {S : List Nat} : ∀ N ∈ srtM M S, N.Ok ∧ Shp M N := fun N hN => muts_ok h N (mem_srtM.mp hN)
theorem srtM_len (h : M.Ok) {S : List Nat} : (srtM M S).length ≤ 1000 := by
  have h1 : (srtM M S).length = (muts M S).length := List.length_mergeSort _
  have := muts_len (S := S) h
  omega
theorem flat_filter {α β : Type} {p : α → Bool} {f : α → β} : ∀ l : List α, (l.flatMap fun x => if p x = true then [f x] else []) = (l.filter p).map f
  | [] => rfl
  | x :: l => by
    rw [List.flatMap_cons, flat_filter l]
    by_cases h : p x = true <;> simp [h]
def killM (M : Mc) (S : List Nat) (ws : List (List Nat)) : List Mc := (srtM M S).filter fun N => !M.pass N ws
def unlM (M : Mc) (S : List Nat) : List Mc := (srtM M S).filter fun N => !alikeB M N
theorem killed_of_m {S0 : List Nat} {ws : List (List Nat)} {Q : Val → Store → Prop} (h : M.Ok) (hS : AccF M S0) (hs : SuOk M.L ws) (q : ∀ m', Fr [] m m' → Q (mtV (killM M S0 ws)) m') : ∀ vs, vs = [mcV M, suV ws] → wR (evF F con (n + 4) 24 vs m) Q := by
  intro vs hvs
  refine wF rfl (by rw [hvs]; rfl) ?_
  rw [hvs]
  simp only [f_killed_of, start, List.map_cons, List.map_nil, List.length_cons, List.length_nil, wSs_cons, wS_ret, wE_blt, wEs_cons, wEs_nil, wE_lc, wC_cons, wIt_seq, wE_call, wE_loc, List.cons_append, List.nil_append, List.getElem?_cons_zero, List.getElem?_cons_succ, Option.join_some, oP_some]
  refine mutants_of_m (n := n + 1) h (fun S m1 hS1 f1 => ?_) _ rfl
  rw [srtM_uniq hS1 hS]
  have hsq : seqW m1 (mtV (srtM M S0)) = some ((srtM M S0).map mcV, []) := rfl
  rw [hsq]
  simp only [oP_some]
  refine (loopC_map mcV (fun m' => Fr [] m1 m') (fun N => if (!M.pass N ws) = true then [mcV N] else []) (fun _ _ => rfl) (fun N hN m' hm => ?_) .refl).mono ?_
  · refine ⟨_, rfl, ?_⟩
    rw [bC_1]
    obtain ⟨hO, hSh⟩ := srtM_ok h N hN
    have e : List.set (wipeE (some (mcV M) :: some (suV ws) :: List.replicate (3 - (0 + 1 + 1)) none) (slT (T.name 2) ++ slG Gs.nil)) 2 (some (mcV N)) = [some (mcV M), some (suV ws), some (mcV N)] := rfl
    rw [e]
    simp only [wT, wE_nt, wE_call, wEs_cons, wEs_nil, wE_loc, List.getElem?_cons_succ, List.getElem?_cons_zero, Option.join_some, oP_some]
    refine passes_by_m (n := n) h hO hSh.l hs fun m2 f2 => ?_
    simp only [asP_bl, oP_some]
    cases hp : M.pass N ws
    · exact ⟨rfl, hm.trans f2⟩
    · exact ⟨rfl, hm.trans f2⟩
  · rintro vs m' ⟨rfl, f2⟩
    rw [flat_filter]
    have hl := srtM_len h (S := S0)
    have hf := List.length_filter_le (fun N => !M.pass N ws) (srtM M S0)
    refine ⟨by rw [List.length_map, lim_num]; omega, ?_⟩
    have hb : bltV .tuple [.ref m'.length] (m' ++ [.lst ((killM M S0 ws).map mcV)]) = newTup ((killM M S0 ws).map mcV) (m' ++ [.lst ((killM M S0 ws).map mcV)]) := by simp only [bltV, itemsM, get_new]
    show wR (bltV .tuple [.ref m'.length] (m' ++ [.lst ((killM M S0 ws).map mcV)])) _
    rw [hb, wR_newTup]
    refine ⟨by unfold killM; rw [List.length_map, lim_num]; omega, ?_⟩
    simp only [kS_rt, kF_rt]
    exact q _ (f1.trans (f2.trans .app))
def scV (M : Mc) (S : List Nat) (ws : List (List Nat)) : Val := .tup [iv (killM M S ws).length, iv (unlM M S).length]
theorem score_of_m {S0 : List Nat} {ws : List (List Nat)} {Q : Val → Store → Prop} (h : M.Ok) (hS : AccF M S0) (hs : SuOk M.L ws) (q : ∀ m', Fr [] m m' → Q (scV M S0 ws) m') : ∀ vs, vs = [mcV M, suV ws] → wR (evF F con (n + 5) 25 vs m) Q := by
  intro vs hvs
  refine wF rfl (by rw [hvs]; rfl) ?_
  rw [hvs]
  simp only [f_score_of, start, List.map_cons, List.map_nil, List.length_cons, List.length_nil, wSs_cons, wS_asg, wE_lc, wC_cons, wIt_seq, wE_call, wEs_cons, wEs_nil, wE_loc, List.cons_append, List.nil_append, List.getElem?_cons_zero, List.getElem?_cons_succ, Option.join_some, oP_some]
  refine mutants_of_m (n := n + 2) h (fun S m1 hS1 f1 => ?_) _ rfl
  rw [srtM_uniq hS1 hS]
  have hsq : seqW m1 (mtV (srtM M S0)) = some ((srtM M S0).map mcV, []) := rfl
  rw [hsq]
  simp only [oP_some]
  refine (loopC_map mcV (fun m' => Fr [] m1 m') (fun N => if (!alikeB M N) = true then [mcV N] else []) (fun _ _ => rfl) (fun N hN m' hm => ?_) .refl).mono ?_
  · refine ⟨_, rfl, ?_⟩
    rw [bC_1]
    obtain ⟨hO, hSh⟩ := srtM_ok h N hN
    simp only [wT, wE_nt, wE_call, wEs_cons, wEs_nil, wE_loc, wipeE, slT, slG, List.append_nil, List.set_cons_succ, List.set_cons_zero, List.getElem?_cons_succ, List.getElem?_cons_zero, Option.join_some, oP_some]
    refine are_alike_m (n := n + 2) h hO hSh.l (fun m2 f2 => ?_) _ rfl
    simp only [asP_bl, oP_some]
    cases hp : alikeB M N
    · exact ⟨rfl, hm.trans f2⟩
    · exact ⟨rfl, hm.trans f2⟩
  · rintro vs m' ⟨rfl, f2⟩
    rw [flat_filter]
    have hl := srtM_len h (S := S0)
    have hf := List.length_filter_le (fun N => !alikeB M N) (srtM M S0)
    refine ⟨by rw [List.length_map, lim_num]; omega, ?_⟩
    simp only [bindT, oP_some, kS_nx, wSs_cons, wS_ret, wE_tup, wEs_cons, wEs_nil, wE_blt, wE_call, wE_loc, List.set_cons_succ, List.set_cons_zero, List.getElem?_cons_succ, List.getElem?_cons_zero, Option.join_some]
    refine killed_of_m (n := n) h hS hs (fun m3 f3 => ?_) _ rfl
    have k1 : m3[m'.length]? = some (.lst (((srtM M S0).filter (fun N => !alikeB M N)).map mcV)) := f3.get get_new
    have b1 : bltV .len [mtV (killM M S0 ws)] m3 = .ok (iv (killM M S0 ws).length) m3 := by simp [bltV, mtV, lenM]
    have b2 : bltV .len [.ref m'.length] m3 = .ok (iv (unlM M S0).length) m3 := by
      simp only [bltV, lenM, k1, List.length_map]
      rfl
    show wR (bltV .len [mtV (killM M S0 ws)] m3) _
    rw [b1, wR_ok]
    simp only [List.replicate, Nat.reduceSub, Nat.reduceAdd, List.set_cons_zero, List.getElem?_cons_zero, Option.join_some, oP_some, b2, wR_ok]
    refine ⟨by rw [lim_num]; simp, ?_⟩
    simp only [kS_rt, kF_rt]
    exact q _ (f1.trans (f2.trans (.trans .app f3)))
theorem killed_m {S0 : List Nat} {ws : List (List Nat)} {Q : Val → Store → Prop} (h : M.Ok) (hS : AccF M S0) (hs : SuOk M.L ws) (q : ∀ m', Fr [] m m' → Q (mtV (killM M S0 ws)) m') : ∀ vs, vs = [mcV M, suV ws] → wR (evF F con (n + 8) 26 vs m) Q := by
  intro vs hvs
  refine wF rfl (by rw [hvs]; rfl) ?_
  rw [hvs]
  simp only [f_killed, start, List.map_cons, List.map_nil, List.length_cons, List.length_nil, wSs_cons, wS_ex, wS_ret, wE_call, wEs_cons, wEs_nil, wE_loc, wE_idx, wE_int, List.cons_append, List.nil_append, List.getElem?_cons_zero, List.getElem?_cons_succ, Option.join_some, oP_some, need_machine_m h, wR_ok, kS_nx, idx_m0, need_suite_w hs]
  exact killed_of_m (n := n + 3) h hS hs (fun m' f => by simp only [kS_rt, kF_rt]; exact q m' f) _ rfl
theorem score_m {S0 : List Nat} {ws : List (List Nat)} {Q : Val → Store → Prop} (h : M.Ok) (hS : AccF M S0) (hs : SuOk M.L ws) (q : ∀ m', Fr [] m m' → Q (scV M S0 ws) m') : ∀ vs, vs = [mcV M, suV ws] → wR (evF F con (n + 8) 27 vs m) Q := by
  intro vs hvs
  refine wF rfl (by rw [hvs]; rfl) ?_
  rw [hvs]
  simp only [f_score, start, List.map_cons, List.map_nil, List.length_cons, List.length_nil, wSs_cons, wS_ex, wS_ret, wE_call, wEs_cons, wEs_nil, wE_loc, wE_idx, wE_int, List.cons_append, List.nil_append, List.getElem?_cons_zero, List.getElem?_cons_succ, Option.join_some, oP_some, need_machine_m h, wR_ok, kS_nx, idx_m0, need_suite_w hs]
  exact score_of_m (n := n + 2) h hS hs (fun m' f => by simp only [kS_rt, kF_rt]; exact q m' f) _ rfl
theorem passes_m {ws : List (List Nat)} {Q : Val → Store → Prop} (h : M.Ok) (h' : M'.Ok) (hSh : Shp M M') (hs : SuOk M.L ws) (q : ∀ m', Fr [] m m' → Q (.bl (M.pass M' ws)) m') : ∀ vs, vs = [mcV M, suV ws, mcV M'] → wR (evF F con (n + 8) 28 vs m) Q := by
  intro vs hvs
  refine wF rfl (by rw [hvs]; rfl) ?_
  rw [hvs]
  simp only [f_passes, start, List.map_cons, List.map_nil, List.length_cons, List.length_nil, wSs_cons, wS_ex, wS_ret, wE_call, wEs_cons, wEs_nil, wE_loc, wE_idx, wE_int, List.cons_append, List.nil_append, List.getElem?_cons_zero, List.getElem?_cons_succ, Option.join_some, oP_some, need_machine_m h, need_machine_m h', wR_ok, kS_nx, idx_m0, need_suite_w hs, need_fit_m hSh.l hSh.a]
  exact passes_by_m (n := n + 4) h h' hSh.l hs fun m' f => by simp only [kS_rt, kF_rt]; exact q m' f
theorem eqM_flat {v : Val} (h1 : v.flat = true) (h2 : v.sok = true) (h3 : v.dep ≤ 60) : eqM m v v = some (Val.eqv v v) := by
  unfold eqM
  rw [h1, h2]
  simp [h3]
theorem zipL_self : ∀ xs : List Val, zipL xs xs = xs.map fun x => Val.tup [x, x]
  | [] => rfl
  | x :: xs => by rw [zipL, zipL_self xs]; rfl
theorem flats_mem : ∀ {xs : List Val} {x : Val}, Val.flats xs = true → x ∈ xs → x.flat = true
  | y :: xs, x, h, hx => by
    simp only [Val.flats, Bool.and_eq_true] at h
    rcases List.mem_cons.mp hx with rfl | hx
    · exact h.1
    · exact flats_mem h.2 hx
theorem soks_mem : ∀ {xs : List Val} {x : Val}, Val.soks xs = true → x ∈ xs → x.sok = true
  | y :: xs, x, h, hx => by
    simp only [Val.soks, Bool.and_eq_true] at h
    rcases List.mem_cons.mp hx with rfl | hx
    · exact h.1
    · exact soks_mem h.2 hx
theorem deps_mem : ∀ {xs : List Val} {x : Val}, x ∈ xs → x.dep ≤ Val.deps xs
  | y :: xs, x, hx => by
    simp only [Val.deps]
    rcases List.mem_cons.mp hx with rfl | hx
    · omega
    · have := deps_mem hx; omega
theorem law_same_v : ∀ (d : Nat) (v : Val) (m : Store), v.flat = true → v.sok = true → v.dep ≤ d → d ≤ 50 → evF F con (n + d + 1) 32 [v, v] m = .ok (.bl true) m := by
  intro d
  induction d with
  | zero =>
    intro v m h1 h2 h3 h4
    refine eq_of_wR (wF rfl rfl ?_)
    cases v with
    | non => simp [f_law_same, start, wT]
    | bl b => simp [f_law_same, start, wT, isV, cmpV, eqM, Val.flat, Val.sok, Val.dep, Val.eqv]
    | int i => simp [f_law_same, start, wT, isV, cmpV, eqM, Val.flat, Val.sok, Val.dep, Val.eqv]
    | str s =>
      have e := eqM_flat (m := m) h1 h2 (by omega)
      simp [f_law_same, start, wT, isV, cmpV, e, Val.eqv]
    | tup xs => simp [Val.dep] at h3
    | ref a => simp [Val.flat] at h1
    | fn f => simp [Val.flat] at h1
    | scr ns => simp [Val.flat] at h1
  | succ d ih =>
    intro v m h1 h2 h3 h4
    refine eq_of_wR (wF rfl rfl ?_)
    cases v with
    | non => simp [f_law_same, start, wT]
    | bl b => simp [f_law_same, start, wT, isV, cmpV, eqM, Val.flat, Val.sok, Val.dep, Val.eqv]
    | int i => simp [f_law_same, start, wT, isV, cmpV, eqM, Val.flat, Val.sok, Val.dep, Val.eqv]
    | str s =>
      have e := eqM_flat (m := m) h1 h2 (by omega)
      simp [f_law_same, start, wT, isV, cmpV, e, Val.eqv]
    | tup xs =>
      simp only [Val.flat] at h1
      simp only [Val.sok] at h2
      simp only [Val.dep] at h3
      simp [f_law_same, start, wT, isV, cmpV, bltV, lenM, eqM_int, seqW, isTup, zipL_self]
      refine loopF_map (fun x => Val.tup [x, x]) (fun rest ρ m' => m' = m ∧ (∀ x ∈ rest, x ∈ xs) ∧ ∃ x2 x3, ρ = [some (.tup xs), some (.tup xs), x2, x3]) ?_ ?_ _ _ _ ⟨rfl, fun _ h => h, none, none, rfl⟩
      · rintro x rest ρ m' ⟨rfl, hr, x2, x3, rfl⟩
        have hx := hr x List.mem_cons_self
        refine ⟨rfl, _, rfl, ?_⟩
        show wSs _ _ _ _ _
        have := ih x m' (flats_mem h1 hx) (soks_mem h2 hx) (by have := deps_mem hx; omega) (by omega)
        have e : n + (d + 1) = n + d + 1 := by omega
        rw [e]
        simp [wT, this]
        exact fun y hy => hr y (List.mem_cons_of_mem _ hy)
      · rintro ρ m' ⟨rfl, hr, x2, x3, rfl⟩
        exact ⟨rfl, by simp⟩
    | ref a => simp [Val.flat] at h1
    | fn f => simp [Val.flat] at h1
    | scr ns => simp [Val.flat] at h1
end K83
end

section
set_option maxRecDepth 100000
/-! Wn: the law. -/
namespace K83
open Ev
variable {n : Nat} {m : Store} {M M' : Mc}
theorem add1l {r : Nat} {Q : Val → Store → Prop} : wR (binV .add (.int 1) (iv r) m) Q = Q (iv (1 + r)) m := by
  show wR ((pure (.int (1 + (r : Int))) : M Val) m) Q = _
  rw [wR_pure]
  have : (1 + (r : Int)) = ((1 + r : Nat) : Int) := by push_cast; rfl
  rw [this]
theorem add2l {r : Nat} {Q : Val → Store → Prop} : wR (binV .add (.int 2) (iv r) m) Q = Q (iv (2 + r)) m := by
  show wR ((pure (.int (2 + (r : Int))) : M Val) m) Q = _
  rw [wR_pure]
  have : (2 + (r : Int)) = ((2 + r : Nat) : Int) := by push_cast; rfl
  rw [this]
/-! ### the suite -/
theorem leV_wd (a b : List Nat) : leV (wdV a) (wdV b) = decide (a ≤ b) := by
  unfold leV
  have : ltB (wdV b) (wdV a) = decide (b < a) := by
    unfold wdV
    simp only [ltB]
    exact ltBs_iv b a
  rw [this]
  by_cases h : b < a
  · have h' : ¬ a ≤ b := fun r => List.not_lt.mpr r h
    simp [h, h']
  · have h' : a ≤ b := List.not_lt.mp h
    simp [h, h']
def srtW (ws : List (List Nat)) : List (List Nat) := (dd [] ws).mergeSort (fun a b => decide (a ≤ b))
theorem srtW_up {ws : List (List Nat)} : (srtW ws).Pairwise (· < ·) := by
  have h1 : (srtW ws).Pairwise (fun a b => a ≤ b) := (List.pairwise_mergeSort (le := fun a b : List Nat => decide (a ≤ b)) (fun a b c h1 h2 => by
    simp only [decide_eq_true_eq] at h1 h2 ⊢
    exact List.le_trans h1 h2) (fun a b => by
    simp only [Bool.or_eq_true, decide_eq_true_eq]
    exact List.le_total _ _) (dd [] ws)).imp fun h => of_decide_eq_true h
  have h2 : (srtW ws).Nodup := (List.mergeSort_perm _ _).nodup_iff.mpr (nodup_dd List.nodup_nil)
  have h3 := List.nodup_iff_pairwise_ne.mp h2
  refine (h1.and h3).imp fun {a b} h => ?_
  rcases List.le_total b a with h4 | h4
  · exact absurd (List.le_antisymm h.1 h4) h.2
  · by_cases h5 : a < b
    · exact h5
    · exact absurd (List.le_antisymm h4 (List.not_lt.mp h5)) h.2
theorem mem_srtW {ws : List (List Nat)} {w : List Nat} : w ∈ srtW ws ↔ w ∈ ws := by
  unfold srtW
  rw [(List.mergeSort_perm _ _).mem_iff, mem_dd]
  simp
theorem len_srtW {ws : List (List Nat)} : (srtW ws).length ≤ ws.length := by
  unfold srtW
  rw [List.length_mergeSort]
  have := len_dd (l := ws) (acc := ([] : List (List Nat)))
  simpa using this
theorem wdV_inj (a b : List Nat) (h : wdV a = wdV b) : a = b := by
  unfold wdV at h
  injection h with h
  induction a generalizing b with
  | nil => cases b <;> simp at h ⊢
  | cons x a ih =>
    cases b with
    | nil => simp at h
    | cons y b =>
      simp only [List.map_cons, List.cons.injEq] at h
      rw [iv_inj h.1, ih b h.2]
theorem set_words {a : Nat} {ws : List (List Nat)} (h : m[a]? = some (.lst (ws.map wdV))) (hl : ws.length < 60) : bltV .set [.ref a] m = alloc (.set ((dd [] ws).map wdV)) m := by
  have h1 : setOk false (ws.map wdV) = true := by
    unfold setOk
    have h2 : (ws.map wdV).all isIT = true := List.all_eq_true.mpr fun v hv => by
      obtain ⟨w, _, rfl⟩ := List.mem_map.mp hv
      unfold wdV isIT
      exact List.all_eq_true.mpr fun u hu => by
        obtain ⟨x, _, rfl⟩ := List.mem_map.mp hu
        rfl
    have h3 : decide ((ws.map wdV).length < 64) = true := decide_eq_true (by rw [List.length_map]; omega)
    rw [h2, h3]
    simp
  have h4 := setOf_map (f := wdV) wdV_inj ws []
  rw [← h4]
  simp [bltV, itemsM, h, isTup, h1]
theorem sort_words {a : Nat} {ws : List (List Nat)} (h : m[a]? = some (.set ((dd [] ws).map wdV))) : bltV .sorted [.ref a] m = newLst ((srtW ws).map wdV) m := by
  have hs : sortedM m a = some ((srtW ws).map wdV) := by
    unfold sortedM srtW
    rw [h]
    simp only [sortedL]
    generalize dd [] ws = l
    cases l with
    | nil => simp [sortOkS, sortV]
    | cons x l =>
      have h1 : sortOkS ((x :: l).map wdV) = false := by simp [sortOkS, wdV, isInt]
      have h2 : sortOkT ((x :: l).map wdV) = true := by
        unfold sortOkT
        rw [Bool.and_eq_true]
        refine ⟨List.all_eq_true.mpr fun v hv => ?_, List.all_eq_true.mpr fun v hv => List.all_eq_true.mpr fun u hu => ?_⟩
        · obtain ⟨w, _, rfl⟩ := List.mem_map.mp hv
          rw [datOk_wd]; rfl
        · obtain ⟨w, _, rfl⟩ := List.mem_map.mp hv
          obtain ⟨w', _, rfl⟩ := List.mem_map.mp hu
          unfold wdV
          simp only [alk]
          exact alks_iv w w'
      rw [h1, h2]
      simp only [Bool.false_eq_true, if_false, if_true]
      have := List.map_mergeSort (f := wdV) (r := fun a b : List Nat => decide (a ≤ b)) (s := leV) (l := x :: l) (fun a _ b _ => (leV_wd a b).symm)
      rw [this]
  simp only [bltV, hs]
def eSu : E := (.blt .tuple (.cons (.blt .sorted (.cons (.blt .set (.cons (.lc (.call 34 (.cons (.loc 1) (.cons (.idx (.loc 3) (.int 0)) (.cons (.int 5) .nil)))) (.cons (.name 9) (.range (.int 0) (.call 30 (.cons (.loc 1) (.cons (.int 10) .nil)))) .nil .nil)) .nil)) .nil)) .nil))
theorem suite_w {p k : Nat} {x0 x2 x4 x5 x6 x7 x8 x9 : Option Val} {Q : Val → Store → Prop} (h : M.Ok) (hs : Spr p k m) (hk : k < 1000)
    (q : ∀ ws m', SuOk M.L ws → Fr [p] m m' → Spr p (k + 60) m' → Q (suV ws) m') : wE ⟨evF F con (n + 2), con⟩ eSu [x0, some (.ref p), x2, some (mcV M), x4, x5, x6, x7, x8, x9] m Q := by
  simp only [eSu, wE_blt, wEs_cons, wEs_nil, wE_lc, wC_cons, wIt_range, wE_int, wE_call, wE_loc, List.getElem?_cons_succ, List.getElem?_cons_zero, Option.join_some, oP_some]
  refine law_few_m (n := n + 1) (many := 10) hs (by omega) (by omega) (by omega) fun r m1 hr f1 _ s1 => ?_
  simp only [small_0, small_nat (show r < 1000000 by omega), and_self, true_and, Int.sub_zero, Int.toNat_natCast, rangeL_0]
  have key : wR (loopC (.name 9) [] (wipeE [x0, some (.ref p), x2, some (mcV M), x4, x5, x6, x7, x8, x9] (slT (.name 9) ++ slG .nil)) (bodyC ⟨evF F con (n + 2), con⟩ (evE ⟨evF F con (n + 2), con⟩ (.call 34 (.cons (.loc 1) (.cons (.idx (.loc 3) (.int 0)) (.cons (.int 5) .nil))))) .nil .nil) ((List.range r).map iv) m1)
      (fun vs m' => ∃ ws : List (List Nat), vs = ws.map wdV ∧ ws.length = r ∧ (∀ w ∈ ws, w.length ≤ 5 ∧ ∀ a ∈ w, a < M.L) ∧ Fr [p] m1 m' ∧ Spr p (k + 1 + 6 * r) m') := by
    refine (loopC_inv (fun rest acc m' => ∃ (ws : List (List Nat)) (ls : List Nat), rest = ls.map iv ∧ acc = ws.map wdV ∧ ws.length + ls.length = r ∧ (∀ w ∈ ws, w.length ≤ 5 ∧ ∀ a ∈ w, a < M.L) ∧ Fr [p] m1 m' ∧ Spr p (k + 1 + 6 * ws.length) m') ?_ ?_ _ [] _ ⟨[], List.range r, rfl, rfl, by simp, (fun _ h => nomatch h), .refl, s1⟩).mono ?_
    · rintro x xs acc m' ⟨ws, ls, e1, rfl, e3, e4, e5, e6⟩
      cases ls with
      | nil => cases e1
      | cons a ls =>
        obtain ⟨rfl, rfl⟩ := List.cons.inj e1
        have e3' : ws.length + (ls.length + 1) = r := e3
        refine ⟨rfl, _, rfl, ?_⟩
        rw [bC_0]
        simp only [wE_call, wEs_cons, wEs_nil, wE_loc, wE_idx, wE_int, wipeE, slT, slG, List.append_nil, List.set_cons_succ, List.set_cons_zero, List.getElem?_cons_succ, List.getElem?_cons_zero, Option.join_some, oP_some, idx_m0, wR_ok]
        refine law_word_m (n := n) (L := M.L) (most := 5) e6 (by omega) h.l1 h.l3 (by omega) fun w m2 hw hL f2 s2 => ?_
        refine ⟨ws ++ [w], ls, rfl, by simp, by simp; omega, ?_, e5.trans f2, s2.le (by simp; omega)⟩
        intro u hu
        rcases List.mem_append.mp hu with hu | hu
        · exact e4 u hu
        · rw [List.mem_singleton.mp hu]; exact ⟨hw, hL⟩
    · exact fun _ _ _ => rfl
    · rintro vs m' ⟨ws, ls, e1, e2, e3, e4, e5, e6⟩
      have : ls = [] := by cases ls <;> simp at e1 ⊢
      subst this
      simp at e2 e3
      exact ⟨ws, e2, e3, e4, e5, e6.le (by omega)⟩
  refine key.mono ?_
  rintro vs m2 ⟨ws, rfl, hw, hL, f2, s2⟩
  refine ⟨by rw [List.length_map, lim_num]; omega, ?_⟩
  rw [set_words get_new (by omega), wR_alloc, sort_words get_new, wR_newLst]
  have hl := len_srtW (ws := ws)
  refine ⟨by rw [List.length_map, lim_num]; omega, ?_⟩
  generalize hz : m2 ++ [Obj.lst (ws.map wdV)] ++ [Obj.set ((dd [] ws).map wdV)] = z
  have hb : bltV .tuple [.ref z.length] (z ++ [.lst ((srtW ws).map wdV)]) = newTup ((srtW ws).map wdV) (z ++ [.lst ((srtW ws).map wdV)]) := by simp only [bltV, itemsM, get_new]
  rw [hb, wR_newTup]
  refine ⟨by rw [List.length_map, lim_num]; omega, ?_⟩
  have fz : Fr [p] m2 (z ++ [.lst ((srtW ws).map wdV)]) := by rw [← hz]; exact .trans .app (.trans .app .app)
  have fz0 : Fr [] m2 (z ++ [.lst ((srtW ws).map wdV)]) := by rw [← hz]; exact .trans .app (.trans .app .app)
  refine q (srtW ws) _ ⟨by omega, fun w h => by have := (hL w (mem_srtW.mp h)).1; omega, fun w h => (hL w (mem_srtW.mp h)).2, srtW_up⟩ (f1.trans (f2.trans fz)) ((s2.fr fz0 (fun h => nomatch h)).le (by omega))
end K83
end

section
set_option maxRecDepth 100000
/-! Wo: the law, one turn. -/
namespace K83
open Ev
variable {m : Store} {M M' : Mc}
abbrev Y19 : Sys := ⟨evF F con 19, con⟩
def eDue : E := (.blt .tuple (.cons (.lc (.loc 6) (.cons (.name 6) (.seq (.loc 5)) (.cons (.nt (.call 37 (.cons (.loc 3) (.cons (.loc 4) (.cons (.loc 6) .nil))))) .nil) .nil)) .nil))
def eUnl : E := (.blt .len (.cons (.lc (.int 1) (.cons (.name 6) (.seq (.loc 5)) (.cons (.notN (.call 36 (.cons (.loc 3) (.cons (.int 0) (.cons (.loc 6) (.cons (.int 0) .nil)))))) .nil) .nil)) .nil))
theorem due_w {S : List Nat} {ws : List (List Nat)} {x0 x1 x2 x6 x7 x8 x9 : Option Val} {Q : Val → Store → Prop} (h : M.Ok) (hs : SuOk M.L ws) (q : ∀ m', Fr [] m m' → Q (mtV (killM M S ws)) m') : wE Y19 eDue [x0, x1, x2, some (mcV M), some (suV ws), some (mtV (srtM M S)), x6, x7, x8, x9] m Q := by
  have hsq : seqW m (mtV (srtM M S)) = some ((srtM M S).map mcV, []) := rfl
  simp only [eDue, wE_blt, wEs_cons, wEs_nil, wE_lc, wC_cons, wIt_seq, wE_loc, List.getElem?_cons_succ, List.getElem?_cons_zero, Option.join_some, oP_some, hsq]
  refine (loopC_map mcV (fun m' => Fr [] m m') (fun N => if (!M.pass N ws) = true then [mcV N] else []) (fun _ _ => rfl) (fun N hN m' hm => ?_) .refl).mono ?_
  · refine ⟨_, rfl, ?_⟩
    rw [bC_1]
    obtain ⟨hO, hSh⟩ := srtM_ok h N hN
    simp only [wT, wE_nt, wE_call, wEs_cons, wEs_nil, wE_loc, wipeE, slT, slG, List.append_nil, List.set_cons_succ, List.set_cons_zero, List.getElem?_cons_succ, List.getElem?_cons_zero, Option.join_some, oP_some]
    refine law_passes_m (n := 17) h hO hSh.l hs fun m2 f2 => ?_
    simp only [asP_bl, oP_some]
    cases hp : M.pass N ws
    · exact ⟨rfl, hm.trans f2⟩
    · exact ⟨rfl, hm.trans f2⟩
  · rintro vs m' ⟨rfl, f2⟩
    rw [flat_filter]
    have hl := srtM_len h (S := S)
    have hf := List.length_filter_le (fun N => !M.pass N ws) (srtM M S)
    refine ⟨by rw [List.length_map, lim_num]; omega, ?_⟩
    have hb : bltV .tuple [.ref m'.length] (m' ++ [.lst ((killM M S ws).map mcV)]) = newTup ((killM M S ws).map mcV) (m' ++ [.lst ((killM M S ws).map mcV)]) := by simp only [bltV, itemsM, get_new]
    show wR (bltV .tuple [.ref m'.length] (m' ++ [.lst ((killM M S ws).map mcV)])) _
    rw [hb, wR_newTup]
    exact ⟨by unfold killM; rw [List.length_map, lim_num]; omega, q _ (f2.trans .app)⟩
theorem flat_one {α : Type} {p : α → Bool} {v : Val} : ∀ l : List α, (l.flatMap fun x => if p x = true then [v] else []).length = (l.filter p).length
  | [] => rfl
  | x :: l => by
    rw [List.flatMap_cons, List.length_append, flat_one l]
    by_cases h : p x = true
    · simp [h]; omega
    · simp [h]
theorem unl_w {S : List Nat} {x0 x1 x2 x4 x6 x7 x8 x9 : Option Val} {Q : Val → Store → Prop} (h : M.Ok) (q : ∀ m', Fr [] m m' → Q (iv (unlM M S).length) m') : wE Y19 eUnl [x0, x1, x2, some (mcV M), x4, some (mtV (srtM M S)), x6, x7, x8, x9] m Q := by
  have hsq : seqW m (mtV (srtM M S)) = some ((srtM M S).map mcV, []) := rfl
  simp only [eUnl, wE_blt, wEs_cons, wEs_nil, wE_lc, wC_cons, wIt_seq, wE_loc, List.getElem?_cons_succ, List.getElem?_cons_zero, Option.join_some, oP_some, hsq]
  refine (loopC_map mcV (fun m' => Fr [] m m') (fun N => if (!alikeB M N) = true then [.int 1] else []) (fun _ _ => rfl) (fun N hN m' hm => ?_) .refl).mono ?_
  · refine ⟨_, rfl, ?_⟩
    rw [bC_1]
    obtain ⟨hO, hSh⟩ := srtM_ok h N hN
    simp only [wT, wE_notN, wE_call, wEs_cons, wEs_nil, wE_loc, wE_int, wipeE, slT, slG, List.append_nil, List.set_cons_succ, List.set_cons_zero, List.getElem?_cons_succ, List.getElem?_cons_zero, Option.join_some, oP_some]
    refine law_parting_m (n := 18) h hO hSh.l (fun m2 f2 => ?_) _ rfl
    simp only [asP_bl, opV_non]
    show if (!alikeB M N) = true then _ else _
    cases hp : alikeB M N
    · exact ⟨rfl, hm.trans f2⟩
    · exact ⟨rfl, hm.trans f2⟩
  · rintro vs m' ⟨rfl, f2⟩
    have e := flat_one (p := fun N => !alikeB M N) (v := .int 1) (srtM M S)
    have hl := srtM_len h (S := S)
    have hf := List.length_filter_le (fun N => !alikeB M N) (srtM M S)
    refine ⟨by rw [e, lim_num]; omega, ?_⟩
    have b2 : ∀ l : List Val, bltV .len [.ref m'.length] (m' ++ [.lst l]) = .ok (iv l.length) (m' ++ [.lst l]) := fun l => by simp only [bltV, lenM, get_new]
    rw [b2, wR_ok, e]
    exact q _ (f2.trans .app)
theorem same6 {v : Val} (h1 : v.flat = true) (h2 : v.sok = true) (h3 : v.dep ≤ 6) : evF F con 19 32 [v, v] m = .ok (.bl true) m := law_same_v (n := 12) 6 v m h1 h2 h3 (by omega)
theorem mt_flat (l : List Mc) : (mtV l).flat = true := by unfold mtV; simp [Val.flat, flats_map flat_mc]
theorem mt_sok (l : List Mc) : (mtV l).sok = true := by unfold mtV; simp [Val.sok, soks_map sok_mc]
theorem mt_dep (l : List Mc) : (mtV l).dep ≤ 5 := by
  have := deps_map dep_mc l
  unfold mtV
  simp only [Val.dep]
  omega
theorem inVs_mc {N : Mc} : ∀ {l : List Mc}, inVs (l.map mcV) (mcV N) = decide (N ∈ l)
  | [] => by simp [inVs]
  | K :: l => by
    have ih := inVs_mc (N := N) (l := l)
    unfold inVs at ih ⊢
    rw [List.map_cons, List.any_cons, ih, eqv_mc]
    by_cases h : K = N
    · subst h; simp
    · have h2 : ¬ N = K := fun e => h e.symm
      simp [h, h2]
theorem nmem_mc {N : Mc} {l : List Mc} : cmpV .nmem (mcV N) (mtV l) m = .ok (!decide (N ∈ l)) m := by
  have h1 := deps_map dep_mc l
  have h2 := dep_mc N
  have : memM m (mcV N) (mtV l) = some (decide (N ∈ l)) := by
    unfold memM mtV
    simp only [flat_mc, sok_mc, flats_map flat_mc, soks_map sok_mc, Bool.true_and, inVs_mc]
    rw [if_pos]
    rw [Bool.and_eq_true, decide_eq_true_eq, decide_eq_true_eq]
    omega
  simp only [cmpV, this]
def sRep : Ss := (.cons (.ite (.cmp .ne (.blt .repr (.cons (.call 28 (.cons (.loc 3) (.cons (.loc 4) (.cons (.loc 6) .nil)))) .nil)) (.blt .repr (.cons (.cmp .nmem (.loc 6) (.loc 7)) .nil))) (.cons (.ret (.bl false)) .nil) .nil) .nil)
structure RpI (M : Mc) (S : List Nat) (ws : List (List Nat)) (x0 x1 x2 x8 x9 : Option Val) (m : Store) (rest : List Mc) (ρ : Env) (m' : Store) : Prop where
  ex : ∃ x6, ρ = [x0, x1, x2, some (mcV M), some (suV ws), some (mtV (srtM M S)), x6, some (mtV (killM M S ws)), x8, x9] ∧ (∀ N ∈ rest, N ∈ srtM M S) ∧ Fr [] m m'
theorem rep_w {S : List Nat} {ws : List (List Nat)} {x0 x1 x2 x6 x8 x9 : Option Val} {l : List Mc} {Q : Fl → Store → Prop} (h : M.Ok) (hs : SuOk M.L ws) (hl : ∀ N ∈ l, N ∈ srtM M S)
    (q : ∀ m' x6, Fr [] m m' → Q (.nx [x0, x1, x2, some (mcV M), some (suV ws), some (mtV (srtM M S)), x6, some (mtV (killM M S ws)), x8, x9]) m') :
    wR (loopF (.name 6) [] (evSs Y19 sRep) (l.map mcV) [x0, x1, x2, some (mcV M), some (suV ws), some (mtV (srtM M S)), x6, some (mtV (killM M S ws)), x8, x9] m) Q := by
  refine loopF_map mcV (RpI M S ws x0 x1 x2 x8 x9 m) ?_ ?_ _ _ _ ⟨x6, rfl, hl, .refl⟩
  · rintro N rest ρ m1 ⟨y6, rfl, hr, f1⟩
    have hN := hr N List.mem_cons_self
    obtain ⟨hO, hSh⟩ := srtM_ok h N hN
    refine ⟨rfl, _, rfl, ?_⟩
    show wSs _ sRep _ _ _
    simp only [sRep, wSs_cons, wS_ite, wT, wE_cmp, wE_blt, wEs_cons, wEs_nil, wE_call, wE_loc, List.set_cons_succ, List.set_cons_zero, List.getElem?_cons_succ, List.getElem?_cons_zero, Option.join_some, oP_some]
    refine passes_m (n := 11) h hO hSh hs (fun m2 f2 => ?_) _ rfl
    have hk : (!decide (N ∈ killM M S ws)) = M.pass N ws := by
      unfold killM
      rw [show decide (N ∈ (srtM M S).filter fun N => !M.pass N ws) = !M.pass N ws from by
        by_cases hp : M.pass N ws = true
        · simp [List.mem_filter, hp]
        · simp [List.mem_filter, hN, hp]]
      simp
    have hrep : ∀ (b : Bool) (z : Store), bltV .repr [.bl b] z = .ok (.str (if b then "True" else "False")) z := fun b z => rfl
    have hne : ∀ (s : PySem.Str) (z : Store), (Val.str s).sok = true → cmpV .ne (.str s) (.str s) z = .ok false z := fun s z hs => by
      have := eqM_flat (m := z) (v := .str s) rfl hs (by simp [Val.dep])
      simp [cmpV, this, Val.eqv]
    have hsk : (Val.str (if M.pass N ws then "True" else "False")).sok = true := by cases M.pass N ws <;> decide +kernel
    simp only [hrep, wR_ok, nmem_mc, hk, hne _ _ hsk, asP_bl, Bool.false_eq_true, if_false, wSs_nil, kS_nx]
    exact ⟨_, rfl, fun K hK => hr K (List.mem_cons_of_mem _ hK), f1.trans f2⟩
  · rintro ρ m1 ⟨y6, rfl, hr, f1⟩
    exact ⟨rfl, q m1 _ f1⟩
end K83
end

section
set_option maxRecDepth 100000
/-! Wq: the law. -/
namespace K83
open Ev
variable {m : Store} {M M' : Mc}
def sTst1 : S := (.ite (.or (.nt (.call 32 (.cons (.call 26 (.cons (.loc 3) (.cons (.loc 4) .nil))) (.cons (.loc 7) .nil)))) (.nt (.call 32 (.cons (.call 27 (.cons (.loc 3) (.cons (.loc 4) .nil))) (.cons (.tup (.cons (.blt .len (.cons (.loc 7) .nil)) (.cons (.loc 8) .nil))) .nil))))) (.cons (.ret (.bl false)) .nil) .nil)
def sTst2 : S := (.ite (.nt (.call 32 (.cons (.tup (.cons (.callK 26 (.cons (.loc 4) (.cons (.loc 3) .nil)) [1, 0]) (.cons (.callK 27 (.cons (.loc 4) (.cons (.loc 3) .nil)) [1, 0]) .nil))) (.cons (.tup (.cons (.loc 7) (.cons (.tup (.cons (.blt .len (.cons (.loc 7) .nil)) (.cons (.loc 8) .nil))) .nil))) .nil)))) (.cons (.ret (.bl false)) .nil) .nil)
theorem sc_flat {S : List Nat} {ws : List (List Nat)} : (scV M S ws).flat = true := rfl
theorem sc_sok {S : List Nat} {ws : List (List Nat)} : (scV M S ws).sok = true := rfl
theorem sc_dep {S : List Nat} {ws : List (List Nat)} : (scV M S ws).dep ≤ 1 := by simp [scV, Val.dep, Val.deps]
theorem len_mt {l : List Mc} : bltV .len [mtV l] m = .ok (iv l.length) m := by simp [bltV, mtV, lenM]
theorem tst1_w {S : List Nat} {ws : List (List Nat)} {x0 x1 x2 x5 x6 x9 : Option Val} {r : Ss} {Q : Fl → Store → Prop} (h : M.Ok) (hS : AccF M S) (hs : SuOk M.L ws)
    (q : ∀ m', Fr [] m m' → wSs Y19 r [x0, x1, x2, some (mcV M), some (suV ws), x5, x6, some (mtV (killM M S ws)), some (iv (unlM M S).length), x9] m' Q) :
    wSs Y19 (.cons sTst1 r) [x0, x1, x2, some (mcV M), some (suV ws), x5, x6, some (mtV (killM M S ws)), some (iv (unlM M S).length), x9] m Q := by
  simp only [sTst1, wSs_cons, wS_ite, wT, wE_or, wE_nt, wE_call, wEs_cons, wEs_nil, wE_loc, List.getElem?_cons_succ, List.getElem?_cons_zero, Option.join_some, oP_some]
  refine killed_m (n := 11) h hS hs (fun m1 f1 => ?_) _ rfl
  have hs1 := same6 (m := m1) (v := mtV (killM M S ws)) (mt_flat _) (mt_sok _) (by have := mt_dep (killM M S ws); omega)
  simp only [hs1, wR_ok, asP_bl, Bool.not_true, Bool.false_eq_true, if_false]
  refine score_m (n := 11) h hS hs (fun m2 f2 => ?_) _ rfl
  simp only [wE_tup, wEs_cons, wEs_nil, wE_blt, wE_loc, List.getElem?_cons_succ, List.getElem?_cons_zero, Option.join_some, oP_some, len_mt, wR_ok, List.length_cons, List.length_nil]
  refine ⟨by rw [lim_num]; omega, ?_⟩
  have hsame := same6 (m := m2) (v := scV M S ws) sc_flat sc_sok (by have := sc_dep (M := M) (S := S) (ws := ws); omega)
  show wR (evF F con 19 32 [scV M S ws, scV M S ws] m2) _
  rw [hsame, wR_ok]
  simp only [asP_bl, Bool.not_true, Bool.false_eq_true, if_false, wSs_nil, kS_nx]
  exact q m2 (f1.trans f2)
theorem tst2_w {S : List Nat} {ws : List (List Nat)} {x0 x1 x2 x5 x6 x9 : Option Val} {r : Ss} {Q : Fl → Store → Prop} (h : M.Ok) (hS : AccF M S) (hs : SuOk M.L ws)
    (q : ∀ m', Fr [] m m' → wSs Y19 r [x0, x1, x2, some (mcV M), some (suV ws), x5, x6, some (mtV (killM M S ws)), some (iv (unlM M S).length), x9] m' Q) :
    wSs Y19 (.cons sTst2 r) [x0, x1, x2, some (mcV M), some (suV ws), x5, x6, some (mtV (killM M S ws)), some (iv (unlM M S).length), x9] m Q := by
  simp only [sTst2, wSs_cons, wS_ite, wT, wE_nt, wE_call, wEs_cons, wEs_nil, wE_tup, wE_callK, wE_loc, List.getElem?_cons_succ, List.getElem?_cons_zero, Option.join_some, oP_some, List.filterMap_cons, List.filterMap_nil]
  refine killed_m (n := 11) h hS hs (fun m1 f1 => ?_) _ rfl
  refine score_m (n := 11) h hS hs (fun m2 f2 => ?_) _ rfl
  simp only [wE_tup, wEs_cons, wEs_nil, wE_blt, wE_loc, List.getElem?_cons_succ, List.getElem?_cons_zero, Option.join_some, oP_some, len_mt, wR_ok, List.length_cons, List.length_nil]
  refine ⟨by rw [lim_num]; omega, by rw [lim_num]; omega, by rw [lim_num]; omega, ?_⟩
  have hd := mt_dep (killM M S ws)
  have hd2 := sc_dep (M := M) (S := S) (ws := ws)
  have hsame := same6 (m := m2) (v := .tup [mtV (killM M S ws), scV M S ws]) (by simp [Val.flat, Val.flats, mt_flat, sc_flat]) (by simp [Val.sok, Val.soks, mt_sok, sc_sok]) (by simp only [Val.dep, Val.deps]; omega)
  show wR (evF F con 19 32 [.tup [mtV (killM M S ws), scV M S ws], .tup [mtV (killM M S ws), scV M S ws]] m2) _
  rw [hsame, wR_ok]
  simp only [asP_bl, Bool.not_true, Bool.false_eq_true, if_false, wSs_nil, kS_nx]
  exact q m2 (f1.trans f2)
def sTurn : Ss := (.cons (.asg (.name 3) (.call 33 (.cons (.loc 1) (.cons (.bin .add (.int 1) (.call 30 (.cons (.loc 1) (.cons (.int 3) .nil)))) (.cons (.bin .add (.int 2) (.call 30 (.cons (.loc 1) (.cons (.int 2) .nil)))) (.cons (.bin .add (.int 1) (.call 30 (.cons (.loc 1) (.cons (.int 5) .nil)))) .nil)))))) (.cons (.asg (.name 4) eSu) (.cons (.asg (.name 5) (.call 39 (.cons (.loc 3) .nil))) (.cons (.asg (.name 7) eDue) (.cons (.asg (.name 8) eUnl) (.cons sTst1 (.cons sTst2 (.cons (.for (.name 6) (.seq (.sl (.loc 5) .non (.int 12))) sRep) .nil))))))))
theorem turn_w {p k : Nat} {x0 x2 x3 x4 x5 x6 x7 x8 x9 : Option Val} {Q : Fl → Store → Prop} (hs : Spr p k m) (hk : k < 300)
    (q : ∀ m' x3 x4 x5 x6 x7 x8 x9, Fr [p] m m' → Spr p (k + 220) m' → Q (.nx [x0, some (.ref p), x2, x3, x4, x5, x6, x7, x8, x9]) m') : wSs Y19 sTurn [x0, some (.ref p), x2, x3, x4, x5, x6, x7, x8, x9] m Q := by
  simp only [sTurn]
  rw [wSs_cons]
  simp only [wS_asg, wE_call, wEs_cons, wEs_nil, wE_bin, wE_int, wE_loc, List.getElem?_cons_succ, List.getElem?_cons_zero, Option.join_some, oP_some]
  refine law_few_m (n := 18) (many := 3) hs (by omega) (by omega) (by omega) fun r1 m1 hr1 f1 _ s1 => ?_
  rw [add1l]
  refine law_few_m (n := 18) (many := 2) s1 (by omega) (by omega) (by omega) fun r2 m2 hr2 f2 _ s2 => ?_
  rw [add2l]
  refine law_few_m (n := 18) (many := 5) s2 (by omega) (by omega) (by omega) fun r3 m3 hr3 f3 _ s3 => ?_
  rw [add1l]
  refine law_machine_m (n := 16) s3 (by omega) (by omega) (by omega) (by omega) (by omega) (by omega) (by omega) fun M m4 hM _ _ _ f4 s4 => ?_
  obtain ⟨S, hS⟩ := ex_acc hM
  simp only [bindT, oP_some, kS_nx, List.set_cons_succ, List.set_cons_zero]
  rw [wSs_cons]
  simp only [wS_asg]
  refine suite_w (n := 17) hM s4 (by omega) fun ws m5 hws f5 s5 => ?_
  simp only [bindT, oP_some, kS_nx, List.set_cons_succ, List.set_cons_zero]
  rw [wSs_cons]
  simp only [wS_asg, wE_call, wEs_cons, wEs_nil, wE_loc, List.getElem?_cons_succ, List.getElem?_cons_zero, Option.join_some, oP_some]
  refine law_mutants_m (n := 17) hM hS (fun m6 f6 => ?_) _ rfl
  simp only [bindT, oP_some, kS_nx, List.set_cons_succ, List.set_cons_zero]
  rw [wSs_cons]
  simp only [wS_asg]
  refine due_w hM hws fun m7 f7 => ?_
  simp only [bindT, oP_some, kS_nx, List.set_cons_succ, List.set_cons_zero]
  rw [wSs_cons]
  simp only [wS_asg]
  refine unl_w hM fun m8 f8 => ?_
  simp only [bindT, oP_some, kS_nx, List.set_cons_succ, List.set_cons_zero]
  refine tst1_w hM hS hws fun m9 f9 => ?_
  refine tst2_w hM hS hws fun m10 f10 => ?_
  have hsl : slV (mtV (srtM M S)) .non (.int 12) m10 = .ok (mtV ((srtM M S).take 12)) m10 := by
    unfold mtV
    simp only [slV, partOf]
    have := cut_take (xs := (srtM M S).map mcV) (k := 12)
    rw [show cutV ((srtM M S).map mcV) none (some (12 : Int)) = ((srtM M S).map mcV).take 12 from this, List.map_take]
  have hsq : seqW m10 (mtV ((srtM M S).take 12)) = some (((srtM M S).take 12).map mcV, []) := rfl
  rw [wSs_cons]
  simp only [wS_for, wIt_seq, wE_sl, wE_loc, wE_non, wE_int, List.getElem?_cons_succ, List.getElem?_cons_zero, Option.join_some, oP_some, hsl, wR_ok, hsq]
  refine rep_w hM hws (fun N hN => List.mem_of_mem_take hN) fun m11 x6' f11 => ?_
  simp only [kS_nx, wSs_nil]
  have ff : Fr [] m5 m11 := f6.trans (f7.trans (f8.trans (f9.trans (f10.trans f11))))
  exact q m11 _ _ _ _ _ _ _ (f1.trans (f2.trans (f3.trans (f4.trans (f5.trans ff.nil))))) ((s5.fr ff (fun h => nomatch h)).le (by omega))
structure TuI (p : Nat) (x0 : Option Val) (m : Store) (rest : List Nat) (ρ : Env) (m' : Store) : Prop where
  ex : ∃ (k : Nat) (x2 x3 x4 x5 x6 x7 x8 x9 : Option Val), ρ = [x0, some (.ref p), x2, x3, x4, x5, x6, x7, x8, x9] ∧ k + 220 * rest.length ≤ 440 ∧ Spr p k m' ∧ Fr [p] m m'
structure SgI (ps0 : List Nat) (r : Nat) (x0 : Option Val) (rest : List Nat) (ρ : Env) (m' : Store) : Prop where
  ex : ∃ (x1 x2 x3 x4 x5 x6 x7 x8 x9 : Option Val), ρ = [x0, x1, x2, x3, x4, x5, x6, x7, x8, x9] ∧ m'[r]? = some (.lst (ps0.map Val.ref)) ∧ (∀ p ∈ rest, p ≠ r ∧ Spr p 0 m') ∧ rest.Nodup
theorem law_true {v : Val} {ns : List Int} (hv : Scr v m ns) (hl : ns.length ≤ 63) : wR (evF F con 20 40 [v] m) (fun u _ => u = .bl true) := by
  refine wF (n := 19) rfl rfl ?_
  show wSs Y19 (.cons (.for (.name 1) (.seq (.call 29 (.cons (.loc 0) (.cons (.int 5) .nil)))) (.cons (.for (.name 2) (.range (.int 0) (.int 2)) sTurn) .nil)) (.cons (.ret (.bl true)) .nil)) [some v, none, none, none, none, none, none, none, none, none] m _
  simp only [wSs_cons, wS_for, wIt_seq, wE_call, wEs_cons, wEs_nil, wE_loc, wE_int, List.getElem?_cons_zero, Option.join_some, oP_some]
  refine law_springs_m (n := 18) hv hl fun ps m1 r hr hp hn => ?_
  have hsq : seqW m1 (.ref r) = some (ps.map Val.ref, [(r, .lst (ps.map Val.ref))]) := by simp [seqW, hr]
  rw [hsq]
  simp only [oP_some]
  refine loopF_map Val.ref (SgI ps r (some v)) ?_ ?_ _ _ _ ⟨none, none, none, none, none, none, none, none, none, rfl, hr, hp, hn⟩
  · rintro p rest ρ m2 ⟨x1, x2, x3, x4, x5, x6, x7, x8, x9, rfl, e1, e2, e3⟩
    obtain ⟨hpr, hsp⟩ := e2 p List.mem_cons_self
    rw [List.nodup_cons] at e3
    refine ⟨by simp [guardOk, e1], _, rfl, ?_⟩
    show wSs _ _ _ _ _
    simp only [wSs_cons, wS_for, wIt_range, wE_int]
    refine ⟨⟨by decide, by decide⟩, ?_⟩
    show wR (loopF (.name 2) [] (evSs Y19 sTurn) ((List.range 2).map iv) [some v, some (.ref p), x2, x3, x4, x5, x6, x7, x8, x9] m2) _
    refine loopF_map iv (TuI p (some v) m2) ?_ ?_ _ _ _ ⟨0, _, _, _, _, _, _, _, _, rfl, by simp, hsp, .refl⟩
    · rintro t rest2 ρ m3 ⟨k, y2, y3, y4, y5, y6, y7, y8, y9, rfl, k1, k2, k3⟩
      rw [List.length_cons] at k1
      refine ⟨rfl, _, rfl, ?_⟩
      show wSs _ sTurn _ _ _
      refine turn_w k2 (by omega) fun m4 z3 z4 z5 z6 z7 z8 z9 f4 s4 => ?_
      exact ⟨k + 220, _, _, _, _, _, _, _, _, rfl, by omega, s4, k3.trans f4⟩
    · rintro ρ m3 ⟨k, y2, y3, y4, y5, y6, y7, y8, y9, rfl, k1, k2, k3⟩
      refine ⟨rfl, ?_⟩
      simp only [kS_nx, wSs_nil]
      refine ⟨_, _, _, _, _, _, _, _, _, rfl, k3.lt e1 (by simp; exact fun e => hpr e.symm), fun p' hp' => ?_, e3.2⟩
      obtain ⟨h1, h2⟩ := e2 p' (List.mem_cons_of_mem _ hp')
      exact ⟨h1, h2.fr k3 (by simp; rintro rfl; exact e3.1 hp')⟩
  · rintro ρ m2 ⟨x1, x2, x3, x4, x5, x6, x7, x8, x9, rfl, e1, e2, e3⟩
    refine ⟨by simp [guardOk, e1], ?_⟩
    simp only [kS_nx, wSs_cons, wS_ret, wE_bl, kS_rt, kF_rt]
end K83
end

open PySem PySem.W PyProof.Rows
theorem PySem.Challenge.cw_answertests_k83_mutants_killed_holds : PySem.Challenge.rw_answertests_k83_mutants_killed.Holds := by
  exact K83.holds_of fun ns hl v μ hv => by
    obtain ⟨a, m', e, h⟩ := Ev.wR_iff.mp (K83.law_true (v := v) (m := μ) (ns := ns) (by
      rcases hv with ⟨rfl, rfl⟩ | ⟨rfl, rfl⟩
      · exact .inl rfl
      · exact .inr ⟨rfl, rfl⟩) hl)
    subst h
    exact ⟨m', e⟩
