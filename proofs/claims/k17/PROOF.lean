import PyProof.Rows.All
import PySem.Challenge.RW_bellsagain_k17_whole_bells_that_stand_fo
import HandS.Base
import PySem.Syntax
import Wide.All
import OpenK.AllK
import Wide.FinOn
import HandS.ForMost
import HandS.Lambda
import HandS.HeadHook4
import HandS.TupAny
import HandS.TupLe
import HandS.Deep
import HandS.SortInts
import HandS.Wide
import HandS.WideBits
import HandS.Flow
import HandS.IsInst
import HandS.Conv
import KE.KSortTupG
import HandS.SortOrd
import HandS.Defaults
import HandS.Zip
import HandS.Nested
import KE.GoesMore
import KE.GoesEnum
import KE.KItemsList
import HandS.Exc
import HandS.ExcValue
import HandS.Iter
import HandS.Style
import HandS.Small
import HandS.WordsExc
import HandS.HeadWalk
import HandS.Words
import HandS.Head0
import HandS.Head1
import HandS.Head2
import HandS.HeadEnd
import HandS.NestedK
set_option Elab.async false
set_option linter.all false
section
/-! Mini: values, heap, expressions, statements, the evaluator. -/
namespace Bell
open PySem (Str)

/-- values; lst, dct, set: things that nobody else holds (results on their way), and the objects of the heap -/
inductive D where
  | non | bl (b : Bool) | int (i : Int) | str (x : Str) | tup (xs : List D) | lst (xs : List D)
  | dct (ks vs : List D) | set (ks : List D) | fro (xs : List D) | adr (k : Nat)
  /-- a lambda: its object's place, its code object's place and name -/
  | fn (f c : Nat) (q : Str) (ds : List D) (vs : List L2.V)
  /-- a dict that is walked: known to its object -/
  | lck (x : Unit → PySem.Obj × List (L2.Key × L2.V))
  deriving Inhabited
abbrev Hm := List D

inductive Out (α : Type) where
  | ok (a : α) (m : Hm) | exc (c : Nat) (d : D) (m : Hm) | bad
def Out.bind {α β : Type} (x : Out α) (f : α → Hm → Out β) : Out β := match x with
  | .ok a m => f a m | .exc c d m => .exc c d m | .bad => .bad
theorem bind_ok {α β : Type} (a : α) (m : Hm) (f : α → Hm → Out β) : (Out.ok a m).bind f = f a m := rfl
theorem bind_exc {α β : Type} (c : Nat) (d : D) (m : Hm) (f : α → Hm → Out β) : (Out.exc c d m : Out α).bind f = .exc c d m := rfl
theorem bind_bad {α β : Type} (f : α → Hm → Out β) : (Out.bad : Out α).bind f = .bad := rfl
theorem bind_assoc {α β γ : Type} (x : Out α) (f : α → Hm → Out β) (g : β → Hm → Out γ) : (x.bind f).bind g = x.bind fun a m => (f a m).bind g := by
  cases x <;> rfl

mutual
/-- all addresses below n -/
def below (n : Nat) : D → Bool
  | .adr k => decide (k < n)
  | .tup xs => belows n xs
  | .lst xs => belows n xs
  | .dct ks vs => belows n ks && belows n vs
  | .set ks => belows n ks
  | .fro xs => belows n xs
  | .non => true | .bl _ => true | .int _ => true | .str _ => true | .fn _ _ _ ds _ => belows n ds | .lck _ => false
def belows (n : Nat) : List D → Bool
  | [] => true
  | x :: xs => below n x && belows n xs
end
mutual
/-- data without objects, at most n deep -/
def pur : Nat → D → Bool
  | _, .non => true | _, .bl _ => true | _, .int _ => true | _, .str x => x.cps.all fun c => decide (c < 0x110000)
  | 0, .tup _ => false
  | n + 1, .tup xs => purs n xs
  | _, .lst _ => false | _, .dct _ _ => false | _, .set _ => false | _, .fro _ => false | _, .adr _ => false | _, .fn _ _ _ _ _ => false | _, .lck _ => false
def purs : Nat → List D → Bool
  | _, [] => true
  | n, x :: xs => pur n x && purs n xs
end
def b2i (b : Bool) : Int := if b then 1 else 0
mutual
/-- Python's == of such data -/
def eqb : D → D → Bool
  | .non, .non => true
  | .bl a, .bl b => a == b
  | .bl a, .int j => b2i a == j
  | .int i, .bl b => i == b2i b
  | .int i, .int j => i == j
  | .str x, .str y => x == y
  | .tup xs, .tup ys => eqbs xs ys
  | _, _ => false
def eqbs : List D → List D → Bool
  | [], [] => true
  | x :: xs, y :: ys => eqb x y && eqbs xs ys
  | [], _ :: _ => false
  | _ :: _, [] => false
end
/-- an object is looked up -/
def deref (m : Hm) : D → Option D
  | .adr k => m[k]?
  | d => some d
/-- how many items may be in a list -/
def big : Nat := 16777216
def isBig (n : Nat) : Bool := decide (n ≤ 16777216)
def asInts : List D → Option (List Int)
  | [] => some []
  | .int i :: xs => (asInts xs).map (i :: ·)
  | _ => none
def asBools : List D → Option (List Bool)
  | [] => some []
  | .bl i :: xs => (asBools xs).map (i :: ·)
  | _ => none
def lexLt : List Int → List Int → Bool
  | [], [] => false
  | [], _ :: _ => true
  | _ :: _, [] => false
  | x :: xs, y :: ys => if x = y then lexLt xs ys else decide (x < y)
def asLexs : List D → Option (List (List Int))
  | [] => some []
  | .tup xs :: r => match asInts xs, asLexs r with
    | some a, some b => some (a :: b)
    | _, _ => none
  | _ => none
def ins {α : Type} (lt : α → α → Bool) (x : α) : List α → List α
  | [] => [x]
  | y :: ys => if lt y x then y :: ins lt x ys else x :: y :: ys
def isort {α : Type} (lt : α → α → Bool) : List α → List α
  | [] => []
  | x :: xs => ins lt x (isort lt xs)
def encI (xs : List Int) : D := .tup (xs.map .int)
def sortD (xs : List D) : Option (List D) := match asInts xs with
  | some a => some ((isort (fun x y => decide (x < y)) a).map .int)
  | none => match asLexs xs with
    | some b => some ((isort lexLt b).map encI)
    | none => none
/-- a sequence's items: a list, a tuple -/
def items (m : Hm) (d : D) : Option (List D) := match deref m d with
  | some (.lst xs) => some xs
  | some (.tup xs) => some xs
  | some (.fro xs) => some xs
  | _ => none
/-- a list's items -/
def itemsL (m : Hm) (d : D) : Option (List D) := match deref m d with
  | some (.lst xs) => some xs
  | some (.fro xs) => some xs
  | _ => none
def truth (m : Hm) (d : D) : Option Bool := match deref m d with
  | some .non => some false
  | some (.bl b) => some b
  | some (.int i) => some (i != 0)
  | some (.str x) => if isBig x.length then some ((x.length : Int) != 0) else none
  | some (.lst xs) => some !xs.isEmpty
  | some (.tup xs) => some !xs.isEmpty
  | some (.dct ks _) => some !ks.isEmpty
  | _ => none
def ixOf (n : Nat) (i : Int) : Option Nat := if 0 ≤ i then (if i < n then some i.toNat else none) else if -(n : Int) ≤ i then some (i + n).toNat else none
def keyIx (k : D) : List D → Option Nat
  | [] => none
  | x :: xs => if eqb x k then some 0 else (keyIx k xs).map (· + 1)
def look (k : D) (ks vs : List D) : Option D := (keyIx k ks).bind fun i => vs[i]?
def lays (k v : D) : List D → List D → List D
  | x :: ks, y :: vs => (if eqb x k then v else y) :: lays k v ks vs
  | _, _ => []
def lay (k v : D) (ks vs : List D) : List D × List D := match keyIx k ks with
  | some _ => (ks, lays k v ks vs)
  | none => (ks ++ [k], vs ++ [v])
def isKey : D → Bool
  | .int _ => true | .str _ => true | _ => false

inductive Bop | add | sub | mul | fdiv | mod | pow | shl | shr | band | bor | bxor
inductive Cop | eq | ne | lt | le | gt | ge | is | isN | inn | nin
inductive Bi | len | abs | int | str | tuple | list | sorted | max | min | sum | any | all | set | dict | tupR | listR | z3
inductive Me | append | extend | index | get | pop | setdefault | insert | update | split | join
/-- what is walked: a value; range(..); enumerate, zip, reversed -/
inductive Sk | val | rng | enum | zip | rev
inductive Ty | int | bool | str | tuple | list | dict
inductive Tg | nm (i : Nat) | nil | cons (a r : Tg) | tup (a : Tg)

inductive E where
  | var (i : Nat) | con (d : D) | nil | cons (a r : E) | tup (a : E) | lst (a : E) | dct (a : E)
  | bin (op : Bop) (a b : E) | neg (a : E) | cmp (op : Cop) (a b : E) | chain (p q : Cop) (a b c : E)
  | tand (a b : E) | tor (a b : E) | tnot (a : E) | tru (a : E) | vand (a b : E) | vor (a b : E) | vnot (a : E)
  | ife (t a b : E) | call (f : Nat) (a : E) | callp (f : Nat) (p : List Nat) (ds : List D) (a : E) | callc (f : Nat) (a : E) (i : Nat) (q : Str) (js : List Nat) (r : Nat) (b : E) | callv (i : Nat) (a : E)
  | bi (b : Bi) (a : E) | isin (a : E) (ts : List Ty) | idx (a b : E) | slc (a lo hi : E) | slr (a : E) | nd (a : E)
  | meth (me : Me) (o a : E)
  | comp (k : Sk) (it : E) (tg : Tg) (c e : E) (own : List Nat)
  | compd (i : Nat) (tg : Tg) (c e : E) (own : List Nat)
  | comp2 (k : Sk) (it : E) (tg : Tg) (k2 : Sk) (it2 : E) (tg2 : Tg) (c e : E) (own : List Nat)
  | dcomp (k : Sk) (it : E) (tg : Tg) (c e v : E) (own : List Nat)
  | scomp (k : Sk) (it : E) (tg : Tg) (c e : E) (own : List Nat)

inductive S where
  | nil | cons (s r : S) | asg (t : Tg) (e : E) | setix (o i e : E) | aug (i : Nat) (op : Bop) (e : E) | augix (o i : E) (op : Bop) (e : E)
  | exp (e : E) | ret (e : E) | retN | ifs (t : E) (a b : S) | fors (k : Sk) (it : E) (t : Tg) (b : S) | whil (t : E) (b : S) | brk | cnt | pass

abbrev Env := List (Option D)
def get : Env → Nat → Option D
  | [], _ => none
  | x :: _, 0 => x
  | _ :: xs, n + 1 => get xs n
def put : Env → Nat → D → Env
  | [], _, _ => []
  | _ :: xs, 0, d => some d :: xs
  | x :: xs, n + 1, d => x :: put xs n d
def clr : Env → Nat → Env
  | [], _ => []
  | _ :: xs, 0 => none :: xs
  | x :: xs, n + 1 => x :: clr xs n
def wipe (ρ : Env) : List Nat → Env
  | [] => ρ
  | i :: is => clr (wipe ρ is) i

/-- a lambda's places and name -/
abbrev Fk := Nat × Nat × Str × List L2.V
structure Cf where
  call : Nat → List D → Hm → Out D
  callc : Nat → List D → Fk → (List D → List D → Hm → Out D) → Hm → Out D
  lam : Option (Fk × (List D → List D → Hm → Out D))
  base : Nat
  wf : Nat

/-- a thing on its way gets a place -/
def home (d : D) (m : Hm) : D × Hm := match d with
  | .lst xs => (.adr m.length, m ++ [.lst xs])
  | .dct ks vs => (.adr m.length, m ++ [.dct ks vs])
  | .set ks => (.adr m.length, m ++ [.set ks])
  | .lck u => (.adr m.length, m ++ [.lck u])
  | d => (d, m)
def homes : List D → Hm → List D × Hm
  | [], m => ([], m)
  | d :: ds, m => let p := home d m; let q := homes ds p.2; (p.1 :: q.1, q.2)
/-- behind a frame of base n: its own objects are let go -/
def close (n : Nat) (d : D) (m : Hm) : Out D :=
  if below n d then .ok d (m.take n) else match d with
    | .adr k => match m[k]? with
      | some (.fro _) => .bad
      | some o => if below n o then .ok o (m.take n) else .bad
      | none => .bad
    | _ => .bad

def mulOk (i j : Int) : Bool := decide (i.natAbs < 2 ^ 64) || decide (j.natAbs < 2 ^ 64)
def binI (op : Bop) (i j : Int) : Option Int := match op with
  | .add => some (i + j)
  | .sub => some (i - j)
  | .mul => if mulOk i j then some (i * j) else none
  | .fdiv => if 0 < j ∧ j < 2 ^ 64 then some (i / j) else none
  | .mod => if 0 < j then some (i % j) else none
  | .pow => if 0 ≤ j ∧ j ≤ 1000 ∧ i.natAbs < 2 ^ 64 then some (i ^ j.toNat) else none
  | .shl => if 0 ≤ j ∧ j ≤ 1000 ∧ i.natAbs < 2 ^ 64 then some (i * 2 ^ j.toNat) else none
  | .shr => if 0 ≤ j then some (i / 2 ^ j.toNat) else none
  | _ => none
def binL (op : Bop) (a b : Option D) : Option D := match op, a, b with
  | .add, some (.lst xs), some (.lst ys) => if isBig (xs.length + ys.length) then some (.lst (xs ++ ys)) else none
  | .mul, some (.lst xs), some (.int k) => if k < 2 ^ 62 ∧ -(2 ^ 62) < k ∧ isBig (xs.length * k.toNat) then some (.lst (List.replicate k.toNat xs).flatten) else none
  | _, _, _ => none
def binD (op : Bop) (a b : D) (m : Hm) : Option D := match a, b with
  | .int i, .int j => (binI op i j).map .int
  | .str x, .str y => match op with
    | .add => if isBig (x.length + y.length) then some (.str (x ++ y)) else none
    | _ => none
  | .tup xs, .tup ys => match op with
    | .add => if isBig (xs.length + ys.length) then some (.tup (xs ++ ys)) else none
    | _ => none
  | a, b => binL op (deref m a) (deref m b)
def eqD (m : Hm) (a b : D) : Option Bool := match deref m a, deref m b with
  | some (.lst xs), some (.lst ys) => if purs 40 xs && purs 40 ys then some (eqbs xs ys) else none
  | some (.lst xs), some y => if purs 40 xs && pur 40 y then some false else none
  | some x, some (.lst ys) => if pur 40 x && purs 40 ys then some false else none
  | some x, some y => if pur 40 x && pur 40 y then some (eqb x y) else none
  | _, _ => none
def inD (m : Hm) (a b : D) : Option Bool := match deref m b with
  | some (.lst xs) => if pur 40 a && purs 40 xs then some (xs.any fun y => eqb y a) else none
  | some (.tup xs) => if pur 40 a && purs 40 xs then some (xs.any fun y => eqb y a) else none
  | some (.dct ks _) => if isKey a && pur 40 a && purs 40 ks then some (keyIx a ks).isSome else none
  | some (.set ks) => if isKey a && pur 40 a && purs 40 ks then some (keyIx a ks).isSome else none
  | _ => none
def ltD (a b : D) : Option Bool := match a, b with
  | .int i, .int j => some (decide (i < j))
  | .tup xs, .tup ys => match asInts xs, asInts ys with
    | some p, some q => some (lexLt p q)
    | _, _ => none
  | _, _ => none
def leD (a b : D) : Option Bool := match a, b with
  | .int i, .int j => some (decide (i ≤ j))
  | .tup xs, .tup ys => match asInts xs, asInts ys with
    | some p, some q => some (!lexLt q p)
    | _, _ => none
  | _, _ => none
def ltI (a b : D) : Option Bool := match a, b with
  | .int i, .int j => some (decide (i < j))
  | _, _ => none
def leI (a b : D) : Option Bool := match a, b with
  | .int i, .int j => some (decide (i ≤ j))
  | _, _ => none
/-- is: of None and truths -/
def isD (a b : D) : Option Bool := match b with
  | .non => match a with | .non => some true | _ => some false
  | .bl y => match a with | .bl x => some (x == y) | _ => some false
  | _ => none
def cmpD (op : Cop) (m : Hm) (a b : D) : Option Bool := match op with
  | .eq => eqD m a b
  | .ne => (eqD m a b).map (!·)
  | .lt => ltD a b
  | .gt => ltI b a
  | .le => leD a b
  | .ge => leI b a
  | .is => isD a b
  | .isN => (isD a b).map (!·)
  | .inn => inD m a b
  | .nin => (inD m a b).map (!·)
def okB (b : Option Bool) (m : Hm) : Out D := match b with
  | some b => .ok (.bl b) m
  | none => .bad
def okD (d : Option D) (m : Hm) : Out D := match d with
  | some d => .ok d m
  | none => .bad
def maxI : List Int → Option Int
  | [] => none
  | x :: xs => match maxI xs with
    | none => some x
    | some y => some (if x < y then y else x)
def minI : List Int → Option Int
  | [] => none
  | x :: xs => match minI xs with
    | none => some x
    | some y => some (if y < x then y else x)
def rangeL (lo : Int) : Nat → List D
  | 0 => []
  | n + 1 => .int lo :: rangeL (lo + 1) n
def rangeS (lo c : Int) : Nat → List D
  | 0 => []
  | n + 1 => .int lo :: rangeS (lo + c) c n
/-- the numbers of a range; its ends within 2^62 -/
def rangeOf : List D → Option (List D)
  | [.int hi] => if -(2 ^ 62) ≤ hi ∧ hi < 2 ^ 62 then some (rangeL 0 hi.toNat) else none
  | [.int lo, .int hi] => if -(2 ^ 62) ≤ lo ∧ lo < 2 ^ 62 ∧ -(2 ^ 62) ≤ hi ∧ hi < 2 ^ 62 then some (rangeL lo (hi - lo).toNat) else none
  | [.int lo, .int hi, .int c] => if -(2 ^ 62) ≤ lo ∧ lo < 2 ^ 62 ∧ -(2 ^ 62) ≤ hi ∧ hi < 2 ^ 62 ∧ c = -1 then some (rangeS lo (-1) (lo - hi).toNat) else none
  | _ => none
def lenD (m : Hm) (x : D) : Option D := match deref m x with
  | some (.lst xs) => some (.int xs.length)
  | some (.fro xs) => some (.int xs.length)
  | some (.tup xs) => some (.int xs.length)
  | some (.str x) => if isBig x.length then some (.int x.length) else none
  | some (.dct ks _) => some (.int ks.length)
  | _ => none
def intD : D → Option D
  | .int i => some (.int i)
  | .bl b => some (.int (if b then 1 else 0))
  | _ => none
def absD : D → Option D
  | .int i => some (.int (if i < 0 then -i else i))
  | _ => none
def listD (m : Hm) (x : D) : Option D := match deref m x with
  | some (.lst xs) => some (.lst xs)
  | some (.tup xs) => some (.lst xs)
  | some (.fro xs) => some (.lst xs)
  | some (.dct ks _) => some (.lst ks)
  | _ => none
def max2 : D → D → Option D
  | .int i, .int j => some (.int (if j > i then j else i))
  | _, _ => none
def min2 : D → D → Option D
  | .int i, .int j => some (.int (if j < i then j else i))
  | _, _ => none
def zip3L : List D → List D → List D → List D
  | x :: xs, y :: ys, u :: us => .tup [x, y, u] :: zip3L xs ys us
  | _, _, _ => []
/-- list(zip(a, b, c)), of one length -/
def z3D (a b c : Option (List D)) : Option D := match a, b, c with
  | some xs, some ys, some us => if ys.length = xs.length ∧ us.length = xs.length ∧ 0 < xs.length then some (.lst (zip3L xs ys us)) else none
  | _, _, _ => none
def biD (b : Bi) (a : List D) (m : Hm) : Option D := match b, a with
  | .len, [x] => lenD m x
  | .abs, [x] => absD x
  | .int, [x] => intD x
  | .tuple, [x] => (items m x).map .tup
  | .tupR, a => (rangeOf a).bind fun xs => if isBig xs.length then some (.tup xs) else none
  | .listR, a => (rangeOf a).bind fun xs => if isBig xs.length then some (.lst xs) else none
  | .list, [x] => listD m x
  | .sorted, [x] => (itemsL m x).bind fun xs => (sortD xs).map .lst
  | .max, [x] => (itemsL m x).bind fun xs => (asInts xs).bind fun a => (maxI a).map .int
  | .min, [x] => (itemsL m x).bind fun xs => (asInts xs).bind fun a => (minI a).map .int
  | .max, [x, y] => max2 x y
  | .min, [x, y] => min2 x y
  | .sum, [x] => (itemsL m x).bind fun xs => (asInts xs).bind fun a => some (.int a.sum)
  | .z3, [x, y, u] => z3D (itemsL m x) (itemsL m y) (itemsL m u)
  | .any, [x] => (itemsL m x).bind fun xs => (asBools xs).bind fun a => some (.bl (a.any id))
  | .all, [x] => (itemsL m x).bind fun xs => (asBools xs).bind fun a => some (.bl (a.all id))
  | _, _ => none
def isTy (m : Hm) (d : D) (t : Ty) : Option Bool := match deref m d with
  | some .non => some false
  | some (.bl _) => some (match t with | .int => true | .bool => true | _ => false)
  | some (.int _) => some (match t with | .int => true | _ => false)
  | some (.str _) => some (match t with | .str => true | _ => false)
  | some (.tup _) => some (match t with | .tuple => true | _ => false)
  | some (.lst _) => some (match t with | .list => true | _ => false)
  | some (.dct _ _) => some (match t with | .dict => true | _ => false)
  | _ => none
def isTys (m : Hm) (d : D) : List Ty → Option Bool
  | [] => some false
  | t :: ts => match isTy m d t, isTys m d ts with
    | some a, some b => some (a || b)
    | _, _ => none
def idxD (o i : D) (m : Hm) : Option D := match deref m o, i with
  | some (.lst xs), .int i => (ixOf xs.length i).bind fun j => xs[j]?
  | some (.tup xs), .int i => (ixOf xs.length i).bind fun j => xs[j]?
  | some (.fro xs), .int i => (ixOf xs.length i).bind fun j => xs[j]?
  | some (.dct ks vs), k => if isKey k && pur 40 k && purs 40 ks then look k ks vs else none
  | _, _ => none
def sIx (n d : Nat) : Option Int → Nat
  | none => d
  | some i => if i < 0 then (i + n).toNat else min i.toNat n
def cut (xs : List D) (lo hi : Option Int) : List D := (xs.drop (sIx xs.length 0 lo)).take (sIx xs.length xs.length hi - sIx xs.length 0 lo)
def part : D → Option (Option Int)
  | .non => some none
  | .int i => some (some i)
  | _ => none
def slcD (o lo hi : D) (m : Hm) : Option D := match deref m o, part lo, part hi with
  | some (.lst xs), some l, some h => some (.lst (cut xs l h))
  | some (.tup xs), some l, some h => some (.tup (cut xs l h))
  | _, _, _ => none
/-- may v be put into the object at k, in a frame of base n -/
def mayPut (n k : Nat) (v : D) : Bool := decide (n ≤ k) || below k v
def setD (n : Nat) (o i v : D) (m : Hm) : Option Hm := match o with
  | .adr k => if mayPut n k v then match m[k]?, i with
    | some (.lst xs), .int i => (ixOf xs.length i).map fun j => m.set k (.lst (xs.set j v))
    | some (.dct ks vs), i => if isKey i && pur 40 i && purs 40 ks && isBig (ks.length + 1) then
        let p := lay i v ks vs
        some (m.set k (.dct p.1 p.2)) else none
    | _, _ => none
    else none
  | _ => none
/-- where x first stands -/
def firstIx (x : D) : List D → Option Nat
  | [] => none
  | y :: ys => if eqb y x then some 0 else (firstIx x ys).map (· + 1)
def appendD (n : Nat) (o : D) (a : List D) (m : Hm) : Option (D × Hm) := match o, a with
  | .adr k, [v] => if mayPut n k v then match m[k]? with
    | some (.lst xs) => if isBig (xs.length + 1) then some (.non, m.set k (.lst (xs ++ [v]))) else none
    | _ => none else none
  | _, _ => none
def extendD (n : Nat) (o : D) (a : List D) (m : Hm) : Option (D × Hm) := match o, a with
  | .adr k, [.adr j] => match m[k]?, m[j]? with
    | some (.lst xs), some (.lst ys) => if mayPut n k (.tup ys) && isBig (xs.length + ys.length) then some (.non, m.set k (.lst (xs ++ ys))) else none
    | _, _ => none
  | _, _ => none
def indexD (o : D) (a : List D) (m : Hm) : Option (D × Hm) := match deref m o, a with
  | some (.lst xs), [v] => if purs 40 xs && pur 40 v then (firstIx v xs).map fun j => (.int j, m) else none
  | _, _ => none
def dgetD (o : D) (a : List D) (m : Hm) : Option (D × Hm) := match deref m o, a with
  | some (.dct ks vs), [k, d] => if isKey k && pur 40 k && purs 40 ks then some ((look k ks vs).getD d, m) else none
  | _, _ => none
def popD (o : D) (a : List D) (m : Hm) : Option (D × Hm) := match o, a with
  | .adr k, [] => match m[k]? with
    | some (.lst xs) => xs[xs.length - 1]?.map fun y => (y, m.set k (.lst xs.dropLast))
    | _ => none
  | .adr k, [.int i] => match m[k]? with
    | some (.lst xs) => if -(2 ^ 62) ≤ i ∧ i < 2 ^ 62 then (ixOf xs.length i).bind fun j => xs[j]?.map fun y => (y, m.set k (.lst (xs.eraseIdx j))) else none
    | _ => none
  | _, _ => none
def methD (n : Nat) (me : Me) (o : D) (a : List D) (m : Hm) : Option (D × Hm) := match me with
  | .append => appendD n o a m
  | .extend => extendD n o a m
  | .index => indexD o a m
  | .get => dgetD o a m
  | .pop => popD o a m
  | _ => none
mutual
def assignT : Tg → D → Env → Option Env
  | .nm i, d, ρ => some (put ρ i d)
  | .tup a, d, ρ => match d with
    | .tup ds => assignTs a ds ρ
    | _ => none
  | .nil, _, _ => none
  | .cons _ _, _, _ => none
def assignTs : Tg → List D → Env → Option Env
  | .nil, ds, ρ => match ds with
    | [] => some ρ
    | _ => none
  | .cons a r, ds, ρ => match ds with
    | d :: ds => match assignT a d ρ with
      | some ρ => assignTs r ds ρ
      | none => none
    | [] => none
  | .nm _, _, _ => none
  | .tup _, _, _ => none
end
/-- what is walked: at turn i, none: it can't be told, some none: the end -/
abbrev Nx := Nat → Hm → Option (Option D)
def snap (xs : List D) : Nx := fun i _ => some xs[i]?
def live (k : Nat) : Nx := fun i m => match m[k]? with
  | some (.lst xs) => some xs[i]?
  | _ => none
def nxOf (m : Hm) (d : D) : Option (Nx × Nat) := match d with
  | .lst xs => some (snap xs, xs.length)
  | .tup xs => some (snap xs, xs.length)
  | .adr k => match m[k]? with
    | some (.lst xs) => some (live k, xs.length)
    | _ => none
  | _ => none
def nxEnum (f : Nx) : Nx := fun i m => (f i m).map fun o => o.map fun d => .tup [.int i, d]
def nxZip (f g : Nx) : Nx := fun i m => match f i m, g i m with
  | some (some a), some (some b) => some (some (.tup [a, b]))
  | some none, some _ => some none
  | some (some _), some none => some none
  | _, _ => none
/-- what is told just to its end -/
def bnd (xs : List D) : Nx := fun i _ => if i < xs.length then some xs[i]? else if i = xs.length then some none else none
def enumL (j : Nat) : List D → List D
  | [] => []
  | x :: xs => .tup [.int j, x] :: enumL (j + 1) xs
def zipL : List D → List D → List D
  | x :: xs, y :: ys => .tup [x, y] :: zipL xs ys
  | _, _ => []
def isTup : D → Bool
  | .tup _ => true | _ => false
def srcZip (m : Hm) (d e : D) : Option (Nx × Nat) := match d, e with
  | .tup xs, .tup ys => some (snap (zipL xs ys), min xs.length ys.length)
  | .lst xs, .tup ys => some (bnd (zipL xs ys), min xs.length ys.length)
  | d, e => if isTup d || isTup e then none else (nxOf m d).bind fun p => (nxOf m e).map fun q => (nxZip p.1 q.1, min p.2 q.2)
def srcEnum (m : Hm) (d : D) : Option (Nx × Nat) := match d with
  | .tup xs => some (bnd (enumL 0 xs), xs.length)
  | d => (nxOf m d).map fun p => (nxEnum p.1, p.2)
def src (k : Sk) (a : List D) (m : Hm) : Option (Nx × Nat) := match k, a with
  | .val, [d] => nxOf m d
  | .rng, a => (rangeOf a).map fun xs => (snap xs, xs.length)
  | .enum, [d] => srcEnum m d
  | .zip, [d, e] => srcZip m d e
  | .rev, [d] => match d with
    | .lst xs => some (snap xs.reverse, xs.length)
    | .tup xs => some (snap xs.reverse, xs.length)
    | _ => none
  | _, _ => none
/-- the turns of a comprehension: n at most -/
def turns (f : Nx) (one : D → List D → Hm → Out (List D)) : Nat → Nat → List D → Hm → Out (List D)
  | n, i, acc, m => match f i m with
    | none => .bad
    | some none => .ok acc m
    | some (some d) => match n with
      | 0 => .bad
      | n + 1 => (one d acc m).bind fun acc m => turns f one n (i + 1) acc m
/-- is it what the method is of -/
def recv (me : Me) (m : Hm) (x : D) : Bool := match me with
  | .get => match deref m x with | some (.dct _ _) => true | _ => false
  | _ => match deref m x with | some (.lst _) => true | _ => false
def argsOf : D → Option (List D)
  | .tup xs => some xs
  | _ => none
def withArgs (d : D) (f : List D → Out D) : Out D := match d with
  | .tup xs => f xs
  | _ => .bad
def ifB (d : D) (t e : Out D) : Out D := match d with
  | .bl true => t
  | .bl false => e
  | _ => .bad
def pick (xs : List D) : List Nat → List D
  | [] => []
  | i :: is => xs.getD i .non :: pick xs is

/-- what comes out alike, whatever the places -/
noncomputable def agree (h : Nat → Nat → List L2.V → Out D) : Out D := open Classical in if ∀ f c vs, h f c vs = h 0 0 [] then h 0 0 [] else .bad
def gets (ρ : Env) : List Nat → Option (List D)
  | [] => some []
  | i :: is => match get ρ i, gets ρ is with
    | some d, some ds => some (d :: ds)
    | _, _ => none
/-- .. whatever the object and the entries of the dict that is walked -/
noncomputable def agreeU (h : (Unit → PySem.Obj × List (L2.Key × L2.V)) → Out D) : Out D := open Classical in if e : ∃ x, ∀ u, h u = x then e.choose else .bad
/-- a dict's keys, while it is locked -/
noncomputable def lkd (k : Nat) (u : Unit → PySem.Obj × List (L2.Key × L2.V)) (ks : List D) : Nx := fun i m => open Classical in if m[k]? = some (.lck u) then some ks[i]? else none
/-- behind the walk: the dict as it was -/
noncomputable def unlk (k : Nat) (u : Unit → PySem.Obj × List (L2.Key × L2.V)) (d : D) (x : D) (m : Hm) : Out D := open Classical in if m[k]? = some (.lck u) then .ok x (m.set k d) else .bad
noncomputable section
def ev (C : Cf) : E → Env → Hm → Out D
  | .var i, ρ, m => okD (get ρ i) m
  | .con d, _, m => .ok d m
  | .nil, _, m => .ok (.tup []) m
  | .cons a r, ρ, m => (ev C a ρ m).bind fun x m => (ev C r ρ m).bind fun y m => withArgs y fun ys => .ok (.tup (x :: ys)) m
  | .tup a, ρ, m => (ev C a ρ m).bind fun x m => withArgs x fun xs => let p := homes xs m; .ok (.tup p.1) p.2
  | .lst a, ρ, m => (ev C a ρ m).bind fun x m => withArgs x fun xs => let p := homes xs m; .ok (.lst p.1) p.2
  | .dct a, ρ, m => (ev C a ρ m).bind fun x m => withArgs x fun xs => match xs with
    | [] => .ok (.dct [] []) m
    | [k, v] => if isKey k && pur 40 k then let p := home v m; .ok (.dct [k] [p.1]) p.2 else .bad
    | _ => .bad
  | .bin op a b, ρ, m => (ev C a ρ m).bind fun x m => (ev C b ρ m).bind fun y m => okD (binD op x y m) m
  | .neg a, ρ, m => (ev C a ρ m).bind fun x m => match x with
    | .int i => .ok (.int (-i)) m
    | _ => .bad
  | .cmp op a b, ρ, m => (ev C a ρ m).bind fun x m => (ev C b ρ m).bind fun y m => okB (cmpD op m x y) m
  | .chain p q a b c, ρ, m => (ev C a ρ m).bind fun x m => (ev C b ρ m).bind fun y m => (okB (cmpD p m x y) m).bind fun k m =>
      ifB k ((ev C c ρ m).bind fun z m => okB (cmpD q m y z) m) (.ok (.bl false) m)
  | .tand a b, ρ, m => (ev C a ρ m).bind fun x m => ifB x (ev C b ρ m) (.ok (.bl false) m)
  | .tor a b, ρ, m => (ev C a ρ m).bind fun x m => ifB x (.ok (.bl true) m) (ev C b ρ m)
  | .tnot a, ρ, m => (ev C a ρ m).bind fun x m => ifB x (.ok (.bl false) m) (.ok (.bl true) m)
  | .tru a, ρ, m => (ev C a ρ m).bind fun x m => okB (truth m x) m
  | .vand a b, ρ, m => (ev C a ρ m).bind fun x m => match truth m x with
    | some true => ev C b ρ m
    | some false => .ok x m
    | none => .bad
  | .vor a b, ρ, m => (ev C a ρ m).bind fun x m => match truth m x with
    | some true => .ok x m
    | some false => ev C b ρ m
    | none => .bad
  | .vnot a, ρ, m => (ev C a ρ m).bind fun x m => match truth m x with
    | some k => .ok (.bl !k) m
    | none => .bad
  | .ife t a b, ρ, m => (ev C t ρ m).bind fun x m => ifB x (ev C a ρ m) (ev C b ρ m)
  | .call f a, ρ, m => (ev C a ρ m).bind fun x m => withArgs x fun xs => let p := homes xs m; C.call f p.1 p.2
  | .callp f q ds a, ρ, m => (ev C a ρ m).bind fun x m => withArgs x fun xs => let p := homes xs m; C.call f (pick (p.1 ++ ds) q) p.2
  | .callc f a i q js r b, ρ, m => (ev C a ρ m).bind fun x m => withArgs x fun xs => let p := homes xs m; match gets ρ js with
    | some cs => agree fun g c vs => C.callc f (p.1.take i ++ .fn g c q cs vs :: p.1.drop i) (g, c, q, vs) (fun cs as m1 =>
      if as.length = 1 then (ev { C with base := m1.length, lam := none } b (as.map some ++ (cs.map some ++ List.replicate r none)) m1).bind fun d m2 => close m1.length d m2 else .bad) p.2
    | none => .bad
  | .callv i a, ρ, m => (ev C a ρ m).bind fun x m => withArgs x fun xs => let p := homes xs m; match get ρ i, C.lam with
    | some (.fn g c q cs vs), some (k, l) => open Classical in if (g, c, q, vs) = k then l cs p.1 p.2 else .bad
    | _, _ => .bad
  | .bi b a, ρ, m => (ev C a ρ m).bind fun x m => withArgs x fun xs => okD (biD b xs m) m
  | .isin a ts, ρ, m => (ev C a ρ m).bind fun x m => okB (isTys m x ts) m
  | .idx a b, ρ, m => (ev C a ρ m).bind fun x m => (ev C b ρ m).bind fun y m => okD (idxD x y m) m
  | .slc a lo hi, ρ, m => (ev C a ρ m).bind fun x m => (ev C lo ρ m).bind fun l m => (ev C hi ρ m).bind fun h m => okD (slcD x l h m) m
  | .slr a, ρ, m => .bad
  | .nd a, ρ, m => (ev C a ρ m).bind fun x m => match x with
    | .int i => .ok (.int i) m
    | _ => .bad
  | .meth me o a, ρ, m => (ev C o ρ m).bind fun x m => if recv me m x then (ev C a ρ m).bind fun y m => withArgs y fun ys => let p := homes ys m; match methD C.base me x p.1 p.2 with
    | some (d, m) => .ok d m
    | none => .bad
    else .bad
  | .comp k it tg c e own, ρ, m => (ev C it ρ m).bind fun x m => withArgs x fun xs => match src k xs m with
    | none => .bad
    | some (f, n) => if !isBig n then .bad else
      (turns f (fun d acc m => match assignT tg d (wipe ρ own) with
        | none => .bad
        | some ρ' => (ev C c ρ' m).bind fun t m => match t with
          | .bl true => (ev C e ρ' m).bind fun y m => let p := home y m; .ok (acc ++ [p.1]) p.2
          | .bl false => .ok acc m
          | _ => .bad) n 0 [] m).bind fun acc m => .ok (.lst acc) m
  | .compd i tg c e own, ρ, m => match get ρ i with
    | some (.adr k) => match m[k]? with
      | some (.dct ks vs) => if !isBig ks.length then .bad else agreeU fun u =>
        (turns (lkd k u ks) (fun d acc m => match assignT tg d (wipe ρ own) with
          | none => .bad
          | some ρ' => (ev C c ρ' m).bind fun t m => match t with
            | .bl true => (ev C e ρ' m).bind fun y m => let p := home y m; .ok (acc ++ [p.1]) p.2
            | .bl false => .ok acc m
            | _ => .bad) ks.length 0 [] (m.set k (.lck u))).bind fun acc m' => unlk k u (.dct ks vs) (.lst acc) m'
      | _ => .bad
    | _ => .bad
  | .comp2 .., _, _ => .bad
  | .dcomp .., _, _ => .bad
  | .scomp .., _, _ => .bad

/-- what a lambda does -/
abbrev lamG (C : Cf) (r : Nat) (b : E) : List D → List D → Hm → Out D := fun cs as m1 =>
  if as.length = 1 then (ev { C with base := m1.length, lam := none } b (as.map some ++ (cs.map some ++ List.replicate r none)) m1).bind fun d m2 => close m1.length d m2 else .bad
/-- how a statement ends -/
inductive Fl | nx | ret (d : D) | brk | cnt
/-- the turns of a for -/
def loop (f : Nx) (one : D → Env → Hm → Out (Fl × Env)) : Nat → Nat → Env → Hm → Out (Fl × Env)
  | n, i, ρ, m => match f i m with
    | none => .bad
    | some none => .ok (.nx, ρ) m
    | some (some d) => match n with
      | 0 => .bad
      | n + 1 => (one d ρ m).bind fun p m => match p.1 with
        | .nx => loop f one n (i + 1) p.2 m
        | .cnt => loop f one n (i + 1) p.2 m
        | .brk => .ok (.nx, p.2) m
        | .ret d => .ok (.ret d, p.2) m
def whl (t : Env → Hm → Out D) (one : Env → Hm → Out (Fl × Env)) : Nat → Env → Hm → Out (Fl × Env)
  | 0, _, _ => .bad
  | n + 1, ρ, m => (t ρ m).bind fun b m => match b with
    | .bl true => (one ρ m).bind fun p m => match p.1 with
      | .nx => whl t one n p.2 m
      | .cnt => whl t one n p.2 m
      | .brk => .ok (.nx, p.2) m
      | .ret d => .ok (.ret d, p.2) m
    | .bl false => .ok (.nx, ρ) m
    | _ => .bad
def ex (C : Cf) : S → Env → Hm → Out (Fl × Env)
  | .nil, ρ, m => .ok (.nx, ρ) m
  | .cons s r, ρ, m => (ex C s ρ m).bind fun p m => match p.1 with
    | .nx => ex C r p.2 m
    | _ => .ok p m
  | .asg t e, ρ, m => (ev C e ρ m).bind fun d m => let p := home d m; match assignT t p.1 ρ with
    | some ρ => .ok (.nx, ρ) p.2
    | none => .bad
  | .setix o i e, ρ, m => (ev C e ρ m).bind fun v m => let p := home v m; (ev C o ρ p.2).bind fun o m => (ev C i ρ m).bind fun i m => match setD C.base o i p.1 m with
    | some m => .ok (.nx, ρ) m
    | none => .bad
  | .aug i op e, ρ, m => match get ρ i with
    | some x => (ev C e ρ m).bind fun y m => match x, y with
      | .int a, .int b => match binI op a b with
        | some c => .ok (.nx, put ρ i (.int c)) m
        | none => .bad
      | _, _ => .bad
    | none => .bad
  | .augix .., _, _ => .bad
  | .exp e, ρ, m => (ev C e ρ m).bind fun _ m => .ok (.nx, ρ) m
  | .ret e, ρ, m => (ev C e ρ m).bind fun d m => .ok (.ret d, ρ) m
  | .retN, ρ, m => .ok (.ret .non, ρ) m
  | .ifs t a b, ρ, m => (ev C t ρ m).bind fun x m => match x with
    | .bl true => ex C a ρ m
    | .bl false => ex C b ρ m
    | _ => .bad
  | .fors k it t b, ρ, m => (ev C it ρ m).bind fun x m => match x with
    | .tup xs => match src k xs m with
      | none => .bad
      | some (f, n) => loop f (fun d ρ m => match assignT t d ρ with
        | none => .bad
        | some ρ => ex C b ρ m) n 0 ρ m
    | _ => .bad
  | .whil t b, ρ, m => whl (fun ρ m => ev C t ρ m) (fun ρ m => ex C b ρ m) C.wf ρ m
  | .brk, ρ, m => .ok (.brk, ρ) m
  | .cnt, ρ, m => .ok (.cnt, ρ) m
  | .pass, ρ, m => .ok (.nx, ρ) m

/-- a def: its parameters' number, its names' number, its body -/
structure Fd where
  np : Nat
  nn : Nat
  body : S
def begin (f : Fd) (a : List D) : Env := a.map some ++ List.replicate (f.nn - f.np) none
def finD (n : Nat) (p : Fl × Env) (m : Hm) : Out D := match p.1 with
  | .ret d => close n d m
  | .nx => close n .non m
  | .brk => .bad
  | .cnt => .bad
/-- a call, n calls deep at most; c: the lambda that is known, what it does -/
def callN (F : Nat → Option Fd) (wf : Nat) : Nat → Option (Fk × (List D → List D → Hm → Out D)) → Nat → List D → Hm → Out D
  | 0, _, _, _, _ => .bad
  | n + 1, c, f, a, m => match F f with
    | none => .bad
    | some fd => if a.length = fd.np then
        (ex { call := callN F wf n none, callc := fun f a k g m => callN F wf n (some (k, g)) f a m, lam := c, base := m.length, wf := wf } fd.body (begin fd a) m).bind fun p m' => finD m.length p m'
      else .bad
end
end Bell
end

section
set_option maxRecDepth 100000
/-! how Mini's values, heap and names stand to the model's -/
namespace Bell
open PySem PySem.Spec PyProof.Rows L2
/-- a list that is known to its object, or written: read, never changed -/
def FrL (K : PySem.W.Frag) (H : Hp) (a : Addr) (vs : List V) : Prop := (∃ o, H a = some (.frz o (.lst vs))) ∨ (∀ H', SqL K H' a vs)
theorem FrL.sq {K : PySem.W.Frag} {H : Hp} {a : Addr} {vs : List V} (h : FrL K H a vs) : SqL K H a vs := by
  rcases h with ⟨o, h⟩ | h
  · exact .inl (.inr ⟨o, h⟩)
  · exact h H
mutual
inductive RS (K : PySem.W.Frag) (φ : List Addr) (H : Hp) : D → V → Prop
  | non : RS K φ H .non .non
  | bl (b : Bool) : RS K φ H (.bl b) (.bl b)
  | int (i : Int) : RS K φ H (.int i) (.int i)
  | str (x : Str) : RS K φ H (.str x) (.str x)
  | tup {a : Addr} {xs : List D} {vs : List V} : SqT K H a vs → RSs K φ H xs vs → RS K φ H (.tup xs) (.ref a)
  | adr {a : Addr} {k : Nat} : φ[k]? = some a → RS K φ H (.adr k) (.ref a)
  | fro {a : Addr} {xs : List D} {vs : List V} : FrL K H a vs → RSs K φ H xs vs → RS K φ H (.fro xs) (.ref a)
  | fn {f c : Addr} {q : Str} {xs : List D} {vs : List V} : H c = some (LamX.CodeO c q) → RSs K φ H xs vs → RS K φ H (.fn f c q xs vs) (.ref f)
inductive RSs (K : PySem.W.Frag) (φ : List Addr) (H : Hp) : List D → List V → Prop
  | nil : RSs K φ H [] []
  | cons {x : D} {xs : List D} {v : V} {vs : List V} : RS K φ H x v → RSs K φ H xs vs → RSs K φ H (x :: xs) (v :: vs)
end
section
variable {K : PySem.W.Frag} {φ φ' : List Addr} {H H' : Hp}
theorem RSs.length : ∀ {xs : List D} {vs : List V}, RSs K φ H xs vs → xs.length = vs.length
  | _, _, .nil => rfl
  | _, _, .cons _ t => congrArg (· + 1) t.length
theorem RSs.app : ∀ {xs ys : List D} {vs ws : List V}, RSs K φ H xs vs → RSs K φ H ys ws → RSs K φ H (xs ++ ys) (vs ++ ws)
  | _, _, _, _, .nil, s => s
  | _, _, _, _, .cons r t, s => .cons r (t.app s)
theorem RSs.get : ∀ {xs : List D} {vs : List V} {i : Nat} {x : D}, RSs K φ H xs vs → xs[i]? = some x → ∃ v, vs[i]? = some v ∧ RS K φ H x v
  | _, _, _, _, .nil, e => by simp at e
  | _, _, 0, _, .cons r _, e => by simp at e; subst e; exact ⟨_, rfl, r⟩
  | _, _, i + 1, x, .cons _ t, e => by
    obtain ⟨u, h1, h2⟩ := RSs.get (i := i) (x := x) t (by simpa using e)
    exact ⟨u, by simpa using h1, h2⟩
theorem RSs.set {x : D} {v : V} (r : RS K φ H x v) : ∀ {xs : List D} {vs : List V} (i : Nat), RSs K φ H xs vs → RSs K φ H (xs.set i x) (vs.set i v)
  | _, _, _, .nil => .nil
  | _, _, 0, .cons _ t => .cons r t
  | _, _, i + 1, .cons q t => .cons q (t.set r i)
theorem RSs.take : ∀ {xs : List D} {vs : List V} (n : Nat), RSs K φ H xs vs → RSs K φ H (xs.take n) (vs.take n)
  | _, _, 0, _ => .nil
  | _, _, _ + 1, .nil => .nil
  | _, _, n + 1, .cons r t => .cons r (t.take n)
theorem RSs.drop : ∀ {xs : List D} {vs : List V} (n : Nat), RSs K φ H xs vs → RSs K φ H (xs.drop n) (vs.drop n)
  | _, _, 0, r => r
  | _, _, _ + 1, .nil => .nil
  | _, _, n + 1, .cons _ t => t.drop n
theorem RSs.nil_iff {xs : List D} {vs : List V} (r : RSs K φ H xs vs) : xs = [] ↔ vs = [] := by
  cases r <;> simp
theorem RSs.of_ints : ∀ {xs : List D} {vs : List V} {ns : List Int}, RSs K φ H xs vs → asInts xs = some ns → vs = ns.map V.int ∧ xs = ns.map D.int
  | _, _, ns, .nil, e => by simp [asInts] at e; subst e; exact ⟨rfl, rfl⟩
  | _, _, ns, .cons (x := x) (xs := xs) r t, e => by
    cases r with
    | int i =>
      unfold asInts at e
      cases q : asInts xs with
      | none => rw [q] at e; cases e
      | some a =>
        rw [q] at e
        simp at e
        subst e
        obtain ⟨h1, h2⟩ := t.of_ints q
        exact ⟨by rw [h1]; rfl, by rw [h2]; rfl⟩
    | _ => simp [asInts] at e
theorem RSs.of_bools : ∀ {xs : List D} {vs : List V} {ns : List Bool}, RSs K φ H xs vs → asBools xs = some ns → vs = ns.map V.bl
  | _, _, ns, .nil, e => by simp [asBools] at e; subst e; rfl
  | _, _, ns, .cons (x := x) (xs := xs) r t, e => by
    cases r with
    | bl i =>
      unfold asBools at e
      cases q : asBools xs with
      | none => rw [q] at e; cases e
      | some a =>
        rw [q] at e
        simp at e
        subst e
        rw [t.of_bools q]
        rfl
    | _ => simp [asBools] at e
theorem RSs.ofI : ∀ (ns : List Int), RSs K φ H (ns.map D.int) (ns.map V.int)
  | [] => .nil
  | i :: ns => .cons (.int i) (RSs.ofI ns)
end
/-- what stands in the heap for an object -/
inductive RO (K : PySem.W.Frag) (φ : List Addr) (H : Hp) : D → HO → Prop
  | lst {xs : List D} {vs : List V} : RSs K φ H xs vs → RO K φ H (.lst xs) (.lst vs)
  | dK {ks vs : List D} {kvs : List (Key × V)} : RSs K φ H ks (kvs.map fun p => kV p.1) → RSs K φ H vs (kvs.map Prod.snd) → RO K φ H (.dct ks vs) (.dK kvs)
  | lck {u : Unit → Obj × List (Key × V)} : RO K φ H (.lck u) (.frz (u ()).1 (.dK (u ()).2))
/-- the defs that make lambdas -/
def lamNames : List Str := ["other_condition", "only_bells", "stands_for", "all_of", "some_of", "ranks_of", "pairs_of", "just_many"]
/-- the tables of their code objects, the lambdas' name -/
def tabsOf (K : PySem.W.Frag) : List (Addr × Str) := lamNames.filterMap fun x => match PySem.W.nsIn K mainGlobals x with
  | some (some (.ref _)) => some ((He.cT K (x, none)).2, x ++ (".<locals>." : Str) ++ ("<lambda>" : Str))
  | _ => none
open LamX (Tabs TabS CodeO)
/-- an object that is no table and tells no code object is written -/
theorem tabs_upd {T : List (Addr × Str)} {H : Hp} {p : Addr} {o : HO} (h : ∀ u, H p = some u → (∀ ps, u ≠ .tbl ps) ∧ ∀ φ, u ≠ .ext φ) (t : Tabs T H) : Tabs T (upd H p o) := by
  intro q hq
  obtain ⟨ps, h1, h2, h3⟩ := t q hq
  refine ⟨ps, ?_, h2, fun pos cv hc => ?_⟩
  · rw [upd_ne (fun z => by rw [z] at h1; exact (h _ h1).1 _ rfl)]
    exact h1
  · obtain ⟨c, e1, e2⟩ := h3 pos cv hc
    refine ⟨c, e1, ?_⟩
    rw [upd_ne (fun z => by rw [z] at e2; exact (h _ e2).2 _ rfl)]
    exact e2
structure RelH (K : PySem.W.Frag) (base : Nat) (L : Nat → Nat) (φ : List Addr) (m : Hm) (H : Hp) : Prop where
  len : φ.length = m.length
  nd : φ.Nodup
  bs : base ≤ m.length
  lim : ∀ i, i < base → i ≤ L i ∧ L i ≤ base
  old : ∀ i o, i < base → m[i]? = some o → ∃ p ho, φ[i]? = some p ∧ H p = some ho ∧ RO K (φ.take (L i)) H o ho
  new : ∀ i o, base ≤ i → m[i]? = some o → ∃ p ho, φ[i]? = some p ∧ H p = some ho ∧ RO K φ H o ho
  tabs : Tabs (tabsOf K) H
structure Step (φ : List Addr) (H : Hp) (φ' : List Addr) (H' : Hp) : Prop where
  pre : φ <+: φ'
  dom : ∀ p, H p ≠ none → H' p ≠ none
  keep : ∀ p o, H p = some o → p ∉ φ → (∀ ps, o ≠ .tbl ps) → H' p = some o ∧ p ∉ φ'
  kout : ∀ p, H p ≠ none → p ∉ φ → p ∉ φ'
theorem Step.refl (φ : List Addr) (H : Hp) : Step φ H φ H := ⟨List.prefix_refl _, fun _ h => h, fun _ _ h n _ => ⟨h, n⟩, fun _ _ n => n⟩
theorem Step.trans {φ φ1 φ2 : List Addr} {H H1 H2 : Hp} (a : Step φ H φ1 H1) (b : Step φ1 H1 φ2 H2) : Step φ H φ2 H2 :=
  ⟨a.pre.trans b.pre, fun p h => b.dom p (a.dom p h), fun p o h n t => by
    obtain ⟨h1, n1⟩ := a.keep p o h n t
    exact b.keep p o h1 n1 t, fun p h n => b.kout p (a.dom p h) (a.kout p h n)⟩
theorem Step.free {φ φ' : List Addr} {H H' : Hp} (a : Step φ H φ' H') {p : Addr} (h : H' p = none) : H p = none := by
  cases q : H p with
  | none => rfl
  | some o => exact absurd h (a.dom p (by rw [q]; simp))
theorem Step.new {φ : List Addr} {H : Hp} {p : Addr} {o : HO} (h : H p = none) : Step φ H φ (upd H p o) :=
  ⟨List.prefix_refl _, fun b hb => by
    by_cases e : b = p
    · rw [e, upd_same]; simp
    · rw [upd_ne e]; exact hb, fun b u e n _ => ⟨by rw [upd_ne (ne_of_none e h)]; exact e, n⟩, fun _ _ n => n⟩
section
variable {K : PySem.W.Frag} {base : Nat} {L : Nat → Nat} {φ φ' : List Addr} {m m' : Hm} {H H' : Hp}
/-- mutable things -/
theorem RelH.kind (R : RelH K base L φ m H) {p : Addr} (hp : p ∈ φ) : ∃ ho, H p = some ho ∧ (∀ vs, ho ≠ .tup vs) ∧ (∀ o vs, ho ≠ .frz o (.tup vs) ∧ ho ≠ .frz o (.lst vs)) ∧ (∀ ps, ho ≠ .tbl ps) ∧ ∀ φ, ho ≠ .ext φ := by
  obtain ⟨i, hi, e⟩ := List.mem_iff_getElem.mp hp
  have hi' : i < m.length := by rw [← R.len]; exact hi
  have e' : φ[i]? = some p := by rw [List.getElem?_eq_getElem hi, e]
  have fin : ∀ {φ2 : List Addr} {o : D} {ho : HO}, RO K φ2 H o ho → (∀ vs, ho ≠ .tup vs) ∧ (∀ ob vs, ho ≠ .frz ob (.tup vs) ∧ ho ≠ .frz ob (.lst vs)) ∧ (∀ ps, ho ≠ .tbl ps) ∧ ∀ φ, ho ≠ .ext φ := fun r => by
    cases r with
    | lst r => exact ⟨(fun _ z => by cases z), (fun _ _ => ⟨fun z => (by cases z), fun z => by cases z⟩), (fun _ z => by cases z), fun _ z => by cases z⟩
    | dK r s => exact ⟨(fun _ z => by cases z), (fun _ _ => ⟨fun z => (by cases z), fun z => by cases z⟩), (fun _ z => by cases z), fun _ z => by cases z⟩
    | lck => exact ⟨(fun _ z => by cases z), (fun _ _ => ⟨fun z => (by cases z), fun z => by cases z⟩), (fun _ z => by cases z), fun _ z => by cases z⟩
  by_cases hb : i < base
  · obtain ⟨q, ho, h1, h2, h3⟩ := R.old i m[i] hb (List.getElem?_eq_getElem hi')
    rw [e'] at h1
    cases h1
    exact ⟨ho, h2, fin h3⟩
  · obtain ⟨q, ho, h1, h2, h3⟩ := R.new i m[i] (by omega) (List.getElem?_eq_getElem hi')
    rw [e'] at h1
    cases h1
    exact ⟨ho, h2, fin h3⟩
theorem SqT.step (R : RelH K base L φ m H) (s : Step φ H φ' H') {a : Addr} {vs : List V} (h : SqT K H a vs) : SqT K H' a vs := by
  have no : ∀ {o : HO}, H a = some o → (o = .tup vs ∨ ∃ ob, o = .frz ob (.tup vs)) → a ∉ φ := fun {o} e d hp => by
    obtain ⟨ho, e1, n1, n2, _⟩ := R.kind hp
    rw [e] at e1
    cases e1
    rcases d with d | ⟨ob, d⟩
    · exact n1 _ d
    · exact (n2 _ _).1 d
  rcases h with (h | ⟨o, h⟩) | h
  · exact .inl (.inl (s.keep a _ h (no h (.inl rfl)) (fun _ z => by cases z)).1)
  · exact .inl (.inr ⟨o, (s.keep a _ h (no h (.inr ⟨o, rfl⟩)) (fun _ z => by cases z)).1⟩)
  · exact .inr h
theorem FrL.step (R : RelH K base L φ m H) (s : Step φ H φ' H') {a : Addr} {vs : List V} (h : FrL K H a vs) : FrL K H' a vs := by
  rcases h with ⟨o, h⟩ | h
  · refine .inl ⟨o, (s.keep a _ h (fun hp => ?_) (fun _ z => by cases z)).1⟩
    obtain ⟨ho, e1, n1, n2, _⟩ := R.kind hp
    rw [h] at e1
    cases e1
    exact (n2 _ _).2 rfl
  · exact .inr h
/-- what is read stays -/
structure Kp (K : PySem.W.Frag) (H H' : Hp) : Prop where
  t : ∀ a vs, SqT K H a vs → SqT K H' a vs
  f : ∀ a vs, FrL K H a vs → FrL K H' a vs
  c : ∀ c q, H c = some (LamX.CodeO c q) → H' c = some (LamX.CodeO c q)
theorem Kp.refl (K : PySem.W.Frag) (H : Hp) : Kp K H H := ⟨fun _ _ h => h, fun _ _ h => h, fun _ _ h => h⟩
theorem Kp.step (R : RelH K base L φ m H) (s : Step φ H φ' H') : Kp K H H' := ⟨fun _ _ h => SqT.step R s h, fun _ _ h => FrL.step R s h, fun c q h => (s.keep c _ h (fun hp => by
  obtain ⟨ho, e1, _, _, _, n3⟩ := R.kind hp
  rw [h] at e1
  cases e1
  exact n3 _ rfl) LamX.codeO_ne).1⟩
theorem get_pre {α : Type} {l l' : List α} (h : l <+: l') {i : Nat} {x : α} (e : l[i]? = some x) : l'[i]? = some x := by
  obtain ⟨t, rfl⟩ := h
  rw [List.getElem?_append_left (List.getElem?_eq_some_iff.mp e).1]
  exact e
mutual
theorem RS.mono (hT : Kp K H H') (hp : φ <+: φ') : ∀ {d : D} {v : V}, RS K φ H d v → RS K φ' H' d v
  | _, _, .non => .non
  | _, _, .bl b => .bl b
  | _, _, .int i => .int i
  | _, _, .str x => .str x
  | _, _, .tup h r => .tup (hT.t _ _ h) (RSs.mono hT hp r)
  | _, _, .adr e => .adr (get_pre hp e)
  | _, _, .fro h r => .fro (hT.f _ _ h) (RSs.mono hT hp r)
  | _, _, .fn h r => .fn (hT.c _ _ h) (RSs.mono hT hp r)
theorem RSs.mono (hT : Kp K H H') (hp : φ <+: φ') : ∀ {d : List D} {v : List V}, RSs K φ H d v → RSs K φ' H' d v
  | _, _, .nil => .nil
  | _, _, .cons r t => .cons (RS.mono hT hp r) (RSs.mono hT hp t)
end
theorem RS.step (R : RelH K base L φ m H) (s : Step φ H φ' H') {d : D} {v : V} (r : RS K φ H d v) : RS K φ' H' d v := r.mono (Kp.step R s) s.pre
theorem RSs.step (R : RelH K base L φ m H) (s : Step φ H φ' H') {d : List D} {v : List V} (r : RSs K φ H d v) : RSs K φ' H' d v := r.mono (Kp.step R s) s.pre
mutual
/-- what lies below n is told by the first n places -/
theorem RS.low {n : Nat} : ∀ {d : D} {v : V}, RS K φ H d v → below n d = true → RS K (φ.take n) H d v
  | _, _, .non, _ => .non
  | _, _, .bl b, _ => .bl b
  | _, _, .int i, _ => .int i
  | _, _, .str x, _ => .str x
  | _, _, .tup h r, b => .tup h (RSs.low r (by unfold Bell.below at b; exact b))
  | _, _, .adr (k := k) e, b => .adr (by
    unfold Bell.below at b
    have hk : k < n := of_decide_eq_true b
    rw [List.getElem?_take, if_pos hk]
    exact e)
  | _, _, .fro h r, b => .fro h (RSs.low r (by unfold Bell.below at b; exact b))
  | _, _, .fn h r, b => .fn h (RSs.low r (by unfold Bell.below at b; exact b))
theorem RSs.low {n : Nat} : ∀ {d : List D} {v : List V}, RSs K φ H d v → belows n d = true → RSs K (φ.take n) H d v
  | _, _, .nil, _ => .nil
  | _, _, .cons r t, b => by
    unfold belows at b
    rw [Bool.and_eq_true] at b
    exact .cons (RS.low r b.1) (RSs.low t b.2)
end
theorem RO.mono (hT : Kp K H H') (hp : φ <+: φ') {d : D} {o : HO} (r : RO K φ H d o) : RO K φ' H' d o := by
  cases r with
  | lst r => exact .lst (r.mono hT hp)
  | dK r s => exact .dK (r.mono hT hp) (s.mono hT hp)
  | lck => exact .lck
theorem take_pre {α : Type} {l l' : List α} (h : l <+: l') (n : Nat) : l.take n <+: l'.take n := by
  obtain ⟨t, rfl⟩ := h
  rw [List.take_append]
  exact List.prefix_append _ _
/-- an object is looked up, whatever its age -/
theorem RelH.at (R : RelH K base L φ m H) {i : Nat} {o : D} (e : m[i]? = some o) : ∃ p ho, φ[i]? = some p ∧ H p = some ho ∧ RO K φ H o ho := by
  by_cases hb : i < base
  · obtain ⟨p, ho, h1, h2, h3⟩ := R.old i o hb e
    exact ⟨p, ho, h1, h2, h3.mono (Kp.refl _ _) (List.take_prefix _ _)⟩
  · exact R.new i o (by omega) e
/-- a value on its way: it is untracked by Mini and new since H0 -/
inductive RV (K : PySem.W.Frag) (φ : List Addr) (H0 H : Hp) : D → V → Prop
  | st {d : D} {v : V} : RS K φ H d v → RV K φ H0 H d v
  | tmp {d : D} {p : Addr} {ho : HO} : H p = some ho → p ∉ φ → H0 p = none → (∀ xs, d ≠ .fro xs) → RO K φ H d ho → RV K φ H0 H d (.ref p)
theorem RV.step {H0 : Hp} (R : RelH K base L φ m H) (s : Step φ H φ' H') {d : D} {v : V} (r : RV K φ H0 H d v) : RV K φ' H0 H' d v := by
  cases r with
  | st r => exact .st (r.step R s)
  | tmp h n f z q =>
    obtain ⟨h1, n1⟩ := s.keep _ _ h n (fun _ e => by rw [e] at q; cases q)
    exact .tmp h1 n1 f z (q.mono (Kp.step R s) s.pre)
theorem RV.older {H0 H1 : Hp} (h : ∀ p, H1 p = none → H0 p = none) {d : D} {v : V} (r : RV K φ H1 H d v) : RV K φ H0 H d v := by
  cases r with
  | st r => exact .st r
  | tmp a b c z q => exact .tmp a b (h _ c) z q
/-- an object is new, and untracked by Mini -/
theorem RelH.alloc (R : RelH K base L φ m H) {p : Addr} {o : HO} (h : H p = none) : RelH K base L φ m (upd H p o) := by
  have s : Step φ H φ (upd H p o) := .new h
  have hT : Kp K H (upd H p o) := Kp.step R s
  refine ⟨R.len, R.nd, R.bs, R.lim, fun i d hi e => ?_, fun i d hi e => ?_, tabs_upd (fun u z => by rw [h] at z; cases z) R.tabs⟩
  · obtain ⟨q, ho, h1, h2, h3⟩ := R.old i d hi e
    exact ⟨q, ho, h1, by rw [upd_ne (ne_of_none h2 h)]; exact h2, h3.mono hT (List.prefix_refl _)⟩
  · obtain ⟨q, ho, h1, h2, h3⟩ := R.new i d hi e
    exact ⟨q, ho, h1, by rw [upd_ne (ne_of_none h2 h)]; exact h2, h3.mono hT (List.prefix_refl _)⟩
/-- an object that is not Mini's is written -/
theorem RelH.other (R : RelH K base L φ m H) {p : Addr} {o : HO} (h : p ∉ φ) (hT : Kp K H (upd H p o)) (hB : Tabs (tabsOf K) (upd H p o)) : RelH K base L φ m (upd H p o) := by
  refine ⟨R.len, R.nd, R.bs, R.lim, fun i d hi e => ?_, fun i d hi e => ?_, hB⟩
  · obtain ⟨q, ho, h1, h2, h3⟩ := R.old i d hi e
    exact ⟨q, ho, h1, by rw [upd_ne (fun z => h (by rw [← z]; exact List.mem_of_getElem? h1))]; exact h2, h3.mono hT (List.prefix_refl _)⟩
  · obtain ⟨q, ho, h1, h2, h3⟩ := R.new i d hi e
    exact ⟨q, ho, h1, by rw [upd_ne (fun z => h (by rw [← z]; exact List.mem_of_getElem? h1))]; exact h2, h3.mono hT (List.prefix_refl _)⟩
/-- a thing on its way gets a place -/
theorem RelH.home (R : RelH K base L φ m H) {p : Addr} {ho : HO} {d : D} (h : H p = some ho) (n : p ∉ φ) (r : RO K φ H d ho) : RelH K base L (φ ++ [p]) (m ++ [d]) H := by
  have hp : φ <+: φ ++ [p] := List.prefix_append _ _
  refine ⟨by rw [List.length_append, List.length_append, R.len]; rfl, List.nodup_append.mpr ⟨R.nd, by simp, fun a ha b hb => by simp at hb; subst hb; exact fun e => n (e ▸ ha)⟩, by rw [List.length_append]; have := R.bs; omega, R.lim, fun i o hi e => ?_, fun i o hi e => ?_, R.tabs⟩
  · have hi' : i < m.length := Nat.lt_of_lt_of_le hi R.bs
    rw [List.getElem?_append_left hi'] at e
    obtain ⟨q, ho', h1, h2, h3⟩ := R.old i o hi e
    exact ⟨q, ho', get_pre hp h1, h2, h3.mono (Kp.refl _ _) (take_pre hp _)⟩
  · by_cases hi' : i < m.length
    · rw [List.getElem?_append_left hi'] at e
      obtain ⟨q, ho', h1, h2, h3⟩ := R.new i o hi e
      exact ⟨q, ho', get_pre hp h1, h2, h3.mono (Kp.refl _ _) hp⟩
    · rw [List.getElem?_append_right (by omega)] at e
      have e0 : i - m.length = 0 := by
        cases q : i - m.length with
        | zero => rfl
        | succ k => rw [q] at e; simp at e
      rw [e0] at e
      simp at e
      subst e
      refine ⟨p, ho, ?_, h, r.mono (Kp.refl _ _) hp⟩
      rw [List.getElem?_append_right (by rw [R.len]; omega), R.len, e0]
      rfl
/-- an object of Mini's is written -/
theorem RelH.write (R : RelH K base L φ m H) {k : Nat} {p : Addr} {d : D} {ho : HO} (e : φ[k]? = some p)
    (r : (k < base → RO K (φ.take (L k)) H d ho) ∧ (base ≤ k → RO K φ H d ho)) : RelH K base L φ (m.set k d) (upd H p ho) ∧ Step φ H φ (upd H p ho) := by
  have hk : k < φ.length := (List.getElem?_eq_some_iff.mp e).1
  have hpm : p ∈ φ := List.mem_of_getElem? e
  have s : Step φ H φ (upd H p ho) := ⟨List.prefix_refl _, fun b hb => by
      by_cases q : b = p
      · rw [q, upd_same]; simp
      · rw [upd_ne q]; exact hb, fun b u q n _ => ⟨by rw [upd_ne (show b ≠ p from fun z => n (by rw [z]; exact hpm))]; exact q, n⟩, fun _ _ n => n⟩
  have hT : Kp K H (upd H p ho) := Kp.step R s
  have inj : ∀ {i : Nat}, φ[i]? = some p → i = k := fun {i} q => by
    have hi : i < φ.length := (List.getElem?_eq_some_iff.mp q).1
    exact (List.getElem?_inj hi R.nd).mp (q.trans e.symm)
  refine ⟨⟨by rw [List.length_set]; exact R.len, R.nd, by rw [List.length_set]; exact R.bs, R.lim, fun i o hi q => ?_, fun i o hi q => ?_, tabs_upd (fun u z => by obtain ⟨ho, e1, _, _, n3, n4⟩ := R.kind hpm; rw [e1] at z; cases z; exact ⟨n3, n4⟩) R.tabs⟩, s⟩
  · by_cases hik : i = k
    · subst hik
      rw [List.getElem?_set_self (by rw [← R.len]; exact hk)] at q
      cases q
      exact ⟨p, ho, e, upd_same, (r.1 hi).mono hT (List.prefix_refl _)⟩
    · rw [List.getElem?_set_ne (Ne.symm hik)] at q
      obtain ⟨b, ho', h1, h2, h3⟩ := R.old i o hi q
      exact ⟨b, ho', h1, by rw [upd_ne (show b ≠ p from fun z => hik (inj (by rw [← z]; exact h1)))]; exact h2, h3.mono hT (List.prefix_refl _)⟩
  · by_cases hik : i = k
    · subst hik
      rw [List.getElem?_set_self (by rw [← R.len]; exact hk)] at q
      cases q
      exact ⟨p, ho, e, upd_same, (r.2 hi).mono hT (List.prefix_refl _)⟩
    · rw [List.getElem?_set_ne (Ne.symm hik)] at q
      obtain ⟨b, ho', h1, h2, h3⟩ := R.new i o hi q
      exact ⟨b, ho', h1, by rw [upd_ne (show b ≠ p from fun z => hik (inj (by rw [← z]; exact h1)))]; exact h2, h3.mono hT (List.prefix_refl _)⟩
end
/-- the names -/
def RelE (K : PySem.W.Frag) (φ : List Addr) (H : Hp) (ρ : Env) (σ : L2.St) : Prop := ρ.length = σ.length ∧ ∀ i d, get ρ i = some d → ∃ v, σ[i]? = some (some v) ∧ RS K φ H d v
theorem get_len : ∀ {ρ : Env} {i : Nat} {d : D}, get ρ i = some d → i < ρ.length
  | [], _, _, h => by simp [get] at h
  | x :: xs, 0, _, _ => by simp
  | x :: xs, n + 1, d, h => by
    have := get_len (ρ := xs) (i := n) (d := d) (by simpa [get] using h)
    simpa using this
theorem put_length : ∀ (ρ : Env) (i : Nat) (d : D), (put ρ i d).length = ρ.length
  | [], _, _ => rfl
  | _ :: xs, 0, _ => rfl
  | x :: xs, n + 1, d => by simp [put, put_length xs n d]
theorem clr_length : ∀ (ρ : Env) (i : Nat), (clr ρ i).length = ρ.length
  | [], _ => rfl
  | _ :: xs, 0 => rfl
  | x :: xs, n + 1 => by simp [clr, clr_length xs n]
theorem get_put_self : ∀ {ρ : Env} {i : Nat} {d d' : D}, get (put ρ i d) i = some d' → d' = d
  | [], _, _, _, h => by simp [put, get] at h
  | _ :: xs, 0, _, _, h => by simp [put, get] at h; exact h.symm
  | x :: xs, n + 1, d, d', h => get_put_self (ρ := xs) (i := n) (by simpa [put, get] using h)
theorem get_put_ne : ∀ {ρ : Env} {i j : Nat} {d : D}, j ≠ i → get (put ρ i d) j = get ρ j
  | [], _, _, _, _ => rfl
  | _ :: xs, 0, 0, _, h => absurd rfl h
  | _ :: xs, 0, j + 1, _, h => rfl
  | x :: xs, n + 1, 0, d, h => rfl
  | x :: xs, n + 1, j + 1, d, h => by
    show get (put xs n d) j = get xs j
    exact get_put_ne (fun e => h (congrArg (· + 1) e))
theorem get_clr_self : ∀ {ρ : Env} {i : Nat}, get (clr ρ i) i = none
  | [], _ => rfl
  | _ :: xs, 0 => rfl
  | x :: xs, n + 1 => get_clr_self (ρ := xs) (i := n)
theorem get_clr_ne : ∀ {ρ : Env} {i j : Nat}, j ≠ i → get (clr ρ i) j = get ρ j
  | [], _, _, _ => rfl
  | _ :: xs, 0, 0, h => absurd rfl h
  | _ :: xs, 0, j + 1, h => rfl
  | x :: xs, n + 1, 0, h => rfl
  | x :: xs, n + 1, j + 1, h => by
    show get (clr xs n) j = get xs j
    exact get_clr_ne (fun e => h (congrArg (· + 1) e))
section
variable {K : PySem.W.Frag} {base : Nat} {L : Nat → Nat} {φ φ' : List Addr} {m m' : Hm} {H H' : Hp} {ρ : Env} {σ : L2.St}
theorem RelE.step (R : RelH K base L φ m H) (s : Step φ H φ' H') (r : RelE K φ H ρ σ) : RelE K φ' H' ρ σ :=
  ⟨r.1, fun i d e => by
    obtain ⟨v, h1, h2⟩ := r.2 i d e
    exact ⟨v, h1, h2.step R s⟩⟩
theorem RelE.put (r : RelE K φ H ρ σ) {i : Nat} {d : D} {v : V} (h : RS K φ H d v) : RelE K φ H (put ρ i d) (σ.set i (some v)) := by
  refine ⟨by rw [put_length, List.length_set]; exact r.1, fun j d' e => ?_⟩
  by_cases hj : j = i
  · subst hj
    have := get_put_self e
    subst this
    have hl := get_len e
    rw [put_length, r.1] at hl
    exact ⟨v, by rw [List.getElem?_set_self hl], h⟩
  · rw [get_put_ne hj] at e
    obtain ⟨w, h1, h2⟩ := r.2 j d' e
    exact ⟨w, by rw [List.getElem?_set_ne (Ne.symm hj)]; exact h1, h2⟩
theorem RelE.clr (r : RelE K φ H ρ σ) (i : Nat) : RelE K φ H (clr ρ i) (σ.set i none) := by
  refine ⟨by rw [clr_length, List.length_set]; exact r.1, fun j d' e => ?_⟩
  by_cases hj : j = i
  · subst hj
    rw [get_clr_self] at e
    cases e
  · rw [get_clr_ne hj] at e
    obtain ⟨w, h1, h2⟩ := r.2 j d' e
    exact ⟨w, by rw [List.getElem?_set_ne (Ne.symm hj)]; exact h1, h2⟩
theorem RelE.wipe (r : RelE K φ H ρ σ) : ∀ is : List Nat, RelE K φ H (wipe ρ is) (L2.wipe σ is)
  | [] => r
  | i :: is => (r.wipe is).clr i
end
end Bell
end

section
set_option maxRecDepth 100000
/-! each operation of Mini is one of the layer's, by values -/
namespace Bell
open PySem PySem.Spec PyProof.Rows L2
section
variable {K : PySem.W.Frag} {base : Nat} {L : Nat → Nat} {φ φ' : List Addr} {m m' : Hm} {H H0 H' : Hp}
/-- what is wanted of a value that comes out -/
def QV (K : PySem.W.Frag) (base : Nat) (L : Nat → Nat) (φ : List Addr) (H0 H : Hp) (m : Hm) (d : D) (Q : VK) : Prop :=
  ∀ φ' v H', RelH K base L φ' m H' → Step φ H φ' H' → RV K φ' H0 H' d v → Q v H'
theorem QV.here {d : D} {Q : VK} (q : QV K base L φ H0 H m d Q) (R : RelH K base L φ m H) {v : V} (r : RV K φ H0 H d v) : Q v H := q φ v H R (.refl _ _) r
theorem QV.stay {d : D} {Q : VK} (q : QV K base L φ H0 H m d Q) (R : RelH K base L φ m H) {v : V} (r : RS K φ H d v) : Q v H := q.here R (.st r)
/-- a new object comes out, untracked by Mini -/
theorem QV.new {d : D} {Q : VK} (q : QV K base L φ H0 H m d Q) (R : RelH K base L φ m H) (hd : ∀ p, H p = none → H0 p = none) {p : Addr} {ho : HO} (h : H p = none) (z : ∀ xs, d ≠ .fro xs) (r : RO K φ H d ho) : Q (.ref p) (upd H p ho) := by
  have s : Step φ H φ (upd H p ho) := .new h
  refine q φ (.ref p) _ (R.alloc h) s (.tmp upd_same (fun hp => ?_) (hd p h) z (r.mono (Kp.step R s) (List.prefix_refl _)))
  obtain ⟨o, e, _⟩ := R.kind hp
  rw [h] at e
  cases e
/-- a new tuple comes out -/
theorem QV.newT {xs : List D} {Q : VK} (q : QV K base L φ H0 H m (.tup xs) Q) (R : RelH K base L φ m H) {p : Addr} {vs : List V} (h : H p = none) (r : RSs K φ H xs vs) : Q (.ref p) (upd H p (.tup vs)) := by
  have s : Step φ H φ (upd H p (.tup vs)) := .new h
  exact q φ (.ref p) _ (R.alloc h) s (.st (.tup (SqT.of upd_same) (r.step R s)))
/-! ### reading -/
theorem RV.tup {xs : List D} {v : V} (r : RV K φ H0 H (.tup xs) v) : ∃ p vs, v = .ref p ∧ SqT K H p vs ∧ RSs K φ H xs vs := by
  cases r with
  | st r =>
    cases r with
    | tup h t => exact ⟨_, _, rfl, h, t⟩
  | tmp a b c z q => cases q
theorem RV.int {i : Int} {v : V} (r : RV K φ H0 H (.int i) v) : v = .int i := by
  cases r with
  | st r => cases r; rfl
  | tmp a b c z q => cases q
theorem RV.bl {i : Bool} {v : V} (r : RV K φ H0 H (.bl i) v) : v = .bl i := by
  cases r with
  | st r => cases r; rfl
  | tmp a b c z q => cases q
theorem RV.str {i : Str} {v : V} (r : RV K φ H0 H (.str i) v) : v = .str i := by
  cases r with
  | st r => cases r; rfl
  | tmp a b c z q => cases q
theorem RV.non {v : V} (r : RV K φ H0 H .non v) : v = .non := by
  cases r with
  | st r => cases r; rfl
  | tmp a b c z q => cases q
theorem deref_adr {k : Nat} {o : D} (e : deref m (.adr k) = some o) : m[k]? = some o := e
theorem deref_lst (R : RelH K base L φ m H) {x : D} {v : V} {xs : List D} (r : RV K φ H0 H x v) (e : deref m x = some (.lst xs)) : ∃ p vs, v = .ref p ∧ H p = some (.lst vs) ∧ RSs K φ H xs vs := by
  cases r with
  | st r =>
    cases r with
    | adr h =>
      obtain ⟨p, ho, h1, h2, h3⟩ := R.at (deref_adr e)
      rw [h] at h1
      cases h1
      cases h3 with
      | lst t => exact ⟨_, _, rfl, h2, t⟩
    | _ => simp [deref] at e
  | tmp a b c z q =>
    cases q with
    | lst t =>
      simp [deref] at e
      subst e
      exact ⟨_, _, rfl, a, t⟩
    | _ => simp [deref] at e
theorem deref_fro (R : RelH K base L φ m H) {x : D} {v : V} {xs : List D} (r : RV K φ H0 H x v) (e : deref m x = some (.fro xs)) : ∃ p vs, v = .ref p ∧ SqL K H p vs ∧ RSs K φ H xs vs := by
  cases r with
  | st r =>
    cases r with
    | adr h =>
      obtain ⟨p, ho, h1, h2, h3⟩ := R.at (deref_adr e)
      cases h3
    | fro h t =>
      simp [deref] at e
      subst e
      exact ⟨_, _, rfl, h.sq, t⟩
    | _ => simp [deref] at e
  | tmp a b c z q =>
    cases q with
    | _ => simp [deref] at e
theorem deref_dct (R : RelH K base L φ m H) {x : D} {v : V} {ks vs : List D} (r : RV K φ H0 H x v) (e : deref m x = some (.dct ks vs)) : ∃ p kvs, v = .ref p ∧ H p = some (.dK kvs) ∧ RSs K φ H ks (kvs.map fun p => kV p.1) ∧ RSs K φ H vs (kvs.map Prod.snd) := by
  cases r with
  | st r =>
    cases r with
    | adr h =>
      obtain ⟨p, ho, h1, h2, h3⟩ := R.at (deref_adr e)
      rw [h] at h1
      cases h1
      cases h3 with
      | dK t u => exact ⟨_, _, rfl, h2, t, u⟩
    | _ => simp [deref] at e
  | tmp a b c z q =>
    cases q with
    | dK t u =>
      simp [deref] at e
      obtain ⟨e1, e2⟩ := e
      subst e1; subst e2
      exact ⟨_, _, rfl, a, t, u⟩
    | _ => simp [deref] at e
/-- not an object of the heap -/
theorem deref_out (R : RelH K base L φ m H) {x : D} {v : V} {d : D} (r : RV K φ H0 H x v) (e : deref m x = some d) (h1 : ∀ xs, d ≠ .lst xs) (h2 : ∀ xs, d ≠ .fro xs) (h3 : ∀ ks vs, d ≠ .dct ks vs) (h4 : ∀ u, d ≠ .lck u := by intro _ z; cases z) : x = d := by
  cases r with
  | st r =>
    cases r with
    | adr h =>
      obtain ⟨p, ho, _, _, h3'⟩ := R.at (deref_adr e)
      cases h3' with
      | lst t => exact absurd rfl (h1 _)
      | dK t u => exact absurd rfl (h3 _ _)
      | lck => exact absurd rfl (h4 _)
    | _ => simpa [deref] using e
  | tmp a b c z q =>
    cases q with
    | _ => simpa [deref] using e
theorem items_ok (R : RelH K base L φ m H) {x : D} {v : V} {xs : List D} (r : RV K φ H0 H x v) (e : items m x = some xs) : ∃ p vs, v = .ref p ∧ (SqL K H p vs ∨ SqT K H p vs) ∧ RSs K φ H xs vs := by
  unfold items at e
  cases q : deref m x with
  | none => rw [q] at e; cases e
  | some d =>
    rw [q] at e
    cases d with
    | lst ys =>
      cases e
      obtain ⟨p, vs, h1, h2, h3⟩ := deref_lst R r q
      exact ⟨p, vs, h1, .inl (SqL.of h2), h3⟩
    | fro ys =>
      cases e
      obtain ⟨p, vs, h1, h2, h3⟩ := deref_fro R r q
      exact ⟨p, vs, h1, .inl h2, h3⟩
    | tup ys =>
      cases e
      have := deref_out R r q (fun _ z => by cases z) (fun _ z => by cases z) (fun _ _ z => by cases z)
      subst this
      obtain ⟨p, vs, h1, h2, h3⟩ := r.tup
      exact ⟨p, vs, h1, .inr h2, h3⟩
    | _ => cases e
end
/-! ### two operands -/
def opOf : Bop → Operator
  | .add => .Add | .sub => .Sub | .mul => .Mult | .fdiv => .FloorDiv | .mod => .Mod | .pow => .Pow | .shl => .LShift | .shr => .RShift
  | .band => .BitAnd | .bor => .BitOr | .bxor => .BitXor
def rBin (K : PySem.W.Frag) (op : Bop) : R2 := fun x y H Q => ∃ base L φ m H0 a b d, RelH K base L φ m H ∧ RV K φ H0 H a x ∧ RV K φ H0 H b y ∧ (∀ p, H p = none → H0 p = none) ∧ binD op a b m = some d ∧ QV K base L φ H0 H m d Q
theorem isBig_le {n : Nat} (h : isBig n = true) : n ≤ sizeLine := by
  have := of_decide_eq_true h
  rw [sizeLine_eq]
  exact this
theorem isBig_lt {n : Nat} (h : isBig (n + 1) = true) : n < sizeLine := by
  have := isBig_le h
  omega
theorem p64 : (2 : Int) ^ 64 = ((2 ^ 64 : Nat) : Int) := by decide
theorem p30 : (1000 : Int) ≤ 1000000 := by decide
theorem log2_64 {n : Nat} (h : n < 2 ^ 64) : n.log2 < 9000 := by
  by_cases h0 : n = 0
  · subst h0; decide
  · have := (Nat.log2_lt h0).mpr h
    omega
section
variable {X : Cx}
theorem mulOk_of {i j : Int} (h : mulOk i j = true) : CMul i j := by
  unfold mulOk at h
  rw [Bool.or_eq_true, decide_eq_true_eq, decide_eq_true_eq] at h
  have e : (2 : Int) ^ 64 = 18446744073709551616 := by decide
  have e' : (2 : Nat) ^ 64 = 18446744073709551616 := by decide
  unfold CMul
  rw [e'] at h
  rw [e]
  omega
theorem binI_ok {op : Bop} {i j k : Int} {pins : List (Addr × Obj)} {s : Shared} {σ : L2.St} {H : Hp} {v u : Value} {Q : VK} (I : Inv X pins σ H s) (rx : RelV (.int i) v) (ry : RelV (.int j) u) (e : binI op i j = some k) (q : Q (.int k) H) :
    wpAny (model X.prog X.w) X.A (binaryOp (opOf op) v u) (EP X pins σ Q) X.xe s := by
  cases op with
  | add => cases e; exact op_add pins s σ H _ _ v u Q I rx ry ⟨i, j, rfl, rfl, q⟩
  | sub => cases e; exact op_sub pins s σ H _ _ v u Q I rx ry ⟨i, j, rfl, rfl, q⟩
  | mul =>
    unfold binI at e
    simp only at e
    split at e
    · rename_i c
      cases e
      exact op_mul pins s σ H _ _ v u Q I rx ry ⟨i, j, rfl, rfl, mulOk_of c, q⟩
    · cases e
  | fdiv =>
    unfold binI at e
    simp only at e
    split at e
    · rename_i c
      cases e
      have hj : j.natAbs < 2 ^ 64 := by
        have := c.2
        rw [p64] at this
        omega
      exact op_fdivW pins s σ H _ _ v u Q I rx ry ⟨i, j, rfl, rfl, ⟨c.1, log2_64 hj⟩, q⟩
    · cases e
  | mod =>
    unfold binI at e
    simp only at e
    split at e
    · rename_i c
      cases e
      exact op_mod pins s σ H _ _ v u Q I rx ry ⟨i, j, rfl, rfl, c, q⟩
    · cases e
  | pow =>
    unfold binI at e
    simp only at e
    split at e
    · rename_i c
      cases e
      exact op_pow pins s σ H _ _ v u Q I rx ry ⟨i, j, rfl, rfl, ⟨c.1, by omega, c.2.2⟩, q⟩
    · cases e
  | shl =>
    unfold binI at e
    simp only at e
    split at e
    · rename_i c
      cases e
      exact op_shl pins s σ H _ _ v u Q I rx ry ⟨i, j, rfl, rfl, ⟨c.1, by omega, c.2.2⟩, q⟩
    · cases e
  | shr =>
    unfold binI at e
    simp only at e
    split at e
    · rename_i c
      cases e
      exact op_shr pins s σ H _ _ v u Q I rx ry ⟨i, j, rfl, rfl, c, q⟩
    · cases e
  | band => cases e
  | bor => cases e
  | bxor => cases e
theorem flat_rep (n : Nat) {K : PySem.W.Frag} {φ : List Addr} {H : Hp} {xs : List D} {vs : List V} (r : RSs K φ H xs vs) : RSs K φ H (List.replicate n xs).flatten (List.replicate n vs).flatten := by
  induction n with
  | zero => exact .nil
  | succ n ih =>
    rw [List.replicate_succ, List.replicate_succ, List.flatten_cons, List.flatten_cons]
    exact r.app ih
theorem bin_lists {op : Bop} {pins : List (Addr × Obj)} {s : Shared} {σ : L2.St} {H H0 : Hp} {x y : V} {v u : Value} {Q : VK} {base : Nat} {L : Nat → Nat} {φ : List Addr} {m : Hm} {a b d : D} (I : Inv X pins σ H s) (rx : RelV x v) (ry : RelV y u)
    (R : RelH X.K base L φ m H) (ra : RV X.K φ H0 H a x) (rb : RV X.K φ H0 H b y) (hd : ∀ p, H p = none → H0 p = none) (q : QV X.K base L φ H0 H m d Q) (e : binL op (deref m a) (deref m b) = some d) : wpAny (model X.prog X.w) X.A (binaryOp (opOf op) v u) (EP X pins σ Q) X.xe s := by
  unfold binL at e
  split at e
  · rename_i xs ys e1 e2
    split at e
    · rename_i hb
      cases e
      obtain ⟨p, vs, rfl, h1, t1⟩ := deref_lst R ra e1
      obtain ⟨p2, ws, rfl, h2, t2⟩ := deref_lst R rb e2
      refine op_cat pins s σ H _ _ v u Q I rx ry ⟨p, p2, vs, ws, rfl, rfl, h1, h2, ?_, fun l hl => q.new R hd hl (fun _ z => by cases z) (.lst (t1.app t2))⟩
      rw [← t1.length, ← t2.length]
      exact isBig_le hb
    · cases e
  · rename_i xs k e1 e2
    split at e
    · rename_i hb
      cases e
      obtain ⟨p, vs, rfl, h1, t1⟩ := deref_lst R ra e1
      have := deref_out R rb e2 (fun _ z => by cases z) (fun _ z => by cases z) (fun _ _ z => by cases z)
      subst this
      have := rb.int
      subst this
      refine op_rep pins s σ H _ _ v u Q I rx ry ⟨p, k, vs, rfl, rfl, h1, by omega, by omega, ?_, fun l hl => q.new R hd hl (fun _ z => by cases z) (.lst (flat_rep _ t1))⟩
      rw [← t1.length]
      exact isBig_le hb.2.2
    · cases e
  · cases e
theorem op_bin (op : Bop) : OpR X (binaryOp (opOf op)) (rBin X.K op) := by
  intro pins s σ H x y v u Q I rx ry h
  obtain ⟨base, L, φ, m, H0, a, b, d, R, ra, rb, hd, e, q⟩ := h
  unfold binD at e
  split at e
  · rename_i i j
    cases hk : binI op i j with
    | none => rw [hk] at e; cases e
    | some k =>
      rw [hk] at e
      cases e
      have := ra.int; subst this
      have := rb.int; subst this
      exact binI_ok I rx ry hk (q.stay R (.int k))
  · rename_i i j
    have := ra.str; subst this
    have := rb.str; subst this
    cases op with
    | add =>
      simp only at e
      split at e
      · rename_i hb
        cases e
        exact op_add_str pins s σ H _ _ v u Q I rx ry ⟨i, j, rfl, rfl, isBig_le hb, q.stay R (.str _)⟩
      · cases e
    | _ => cases e
  · rename_i xs ys
    cases op with
    | add =>
      simp only at e
      split at e
      · rename_i hb
        cases e
        obtain ⟨p, vs, rfl, h1, t1⟩ := ra.tup
        obtain ⟨p2, ws, rfl, h2, t2⟩ := rb.tup
        refine op_catA pins s σ H _ _ v u Q I rx ry ⟨p, p2, vs, ws, rfl, rfl, h1, h2, by rw [← t1.length, ← t2.length]; exact isBig_le hb, fun z => ?_, fun _ z => ?_, fun _ _ l hl => q.newT R hl (t1.app t2)⟩
        · have e1 : xs = [] := t1.nil_iff.mpr z
          subst e1
          exact q.stay R (.tup h2 t2)
        · have e1 : ys = [] := t2.nil_iff.mpr z
          subst e1
          rw [List.append_nil] at q
          exact q.stay R (.tup h1 t1)
      · cases e
    | _ => cases e
  · exact bin_lists I rx ry R ra rb hd q e
end
end Bell
end

section
set_option maxRecDepth 100000
/-! comparisons -/
namespace Bell
open PySem PySem.Spec PyProof.Rows L2
mutual
def toPy : D → PyData
  | .non => .none | .bl b => .bool b | .int i => .int i | .str x => .str x
  | .tup xs => .tuple (toPys xs)
  | .lst _ => .none | .dct _ _ => .none | .set _ => .none | .fro _ => .none | .adr _ => .none | .fn _ _ _ _ _ => .none | .lck _ => .none
def toPys : List D → List PyData
  | [] => []
  | x :: xs => toPy x :: toPys xs
end
mutual
theorem toPy_lay : ∀ (n : Nat) (d : D), pur n d = true → (toPy d).canLay0 = true ∧ (toPy d).depth ≤ n
  | _, .non, _ => ⟨rfl, Nat.zero_le _⟩
  | _, .bl _, _ => ⟨rfl, Nat.zero_le _⟩
  | _, .int _, _ => ⟨rfl, Nat.zero_le _⟩
  | n, .str x, h => ⟨by simpa [toPy, PyData.canLay0, PyData.strOk, pur] using h, Nat.zero_le _⟩
  | 0, .tup _, h => by simp [pur] at h
  | n + 1, .tup xs, h => by
    obtain ⟨h1, h2⟩ := toPys_lay n xs (by simpa [pur] using h)
    exact ⟨by simpa [toPy, PyData.canLay0] using h1, by simp [toPy, PyData.depth]; exact h2⟩
  | _, .lst _, h => by simp [pur] at h
  | _, .dct _ _, h => by simp [pur] at h
  | _, .set _, h => by simp [pur] at h
  | _, .fro _, h => by simp [pur] at h
  | _, .adr _, h => by simp [pur] at h
theorem toPys_lay : ∀ (n : Nat) (d : List D), purs n d = true → PyData.canLayAll0 (toPys d) = true ∧ PyData.depthAll (toPys d) ≤ n
  | _, [], _ => ⟨rfl, Nat.zero_le _⟩
  | n, x :: xs, h => by
    unfold purs at h
    rw [Bool.and_eq_true] at h
    obtain ⟨a1, a2⟩ := toPy_lay n x h.1
    obtain ⟨b1, b2⟩ := toPys_lay n xs h.2
    exact ⟨by simp [toPys, PyData.canLayAll0, a1, b1], by simp [toPys, PyData.depthAll]; omega⟩
end
theorem shaped_pur {d : D} (h : pur 40 d = true) : SeqAt.shaped (toPy d) = true := by
  obtain ⟨h1, h2⟩ := toPy_lay 40 d h
  unfold SeqAt.shaped
  rw [h1, decide_eq_true (by omega)]
  rfl
theorem shaped_list {d : List D} (h : purs 40 d = true) : SeqAt.shaped (.list (toPys d)) = true := by
  obtain ⟨h1, h2⟩ := toPys_lay 40 d h
  unfold SeqAt.shaped
  rw [show (PyData.list (toPys d)).canLay0 = true from by simpa [PyData.canLay0] using h1, decide_eq_true (show (PyData.list (toPys d)).depth ≤ 64 from by simp [PyData.depth]; omega)]
  rfl
theorem b2i_eq (b : Bool) : (if b = true then (1 : Int) else 0) = b2i b := rfl
mutual
theorem eqv_toPy : ∀ (n : Nat) (a b : D), pur n a = true → pur n b = true → PyData.eqv (toPy a) (toPy b) = eqb a b
  | n, .non, b, _, hb => by cases b <;> first | rfl | (simp [pur] at hb)
  | n, .bl x, b, _, hb => by cases b <;> first | rfl | (simp [pur] at hb)
  | n, .int x, b, _, hb => by cases b <;> first | rfl | (simp [pur] at hb)
  | n, .str x, b, _, hb => by cases b <;> first | rfl | (simp [pur] at hb) | (simp [toPy, PyData.eqv, eqb])
  | 0, .tup xs, b, ha, hb => by simp [pur] at ha
  | n + 1, .tup xs, b, ha, hb => by
    cases b with
    | tup ys => simpa [toPy, PyData.eqv, eqb] using eqv_toPys n xs ys (by simpa [pur] using ha) (by simpa [pur] using hb)
    | _ => first | rfl | (simp [pur] at hb) | (simp [toPy, PyData.eqv, eqb])
  | _, .lst _, b, ha, _ => by simp [pur] at ha
  | _, .dct _ _, b, ha, _ => by simp [pur] at ha
  | _, .set _, b, ha, _ => by simp [pur] at ha
  | _, .fro _, b, ha, _ => by simp [pur] at ha
  | _, .adr _, b, ha, _ => by simp [pur] at ha
theorem eqv_toPys : ∀ (n : Nat) (a b : List D), purs n a = true → purs n b = true → PyData.eqvAll (toPys a) (toPys b) = eqbs a b
  | n, [], [], _, _ => rfl
  | n, [], _ :: _, _, _ => rfl
  | n, _ :: _, [], _, _ => rfl
  | n, x :: xs, y :: ys, ha, hb => by
    unfold purs at ha hb
    rw [Bool.and_eq_true] at ha hb
    simp [toPys, PyData.eqvAll, eqbs, eqv_toPy n x y ha.1 hb.1, eqv_toPys n xs ys ha.2 hb.2]
end
section
variable {K : PySem.W.Frag} {base : Nat} {L : Nat → Nat} {φ φ' : List Addr} {m m' : Hm} {H H0 H' : Hp}
mutual
theorem RS.dp {n : Nat} : ∀ {d : D} {v : V}, RS K φ H d v → pur n d = true → Dp K H v (toPy d)
  | _, _, .non, _ => .non
  | _, _, .bl b, _ => .bl b
  | _, _, .int i, _ => .int i
  | _, _, .str x, _ => .str x
  | _, _, .tup h r, e => by
    cases n with
    | zero => simp [pur] at e
    | succ n => exact .tup h (RSs.dp (n := n) r (by simpa [pur] using e))
  | _, _, .adr _, e => by simp [pur] at e
  | _, _, .fro _ _, e => by simp [pur] at e
theorem RSs.dp {n : Nat} : ∀ {d : List D} {v : List V}, RSs K φ H d v → purs n d = true → DpAll K H v (toPys d)
  | _, _, .nil, _ => .nil
  | _, _, .cons r t, e => by
    unfold purs at e
    rw [Bool.and_eq_true] at e
    exact .cons (RS.dp r e.1) (RSs.dp t e.2)
end
theorem RV.pur {n : Nat} {d : D} {v : V} (r : RV K φ H0 H d v) (e : pur n d = true) : RS K φ H d v := by
  cases r with
  | st r => exact r
  | tmp a b c z q => cases q <;> simp [Bell.pur] at e
/-- a thing as data: a list, or what is no object -/
theorem dp_lst (R : RelH K base L φ m H) {x : D} {v : V} {xs : List D} (r : RV K φ H0 H x v) (e : deref m x = some (.lst xs)) (p : purs 40 xs = true) : Dp K H v (.list (toPys xs)) := by
  obtain ⟨a, vs, rfl, h1, h2⟩ := deref_lst R r e
  exact .lst (SqL.of h1) (h2.dp p)
theorem dp_pur (R : RelH K base L φ m H) {x d : D} {v : V} (r : RV K φ H0 H x v) (e : deref m x = some d) (p : pur 40 d = true) : Dp K H v (toPy d) := by
  have := deref_out R r e (fun _ z => by subst z; simp [pur] at p) (fun _ z => by subst z; simp [pur] at p) (fun _ _ z => by subst z; simp [pur] at p) (fun _ z => by subst z; simp [pur] at p)
  subst this
  exact (r.pur p).dp p
theorem eqv_lst_pur {xs : List D} {d : D} (p : pur 40 d = true) : PyData.eqv (.list (toPys xs)) (toPy d) = false := by
  cases d <;> first | rfl | (simp [pur] at p) | (simp [toPy, PyData.eqv])
theorem eqv_pur_lst {xs : List D} {d : D} (p : pur 40 d = true) : PyData.eqv (toPy d) (.list (toPys xs)) = false := by
  cases d <;> first | rfl | (simp [pur] at p) | (simp [toPy, PyData.eqv])
theorem eqD_ok (R : RelH K base L φ m H) {a b : D} {x y : V} {k : Bool} (ra : RV K φ H0 H a x) (rb : RV K φ H0 H b y) (e : eqD m a b = some k) :
    ∃ d e, Dp K H x d ∧ Dp K H y e ∧ SeqAt.shaped d = true ∧ SeqAt.shaped e = true ∧ PyData.eqv d e = k := by
  unfold eqD at e
  split at e
  · rename_i xs ys e1 e2
    split at e
    · rename_i c
      rw [Bool.and_eq_true] at c
      cases e
      exact ⟨_, _, dp_lst R ra e1 c.1, dp_lst R rb e2 c.2, shaped_list c.1, shaped_list c.2, eqv_toPys 40 _ _ c.1 c.2⟩
    · cases e
  · rename_i xs d _ e1 e2
    split at e
    · rename_i c
      rw [Bool.and_eq_true] at c
      cases e
      exact ⟨_, _, dp_lst R ra e1 c.1, dp_pur R rb e2 c.2, shaped_list c.1, shaped_pur c.2, eqv_lst_pur c.2⟩
    · cases e
  · rename_i d ys _ e1 e2
    split at e
    · rename_i c
      rw [Bool.and_eq_true] at c
      cases e
      exact ⟨_, _, dp_pur R ra e1 c.1, dp_lst R rb e2 c.2, shaped_pur c.1, shaped_list c.2, eqv_pur_lst c.1⟩
    · cases e
  · rename_i d d' _ _ e1 e2
    split at e
    · rename_i c
      rw [Bool.and_eq_true] at c
      cases e
      exact ⟨_, _, dp_pur R ra e1 c.1, dp_pur R rb e2 c.2, shaped_pur c.1, shaped_pur c.2, eqv_toPy 40 _ _ c.1 c.2⟩
    · cases e
  · cases e
theorem any_toPy {a : D} (ha : pur 40 a = true) : ∀ {xs : List D}, purs 40 xs = true → ((toPys xs).any fun z => PyData.eqv z (toPy a)) = xs.any fun y => eqb y a
  | [], _ => rfl
  | x :: xs, h => by
    unfold purs at h
    rw [Bool.and_eq_true] at h
    simp [toPys, eqv_toPy 40 x a h.1 ha, any_toPy ha h.2]
/-- ints, tuples of ints -/
theorem RSs.intsT {xs : List D} {vs : List V} {ns : List Int} (h : RSs K φ H xs vs) (e : asInts xs = some ns) : vs = ns.map V.int := (h.of_ints e).1
end
theorem lexLt_eq : ∀ a b : List Int, lexLt a b = HT.lexLt a b
  | [], [] => rfl
  | [], _ :: _ => rfl
  | _ :: _, [] => rfl
  | x :: xs, y :: ys => by
    rw [HT.lexLt_cons, ← lexLt_eq xs ys]
    rfl
theorem lexAt_le (ns ms : List Int) : ∀ (as bs : List Int) (i : Nat), ns.drop i = as → ms.drop i = bs → i ≤ ns.length → i ≤ ms.length →
    Ob.lexAt (fun j => decide (ns.getD j 0 = ms.getD j 0)) (fun j => decide (ns.getD j 0 ≤ ms.getD j 0)) (decide (ns.length ≤ ms.length)) i (min as.length bs.length) = !lexLt bs as
  | [], bs, i, h1, h2, l1, l2 => by
    have e1 : ns.length ≤ i := List.drop_eq_nil_iff.mp h1
    have : bs.length = ms.length - i := by rw [← h2, List.length_drop]
    simp only [List.length_nil, Nat.zero_min, Ob.lexAt_zero]
    cases bs with
    | nil => simp at this; simp [lexLt]; omega
    | cons b bs => simp at this; simp [lexLt]; omega
  | a :: as, [], i, h1, h2, l1, l2 => by
    have e1 : ms.length ≤ i := List.drop_eq_nil_iff.mp h2
    have : (a :: as).length = ns.length - i := by rw [← h1, List.length_drop]
    simp only [List.length_nil, Nat.min_zero, Ob.lexAt_zero]
    simp at this
    simp [lexLt]
    omega
  | a :: as, b :: bs, i, h1, h2, l1, l2 => by
    have ga : ∀ (l : List Int) (x : Int) (r : List Int), l.drop i = x :: r → l.getD i 0 = x ∧ l.drop (i + 1) = r ∧ i + 1 ≤ l.length := fun l x r h => by
      have hl : (x :: r).length = l.length - i := by rw [← h, List.length_drop]
      simp at hl
      have h3 : l[i]? = some x := by
        have := congrArg (fun z => z[0]?) h
        simpa using this
      refine ⟨by simp [List.getD, h3], ?_, by omega⟩
      rw [← List.drop_drop, h]
      rfl
    obtain ⟨a1, a2, a3⟩ := ga ns a as h1
    obtain ⟨b1, b2, b3⟩ := ga ms b bs h2
    have e : min (a :: as).length (b :: bs).length = min as.length bs.length + 1 := by simp only [List.length_cons]; omega
    rw [e, Ob.lexAt_succ, a1, b1]
    unfold lexLt
    by_cases c : a = b
    · subst c
      rw [decide_eq_true rfl, if_pos rfl, if_pos rfl]
      exact lexAt_le ns ms as bs (i + 1) a2 b2 a3 b3
    · rw [decide_eq_false c, if_neg Bool.false_ne_true, if_neg (Ne.symm c)]
      by_cases d : a ≤ b
      · rw [decide_eq_true d, decide_eq_false (by omega)]; rfl
      · rw [decide_eq_false d, decide_eq_true (by omega)]; rfl
theorem key_of_isKey {K : PySem.W.Frag} {φ : List Addr} {H : Hp} {a : D} {x : V} (r : RS K φ H a x) (h : isKey a = true) : ∃ k : Key, x = kV k := by
  cases r with
  | int i => exact ⟨.inl i, rfl⟩
  | str z => exact ⟨.inr z, rfl⟩
  | _ => simp [isKey] at h
theorem eqb_key {K : PySem.W.Frag} {φ : List Addr} {H : Hp} {a b : D} {j k : Key} (r : RS K φ H a (kV j)) (r2 : RS K φ H b (kV k)) : eqb a b = decide (j = k) := by
  cases j with
  | inl i =>
    cases k with
    | inl i' =>
      cases r; cases r2
      rw [key_ll]; rfl
    | inr z => cases r; cases r2; rw [key_lr]; rfl
  | inr y =>
    cases k with
    | inl i' => cases r; cases r2; rw [key_rl]; rfl
    | inr z =>
      cases r; cases r2
      rw [key_rr]
      by_cases e : y = z
      · subst e; simp [eqb]
      · rw [decide_eq_false e]; exact beq_eq_false_iff_ne.mpr e
theorem keyIx_val {K : PySem.W.Frag} {φ : List Addr} {H : Hp} {a : D} {k : Key} (r : RS K φ H a (kV k)) : ∀ {ks : List D} {kvs : List (Key × V)}, RSs K φ H ks (kvs.map fun p => kV p.1) → (keyIx a ks).isSome = (valV kvs k).isSome
  | [], [], _ => rfl
  | x :: xs, p :: kvs, .cons h t => by
    unfold keyIx
    rw [eqb_key h r]
    by_cases e : p.1 = k
    · rw [valV_pos e, decide_eq_true e]; rfl
    · rw [valV_neg e, decide_eq_false e, if_neg (by decide), Option.isSome_map]
      exact keyIx_val r t
def cmpOf : Cop → CmpOp
  | .eq => .Eq | .ne => .NotEq | .lt => .Lt | .le => .LtE | .gt => .Gt | .ge => .GtE | .is => .Is | .isN => .IsNot | .inn => .In | .nin => .NotIn
def rCmp (K : PySem.W.Frag) (op : Cop) : R2 := fun x y H Q => ∃ base L φ m H0 a b k, RelH K base L φ m H ∧ RV K φ H0 H a x ∧ RV K φ H0 H b y ∧ cmpD op m a b = some k ∧ Q (.bl k) H
section
variable {X : Cx}
theorem is_ok {x y : V} {a b : D} {H0 : Hp} {φ : List Addr} {k neg : Bool} {pins : List (Addr × Obj)} {s : Shared} {σ : L2.St} {H : Hp} {v u : Value} {Q : VK} (I : Inv X pins σ H s) (rx : RelV x v) (ry : RelV y u)
    (ra : RV X.K φ H0 H a x) (rb : RV X.K φ H0 H b y) (e : isD a b = some k) (q : Q (.bl (k != neg)) H) : wpAny (model X.prog X.w) X.A (compareOp (if neg then .IsNot else .Is) v u) (EP X pins σ Q) X.xe s := by
  cases b with
  | non =>
    have := rb.non; subst this
    have ek : k = decide (x = .non) := by
      cases a with
      | non => have := ra.non; subst this; cases e; rfl
      | _ =>
        cases e
        symm
        apply decide_eq_false
        intro z
        subst z
        cases ra with
        | st r => cases r
    subst ek
    cases neg with
    | true => exact op_notN pins s σ H _ _ v u Q I rx ry ⟨rfl, by simpa using q⟩
    | false => exact op_isN pins s σ H _ _ v u Q I rx ry ⟨rfl, by simpa using q⟩
  | bl t =>
    have := rb.bl; subst this
    cases (show u = Value.bool t from ry)
    have ek : (v = Value.bool t ∧ k = true) ∨ (v ≠ Value.bool t ∧ k = false) := by
      cases a with
      | bl r =>
        have := ra.bl; subst this
        cases (show v = Value.bool r from rx)
        cases e
        by_cases h : r = t
        · subst h; exact .inl ⟨rfl, by simp⟩
        · exact .inr ⟨fun z => h (Value.bool.inj z), by simpa using h⟩
      | _ =>
        cases e
        refine .inr ⟨fun z => ?_, rfl⟩
        subst z
        cases ra with
        | st r =>
          cases r <;> first
            | (cases rx; done)
            | (obtain ⟨_, q⟩ := rx; cases q)
        | tmp a b c z q => cases rx
    rcases ek with ⟨ev, ek⟩ | ⟨ev, ek⟩
    · subst ev; subst ek
      cases neg with
      | true => exact wpAny_isNot_self rfl ⟨.bl false, H, I, rfl, by simpa using q⟩
      | false => exact wpAny_is_self rfl ⟨.bl true, H, I, rfl, by simpa using q⟩
    · subst ek
      have pl : plainIs v (.bool t) = true := by
        cases x <;> first
          | (cases rx; rfl)
          | (obtain ⟨_, rfl⟩ := rx; rfl)
      cases neg with
      | true => exact wpAny_isNot_other pl ev ⟨.bl true, H, I, rfl, by simpa using q⟩
      | false => exact wpAny_is_other pl ev ⟨.bl false, H, I, rfl, by simpa using q⟩
  | _ => cases e
theorem op_cmp (op : Cop) (hu : X.A.units + 65 < cLine) : OpR X (compareOp (cmpOf op)) (rCmp X.K op) := by
  intro pins s σ H x y v u Q I rx ry h
  obtain ⟨base, L, φ, m, H0, a, b, k, R, ra, rb, e, q⟩ := h
  have lt : ∀ {a b : D} {x y : V} {v u : Value}, RelV x v → RelV y u → RV X.K φ H0 H a x → RV X.K φ H0 H b y → ltD a b = some k → wpAny (model X.prog X.w) X.A (compareOp .Lt v u) (EP X pins σ Q) X.xe s := by
    intro a b x y v u rx ry ra rb e
    unfold ltD at e
    split at e
    · cases e
      have := ra.int; subst this
      have := rb.int; subst this
      exact op_lt pins s σ H _ _ v u Q I rx ry ⟨_, _, rfl, rfl, q⟩
    · rename_i xs ys
      split at e
      · rename_i p1 p2 e1 e2
        cases e
        obtain ⟨p, vs, rfl, h1, t1⟩ := ra.tup
        obtain ⟨p2, ws, rfl, h2, t2⟩ := rb.tup
        have := t1.intsT e1; subst this
        have := t2.intsT e2; subst this
        exact op_ltT (by omega) pins s σ H _ _ v u Q I rx ry ⟨_, _, _, _, rfl, rfl, h1, h2, by rw [← lexLt_eq]; exact q⟩
      · cases e
    · cases e
  have le : leD a b = some k → wpAny (model X.prog X.w) X.A (compareOp .LtE v u) (EP X pins σ Q) X.xe s := by
    intro e
    unfold leD at e
    split at e
    · cases e
      have := ra.int; subst this
      have := rb.int; subst this
      exact op_le pins s σ H _ _ v u Q I rx ry ⟨_, _, rfl, rfl, q⟩
    · rename_i xs ys
      split at e
      · rename_i p1 p2 e1 e2
        cases e
        obtain ⟨p, vs, rfl, h1, t1⟩ := ra.tup
        obtain ⟨p2, ws, rfl, h2, t2⟩ := rb.tup
        have := t1.intsT e1; subst this
        have := t2.intsT e2; subst this
        have q' := q
        rw [← lexAt_le _ _ _ _ 0 (List.drop_zero) (List.drop_zero) (Nat.zero_le _) (Nat.zero_le _)] at q'
        exact op_leT (by omega) pins s σ H _ _ v u Q I rx ry ⟨_, _, _, _, rfl, rfl, h1, h2, q'⟩
      · cases e
    · cases e
  have isin : ∀ {k neg : Bool}, inD m a b = some k → Q (.bl (k != neg)) H → wpAny (model X.prog X.w) X.A (compareOp (if neg then .NotIn else .In) v u) (EP X pins σ Q) X.xe s := by
    intro k neg e q
    unfold inD at e
    split at e
    · rename_i xs e1
      split at e
      · rename_i c
        rw [Bool.and_eq_true] at c
        cases e
        have d1 := (ra.pur c.1).dp c.1
        have d2 := dp_lst R rb e1 c.2
        rw [← any_toPy c.1 c.2] at q
        cases neg with
        | true => exact op_notInD hu pins s σ H _ _ v u Q I rx ry ⟨_, _, d1, d2, shaped_pur c.1, shaped_list c.2, by simpa using q⟩
        | false => exact op_inD hu pins s σ H _ _ v u Q I rx ry ⟨_, _, d1, d2, shaped_pur c.1, shaped_list c.2, by simpa using q⟩
      · cases e
    · rename_i xs e1
      split at e
      · rename_i c
        rw [Bool.and_eq_true] at c
        cases e
        have := deref_out R rb e1 (fun _ z => by cases z) (fun _ z => by cases z) (fun _ _ z => by cases z)
        subst this
        obtain ⟨p, vs, rfl, h1, t1⟩ := rb.tup
        have d1 := (ra.pur c.1).dp c.1
        have d2 : Dp X.K H (.ref p) (.tuple (toPys xs)) := .tup h1 (t1.dp c.2)
        obtain ⟨as, r1⟩ := Dp.reads I _ _ v d1 rx
        obtain ⟨bs, r2⟩ := Dp.reads I _ _ u d2 ry
        have l1 := toPy_lay 40 _ c.1
        have l2 := toPys_lay 40 _ c.2
        rw [← any_toPy c.1 c.2] at q
        have hr : X.A.units + 1 + min (PyData.depthAll (toPys xs)) (toPy a).depth < cLine := by omega
        cases neg with
        | true => exact SeqAt.notIn_tuple_reads r2 r1 l2.1 l1.1 hr ⟨.bl _, H, I, rfl, by simpa using q⟩
        | false => exact SeqAt.in_tuple_reads r2 r1 l2.1 l1.1 hr ⟨.bl _, H, I, rfl, by simpa using q⟩
      · cases e
    · rename_i ks vs e1
      split at e
      · rename_i c
        cases e
        obtain ⟨p, kvs, rfl, h1, t1, t2⟩ := deref_dct R rb e1
        obtain ⟨kk, rfl⟩ := key_of_isKey (ra.pur (n := 40) (by simp only [Bool.and_eq_true] at c; exact c.1.2)) (by simp only [Bool.and_eq_true] at c; exact c.1.1)
        have hk := keyIx_val (ra.pur (n := 40) (by simp only [Bool.and_eq_true] at c; exact c.1.2)) t1
        have g := DGet.k (k := kk) h1
        cases (show u = Value.ref p from ry)
        cases neg with
        | true => exact d_notIn (by omega) I g rx fun s' I' => ⟨.bl _, H, I', rfl, by rw [← hk]; simpa using q⟩
        | false => exact d_in (by omega) I g rx fun s' I' => ⟨.bl _, H, I', rfl, by rw [← hk]; simpa using q⟩
      · cases e
    · rename_i ks e1
      cases rb with
      | st r =>
        cases r with
        | adr h =>
          obtain ⟨p, ho, _, _, h3'⟩ := R.at (deref_adr e1)
          cases h3'
        | _ => simp [deref] at e1
      | tmp a b c z q =>
        simp only [deref] at e1
        split at e1
        · obtain ⟨p, ho, _, _, h3'⟩ := R.at e1
          cases h3'
        · cases e1
          cases q
    · cases e
  cases op with
  | eq =>
    obtain ⟨d, e', h1, h2, h3, h4, h5⟩ := eqD_ok R ra rb e
    exact op_eqD (by omega) pins s σ H _ _ v u Q I rx ry ⟨d, e', h1, h2, h3, h4, by rw [h5]; exact q⟩
  | ne =>
    cases hq : eqD m a b with
    | none => simp [cmpD, hq] at e
    | some k' =>
      simp [cmpD, hq] at e
      obtain ⟨d, e', h1, h2, h3, h4, h5⟩ := eqD_ok R ra rb hq
      exact op_neD (by omega) pins s σ H _ _ v u Q I rx ry ⟨d, e', h1, h2, h3, h4, by rw [h5]; subst e; simpa using q⟩
  | lt => exact lt rx ry ra rb e
  | le => exact le e
  | gt =>
    unfold cmpD ltI at e
    dsimp only at e
    split at e
    · cases e
      have := ra.int; subst this
      have := rb.int; subst this
      exact op_gt pins s σ H _ _ v u Q I rx ry ⟨_, _, rfl, rfl, q⟩
    · cases e
  | ge =>
    unfold cmpD leI at e
    dsimp only at e
    split at e
    · cases e
      have := ra.int; subst this
      have := rb.int; subst this
      exact op_ge pins s σ H _ _ v u Q I rx ry ⟨_, _, rfl, rfl, q⟩
    · cases e
  | is => exact is_ok (neg := false) I rx ry ra rb e (by simpa using q)
  | isN =>
    cases hq : isD a b with
    | none => simp [cmpD, hq] at e
    | some k' =>
      simp [cmpD, hq] at e
      exact is_ok (neg := true) I rx ry ra rb hq (by subst e; simpa using q)
  | inn => exact isin (neg := false) e (by simpa using q)
  | nin =>
    cases hq : inD m a b with
    | none => simp [cmpD, hq] at e
    | some k' =>
      simp [cmpD, hq] at e
      exact isin (neg := true) hq (by subst e; simpa using q)
end
end Bell
end

section
set_option maxRecDepth 100000
/-! built-in functions, by values -/
namespace Bell
open PySem PySem.Spec PyProof.Rows L2
/-- arguments, from the left: what came later is new to what came before -/
inductive RVs (K : PySem.W.Frag) (φ : List Addr) (H : Hp) : Hp → Hp → List D → List V → Prop
  | nil {H0 U : Hp} : (∀ p, U p = none → H0 p = none) → RVs K φ H H0 U [] []
  | cons {H0 H1 U : Hp} {d : D} {v : V} {ds : List D} {vs : List V} : RV K φ H0 H d v → (∀ p, H1 p = none → H0 p = none) → (RS K φ H d v ∨ ∃ p, v = .ref p ∧ H1 p ≠ none) → RVs K φ H H1 U ds vs → RVs K φ H H0 U (d :: ds) (v :: vs)
section
variable {K : PySem.W.Frag} {base : Nat} {L : Nat → Nat} {φ φ' : List Addr} {m m' : Hm} {H H0 H1 H' U U' : Hp}
theorem RVs.older (h : ∀ p, H1 p = none → H0 p = none) {ds : List D} {vs : List V} (r : RVs K φ H H1 U ds vs) : RVs K φ H H0 U ds vs := by
  cases r with
  | nil u => exact .nil fun p q => h p (u p q)
  | cons a b c t => exact .cons (a.older h) (fun p q => h p (b p q)) c t
theorem RVs.app {ds es : List D} {vs ws : List V} (r : RVs K φ H H0 U ds vs) (s : RVs K φ H U U' es ws) : RVs K φ H H0 U' (ds ++ es) (vs ++ ws) := by
  induction r with
  | nil u => exact s.older u
  | cons a b c t ih => exact .cons a b c (ih s)
theorem RVs.step (R : RelH K base L φ m H) (s : Step φ H φ' H') {ds : List D} {vs : List V} (r : RVs K φ H H0 U ds vs) : RVs K φ' H' H0 U ds vs := by
  induction r with
  | nil u => exact .nil u
  | cons a b c t ih => exact .cons (a.step R s) b (c.imp (fun z => z.step R s) id) ih
theorem RVs.length {ds : List D} {vs : List V} (r : RVs K φ H H0 U ds vs) : ds.length = vs.length := by
  induction r with
  | nil => rfl
  | cons a b c t ih => simp [ih]
/-- one more place of Mini's, of a thing older than these -/
theorem RVs.push {p : Addr} (hp : H0 p ≠ none) {ds : List D} {vs : List V} (r : RVs K φ H H0 U ds vs) : RVs K (φ ++ [p]) H H0 U ds vs := by
  induction r with
  | nil u => exact .nil u
  | cons a b c t ih =>
    rename_i H0 H1 U d v ds vs
    have hp1 : H1 p ≠ none := fun z => hp (b p z)
    refine .cons ?_ b (c.imp (fun z => z.mono (Kp.refl _ _) (List.prefix_append _ _)) id) (ih hp1)
    cases a with
    | st z => exact .st (z.mono (Kp.refl _ _) (List.prefix_append _ _))
    | tmp h n f z q =>
      rename_i q0 ho
      refine .tmp h (fun hm => ?_) f z (q.mono (Kp.refl _ _) (List.prefix_append _ _))
      rcases List.mem_append.mp hm with hm | hm
      · exact n hm
      · simp at hm
        subst hm
        exact hp f
theorem homes_cons (d : D) (ds : List D) (m : Hm) : homes (d :: ds) m = ((home d m).1 :: (homes ds (home d m).2).1, (homes ds (home d m).2).2) := rfl
/-- one thing on its way gets a place -/
theorem home_ok {d : D} {v : V} (r : RV K φ H0 H d v) {m : Hm} (R : RelH K base L φ m H) :
    ∃ φ', φ <+: φ' ∧ RelH K base L φ' (home d m).2 H ∧ RS K φ' H (home d m).1 v ∧ (∀ p ∈ φ', p ∈ φ ∨ H0 p = none) ∧ (φ' = φ ∨ ∃ p, v = .ref p ∧ φ' = φ ++ [p] ∧ H0 p = none) := by
  cases r with
  | st r =>
    have e : home d m = (d, m) := by cases r <;> rfl
    rw [e]
    exact ⟨φ, List.prefix_refl _, R, r, fun _ h => .inl h, .inl rfl⟩
  | tmp h n f z q =>
    rename_i p ho
    have go : home d m = (.adr m.length, m ++ [d]) := by
      cases q with
      | lst t => rfl
      | dK t u => rfl
      | lck => rfl
    rw [go]
    refine ⟨φ ++ [p], List.prefix_append _ _, R.home h n q, .adr ?_, fun a ha => ?_, .inr ⟨p, rfl, rfl, f⟩⟩
    · rw [← R.len, List.getElem?_append_right (Nat.le_refl _), Nat.sub_self]
      rfl
    · rcases List.mem_append.mp ha with ha | ha
      · exact .inl ha
      · simp at ha
        subst ha
        exact .inr f
/-- all things on their way get places -/
theorem homes_ok : ∀ {ds : List D} {vs : List V} {φ : List Addr} {H0 : Hp} {m : Hm}, RVs K φ H H0 U ds vs → RelH K base L φ m H →
    ∃ φ', φ <+: φ' ∧ RelH K base L φ' (homes ds m).2 H ∧ RSs K φ' H (homes ds m).1 vs ∧ ∀ p ∈ φ', p ∈ φ ∨ H0 p = none
  | _, _, φ, _, m, .nil _, R => ⟨φ, List.prefix_refl _, R, .nil, fun _ h => .inl h⟩
  | d :: ds, v :: vs, φ, H0, m, .cons (H1 := H1) a b c t, R => by
    rw [homes_cons]
    obtain ⟨φ1, p1, R1, s1, f1, w1⟩ := home_ok a R
    have t1 : RVs K φ1 H H1 U ds vs := by
      rcases w1 with e | ⟨p, ev, e, f⟩
      · rw [e]; exact t
      · rw [e]
        refine t.push ?_
        rcases c with c | ⟨p', ev', hp'⟩
        · -- a storable thing gets no place: then p is tracked nowhere new; the place is old
          cases a with
          | st z =>
            have e2 : home d m = (d, m) := by cases z <;> rfl
            rw [e2] at R1
            have := R1.len
            rw [e, List.length_append, R.len] at this
            simp at this
          | tmp h n f' z q =>
            cases q with
            | lst t => cases c
                  | dK t u => cases c
                  | lck => cases c
        · rw [ev] at ev'
          cases ev'
          exact hp'
    obtain ⟨φ2, p2, R2, s2, f2⟩ := homes_ok t1 R1
    refine ⟨φ2, p1.trans p2, R2, .cons (s1.mono (Kp.refl _ _) p2) s2, fun p hp => ?_⟩
    rcases f2 p hp with h | h
    · exact f1 p h
    · exact .inr (b p h)
end
theorem Step.homed {φ φ1 φ2 : List Addr} {H H1 : Hp} (s : Step φ H φ1 H1) (h : φ1 <+: φ2) (f : ∀ p ∈ φ2, p ∈ φ1 ∨ H p = none) : Step φ H φ2 H1 :=
  have ko : ∀ p, H p ≠ none → p ∉ φ → p ∉ φ2 := fun p e n hp => by
    rcases f p hp with z | z
    · exact s.kout p e n z
    · exact e z
  ⟨s.pre.trans h, s.dom, fun p o e n t => ⟨(s.keep p o e n t).1, ko p (by rw [e]; simp) n⟩, ko⟩
/-! ### sorted ints -/
section
variable {α : Type} {lt : α → α → Bool}
theorem ins_perm (x : α) : ∀ l : List α, (ins lt x l).Perm (x :: l)
  | [] => List.Perm.refl _
  | y :: ys => by
    unfold ins
    by_cases h : lt y x = true
    · rw [if_pos h]
      exact ((ins_perm x ys).cons y).trans (List.Perm.swap x y ys)
    · rw [if_neg h]
theorem isort_perm : ∀ l : List α, (isort lt l).Perm l
  | [] => List.Perm.refl _
  | x :: xs => (ins_perm x _).trans ((isort_perm xs).cons x)
theorem ins_sorted (tr : ∀ a b c, lt b a = false → lt c b = false → lt c a = false) (as : ∀ a b, lt a b = true → lt b a = false) (x : α) : ∀ l : List α, l.Pairwise (fun a b => lt b a = false) → (ins lt x l).Pairwise (fun a b => lt b a = false)
  | [], _ => List.pairwise_singleton _ _
  | y :: ys, h => by
    unfold ins
    obtain ⟨h1, h2⟩ := List.pairwise_cons.mp h
    by_cases c : lt y x = true
    · rw [if_pos c]
      refine List.pairwise_cons.mpr ⟨fun z hz => ?_, ins_sorted tr as x ys h2⟩
      rcases List.mem_cons.mp ((ins_perm x ys).mem_iff.mp hz) with e | hz
      · subst e; exact as _ _ c
      · exact h1 z hz
    · rw [if_neg c]
      have c' : lt y x = false := by simpa using c
      refine List.pairwise_cons.mpr ⟨fun z hz => ?_, h⟩
      rcases List.mem_cons.mp hz with e | hz
      · subst e; exact c'
      · exact tr x y z c' (h1 z hz)
theorem isort_sorted (tr : ∀ a b c, lt b a = false → lt c b = false → lt c a = false) (as : ∀ a b, lt a b = true → lt b a = false) : ∀ l : List α, (isort lt l).Pairwise (fun a b => lt b a = false)
  | [] => List.Pairwise.nil
  | x :: xs => ins_sorted tr as x _ (isort_sorted tr as xs)
/-- two sorted lists of the same things are one -/
theorem sorted_same (an : ∀ a b, lt a b = false → lt b a = false → a = b) : ∀ {l l' : List α}, l.Perm l' → l.Pairwise (fun a b => lt b a = false) → l'.Pairwise (fun a b => lt b a = false) → l = l'
  | [], l', p, _, _ => by rw [List.nil_perm.mp p]
  | x :: xs, [], p, _, _ => by cases List.perm_nil.mp p
  | x :: xs, y :: ys, p, h, h' => by
    obtain ⟨h1, h2⟩ := List.pairwise_cons.mp h
    obtain ⟨h1', h2'⟩ := List.pairwise_cons.mp h'
    have e : x = y := by
      rcases List.mem_cons.mp (p.mem_iff.mp List.mem_cons_self) with e | hx
      · exact e
      · rcases List.mem_cons.mp (p.mem_iff.mpr List.mem_cons_self) with e | hy
        · exact e.symm
        · exact an x y (h1' x hx) (h1 y hy)
    subst e
    rw [sorted_same an (p.cons_inv) h2 h2']
end
theorem int_tr (a b c : Int) (h1 : decide (b < a) = false) (h2 : decide (c < b) = false) : decide (c < a) = false := by
  simp at *
  omega
theorem int_as (a b : Int) (h1 : decide (a < b) = true) : decide (b < a) = false := by
  simp at *
  omega
theorem int_an (a b : Int) (h1 : decide (a < b) = false) (h2 : decide (b < a) = false) : a = b := by
  simp at *
  omega
theorem maxI_ok : ∀ {a : List Int} {k : Int}, maxI a = some k → 0 < a.length ∧ ∀ m, m ∈ a → (∀ y, y ∈ a → y ≤ m) → m = k
  | [], k, h => by simp [maxI] at h
  | x :: xs, k, h => by
    refine ⟨by simp, fun m hm hle => ?_⟩
    have spec : ∀ (l : List Int) (z : Int), maxI l = some z → z ∈ l ∧ ∀ y ∈ l, y ≤ z := by
      intro l
      induction l with
      | nil => intro z hz; simp [maxI] at hz
      | cons u us ih =>
        intro z hz
        unfold maxI at hz
        cases q : maxI us with
        | none =>
          rw [q] at hz
          cases us with
          | nil => simp at hz; subst hz; simp
          | cons w ws =>
            unfold maxI at q
            split at q <;> cases q
        | some w =>
          rw [q] at hz
          obtain ⟨i1, i2⟩ := ih w q
          simp at hz
          subst hz
          by_cases c : u < w
          · rw [if_pos c]; exact ⟨List.mem_cons_of_mem _ i1, fun y hy => (List.mem_cons.mp hy).elim (fun e => by omega) (fun hy => i2 y hy)⟩
          · rw [if_neg c]; exact ⟨List.mem_cons_self, fun y hy => (List.mem_cons.mp hy).elim (fun e => by omega) (fun hy => by have := i2 y hy; omega)⟩
    obtain ⟨k1, k2⟩ := spec _ _ h
    have := hle k k1
    have := k2 m hm
    omega
theorem minI_ok : ∀ {a : List Int} {k : Int}, minI a = some k → 0 < a.length ∧ ∀ m, m ∈ a → (∀ y, y ∈ a → m ≤ y) → m = k
  | [], k, h => by simp [minI] at h
  | x :: xs, k, h => by
    refine ⟨by simp, fun m hm hle => ?_⟩
    have spec : ∀ (l : List Int) (z : Int), minI l = some z → z ∈ l ∧ ∀ y ∈ l, z ≤ y := by
      intro l
      induction l with
      | nil => intro z hz; simp [minI] at hz
      | cons u us ih =>
        intro z hz
        unfold minI at hz
        cases q : minI us with
        | none =>
          rw [q] at hz
          cases us with
          | nil => simp at hz; subst hz; simp
          | cons w ws =>
            unfold minI at q
            split at q <;> cases q
        | some w =>
          rw [q] at hz
          obtain ⟨i1, i2⟩ := ih w q
          simp at hz
          subst hz
          by_cases c : w < u
          · rw [if_pos c]; exact ⟨List.mem_cons_of_mem _ i1, fun y hy => (List.mem_cons.mp hy).elim (fun e => by omega) (fun hy => i2 y hy)⟩
          · rw [if_neg c]; exact ⟨List.mem_cons_self, fun y hy => (List.mem_cons.mp hy).elim (fun e => by omega) (fun hy => by have := i2 y hy; omega)⟩
    obtain ⟨k1, k2⟩ := spec _ _ h
    have := hle k k1
    have := k2 m hm
    omega
end Bell
end

section
set_option maxRecDepth 100000
/-! built-in functions, by values -/
namespace Bell
open PySem PySem.Spec PyProof.Rows L2
def rBi (K : PySem.W.Frag) (b : Bi) : List V → Hp → VK → Prop := fun vs H Q => ∃ base L φ m H0 U ds d, RelH K base L φ m H ∧ RVs K φ H H0 U ds vs ∧ (∀ p, H p = none → H0 p = none) ∧ biD b ds m = some d ∧ QV K base L φ H0 H m d Q
section
variable {K : PySem.W.Frag} {base : Nat} {L : Nat → Nat} {φ φ' : List Addr} {m m' : Hm} {H H0 H1 H' U : Hp}
theorem RVs.one {x : D} {vs : List V} (r : RVs K φ H H0 U [x] vs) : ∃ v, vs = [v] ∧ RV K φ H0 H x v := by
  cases r with
  | cons a b c t => cases t; exact ⟨_, rfl, a⟩
theorem RVs.two {x y : D} {vs : List V} (r : RVs K φ H H0 U [x, y] vs) : ∃ v w, vs = [v, w] ∧ RV K φ H0 H x v ∧ RV K φ H0 H y w := by
  cases r with
  | cons a b c t =>
    cases t with
    | cons a' b' c' t' => cases t'; exact ⟨_, _, rfl, a, a'.older b⟩
theorem itemsL_ok (R : RelH K base L φ m H) {x : D} {v : V} {xs : List D} (r : RV K φ H0 H x v) (e : itemsL m x = some xs) : ∃ p vs, v = .ref p ∧ SqL K H p vs ∧ RSs K φ H xs vs := by
  unfold itemsL at e
  cases q : deref m x with
  | none => rw [q] at e; cases e
  | some d =>
    rw [q] at e
    cases d with
    | lst ys =>
      cases e
      obtain ⟨p, vs, h1, h2, h3⟩ := deref_lst R r q
      exact ⟨p, vs, h1, SqL.of h2, h3⟩
    | fro ys =>
      cases e
      obtain ⟨p, vs, h1, h2, h3⟩ := deref_fro R r q
      exact ⟨p, vs, h1, h2, h3⟩
    | _ => cases e
/-- a built-in function of a list of ints -/
theorem listInts (R : RelH K base L φ m H) {x d : D} {v : V} (r : RV K φ H0 H x v) {f : List Int → Option D} (e : (itemsL m x).bind (fun xs => (asInts xs).bind f) = some d) :
    ∃ p ns, v = .ref p ∧ SqL K H p (ns.map V.int) ∧ f ns = some d := by
  cases q : itemsL m x with
  | none => rw [q] at e; cases e
  | some xs =>
    rw [q] at e
    simp only [Option.bind_some] at e
    cases q2 : asInts xs with
    | none => rw [q2] at e; cases e
    | some ns =>
      rw [q2] at e
      obtain ⟨p, vs, h1, h2, h3⟩ := itemsL_ok R r q
      have := h3.intsT q2; subst this
      exact ⟨p, ns, h1, h2, e⟩
theorem listBools (R : RelH K base L φ m H) {x d : D} {v : V} (r : RV K φ H0 H x v) {f : List Bool → Option D} (e : (itemsL m x).bind (fun xs => (asBools xs).bind f) = some d) :
    ∃ p ns, v = .ref p ∧ SqL K H p (ns.map V.bl) ∧ f ns = some d := by
  cases q : itemsL m x with
  | none => rw [q] at e; cases e
  | some xs =>
    rw [q] at e
    simp only [Option.bind_some] at e
    cases q2 : asBools xs with
    | none => rw [q2] at e; cases e
    | some ns =>
      rw [q2] at e
      obtain ⟨p, vs, h1, h2, h3⟩ := itemsL_ok R r q
      have := h3.of_bools q2; subst this
      exact ⟨p, ns, h1, h2, e⟩
end
section
variable {X : Cx}
theorem one_of {b : Bi} (h0 : ∀ m, biD b [] m = none) (h2 : ∀ x y t m, biD b (x :: y :: t) m = none) {ds : List D} {m : Hm} {d : D} (e : biD b ds m = some d) : ∃ x, ds = [x] := by
  match ds, e with
  | [], e => rw [h0] at e; cases e
  | [x], _ => exact ⟨x, rfl⟩
  | x :: y :: t, e => rw [h2] at e; cases e
theorem bi_len : CallR X (.builtin "len") (rBi X.K .len) := by
  intro pins s σ H vs us Q I r h
  obtain ⟨base, L, φ, m, H0, U, ds, d, R, rs, hd, e, q⟩ := h
  obtain ⟨x, rfl⟩ := one_of (b := .len) (fun _ => rfl) (fun _ _ _ _ => rfl) e
  obtain ⟨v, rfl, rv⟩ := rs.one
  have e : lenD m x = some d := e
  unfold lenD at e
  split at e
  · rename_i xs e1
    cases e
    obtain ⟨p, ws, rfl, h1, t1⟩ := deref_lst R rv e1
    exact call_len_seq pins s σ H _ us Q I r ⟨p, ws, rfl, .inl (SqL.of h1), by rw [← t1.length]; exact q.stay R (.int _)⟩
  · rename_i xs e1
    cases e
    obtain ⟨p, ws, rfl, h1, t1⟩ := deref_fro R rv e1
    exact call_len_seq pins s σ H _ us Q I r ⟨p, ws, rfl, .inl h1, by rw [← t1.length]; exact q.stay R (.int _)⟩
  · rename_i xs e1
    cases e
    have := deref_out R rv e1 (fun _ z => by cases z) (fun _ z => by cases z) (fun _ _ z => by cases z)
    subst this
    obtain ⟨p, ws, rfl, h1, t1⟩ := rv.tup
    exact call_len_seq pins s σ H _ us Q I r ⟨p, ws, rfl, .inr h1, by rw [← t1.length]; exact q.stay R (.int _)⟩
  · rename_i z e1
    split at e
    · rename_i hb
      cases e
      have := deref_out R rv e1 (fun _ z => by cases z) (fun _ z => by cases z) (fun _ _ z => by cases z)
      subst this
      have := rv.str; subst this
      exact call_len_str pins s σ H _ us Q I r ⟨z, rfl, isBig_le hb, q.stay R (.int _)⟩
    · cases e
  · rename_i ks ws e1
    cases e
    obtain ⟨p, kvs, rfl, h1, t1, t2⟩ := deref_dct R rv e1
    have el := t1.length
    rw [List.length_map] at el
    exact call_lenD pins s σ H _ us Q I r ⟨p, kvs, rfl, h1, by rw [← el]; exact q.stay R (.int _)⟩
  · cases e
theorem bi_abs : CallR X (.builtin "abs") (rBi X.K .abs) := by
  intro pins s σ H vs us Q I r h
  obtain ⟨base, L, φ, m, H0, U, ds, d, R, rs, hd, e, q⟩ := h
  obtain ⟨x, rfl⟩ := one_of (b := .abs) (fun _ => rfl) (fun _ _ _ _ => rfl) e
  obtain ⟨v, rfl, rv⟩ := rs.one
  have e : absD x = some d := e
  cases x with
  | int i =>
    cases e
    have := rv.int; subst this
    exact call_abs pins s σ H _ us Q I r ⟨i, rfl, q.stay R (.int _)⟩
  | _ => cases e
theorem bi_int : CallR X (.type "int") (rBi X.K .int) := by
  intro pins s σ H vs us Q I r h
  obtain ⟨base, L, φ, m, H0, U, ds, d, R, rs, hd, e, q⟩ := h
  obtain ⟨x, rfl⟩ := one_of (b := .int) (fun _ => rfl) (fun _ _ _ _ => rfl) e
  obtain ⟨v, rfl, rv⟩ := rs.one
  have e : intD x = some d := e
  cases x with
  | int i =>
    cases e
    have := rv.int; subst this
    exact call_int1 pins s σ H _ us Q I r (.inl ⟨i, rfl, q.stay R (.int _)⟩)
  | bl i =>
    cases e
    have := rv.bl; subst this
    exact call_int1 pins s σ H _ us Q I r (.inr ⟨i, rfl, q.stay R (.int _)⟩)
  | _ => cases e
theorem bi_tuple : CallR X (.type "tuple") (rBi X.K .tuple) := by
  intro pins s σ H vs us Q I r h
  obtain ⟨base, L, φ, m, H0, U, ds, d, R, rs, hd, e, q⟩ := h
  obtain ⟨x, rfl⟩ := one_of (b := .tuple) (fun _ => rfl) (fun _ _ _ _ => rfl) e
  obtain ⟨v, rfl, rv⟩ := rs.one
  have e : (items m x).map D.tup = some d := e
  cases hi : items m x with
  | none => rw [hi] at e; cases e
  | some xs =>
    rw [hi] at e
    cases e
    obtain ⟨p, ws, rfl, h1, t1⟩ := items_ok R rv hi
    rcases h1 with h1 | h1
    · exact call_tuple_of pins s σ H _ us Q I r ⟨p, ws, rfl, .inl ⟨h1, fun l hl => q.newT R hl t1⟩⟩
    · exact call_tuple_of pins s σ H _ us Q I r ⟨p, ws, rfl, .inr ⟨h1, q.stay R (.tup h1 t1)⟩⟩
theorem bi_list (hc : X.calm = true) : CallR X (.type "list") (rBi X.K .list) := by
  intro pins s σ H vs us Q I r h
  obtain ⟨base, L, φ, m, H0, U, ds, d, R, rs, hd, e, q⟩ := h
  obtain ⟨x, rfl⟩ := one_of (b := .list) (fun _ => rfl) (fun _ _ _ _ => rfl) e
  obtain ⟨v, rfl, rv⟩ := rs.one
  have e : listD m x = some d := e
  unfold listD at e
  split at e
  · rename_i xs e1
    cases e
    obtain ⟨p, ws, rfl, h1, t1⟩ := deref_lst R rv e1
    exact call_list_of pins s σ H _ us Q I r ⟨p, ws, rfl, .inl (SqL.of h1), fun l hl => q.new R hd hl (fun _ z => by cases z) (.lst t1)⟩
  · rename_i xs e1
    cases e
    have := deref_out R rv e1 (fun _ z => by cases z) (fun _ z => by cases z) (fun _ _ z => by cases z)
    subst this
    obtain ⟨p, ws, rfl, h1, t1⟩ := rv.tup
    exact call_list_of pins s σ H _ us Q I r ⟨p, ws, rfl, .inr h1, fun l hl => q.new R hd hl (fun _ z => by cases z) (.lst t1)⟩
  · rename_i xs e1
    cases e
    obtain ⟨p, ws, rfl, h1, t1⟩ := deref_fro R rv e1
    exact call_list_of pins s σ H _ us Q I r ⟨p, ws, rfl, .inl h1, fun l hl => q.new R hd hl (fun _ z => by cases z) (.lst t1)⟩
  · rename_i ks ws e1
    cases e
    obtain ⟨p, kvs, rfl, h1, t1, t2⟩ := deref_dct R rv e1
    exact call_list_dK hc pins s σ H _ us Q I r ⟨p, kvs, rfl, h1, fun l hl => q.new R hd hl (fun _ z => by cases z) (.lst t1)⟩
  · cases e
theorem bi_sum (hc : X.calm = true) : CallR X (.builtin "sum") (rBi X.K .sum) := by
  intro pins s σ H vs us Q I r h
  obtain ⟨base, L, φ, m, H0, U, ds, d, R, rs, hd, e, q⟩ := h
  obtain ⟨x, rfl⟩ := one_of (b := .sum) (fun _ => rfl) (fun _ _ _ _ => rfl) e
  obtain ⟨v, rfl, rv⟩ := rs.one
  obtain ⟨p, ns, rfl, h1, h2⟩ := listInts R rv e
  cases h2
  exact cr_sum hc pins s σ H _ us Q I r ⟨p, ns, rfl, h1, q.stay R (.int _)⟩
theorem bi_any (hc : X.calm = true) : CallR X (.builtin "any") (rBi X.K .any) := by
  intro pins s σ H vs us Q I r h
  obtain ⟨base, L, φ, m, H0, U, ds, d, R, rs, hd, e, q⟩ := h
  obtain ⟨x, rfl⟩ := one_of (b := .any) (fun _ => rfl) (fun _ _ _ _ => rfl) e
  obtain ⟨v, rfl, rv⟩ := rs.one
  obtain ⟨p, ns, rfl, h1, h2⟩ := listBools R rv e
  cases h2
  exact cr_any hc pins s σ H _ us Q I r ⟨p, ns, rfl, h1, q.stay R (.bl _)⟩
theorem bi_all (hc : X.calm = true) : CallR X (.builtin "all") (rBi X.K .all) := by
  intro pins s σ H vs us Q I r h
  obtain ⟨base, L, φ, m, H0, U, ds, d, R, rs, hd, e, q⟩ := h
  obtain ⟨x, rfl⟩ := one_of (b := .all) (fun _ => rfl) (fun _ _ _ _ => rfl) e
  obtain ⟨v, rfl, rv⟩ := rs.one
  obtain ⟨p, ns, rfl, h1, h2⟩ := listBools R rv e
  cases h2
  exact cr_all hc pins s σ H _ us Q I r ⟨p, ns, rfl, h1, q.stay R (.bl _)⟩
theorem bi_max (hc : X.calm = true) : CallR X (.builtin "max") (rBi X.K .max) := by
  intro pins s σ H vs us Q I r h
  obtain ⟨base, L, φ, m, H0, U, ds, d, R, rs, hd, e, q⟩ := h
  match ds, e, rs with
  | [], e, _ => cases e
  | [x], e, rs =>
    obtain ⟨v, rfl, rv⟩ := rs.one
    obtain ⟨p, ns, rfl, h1, h2⟩ := listInts R rv (f := fun a => (maxI a).map .int) e
    cases hm : maxI ns with
    | none => rw [hm] at h2; cases h2
    | some k =>
      rw [hm] at h2
      cases h2
      obtain ⟨l, u⟩ := maxI_ok hm
      exact cr_max hc pins s σ H _ us Q I r ⟨p, ns, rfl, h1, l, fun z hz hle => by rw [u z hz hle]; exact q.stay R (.int _)⟩
  | [x, y], e, rs =>
    obtain ⟨v, w, rfl, rv, rw'⟩ := rs.two
    have e : max2 x y = some d := e
    unfold max2 at e
    split at e
    · cases e
      have := rv.int; subst this
      have := rw'.int; subst this
      exact call_max2 hc pins s σ H _ us Q I r ⟨_, _, rfl, q.stay R (.int _)⟩
    · cases e
  | x :: y :: z :: t, e, _ => cases e
theorem bi_min (hc : X.calm = true) : CallR X (.builtin "min") (rBi X.K .min) := by
  intro pins s σ H vs us Q I r h
  obtain ⟨base, L, φ, m, H0, U, ds, d, R, rs, hd, e, q⟩ := h
  match ds, e, rs with
  | [], e, _ => cases e
  | [x], e, rs =>
    obtain ⟨v, rfl, rv⟩ := rs.one
    obtain ⟨p, ns, rfl, h1, h2⟩ := listInts R rv (f := fun a => (minI a).map .int) e
    cases hm : minI ns with
    | none => rw [hm] at h2; cases h2
    | some k =>
      rw [hm] at h2
      cases h2
      obtain ⟨l, u⟩ := minI_ok hm
      exact cr_min hc pins s σ H _ us Q I r ⟨p, ns, rfl, h1, l, fun z hz hle => by rw [u z hz hle]; exact q.stay R (.int _)⟩
  | [x, y], e, rs =>
    obtain ⟨v, w, rfl, rv, rw'⟩ := rs.two
    have e : min2 x y = some d := e
    unfold min2 at e
    split at e
    · cases e
      have := rv.int; subst this
      have := rw'.int; subst this
      exact call_min2 hc pins s σ H _ us Q I r ⟨_, _, rfl, q.stay R (.int _)⟩
    · cases e
  | x :: y :: z :: t, e, _ => cases e
end
end Bell
end

section
set_option maxRecDepth 100000
/-! sorted of tuples of ints, any of them empty -/
namespace Bell
open PySem PySem.Spec PyProof.Rows L2 SrtO
section
variable {prog : Program} {w : World} {A : Around} {E : Value → Shared → Prop} {s : Shared}
/-- the ints of a tuple that stands in a heap -/
def IntTup (h : Heap) (v : Value) (ns : List Int) : Prop := ∃ a items, v = .ref a ∧ IsTup h a items ∧ IntsAre items.toList ns
theorem IntTup.inj {h : Heap} {v : Value} {ns ms : List Int} (a : IntTup h v ns) (b : IntTup h v ms) : ns = ms := by
  obtain ⟨p, it, rfl, ⟨o, e1, e2, n, e3⟩, i1⟩ := a
  obtain ⟨p', it', e, ⟨o', e1', e2', n', e3'⟩, i2⟩ := b
  cases e
  rw [e1] at e1'; cases e1'
  rw [e3] at e3'
  injection e3' with d1 _
  subst d1
  exact (vals_of_ints i1).inj (vals_of_ints i2) |> fun z => by
    have := congrArg (fun l => l.map fun v => match v with | V.int i => i | _ => 0) z
    simpa [List.map_map, Function.comp_def] using this
theorem IntTup.keep {h h' : Heap} {v : Value} {ns : List Int} (a : IntTup h v ns) (k : ∀ p o, v = .ref p → h.get? p = some o → h'.get? p = some o) : IntTup h' v ns := by
  obtain ⟨p, it, e, ⟨o, e1, e2, n, e3⟩, i1⟩ := a
  exact ⟨p, it, e, ⟨o, k p o e e1, e2, n, e3⟩, i1⟩
open Classical in
noncomputable def tupOf (h : Heap) (v : Value) : List Int := if e : ∃ ns, IntTup h v ns then e.choose else []
theorem tupOf_eq {h : Heap} {v : Value} {ns : List Int} (a : IntTup h v ns) : tupOf h v = ns := by
  unfold tupOf
  have e : ∃ ns, IntTup h v ns := ⟨ns, a⟩
  rw [dif_pos e]
  exact e.choose_spec.inj a
theorem lexLt_as : ∀ a b : List Int, lexLt a b = true → lexLt b a = false
  | [], [], h => by simp [lexLt] at h
  | [], _ :: _, _ => rfl
  | _ :: _, [], h => by simp [lexLt] at h
  | x :: xs, y :: ys, h => by
    unfold lexLt at h ⊢
    by_cases e : x = y
    · subst e
      rw [if_pos rfl] at h ⊢
      exact lexLt_as xs ys h
    · rw [if_neg e] at h
      rw [if_neg (Ne.symm e)]
      have := of_decide_eq_true h
      exact decide_eq_false (by omega)
theorem lexLt_tr : ∀ a b c : List Int, lexLt b a = false → lexLt c b = false → lexLt c a = false
  | [], [], c, _, h => h
  | [], y :: ys, c, _, h => by
    cases c with
    | nil => rfl
    | cons z zs => rfl
  | x :: xs, [], c, h, _ => by simp [lexLt] at h
  | x :: xs, y :: ys, [], _, h => by simp [lexLt] at h
  | x :: xs, y :: ys, z :: zs, h1, h2 => by
    unfold lexLt at h1 h2 ⊢
    by_cases e1 : y = x
    · subst e1
      rw [if_pos rfl] at h1
      by_cases e2 : z = y
      · subst e2
        rw [if_pos rfl] at h2 ⊢
        exact lexLt_tr xs ys zs h1 h2
      · rw [if_neg e2] at h2 ⊢
        exact h2
    · rw [if_neg e1] at h1
      have := of_decide_eq_false h1
      by_cases e2 : z = y
      · subst e2
        rw [if_neg e1]
        exact h1
      · rw [if_neg e2] at h2
        have := of_decide_eq_false h2
        rw [if_neg (by omega)]
        exact decide_eq_false (by omega)
theorem lexLt_an : ∀ a b : List Int, lexLt a b = false → lexLt b a = false → a = b
  | [], [], _, _ => rfl
  | [], _ :: _, h, _ => by simp [lexLt] at h
  | _ :: _, [], _, h => by simp [lexLt] at h
  | x :: xs, y :: ys, h1, h2 => by
    unfold lexLt at h1 h2
    by_cases e : x = y
    · subst e
      rw [if_pos rfl] at h1 h2
      rw [lexLt_an xs ys h1 h2]
    · rw [if_neg e] at h1
      rw [if_neg (Ne.symm e)] at h2
      have := of_decide_eq_false h1
      have := of_decide_eq_false h2
      omega
noncomputable def ltT (h : Heap) (v u : Value) : Bool := lexLt (tupOf h v) (tupOf h u)
theorem swo_tup (h : Heap) : Swo (ltT h) := by
  refine ⟨fun x y hxy => lexLt_as _ _ hxy, fun x y z h1 h2 => ?_⟩
  exact lexLt_tr _ _ _ h1 h2
/-- the first items -/
inductive Firsts (h : Heap) : List Value → List (Option Value) → Prop
  | nil : Firsts h [] []
  | no {v : Value} {vs : List Value} {fs : List (Option Value)} : IntTup h v [] → Firsts h vs fs → Firsts h (v :: vs) (none :: fs)
  | yes {v : Value} {vs : List Value} {fs : List (Option Value)} {i : Int} {t : Tok} {ns : List Int} {a : Addr} {items : Array Value} : v = .ref a → IsTup h a items → IntsAre items.toList (i :: ns) → items[0]? = some (.int i t) → Firsts h vs fs → Firsts h (v :: vs) (some (.int i t) :: fs)
theorem firsts_ex {h : Heap} : ∀ {vs : List Value}, (∀ v ∈ vs, ∃ ns, IntTup h v ns) → ∃ fs, Firsts h vs fs
  | [], _ => ⟨[], .nil⟩
  | v :: vs, k => by
    obtain ⟨fs, hf⟩ := firsts_ex (vs := vs) fun u hu => k u (List.mem_cons_of_mem _ hu)
    obtain ⟨ns, hn⟩ := k v List.mem_cons_self
    cases ns with
    | nil => exact ⟨_, .no hn hf⟩
    | cons i ns =>
      obtain ⟨a, items, e, ht, hi⟩ := hn
      have hi' := hi
      cases hl : items.toList with
      | nil => rw [hl] at hi; cases hi
      | cons u us =>
        rw [hl] at hi
        cases hi with
        | cons n t r =>
          refine ⟨_, .yes (t := t) e ht hi' ?_ hf⟩
          have := congrArg (fun l => l[0]?) hl
          simpa using this
theorem firsts_run {M : Model} : ∀ {vs : List Value} {fs : List (Option Value)} {Q : List (Option Value) → Shared → Prop}, Firsts s.heap vs fs → Q fs s → wpAny M A (vs.mapM firstOfTuple') Q E s
  | _, _, Q, .nil, h => by rw [List.mapM_nil]; exact wpAny_pure h
  | _, _, Q, .no (vs := vs) (fs := fs) hn hf, h => by
    obtain ⟨a, items, rfl, ⟨o, ho, hc, n, hd⟩, hi⟩ := hn
    rw [List.mapM_cons]
    refine wpAny_bind ?_
    rw [PySem.W.kas_first_eq]
    refine wpAny_bind (PySem.W.Looks.here (show PySem.W.Looks M s.heap (typeOf (.ref a)) o.cls from (PySem.W.Looks.ld ho).andThen .now) ?_)
    rw [hc, if_neg (by first | decide | simp)]
    refine wpAny_bind (listItems_at ho hd (wpAny_pure ?_))
    have e0 : items[0]? = none := by
      have : items.toList = [] := by
        cases q : items.toList with
        | nil => rfl
        | cons u us => rw [q] at hi; cases hi
      have := congrArg (fun l => l[0]?) this
      simpa using this
    rw [e0]
    exact wpAny_bind (firsts_run (Q := fun bs s' => wpAny M A (pure (none :: bs)) Q E s') hf (wpAny_pure h))
  | _, _, Q, .yes (vs := vs) (fs := fs) e ht hi h0 hf, h => by
    subst e
    obtain ⟨o, ho, hc, n, hd⟩ := ht
    rw [List.mapM_cons]
    refine wpAny_bind ?_
    rw [PySem.W.kas_first_eq]
    refine wpAny_bind (PySem.W.Looks.here (show PySem.W.Looks M s.heap (typeOf (.ref _)) o.cls from (PySem.W.Looks.ld ho).andThen .now) ?_)
    rw [hc, if_neg (by first | decide | simp)]
    refine wpAny_bind (listItems_at ho hd (wpAny_pure ?_))
    rw [h0]
    exact wpAny_bind (firsts_run (Q := fun bs s' => wpAny M A (pure (some _ :: bs)) Q E s') hf (wpAny_pure h))
theorem firsts_all {h : Heap} : ∀ {vs : List Value} {fs : List (Option Value)}, Firsts h vs fs → fs.all (·.isSome) = true → ∃ gs, TupsOf h (fun _ => false) vs gs
  | _, _, .nil, _ => ⟨[], .nil⟩
  | _, _, .no hn hf, e => by simp at e
  | _, _, .yes (i := i) (t := t) e1 ht hi h0 hf, e => by
    obtain ⟨gs, hg⟩ := firsts_all hf (by simpa using e)
    obtain ⟨o, ho, hc, n, hd⟩ := ht
    exact ⟨_, .cons ⟨_, o, _, n, e1, ho, hc, hd, h0, fun _ => ⟨i, t, rfl⟩, fun z => by cases z⟩ hg⟩
theorem firsts_len {h : Heap} {vs : List Value} {fs : List (Option Value)} (f : Firsts h vs fs) : fs.length = vs.length := by
  induction f with
  | nil => rfl
  | no a b ih => simp [ih]
  | yes a b c d e ih => simp [ih]
theorem typeOf_tup {M : Model} {v : Value} {ns : List Int} (h : IntTup s.heap v ns) {Q : Value → Shared → Prop} (q : Q (.type "tuple") s) : wpAny M A (typeOf v) Q E s := by
  obtain ⟨a, items, rfl, ⟨o, ho, hc, n, hd⟩, hi⟩ := h
  refine PySem.W.Looks.here (show PySem.W.Looks M s.heap (typeOf (.ref a)) o.cls from (PySem.W.Looks.ld ho).andThen .now) ?_
  rw [hc]
  exact q
/-- which comparison sorted takes for tuples of ints -/
theorem kind_tups {M : Model} {vs : List Value} (h2 : 2 ≤ vs.length) (k : ∀ v ∈ vs, ∃ ns, IntTup s.heap v ns) :
    (∃ gs, TupsOf s.heap (fun _ => false) vs gs ∧ ∀ (Q : SortKind → Shared → Prop) (E : Value → Shared → Prop), Q (tuples' true) s → wpAny M A (keyKind' vs.toArray) Q E s) ∨
    (∀ (Q : SortKind → Shared → Prop) (E : Value → Shared → Prop), Q general' s → wpAny M A (keyKind' vs.toArray) Q E s) ∨ ∀ (Q : SortKind → Shared → Prop) (E : Value → Shared → Prop), Q oneType' s → wpAny M A (keyKind' vs.toArray) Q E s := by
  obtain ⟨fs, hf⟩ := firsts_ex k
  cases ha : fs.all (·.isSome) with
  | true =>
    obtain ⟨gs, hg⟩ := firsts_all hf ha
    have hl : gs.length = vs.length := PyProof.Rows.G.TupsOf.length hg
    exact .inl ⟨gs, hg, fun Q E q => tup_kind (by omega) hg q⟩
  | false =>
    have ha' : ¬ (fs.toArray.all fun x => x.isSome) = true := by
      intro z
      rw [List.all_toArray] at z
      rw [z] at ha
      cases ha
    cases h0 : (fs[0]?.bind id).isSome with
    | true =>
      refine .inr (.inl fun Q E q => ?_)
      rw [keyKind'_eq, List.mapM_toArray, map_eq_pure_bind]
      refine wpAny_bind (wpAny_bind (firsts_run hf (wpAny_pure ?_)))
      rw [if_neg ha', if_pos (by simpa using h0)]
      exact wpAny_pure q
    | false =>
      refine .inr (.inr fun Q E q => ?_)
      rw [keyKind'_eq, List.mapM_toArray, map_eq_pure_bind]
      refine wpAny_bind (wpAny_bind (firsts_run hf (wpAny_pure ?_)))
      rw [if_neg ha', if_neg (by simpa using h0)]
      rw [oneTypeOnly'_eq, List.mapM_toArray, map_eq_pure_bind]
      refine wpAny_bind (wpAny_bind (wpAny_bind (PySem.W.kas_mapM (r := .type "tuple") _ (fun v hv Q' hq => ?_) (wpAny_pure ?_))))
      · obtain ⟨ns, hn⟩ := k v hv
        exact typeOf_tup hn hq
      · obtain ⟨v₁, rest, rfl⟩ : ∃ v₁ rest, vs = v₁ :: rest := by
          match vs, h2 with
          | v₁ :: rest, _ => exact ⟨v₁, rest, rfl⟩
        have hall : ((List.map (fun _ => Value.type "tuple") (v₁ :: rest)).toArray.all fun x => x == Value.type "tuple") = true := by
          simp only [List.all_toArray, List.all_map, List.all_eq_true]
          intro _ _
          rfl
        have h00 : (List.map (fun _ => Value.type "tuple") (v₁ :: rest)).toArray[0]? = some (Value.type "tuple") := by simp
        rw [h00]
        simp only [hall, if_true]
        exact wpAny_pure (wpAny_pure q)
/-- two of them compared, each way -/
theorem cmp_one {v u : Value} {ns ms : List Int} (hu : A.units < cLine) (h1 : IntTup s.heap v ns) (h2 : IntTup s.heap u ms) {Q : Bool → Shared → Prop} (q : Q (lexLt ns ms) s) : wpAny (model prog w) A (keyLt' oneType' v u) Q E s := by
  obtain ⟨l, items, rfl, ⟨⟨cls, dd, data, sl⟩, ho, hc, n, hd⟩, hi⟩ := h1
  obtain ⟨b, items2, rfl, ⟨⟨cls2, dd2, data2, sl2⟩, ho2, hc2, n2, hd2⟩, hi2⟩ := h2
  simp only at hc hd hc2 hd2
  subst hc hd hc2 hd2
  rw [keyLt'_oneType, oneLt'_eq]
  simp only [if_true]
  refine wpAny_bind (wpAny_cRoomFor hu ?_)
  refine wpAny_bind (wpAny_callSpecialIfBound?_slot ⟨_, ho, rfl⟩ PySem.F.slot_tuple_lt (call_meets PySem.F.slot_tuple_lt ⟨_, ho, rfl⟩ PySem.F.entry_tuple_lt (PySem.F.args_tuple_lt_2 _ _) (HT.tuple_lt_ints l b items items2 n n2 dd dd2 sl sl2 ns ms hi hi2) ⟨ho, ho2, ?_⟩))
  show wpAny (model prog w) A (truthOfDropped (.bool (HT.lexLt ns ms))) Q E s
  refine wpAny_truthy_bool ?_
  rw [← lexLt_eq]
  exact q
theorem cmp_gen {v u : Value} {ns ms : List Int} (hu : A.units < cLine) (h1 : IntTup s.heap v ns) (h2 : IntTup s.heap u ms) {Q : Bool → Shared → Prop} (q : Q (lexLt ns ms) s) : wpAny (model prog w) A (keyLt' general' v u) Q E s := by
  obtain ⟨l, items, rfl, ht, hi⟩ := h1
  obtain ⟨b, items2, rfl, ht2, hi2⟩ := h2
  show wpAny (model prog w) A (oneLt' false (.ref l) (.ref b)) Q E s
  rw [oneLt'_eq]
  simp only [Bool.false_eq_true, if_false]
  refine wpAny_bind (show wpAny (model prog w) A (compareOp .Lt (.ref l) (.ref b)) _ E s from HT.lt_tupInts ht ht2 hi hi2 hu (wpAny_truthy_bool ?_))
  rw [← lexLt_eq]
  exact q
theorem key_ints {shape : Nat → Bool} (hs : ∀ i, shape i = false) : ∀ {vs : List Value} {ns : List Int} (i : Nat), IntsAre vs ns → tupItems shape i vs = some (ns.map Sum.inl)
  | _, _, i, .nil => rfl
  | _, _, i, .cons n t r => by
    have ih := key_ints hs (i + 1) r
    simp [tupItems, hs, ih]
theorem lex_inl : ∀ a b : List Int, PyProof.Rows.lexLt itemOrd (a.map Sum.inl) (b.map Sum.inl) = lexLt a b
  | [], [] => rfl
  | [], _ :: _ => rfl
  | _ :: _, [] => rfl
  | x :: xs, y :: ys => by
    by_cases e : x = y
    · subst e
      have := lex_inl xs ys
      rw [List.map_cons, List.map_cons]
      unfold lexLt
      rw [if_pos rfl, ← this]
      show (decide (x < x) || (!decide (x < x) && PyProof.Rows.lexLt itemOrd (xs.map Sum.inl) (ys.map Sum.inl))) = _
      simp
    · rw [List.map_cons, List.map_cons, lex_diff (O := itemOrd) (fun z => e (Sum.inl.inj z))]
      unfold lexLt
      rw [if_neg e]
      rfl
theorem cmp_tup {v u : Value} {ns ms : List Int} (h1 : IntTup s.heap v ns) (h2 : IntTup s.heap u ms) {Q : Bool → Shared → Prop} (q : Q (lexLt ns ms) s) : wpAny (model prog w) A (keyLt' (tuples' true) v u) Q E s := by
  obtain ⟨l, items, rfl, ⟨o, ho, hc, n, hd⟩, hi⟩ := h1
  obtain ⟨b, items2, rfl, ⟨o2, ho2, hc2, n2, hd2⟩, hi2⟩ := h2
  refine tup_ltAt (shape := fun _ => false) true A E _ _ (ns.map Sum.inl) (ms.map Sum.inl) ?_ ?_ ?_
  · show tupKey s.heap _ (.ref l) = _
    simp only [tupKey, ho, hd]
    exact key_ints (fun _ => rfl) 0 hi
  · show tupKey s.heap _ (.ref b) = _
    simp only [tupKey, ho2, hd2]
    exact key_ints (fun _ => rfl) 0 hi2
  · show Q (PyProof.Rows.lexLt itemOrd (ns.map Sum.inl) (ms.map Sum.inl)) s
    rw [lex_inl]
    exact q
theorem sortable_tups {a : Addr} {vs : List Value} {h0 : Heap} (hu : A.units < cLine) (h2 : 2 ≤ vs.length) (hk : ∀ v ∈ vs, ∃ ns, IntTup h0 v ns) (hs : ∀ p o, h0.get? p = some o → p ≠ a ∧ s.heap.get? p = some o) : SortableO prog w A s a vs (ltT h0) := by
  intro h' keep
  have tr : ∀ {v : Value} {ns : List Int}, IntTup h0 v ns → IntTup h' v ns := fun t => t.keep fun p o _ e => keep p o (hs p o e).1 (hs p o e).2
  have k' : ∀ v ∈ vs, ∃ ns, IntTup ({ s with heap := h' } : Shared).heap v ns := fun v hv => by
    obtain ⟨ns, hn⟩ := hk v hv
    exact ⟨ns, tr hn⟩
  have val : ∀ {v u : Value} {ns ms : List Int}, IntTup h0 v ns → IntTup h0 u ms → ltT h0 v u = lexLt ns ms := fun a b => by
    unfold ltT
    rw [tupOf_eq a, tupOf_eq b]
  rcases kind_tups (A := A) (M := model prog w) (s := { s with heap := h' }) h2 k' with ⟨gs, _, z⟩ | z | z
  · refine ⟨_, z, fun p q hp hq => ?_⟩
    obtain ⟨ns, hn⟩ := hk _ hp
    obtain ⟨ms, hm⟩ := hk _ hq
    exact cmp_tup (tr hn) (tr hm) ⟨rfl, (val hn hm).symm⟩
  · refine ⟨_, z, fun p q hp hq => ?_⟩
    obtain ⟨ns, hn⟩ := hk _ hp
    obtain ⟨ms, hm⟩ := hk _ hq
    exact cmp_gen hu (tr hn) (tr hm) ⟨rfl, (val hn hm).symm⟩
  · refine ⟨_, z, fun p q hp hq => ?_⟩
    obtain ⟨ns, hn⟩ := hk _ hp
    obtain ⟨ms, hm⟩ := hk _ hq
    exact cmp_one hu (tr hn) (tr hm) ⟨rfl, (val hn hm).symm⟩
end
section
variable {X : Cx} {K : PySem.W.Frag} {base : Nat} {L : Nat → Nat} {φ φ' : List Addr} {m m' : Hm} {H H0 H1 H' : Hp}
theorem asLexs_ok : ∀ {xs : List D} {b : List (List Int)}, asLexs xs = some b → xs = b.map encI
  | [], b, h => by simp [asLexs] at h; subst h; rfl
  | x :: xs, b, h => by
    cases x with
    | tup ys =>
      unfold asLexs at h
      cases h1 : asInts ys with
      | none => rw [h1] at h; simp at h
      | some a =>
        cases h2 : asLexs xs with
        | none => rw [h1, h2] at h; simp at h
        | some r =>
          rw [h1, h2] at h
          simp at h
          subst h
          rw [asLexs_ok h2, List.map_cons]
          have : ∀ {ys : List D} {a : List Int}, asInts ys = some a → ys = a.map D.int := by
            intro ys
            induction ys with
            | nil => intro a h; simp [asInts] at h; subst h; rfl
            | cons y ys ih =>
              intro a h
              cases y with
              | int i =>
                unfold asInts at h
                cases q : asInts ys with
                | none => rw [q] at h; simp at h
                | some z =>
                  rw [q] at h
                  simp at h
                  subst h
                  rw [ih q]
                  rfl
              | _ => simp [asInts] at h
          rw [this h1]
          rfl
    | _ => simp [asLexs] at h
theorem rss_refs : ∀ {b : List (List Int)} {vs : List V}, RSs K φ H (b.map encI) vs → ∃ ps : List Addr, vs = ps.map V.ref ∧ Paired (fun p ns => SqT K H p (ns.map V.int)) ps b
  | [], _, .nil => ⟨[], rfl, .nil⟩
  | ns :: b, _, .cons r t => by
    obtain ⟨ps, e, pr⟩ := rss_refs (b := b) t
    cases r with
    | tup h r =>
      have hi : asInts (ns.map D.int) = some ns := by
        clear h r
        induction ns with
        | nil => rfl
        | cons i ns ih => simp [asInts, ih]
      have := r.intsT hi
      subst this
      exact ⟨_ :: ps, by rw [e]; rfl, .cons h pr⟩
theorem refs_rss : ∀ {b : List (List Int)} {ps : List Addr}, Paired (fun p ns => SqT K H p (ns.map V.int)) ps b → RSs K φ H (b.map encI) (ps.map V.ref)
  | _, _, .nil => .nil
  | _, _, .cons h t => .cons (.tup h (RSs.ofI _)) (refs_rss t)
def refOf : Value → Addr
  | .ref a => a
  | _ => 0
theorem pairs_out {h : Heap} : ∀ {out : List Value}, (∀ v ∈ out, ∃ q ns, v = .ref q ∧ SqT K H q (ns.map V.int) ∧ tupOf h v = ns) →
    Paired (fun p ns => SqT K H p (ns.map V.int)) (out.map refOf) (out.map (tupOf h)) ∧ Vals ((out.map refOf).map V.ref) out
  | [], _ => ⟨.nil, .nil⟩
  | v :: out, k => by
    obtain ⟨q, ns, e, hs, ht⟩ := k v List.mem_cons_self
    obtain ⟨p1, p2⟩ := pairs_out (out := out) fun u hu => k u (List.mem_cons_of_mem _ hu)
    subst e
    exact ⟨.cons (by rw [ht]; exact hs) p1, .cons rfl p2⟩
theorem refs_in {pins : List (Addr × Obj)} {σ : L2.St} {s : Shared} (I : Inv X pins σ H s) : ∀ {ps : List Addr} {b : List (List Int)}, Paired (fun p ns => SqT X.K H p (ns.map V.int)) ps b →
    ∀ {its : List Value}, Vals (ps.map V.ref) its → its.map (tupOf s.heap) = b ∧ ∀ v ∈ its, ∃ q ns, v = .ref q ∧ SqT X.K H q (ns.map V.int) ∧ tupOf s.heap v = ns ∧ IntTup s.heap v ns
  | _, _, .nil, _, .nil => ⟨rfl, fun v h => by cases h⟩
  | _, _, .cons (a := p) (b := ns) h t, _, .cons r rs => by
    obtain ⟨e, k⟩ := refs_in I t rs
    rename_i u us
    cases (show u = Value.ref p from r)
    obtain ⟨it, rv, ht, _⟩ := I.tuple h
    have hi : IntTup s.heap (.ref p) ns := ⟨p, _, rfl, ht, Vals.ints rv⟩
    refine ⟨by rw [List.map_cons, e, tupOf_eq hi], fun v hv => ?_⟩
    rcases List.mem_cons.mp hv with e | hv
    · subst e
      exact ⟨p, ns, rfl, h, tupOf_eq hi, hi⟩
    · exact k v hv
theorem bi_sorted (hu : X.A.units + 10 < cLine) : CallR X (.builtin "sorted") (rBi X.K .sorted) := by
  intro pins s σ H vs us Q I r h
  obtain ⟨base, L, φ, m, H0, U, ds, d, R, rs, hd, e, q⟩ := h
  obtain ⟨x, rfl⟩ := one_of (b := .sorted) (fun _ => rfl) (fun _ _ _ _ => rfl) e
  obtain ⟨v, rfl, rv⟩ := rs.one
  have e : (itemsL m x).bind (fun xs => (sortD xs).map D.lst) = some d := e
  cases q1 : itemsL m x with
  | none => rw [q1] at e; cases e
  | some xs =>
    rw [q1] at e
    simp only [Option.bind_some] at e
    obtain ⟨p, vs, rfl, hs, t⟩ := itemsL_ok R rv q1
    unfold sortD at e
    cases q2 : asInts xs with
    | some a =>
      rw [q2] at e
      cases e
      have := t.intsT q2; subst this
      refine cr_sortedI pins s σ H _ us Q I r ⟨p, a, rfl, hs, fun ns' l hp hsrt hl => ?_⟩
      have en : ns' = isort (fun x y => decide (x < y)) a := sorted_same int_an (hp.trans (isort_perm a).symm) (hsrt.imp fun {x y} h => by simpa using h) (isort_sorted int_tr int_as a)
      subst en
      exact q.new R hd hl (fun _ z => by cases z) (.lst (RSs.ofI _))
    | none =>
      rw [q2] at e
      simp only at e
      cases q3 : asLexs xs with
      | none => rw [q3] at e; cases e
      | some b =>
        rw [q3] at e
        cases e
        have := asLexs_ok q3; subst this
        obtain ⟨ps, rfl, pr⟩ := rss_refs t
        obtain ⟨its, rvs, hl, hz⟩ := I.list hs
        rw [Vals.ref1 r]
        obtain ⟨eb, k⟩ := refs_in I pr rvs
        refine SrtO.sorted_ord (swo_tup s.heap) hl.isList (by rw [← rvs.length]; exact hz) (fun h2 h₁ a' ha' hk => sortable_tups (s := { s with heap := h₁ }) (by show X.A.units + 1 + 1 < cLine; omega) h2 (fun v hv => ?_) hk) fun out h1 h2 => ?_
        · obtain ⟨_, ns, _, _, _, hn⟩ := k v hv
          exact ⟨ns, hn⟩
        · obtain ⟨p1, p2⟩ := pairs_out (K := X.K) (H := H) (h := s.heap) (out := out) fun v hv => by
            obtain ⟨q', ns, a1, a2, a3, _⟩ := k v (h2.perm.mem_iff.mp hv)
            exact ⟨q', ns, a1, a2, a3⟩
          have eo : out.map (tupOf s.heap) = isort lexLt b := by
            refine sorted_same lexLt_an ?_ (List.pairwise_map.mpr (h1.imp fun {x y} h => h)) (isort_sorted lexLt_tr lexLt_as b)
            rw [← eb]
            exact (h2.perm.map _).trans (isort_perm _).symm
          rw [eo] at p1
          obtain ⟨ep, he'⟩ := PyProof.Rows.sortedAll_at s.heap its out.toArray
          have hlen : ((out.map refOf).map V.ref).length ≤ sizeLine := by
            rw [List.length_map, List.length_map, h2.perm.length_eq, ← rvs.length]
            exact hz
          exact ⟨.ref _, upd H (s.heap.objs.size + 1) (.lst ((out.map refOf).map V.ref)), I.laid (t' := s.toks) (fun _ _ => PyProof.Rows.sortedAll_old) (Nat.le_succ _) ⟨hlen, out, ep, p2, he'⟩, rfl,
            q.new R hd (I.hok.fresh (Nat.le_succ _)) (fun _ z => by cases z) (.lst (refs_rss p1))⟩
end
end Bell
end

section
set_option maxRecDepth 100000
/-! from the model's syntax to Mini's -/
namespace Bell
open PySem PySem.Spec PyProof.Rows L2
/-- what a text is read against: the names by slot; the scope that runs and the scope as it is written; the defs' names and parameters; how a def may be called: its name, how many arguments are written, the keywords, which def, how its parameters are taken from arguments, keywords, defaults; the names that are still built-in -/
structure Ct where
  N : List Str
  sc : Scope
  raw : Scope
  pats : List (Str × Nat × List Str × Nat × List Nat × List D)
  bl : List Str
  consts : List (Str × D)
  /-- the name of this def's lambdas -/
  lq : Option Str := none
  /-- the names that hold dicts -/
  dn : List Str := []
def ixOfN (x : Str) : List Str → Option Nat
  | [] => none
  | y :: ys => if y = x then some 0 else (ixOfN x ys).map (· + 1)
def okName (x : Str) : Bool := !(x == ("__debug__" : Str)) && !(x == ("__classdict__" : Str)) && !(x == ("__name__" : Str))
def isVis (sc : Scope) (x : Str) : Bool := match sc.names.lookup x with
  | some .local => true | some .cell => true | some .free => true | _ => false
def isLoc (sc : Scope) (x : Str) : Bool := match sc.names.lookup x with
  | some .local => true | some .cell => true | _ => false
def isGlob (sc : Scope) (x : Str) : Bool := match sc.names.lookup x with
  | some .globalImplicit => true | _ => false
def notStar : Expr → Bool
  | .Starred .. => false
  | _ => true
def notSlice : Expr → Bool
  | .Slice .. => false
  | _ => true
/-- a test whose answer is the truth of its value -/
def plainTest : Expr → Bool
  | .Name .. => true | .Call .. => true | .Subscript .. => true | .ListComp .. => true | .List .. => true | .BinOp .. => true | .Attribute .. => true
  | _ => false
def cC : Const → Option D
  | .int i => some (.int i)
  | .bool b => some (.bl b)
  | .none => some .non
  | .str x => some (.str x)
  | _ => none
def cOp : Operator → Option Bop
  | .Add => some .add | .Sub => some .sub | .Mult => some .mul | .FloorDiv => some .fdiv | .Mod => some .mod | .Pow => some .pow | .LShift => some .shl | .RShift => some .shr
  | _ => none
def cCmp : CmpOp → Cop
  | .Eq => .eq | .NotEq => .ne | .Lt => .lt | .LtE => .le | .Gt => .gt | .GtE => .ge | .Is => .is | .IsNot => .isN | .In => .inn | .NotIn => .nin
def cArgs (f : Expr → Option E) : List Expr → Option E
  | [] => some .nil
  | e :: es => if notStar e then match f e, cArgs f es with
    | some a, some r => some (.cons a r)
    | _, _ => none
    else none
def cKws (f : Expr → Option E) : List Keyword → Option (List Str × E)
  | [] => some ([], .nil)
  | ⟨some k, e, _⟩ :: es => match f e, cKws f es with
    | some a, some (ks, r) => some (k :: ks, .cons a r)
    | _, _ => none
  | _ => none
/-- arguments, then the keywords' values -/
def appE : E → E → E
  | .cons a r, b => .cons a (appE r b)
  | _, b => b
def lenE : E → Nat
  | .cons _ r => lenE r + 1
  | _ => 0
def cBi (x : Str) : Option Bi :=
  if x = "len" then some .len else if x = "abs" then some .abs else if x = "int" then some .int else if x = "tuple" then some .tuple else if x = "list" then some .list
  else if x = "sorted" then some .sorted else if x = "max" then some .max else if x = "min" then some .min else if x = "sum" then some .sum else if x = "any" then some .any
  else if x = "all" then some .all else none
def cMe (x : Str) : Option Me :=
  if x = "append" then some .append else if x = "extend" then some .extend else if x = "index" then some .index else if x = "pop" then some .pop else none
def cTy (x : Str) : Option Ty := if x = "int" then some .int else if x = "bool" then some .bool else if x = "str" then some .str else if x = "tuple" then some .tuple else if x = "list" then some .list else if x = "dict" then some .dict else none
def findPat (x : Str) (n : Nat) (ks : List Str) : List (Str × Nat × List Str × Nat × List Nat × List D) → Option (Nat × List Nat × List D)
  | [] => none
  | (y, m, js, r) :: ps => if y = x ∧ m = n ∧ js = ks then some r else findPat x n ks ps
def cTg (N : List Str) (raw : Scope) : Nat → Expr → Option Tg
  | 0, _ => none
  | n + 1, .Name x _ => if isLoc raw x then (ixOfN x N).map .nm else none
  | n + 1, .Tuple es _ _ => (go n es).map .tup
  | _, _ => none
where go (n : Nat) : List Expr → Option Tg
  | [] => some .nil
  | e :: es => if notStar e then match cTg N raw n e, go n es with
    | some a, some r => some (.cons a r)
    | _, _ => none
    else none
def ownOf (N : List Str) : List (Str × NameKind) → List (Str × Nat)
  | [] => []
  | (y, k) :: r => match k with
    | .local => match ixOfN y N with | some i => (y, i) :: ownOf N r | none => ownOf N r
    | .cell => match ixOfN y N with | some i => (y, i) :: ownOf N r | none => ownOf N r
    | _ => ownOf N r
/-- the context of a comprehension's block -/
def Ct.blk (Γ : Ct) (scope : Scope) : Ct := { Γ with sc := relS scope Γ.sc, raw := scope, lq := none }
def cTests (f : Expr → Option E) (op : BoolOp) : List Expr → Option E
  | [] => none
  | [e] => f e
  | e :: es => match f e, cTests f op es with
    | some a, some r => match op with
      | .And => some (.tand a r)
      | .Or => some (.tor a r)
    | _, _ => none
def cVals (f : Expr → Option E) (op : BoolOp) : List Expr → Option E
  | [] => none
  | [e] => f e
  | e :: es => match f e, cVals f op es with
    | some a, some r => match op with
      | .And => some (.vand a r)
      | .Or => some (.vor a r)
    | _, _ => none
def isTupE : Expr → Bool
  | .Tuple .. => true | _ => false
/-- what is walked: one of the built-in walks, or a value -/
def cIt (Γ : Ct) (f : Expr → Option E) (tg iter : Expr) : Option (Sk × E) :=
  let val := if notStar iter then (f iter).map fun a => (Sk.val, E.cons a .nil) else none
  match iter with
  | .Call (.Name x _) args [] _ => if isGlob Γ.sc x && Γ.bl.contains x && okName x then
      if x = "range" then (cArgs f args).bind fun a => match args with
        | [_] => some (.rng, a)
        | [_, _] => some (.rng, a)
        | [_, _, _] => some (.rng, a)
        | _ => none
      else if x = "enumerate" then if isTupE tg then (cArgs f args).bind fun a => match args with
        | [_] => some (.enum, a)
        | _ => none
        else none
      else if x = "zip" then if isTupE tg then (cArgs f args).bind fun a => match args with
        | [_, _] => some (.zip, a)
        | _ => none
        else none
      else if x = "reversed" then none else val
    else val
  | .Set .. => none
  | _ => val
def tgIn : Tg → List Nat → Bool
  | .nm i, vs => vs.contains i
  | .nil, _ => true
  | .cons a r, vs => tgIn a vs && tgIn r vs
  | .tup a, vs => tgIn a vs
def cOpt (f : Expr → Option E) : Option Expr → Option E
  | none => some (.con .non)
  | some e => (f e).map .nd
def cCompare (f : Expr → Option E) (a : Expr) (ops : List CmpOp) (bs : List Expr) : Option E := match ops, bs with
  | [op], [b] => if behindInMarks op b then none else match f a, f b with
      | some x, some y => some (.cmp (cCmp op) x y)
      | _, _ => none
  | [op, op2], [b, c] => if behindInMarks op2 c then none else match f a, f b, f c with
      | some x, some y, some z => some (.chain (cCmp op) (cCmp op2) x y z)
      | _, _, _ => none
  | _, _ => none
/-- isinstance(a, T) -/
def cIsi (Γ : Ct) (f : Expr → Option E) (x : Str) (args : List Expr) (kws : List Keyword) : Option E := if x = "isinstance" && Γ.bl.contains x then match args, kws with
  | [a, .Name y _], [] => if notStar a && okName y && isGlob Γ.sc y && Γ.bl.contains y then match cTy y, f a with
    | some t, some e => some (.isin e [t])
    | _, _ => none
    else none
  | _, _ => none
  else none
/-- tuple(range(..)), list(range(..)) -/
def cRgs (Γ : Ct) (f : Expr → Option E) (x : Str) (args : List Expr) (kws : List Keyword) : Option E := match args, kws with
  | [.Call (.Name y _) as [] _], [] => if y = "range" && isGlob Γ.sc y && Γ.bl.contains y && Γ.bl.contains x then match as with
    | [a] => if notStar a then (f a).bind fun e => if x = "tuple" then some (.bi .tupR (.cons e .nil)) else if x = "list" then some (.bi .listR (.cons e .nil)) else none else none
    | [a, b] => if notStar a && notStar b then match f a, f b with
      | some e, some e2 => if x = "tuple" then some (.bi .tupR (.cons e (.cons e2 .nil))) else if x = "list" then some (.bi .listR (.cons e (.cons e2 .nil))) else none
      | _, _ => none
      else none
    | _ => none
    else none
  | _, _ => none
/-- list(zip(a, b, c)) -/
def cZ3 (Γ : Ct) (f : Expr → Option E) (x : Str) (args : List Expr) (kws : List Keyword) : Option E := match args, kws with
  | [.Call (.Name y _) [a, b, c] [] _], [] => if y = "zip" && isGlob Γ.sc y && Γ.bl.contains y && Γ.bl.contains x && (x == ("list" : Str)) then (cArgs f [a, b, c]).map fun e => .bi .z3 e else none
  | _, _ => none
/-- a lambda's captured names, its quick ones -/
def freeOf : List (Str × NameKind) → List Str
  | [] => []
  | (y, k) :: r => match k with
    | .free => y :: freeOf r
    | _ => freeOf r
def fastOf : List (Str × Const) → List Str
  | [] => []
  | (k, c) :: r => match c with
    | .str y => if k = "fast" then y :: fastOf r else fastOf r
    | _ => fastOf r
/-- a lambda's names: its parameter, the captured ones, the others -/
def lamN (p : Str) (sc : Scope) : List Str := p :: freeOf sc.names ++ (fastOf sc.more).filter fun y => !(y == p) && !(freeOf sc.names).contains y
def allIx (N : List Str) : List Str → Option (List Nat)
  | [] => some []
  | x :: xs => match ixOfN x N, allIx N xs with
    | some i, some r => some (i :: r)
    | _, _ => none
/-- the context of a lambda's body -/
def Ct.lam (Γ : Ct) (N : List Str) (scope : Scope) : Ct := { Γ with N := N, sc := scope, raw := scope, lq := none, dn := [] }
/-- x(a, lambda p: body) -/
def cLam (Γ : Ct) (f : Expr → Option E) (g : Ct → Expr → Option E) (x : Str) (args : List Expr) (kws : List Keyword) : Option E := match args, kws with
  | [ea, .Lambda ⟨[], [⟨p, none, _⟩], none, [], [], none, []⟩ body scope _], [] =>
    if notStar ea && NdefX.nscB (lamN p scope) [p] (freeOf scope.names) scope && NdefX.ndefB Γ.sc scope (freeOf scope.names) then
      match Γ.lq, findPat x 2 [] Γ.pats, allIx Γ.N (freeOf scope.names), f ea, g (Γ.lam (lamN p scope) scope) body with
      | some q, some (fi, [0, 1], []), some js, some a, some b => some (.callc fi (.cons a .nil) 1 q js ((lamN p scope).length - 1 - (freeOf scope.names).length) b)
      | _, _, _, _, _ => none
    else none
  | _, _ => none
/-- a name that holds a dict -/
def dictIx (Γ : Ct) : Expr → Option Nat
  | .Name x _ => if Γ.dn.contains x && okName x && isVis Γ.sc x then ixOfN x Γ.N else none
  | _ => none
def cX : Nat → Bool → Ct → Expr → Option E
  | 0, _, _, _ => none
  | n + 1, true, Γ, e => match e with
    | .Compare a ops bs _ => cCompare (cX n false Γ) a ops bs
    | .BoolOp op es _ => cTests (cX n true Γ) op es
    | .UnaryOp .Not a _ => (cX n true Γ a).map .tnot
    | e => if plainTest e then (cX n false Γ e).map .tru else none
  | n + 1, false, Γ, e => match e with
    | .Name x _ => if okName x then if isVis Γ.sc x then (ixOfN x Γ.N).map .var else none else none
    | .Constant c _ _ => (cC c).map .con
    | .Tuple es _ _ => if isBig es.length then (cArgs (cX n false Γ) es).map .tup else none
    | .List es _ => if isBig es.length then (cArgs (cX n false Γ) es).map .lst else none
    | .BinOp a op b _ => match cOp op, cX n false Γ a, cX n false Γ b with
      | some o, some x, some y => some (.bin o x y)
      | _, _, _ => none
    | .UnaryOp .USub a _ => (cX n false Γ a).map .neg
    | .UnaryOp .Not a _ => (cX n false Γ a).map .vnot
    | .Compare a ops bs _ => cCompare (cX n false Γ) a ops bs
    | .BoolOp op es _ => cVals (cX n false Γ) op es
    | .IfExp t a b _ => match cX n true Γ t, cX n false Γ a, cX n false Γ b with
      | some x, some y, some z => some (.ife x y z)
      | _, _, _ => none
    | .Call (.Name x _) args kws _ => if okName x && isGlob Γ.sc x then
        match cLam Γ (cX n false Γ) (cX n false) x args kws with
        | some r => some r
        | none => match cIsi Γ (cX n false Γ) x args kws with
        | some r => some r
        | none => match cZ3 Γ (cX n false Γ) x args kws with
        | some r => some r
        | none => match cRgs Γ (cX n false Γ) x args kws with
        | some r => some r
        | none => match cArgs (cX n false Γ) args, cKws (cX n false Γ) kws with
        | some a, some (ks, b) => match findPat x args.length ks Γ.pats with
          | some (f, p, ds) => some (.callp f p ds (appE a b))
          | none => if Γ.bl.contains x && kws.isEmpty && !args.isEmpty then (cBi x).map fun q => .bi q a else none
        | _, _ => none
      else if okName x && isVis Γ.sc x && kws.isEmpty && !args.isEmpty then match cArgs (cX n false Γ) args, ixOfN x Γ.N with
        | some a, some i => some (.callv i a)
        | _, _ => none
      else none
    | .Call (.Attribute o name apos) [] [] cpos => match o with
      | .Call .. => none
      | _ => if apos.endLine == cpos.line && decide (name = "pop") then (cX n false Γ o).map fun x => .meth .pop x .nil else none
    | .Call (.Attribute o name apos) args [] cpos => match o with
      | .Call .. => none
      | _ => if apos.endLine == cpos.line && !args.isEmpty && decide (args.length < 30) then match cMe name, cX n false Γ o, cArgs (cX n false Γ) args with
        | some me, some x, some y => some (.meth me x y)
        | _, _, _ => none
        else none
    | .Subscript a (.Slice lo hi none _) _ => match cX n false Γ a, cOpt (cX n false Γ) lo, cOpt (cX n false Γ) hi with
      | some x, some y, some z => some (.slc x y z)
      | _, _, _ => none
    | .Subscript a b _ => if notSlice b then match cX n false Γ a, cX n false Γ b with
      | some x, some y => some (.idx x y)
      | _, _ => none
      else none
    | .ListComp elt [⟨tg, iter, ifs, 0⟩] scope _ =>
      let own := ownOf Γ.N scope.names
      if blkC Γ.N Γ.sc scope own then match dictIx Γ iter with
      | some i => (match cTg Γ.N scope 8 tg, (match ifs with | [] => some (E.con (.bl true)) | [c] => cX n true (Γ.blk scope) c | _ => none), cX n false (Γ.blk scope) elt with
        | some t, some c, some e => if tgIn t (own.map (·.2)) then some (.compd i t c e (own.map (·.2))) else none
        | _, _, _ => none)
      | none => match cIt Γ (cX n false Γ) tg iter, cTg Γ.N scope 8 tg, (match ifs with | [] => some (E.con (.bl true)) | [c] => cX n true (Γ.blk scope) c | _ => none), cX n false (Γ.blk scope) elt with
        | some (k, i), some t, some c, some e => if tgIn t (own.map (·.2)) then some (.comp k i t c e (own.map (·.2))) else none
        | _, _, _, _ => none
      else none
    | .Dict [] [] _ => some (.dct .nil)
    | .Dict [some k] [v] _ => match cX n false Γ k, cX n false Γ v with
      | some a, some b => some (.dct (.cons a (.cons b .nil)))
      | _, _ => none
    | _ => none
/-- the scope's own name, not captured -/
def isOwn (sc : Scope) (x : Str) : Bool := match sc.names.lookup x with
  | some .local => true | _ => false
/-- what the stores of a tuple's targets are: none: it can't be told; some none: one after another; some names: from the right -/
def swp (sc : Scope) (ts : List Expr) (value : Expr) : Option (Option (List Str)) := match value with
  | .Tuple vs _ _ => if (!(ts.length == 2 || ts.length == 3) || vs.length != ts.length) then some none else
    if vs.any (fun e => !notStar e) then none else
    let line := (ts.head?.map (·.pos.line)).getD 0
    let names := ts.filterMap fun
      | .Name id pos => if sc.names.lookup id == some .local && pos.line == line then some id else none
      | _ => none
    if names.length != ts.length || names.eraseDups.length != names.length then some none else
    if vs.all (foldedForSure 8) then some none else
    if vs.all (constantsAlone 8) then none else some (some names)
  | _ => some none
def isC : Expr → Bool
  | .ListComp .. => true | .SetComp .. => true | .DictComp .. => true
  | _ => false
def posOf : Expr → Pos
  | .ListComp _ _ _ p => p
  | e => e.pos
def isCell (sc : Scope) (x : Str) : Bool := match sc.names.lookup x with
  | some .cell => true | _ => false
def setTo (Γ : Ct) (x : Str) (xp : Pos) (e : Expr) : Bool := match e with
  | .ListComp _ gs scope p => isCell Γ.sc x || (gs.all fun g => (dictIx Γ g.iter).isNone) && (xp.line == p.line) && isOwn Γ.sc x && !(scope.names.any fun (n, k) => n == x && (k == .local || k == .cell))
  | e => !isC e
def okAug : Operator → Option Bop
  | .Add => some .add | .Sub => some .sub
  | _ => none
def cS : Nat → Ct → Stmt → Option S
  | 0, _, _ => none
  | n + 1, Γ, s => match s with
    | .Assign [.Name x xp] e p => if setTo Γ x xp e then match cTg Γ.N Γ.raw 1 (.Name x xp), cX 60 false Γ e with
      | some t, some v => some (.asg t v)
      | _, _ => none
      else none
    | .Assign [.Tuple ts k tp] e p => match swp Γ.sc ts e with
      | some none => if !isC e then match cTg Γ.N Γ.raw 8 (.Tuple ts k tp), cX 60 false Γ e with
        | some t, some v => some (.asg t v)
        | _, _ => none
        else none
      | some (some _) => match cTg Γ.N Γ.raw 8 (.Tuple ts k tp), cX 60 false Γ e with
        | some t, some v => some (.asg t v)
        | _, _ => none
      | none => none
    | .Assign [.Subscript o i sp] e p => if notSlice i then match cX 60 false Γ o, cX 60 false Γ i, cX 60 false Γ e with
      | some x, some y, some z => some (.setix x y z)
      | _, _, _ => none
      else none
    | .AugAssign (.Name x xp) op e _ => if isLoc Γ.raw x then match ixOfN x Γ.N, okAug op, cX 60 false Γ e with
      | some i, some o, some v => some (.aug i o v)
      | _, _, _ => none
      else none
    | .Expr e _ => if isC e then none else (cX 60 false Γ e).map .exp
    | .Return none _ => some .retN
    | .Return (some e) _ => (cX 60 false Γ e).map .ret
    | .If t a b _ => match cX 60 true Γ t, go n Γ a, go n Γ b with
      | some t, some a, some b => some (.ifs t a b)
      | _, _, _ => none
    | .For tg iter body [] _ => match cIt Γ (cX 60 false Γ) tg iter, cTg Γ.N Γ.raw 8 tg, go n Γ body with
      | some (k, i), some t, some b => some (.fors k i t b)
      | _, _, _ => none
    | .While t body [] _ => match cX 60 true Γ t, go n Γ body with
      | some t, some b => some (.whil t b)
      | _, _ => none
    | .Pass _ => some .pass
    | .Break _ => some .brk
    | .Continue _ => some .cnt
    | .Raise .. => some (.augix .nil .nil .add .nil)
    | _ => none
where go (n : Nat) (Γ : Ct) : List Stmt → Option S
  | [] => some .nil
  | s :: r => match cS n Γ s, go n Γ r with
    | some a, some b => some (.cons a b)
    | _, _ => none
end Bell
end

section
set_option maxRecDepth 100000
/-! what Mini reckons, the model reckons: expressions -/
namespace Bell
open PySem PySem.Spec PyProof.Rows L2
theorem bind_inv {α β : Type} {x : Out α} {f : α → Hm → Out β} {b : β} {m : Hm} (h : x.bind f = .ok b m) : ∃ a m1, x = .ok a m1 ∧ f a m1 = .ok b m := by
  cases x with
  | ok a m1 => exact ⟨a, m1, rfl, h⟩
  | exc c d m1 => cases h
  | bad => cases h
theorem okD_inv {o : Option D} {m m' : Hm} {d : D} (h : okD o m = .ok d m') : o = some d ∧ m' = m := by
  cases o with
  | none => cases h
  | some x => cases h; exact ⟨rfl, rfl⟩
theorem okB_inv {o : Option Bool} {m m' : Hm} {d : D} (h : okB o m = .ok d m') : ∃ b, o = some b ∧ d = .bl b ∧ m' = m := by
  cases o with
  | none => cases h
  | some x => cases h; exact ⟨x, rfl, rfl, rfl⟩
theorem withArgs_inv {d r : D} {f : List D → Out D} {m : Hm} (h : withArgs d f = .ok r m) : ∃ xs, d = .tup xs ∧ f xs = .ok r m := by
  cases d <;> first | exact ⟨_, rfl, h⟩ | (cases h)
theorem ifB_inv {d r : D} {t e : Out D} {m : Hm} (h : ifB d t e = .ok r m) : ∃ b, d = .bl b ∧ (if b = true then t else e) = .ok r m := by
  cases d with
  | bl b => cases b <;> exact ⟨_, rfl, h⟩
  | _ => cases h
/-- an expression, by Mini -/
def TEv (K : PySem.W.Frag) (C : Cf) (e : E) : TE := fun σ H Q => ∃ L φ ρ m d m', RelH K C.base L φ m H ∧ RelE K φ H ρ σ ∧ ev C e ρ m = .ok d m' ∧
  ∀ φ' v H', RelH K C.base L φ' m' H' → Step φ H φ' H' → RV K φ' H H' d v → Q v H'
def TTv (K : PySem.W.Frag) (C : Cf) (e : E) : TT := fun σ H Q => ∃ L φ ρ m b m', RelH K C.base L φ m H ∧ RelE K φ H ρ σ ∧ ev C e ρ m = .ok (.bl b) m' ∧
  ∀ φ' H', RelH K C.base L φ' m' H' → Step φ H φ' H' → Q b H'
def TAv (K : PySem.W.Frag) (C : Cf) (e : E) : TA := fun σ H Q => ∃ L φ ρ m ds m', RelH K C.base L φ m H ∧ RelE K φ H ρ σ ∧ ev C e ρ m = .ok (.tup ds) m' ∧
  ∀ φ' vs H', RelH K C.base L φ' m' H' → Step φ H φ' H' → RVs K φ' H' H H' ds vs → Q vs H'
theorem _root_.L2.PE.mono {X : Cx} {e : Expr} {t t' : TE} (h : PE X e t) (k : ∀ σ H Q, t' σ H Q → t σ H Q) : PE X e t' := ⟨fun pins s σ H Q I q => h.run pins s σ H Q I (k σ H Q q)⟩
theorem _root_.L2.PT.mono {X : Cx} {e : Expr} {t t' : TT} (h : PT X e t) (k : ∀ σ H Q, t' σ H Q → t σ H Q) : PT X e t' := ⟨fun pins s σ H Q I q => h.run pins s σ H Q I (k σ H Q q)⟩
theorem _root_.L2.PW.mono {X : Cx} {e : Expr} {t t' : TT} (h : PW X e t) (k : ∀ σ H Q, t' σ H Q → t σ H Q) : PW X e t' := ⟨fun wh pins s σ H Q I q => h.run wh pins s σ H Q I (k σ H Q q)⟩
theorem _root_.L2.PA.mono {X : Cx} {e : List Expr} {t t' : TA} (h : PA X e t) (k : ∀ σ H Q, t' σ H Q → t σ H Q) : PA X e t' := ⟨fun pos pins s σ H Q I q => h.run pos pins s σ H Q I (k σ H Q q)⟩
theorem _root_.L2.PI.mono {X : Cx} {tg e : Expr} {t t' : TI} (h : PI X tg e t) (k : ∀ σ H Q, t' σ H Q → t σ H Q) : PI X tg e t' := ⟨fun pins s σ H Q I q => h.run pins s σ H Q I (k σ H Q q)⟩
theorem _root_.L2.PI.or {X : Cx} {tg e : Expr} {t t' : TI} (h : PI X tg e t) (h' : PI X tg e t') : PI X tg e (fun σ H Q => t σ H Q ∨ t' σ H Q) := ⟨fun pins s σ H Q I q => q.elim (h.run pins s σ H Q I) (h'.run pins s σ H Q I)⟩
theorem _root_.L2.PE.or {X : Cx} {e : Expr} {t t' : TE} (h : PE X e t) (h' : PE X e t') : PE X e (fun σ H Q => t σ H Q ∨ t' σ H Q) := ⟨fun pins s σ H Q I q => q.elim (h.run pins s σ H Q I) (h'.run pins s σ H Q I)⟩
section
variable {X : Cx} {K : PySem.W.Frag} {C : Cf} {a b c : Expr} {Ea Eb Ec : E} {pos : Pos}
theorem te_var {i : Nat} {x : Str} (hN : X.N[i]? = some x) (hv : Vis X.env.scope x) (hd : (x == ("__debug__" : Str)) = false) (hcd : (x == ("__classdict__" : Str)) = false) : PE X (.Name x pos) (TEv K C (.var i)) := by
  refine (pe_var hN hv hd hcd).mono fun σ H Q h => ?_
  obtain ⟨L, φ, ρ, m, d, m', R, hE, e, q⟩ := h
  obtain ⟨e1, rfl⟩ := okD_inv e
  obtain ⟨v, h1, h2⟩ := hE.2 i d e1
  exact ⟨v, h1, q φ v H R (.refl _ _) (.st h2)⟩
theorem te_con {co : Const} {j : Nat} {d : D} (h : cC co = some d) : PE X (.Constant co j pos) (TEv K C (.con d)) := by
  have go : ∀ {v : V}, (∀ φ H, RS K φ H d v) → ∀ σ H Q, TEv K C (.con d) σ H Q → tC v σ H Q := fun hv σ H Q h => by
    obtain ⟨L, φ, ρ, m, d', m', R, hE, e, q⟩ := h
    cases e
    exact q φ _ H R (.refl _ _) (.st (hv φ H))
  cases co <;> first | (cases h; done) | skip
  all_goals cases h
  all_goals first
    | exact pe_int.mono (go fun _ _ => .int _)
    | exact pe_bl.mono (go fun _ _ => .bl _)
    | exact pe_non.mono (go fun _ _ => .non)
    | exact pe_str.mono (go fun _ _ => .str _)
/-- two in a row -/
theorem two_ok {Ea Eb : E} {σ : L2.St} {H : Hp} {L : Nat → Nat} {φ : List Addr} {ρ : Env} {m m1 m2 : Hm} {x y : D} {P : V → V → Hp → Prop} (R : RelH K C.base L φ m H) (hE : RelE K φ H ρ σ) (e1 : ev C Ea ρ m = .ok x m1) (e2 : ev C Eb ρ m1 = .ok y m2)
    (k : ∀ φ2 vx vy H2, RelH K C.base L φ2 m2 H2 → Step φ H φ2 H2 → RV K φ2 H H2 x vx → RV K φ2 H H2 y vy → P vx vy H2) : TEv K C Ea σ H fun vx H1 => TEv K C Eb σ H1 fun vy H2 => P vx vy H2 :=
  ⟨L, φ, ρ, m, x, m1, R, hE, e1, fun φ1 vx H1 R1 s1 r1 => ⟨L, φ1, ρ, m1, y, m2, R1, hE.step R s1, e2, fun φ2 vy H2 R2 s2 r2 => k φ2 vx vy H2 R2 (s1.trans s2) (r1.step R1 s2) (r2.older fun p => s1.free)⟩⟩
theorem te_bin {op : Bop} (ha : PE X a (TEv X.K C Ea)) (hb : PE X b (TEv X.K C Eb)) : PE X (.BinOp a (opOf op) b pos) (TEv X.K C (.bin op Ea Eb)) := by
  refine (pe_op (op_bin op) ha hb).mono fun σ H Q h => ?_
  obtain ⟨L, φ, ρ, m, d, m', R, hE, e, q⟩ := h
  obtain ⟨x, m1, e1, e⟩ := bind_inv e
  obtain ⟨y, m2, e2, e⟩ := bind_inv e
  obtain ⟨e3, rfl⟩ := okD_inv e
  exact two_ok R hE e1 e2 fun φ2 vx vy H2 R2 s2 rx ry => ⟨C.base, L, φ2, _, H, x, y, d, R2, rx, ry, fun p => s2.free, e3, fun φ' v H' R' s' r' => q φ' v H' R' (s2.trans s') r'⟩
theorem te_cmp {op : Cop} (hu : X.A.units + 65 < cLine) (hm : behindInMarks (cmpOf op) b = false) (ha : PE X a (TEv X.K C Ea)) (hb : PE X b (TEv X.K C Eb)) : PE X (.Compare a [cmpOf op] [b] pos) (TEv X.K C (.cmp op Ea Eb)) := by
  refine (pe_cmpR (op_cmp op hu) ha hb hm).mono fun σ H Q h => ?_
  obtain ⟨L, φ, ρ, m, d, m', R, hE, e, q⟩ := h
  obtain ⟨x, m1, e1, e⟩ := bind_inv e
  obtain ⟨y, m2, e2, e⟩ := bind_inv e
  obtain ⟨k, e3, rfl, rfl⟩ := okB_inv e
  exact two_ok R hE e1 e2 fun φ2 vx vy H2 R2 s2 rx ry => ⟨C.base, L, φ2, _, H, x, y, k, R2, rx, ry, e3, q φ2 _ H2 R2 s2 (.st (.bl k))⟩
theorem tt_cmp {op : Cop} (hu : X.A.units + 65 < cLine) (hm : behindInMarks (cmpOf op) b = false) (ha : PE X a (TEv X.K C Ea)) (hb : PE X b (TEv X.K C Eb)) : PT X (.Compare a [cmpOf op] [b] pos) (TTv X.K C (.cmp op Ea Eb)) := by
  refine (pt_cmpR (op_cmp op hu) ha hb hm).mono fun σ H Q h => ?_
  obtain ⟨L, φ, ρ, m, d, m', R, hE, e, q⟩ := h
  obtain ⟨x, m1, e1, e⟩ := bind_inv e
  obtain ⟨y, m2, e2, e⟩ := bind_inv e
  obtain ⟨k, e3, e4, rfl⟩ := okB_inv e
  cases e4
  exact two_ok R hE e1 e2 fun φ2 vx vy H2 R2 s2 rx ry => ⟨C.base, L, φ2, _, H, x, y, _, R2, rx, ry, e3, _, rfl, q φ2 H2 R2 s2⟩
theorem chain_inv {op op2 : Cop} {ρ : Env} {m m' : Hm} {d : D} (e : ev C (.chain op op2 Ea Eb Ec) ρ m = .ok d m') : ∃ x m1 y m2 k, ev C Ea ρ m = .ok x m1 ∧ ev C Eb ρ m1 = .ok y m2 ∧ cmpD op m2 x y = some k ∧
    ((k = false ∧ d = .bl false ∧ m' = m2) ∨ (k = true ∧ ∃ z j, ev C Ec ρ m2 = .ok z m' ∧ cmpD op2 m' y z = some j ∧ d = .bl j)) := by
  obtain ⟨x, m1, e1, e⟩ := bind_inv e
  obtain ⟨y, m2, e2, e⟩ := bind_inv e
  obtain ⟨k', m3, e3, e⟩ := bind_inv e
  obtain ⟨k, e4, rfl, rfl⟩ := okB_inv e3
  refine ⟨x, m1, y, _, k, e1, e2, e4, ?_⟩
  cases k with
  | false => cases e; exact .inl ⟨rfl, rfl, rfl⟩
  | true =>
    obtain ⟨z, m4, e5, e6⟩ := bind_inv e
    obtain ⟨j, e7, rfl, rfl⟩ := okB_inv e6
    exact .inr ⟨rfl, z, j, e5, e7, rfl⟩
theorem te_chain {op op2 : Cop} (hu : X.A.units + 65 < cLine) (hm : behindInMarks (cmpOf op2) c = false) (ha : PE X a (TEv X.K C Ea)) (hb : PE X b (TEv X.K C Eb)) (hc : PE X c (TEv X.K C Ec)) : PE X (.Compare a [cmpOf op, cmpOf op2] [b, c] pos) (TEv X.K C (.chain op op2 Ea Eb Ec)) := by
  refine (pe_chain (op_cmp op hu) (op_cmp op2 hu) ha hb hc hm).mono fun σ H Q h => ?_
  obtain ⟨L, φ, ρ, m, d, m', R, hE, e, q⟩ := h
  obtain ⟨x, m1, y, m2, k, e1, e2, e3, e4⟩ := chain_inv e
  refine two_ok R hE e1 e2 fun φ2 vx vy H2 R2 s2 rx ry => ⟨C.base, L, φ2, _, H, x, y, k, R2, rx, ry, e3, k, rfl, ?_⟩
  rcases e4 with ⟨rfl, rfl, rfl⟩ | ⟨rfl, z, j, e5, e7, rfl⟩
  · rw [if_neg Bool.false_ne_true]
    exact q φ2 _ H2 R2 s2 (.st (.bl _))
  · rw [if_pos rfl]
    exact ⟨L, φ2, ρ, m2, z, m', R2, hE.step R s2, e5, fun φ3 vz H3 R3 s3 r3 => ⟨C.base, L, φ3, _, H, y, z, j, R3, ry.step R2 s3, r3.older fun p => s2.free, e7, q φ3 _ H3 R3 (s2.trans s3) (.st (.bl _))⟩⟩
theorem tt_chain {op op2 : Cop} (hu : X.A.units + 65 < cLine) (hm : behindInMarks (cmpOf op2) c = false) (ha : PE X a (TEv X.K C Ea)) (hb : PE X b (TEv X.K C Eb)) (hc : PE X c (TEv X.K C Ec)) : PT X (.Compare a [cmpOf op, cmpOf op2] [b, c] pos) (TTv X.K C (.chain op op2 Ea Eb Ec)) := by
  refine (pt_chain (op_cmp op hu) (op_cmp op2 hu) ha hb hc hm).mono fun σ H Q h => ?_
  obtain ⟨L, φ, ρ, m, d, m', R, hE, e, q⟩ := h
  obtain ⟨x, m1, y, m2, k, e1, e2, e3, e4⟩ := chain_inv e
  refine two_ok R hE e1 e2 fun φ2 vx vy H2 R2 s2 rx ry => ⟨C.base, L, φ2, _, H, x, y, k, R2, rx, ry, e3, k, rfl, ?_⟩
  rcases e4 with ⟨rfl, e5, rfl⟩ | ⟨rfl, z, j, e5, e7, e8⟩
  · cases e5
    rw [if_neg Bool.false_ne_true]
    exact ⟨_, rfl, q φ2 H2 R2 s2⟩
  · cases e8
    rw [if_pos rfl]
    exact ⟨L, φ2, ρ, m2, z, m', R2, hE.step R s2, e5, fun φ3 vz H3 R3 s3 r3 => ⟨C.base, L, φ3, _, H, y, z, _, R3, ry.step R2 s3, r3.older fun p => s2.free, e7, _, rfl, q φ3 H3 R3 (s2.trans s3)⟩⟩
theorem te_neg (ha : PE X a (TEv X.K C Ea)) : PE X (.UnaryOp .USub a pos) (TEv X.K C (.neg Ea)) := by
  refine (pe_un un_neg ha).mono fun σ H Q h => ?_
  obtain ⟨L, φ, ρ, m, d, m', R, hE, e, q⟩ := h
  obtain ⟨x, m1, e1, e⟩ := bind_inv e
  cases x with
  | int i =>
    cases e
    exact ⟨L, φ, ρ, m, _, _, R, hE, e1, fun φ1 v H1 R1 s1 r1 => ⟨i, r1.int, q φ1 _ H1 R1 s1 (.st (.int _))⟩⟩
  | _ => cases e
/-! ### truth -/
theorem truth_ok {base : Nat} {L : Nat → Nat} {φ : List Addr} {m : Hm} {H H0 : Hp} {x : D} {v : V} {k : Bool} (R : RelH K base L φ m H) (r : RV K φ H0 H x v) (e : truth m x = some k) : TruV K v H k := by
  unfold truth at e
  split at e
  · rename_i e1
    cases e
    have := deref_out R r e1 (fun _ z => by cases z) (fun _ z => by cases z) (fun _ _ z => by cases z)
    subst this
    have := r.non; subst this; rfl
  · rename_i e1
    cases e
    have := deref_out R r e1 (fun _ z => by cases z) (fun _ z => by cases z) (fun _ _ z => by cases z)
    subst this
    have := r.bl; subst this; rfl
  · rename_i e1
    cases e
    have := deref_out R r e1 (fun _ z => by cases z) (fun _ z => by cases z) (fun _ _ z => by cases z)
    subst this
    have := r.int; subst this; rfl
  · rename_i e1
    split at e
    · rename_i hb
      cases e
      have := deref_out R r e1 (fun _ z => by cases z) (fun _ z => by cases z) (fun _ _ z => by cases z)
      subst this
      have := r.str; subst this
      exact ⟨isBig_le hb, rfl⟩
    · cases e
  · rename_i xs e1
    cases e
    obtain ⟨p, vs, rfl, h1, t1⟩ := deref_lst R r e1
    exact .inl ⟨vs, SqL.of h1, by cases t1 <;> rfl⟩
  · rename_i xs e1
    cases e
    have := deref_out R r e1 (fun _ z => by cases z) (fun _ z => by cases z) (fun _ _ z => by cases z)
    subst this
    obtain ⟨p, vs, rfl, h1, t1⟩ := r.tup
    exact .inr (.inl ⟨vs, h1, by cases t1 <;> rfl⟩)
  · rename_i ks vs e1
    cases e
    obtain ⟨p, kvs, rfl, h1, t1, t2⟩ := deref_dct R r e1
    refine .inr (.inr ⟨kvs, h1, ?_⟩)
    cases kvs with
    | nil => cases t1; rfl
    | cons p ps => cases t1; rfl
  · cases e
theorem tt_truth (ha : PE X a (TEv X.K C Ea)) (he : ∀ whole, isTrue a X.env whole = (do let v ← whole; standAt a.pos; holding [v] (truthy v))) : PT X a (TTv X.K C (.tru Ea)) := by
  refine (pt_truth ha he).mono fun σ H Q h => ?_
  obtain ⟨L, φ, ρ, m, d, m', R, hE, e, q⟩ := h
  obtain ⟨x, m1, e1, e⟩ := bind_inv e
  obtain ⟨k, e3, e4, rfl⟩ := okB_inv e
  cases e4
  exact ⟨L, φ, ρ, m, x, _, R, hE, e1, fun φ1 v H1 R1 s1 r1 => ⟨_, truth_ok R1 r1 e3, q φ1 H1 R1 s1⟩⟩
theorem tt_not (ha : PT X a (TTv X.K C Ea)) : PT X (.UnaryOp .Not a pos) (TTv X.K C (.tnot Ea)) := by
  refine (pt_not ha).mono fun σ H Q h => ?_
  obtain ⟨L, φ, ρ, m, d, m', R, hE, e, q⟩ := h
  obtain ⟨x, m1, e1, e⟩ := bind_inv e
  obtain ⟨b, rfl, e⟩ := ifB_inv e
  refine ⟨L, φ, ρ, m, b, m1, R, hE, e1, fun φ1 H1 R1 s1 => ?_⟩
  cases b <;> (cases e; exact q φ1 H1 R1 s1)
theorem te_not (ha : PE X a (TEv X.K C Ea)) : PE X (.UnaryOp .Not a pos) (TEv X.K C (.vnot Ea)) := by
  refine (pe_notT ha).mono fun σ H Q h => ?_
  obtain ⟨L, φ, ρ, m, d, m', R, hE, e, q⟩ := h
  obtain ⟨x, m1, e1, e⟩ := bind_inv e
  cases ht : truth m1 x with
  | none => rw [ht] at e; cases e
  | some k =>
    rw [ht] at e
    cases e
    exact ⟨L, φ, ρ, m, x, _, R, hE, e1, fun φ1 v H1 R1 s1 r1 => ⟨k, truth_ok R1 r1 ht, q φ1 _ H1 R1 s1 (.st (.bl _))⟩⟩
theorem te_ife {t : Expr} {Et : E} (ht : PT X t (TTv X.K C Et)) (ha : PE X a (TEv X.K C Ea)) (hb : PE X b (TEv X.K C Eb)) : PE X (.IfExp t a b pos) (TEv X.K C (.ife Et Ea Eb)) := by
  refine (pe_ifExp ht ha hb).mono fun σ H Q h => ?_
  obtain ⟨L, φ, ρ, m, d, m', R, hE, e, q⟩ := h
  obtain ⟨x, m1, e1, e⟩ := bind_inv e
  obtain ⟨k, rfl, e⟩ := ifB_inv e
  refine ⟨L, φ, ρ, m, k, m1, R, hE, e1, fun φ1 H1 R1 s1 => ?_⟩
  cases k with
  | true => exact ⟨L, φ1, ρ, m1, d, m', R1, hE.step R s1, e, fun φ' v H' R' s' r' => q φ' v H' R' (s1.trans s') (r'.older fun p => s1.free)⟩
  | false => exact ⟨L, φ1, ρ, m1, d, m', R1, hE.step R s1, e, fun φ' v H' R' s' r' => q φ' v H' R' (s1.trans s') (r'.older fun p => s1.free)⟩
/-! ### and, or -/
theorem tt_ands {f : Expr → Option E} : ∀ (es : List Expr) {E' : E}, cTests f .And es = some E' → (∀ e ∈ es, ∀ E1, f e = some E1 → PT X e (TTv X.K C E1)) → PW X (.BoolOp .And es pos) (TTv X.K C E')
  | [], _, h, _ => by simp [cTests] at h
  | [e], E', h, k => pw_and1 (k e List.mem_cons_self E' h)
  | e :: e2 :: es, E', h, k => by
    unfold cTests at h
    cases h1 : f e with
    | none => rw [h1] at h; simp at h
    | some Ea =>
      cases h2 : cTests f .And (e2 :: es) with
      | none => rw [h1, h2] at h; simp at h
      | some Eb =>
        rw [h1, h2] at h
        simp at h
        subst h
        have ih := tt_ands (e2 :: es) h2 fun e he => k e (List.mem_cons_of_mem _ he)
        refine (pw_and (k e List.mem_cons_self Ea h1) ih).mono fun σ H Q h => ?_
        obtain ⟨L, φ, ρ, m, d, m', R, hE, e, q⟩ := h
        obtain ⟨x, m1, e1, e⟩ := bind_inv e
        obtain ⟨k, rfl, e⟩ := ifB_inv e
        refine ⟨L, φ, ρ, m, k, m1, R, hE, e1, fun φ1 H1 R1 s1 => ?_⟩
        cases k with
        | true => exact ⟨L, φ1, ρ, m1, d, m', R1, hE.step R s1, e, fun φ' H' R' s' => q φ' H' R' (s1.trans s')⟩
        | false => cases e; exact q φ1 H1 R1 s1
theorem tt_ors {f : Expr → Option E} : ∀ (es : List Expr) {E' : E}, cTests f .Or es = some E' → (∀ e ∈ es, ∀ E1, f e = some E1 → PT X e (TTv X.K C E1)) → PW X (.BoolOp .Or es pos) (TTv X.K C E')
  | [], _, h, _ => by simp [cTests] at h
  | [e], E', h, k => pw_or1 (k e List.mem_cons_self E' h)
  | e :: e2 :: es, E', h, k => by
    unfold cTests at h
    cases h1 : f e with
    | none => rw [h1] at h; simp at h
    | some Ea =>
      cases h2 : cTests f .Or (e2 :: es) with
      | none => rw [h1, h2] at h; simp at h
      | some Eb =>
        rw [h1, h2] at h
        simp at h
        subst h
        have ih := tt_ors (e2 :: es) h2 fun e he => k e (List.mem_cons_of_mem _ he)
        refine (pw_or (k e List.mem_cons_self Ea h1) ih).mono fun σ H Q h => ?_
        obtain ⟨L, φ, ρ, m, d, m', R, hE, e, q⟩ := h
        obtain ⟨x, m1, e1, e⟩ := bind_inv e
        obtain ⟨k, rfl, e⟩ := ifB_inv e
        refine ⟨L, φ, ρ, m, k, m1, R, hE, e1, fun φ1 H1 R1 s1 => ?_⟩
        cases k with
        | true => cases e; exact q φ1 H1 R1 s1
        | false => exact ⟨L, φ1, ρ, m1, d, m', R1, hE.step R s1, e, fun φ' H' R' s' => q φ' H' R' (s1.trans s')⟩
theorem te_bools {f : Expr → Option E} {op : BoolOp} : ∀ (es : List Expr) {E' : E}, cVals f op es = some E' → (∀ e ∈ es, ∀ E1, f e = some E1 → PE X e (TEv X.K C E1)) → PE X (.BoolOp op es pos) (TEv X.K C E')
  | [], _, h, _ => by simp [cVals] at h
  | [e], E', h, k => pe_one (k e List.mem_cons_self E' h)
  | e :: e2 :: es, E', h, k => by
    unfold cVals at h
    cases h1 : f e with
    | none => rw [h1] at h; simp at h
    | some Ea =>
      cases h2 : cVals f op (e2 :: es) with
      | none => rw [h1, h2] at h; simp at h
      | some Eb =>
        rw [h1, h2] at h
        have ih := te_bools (e2 :: es) h2 fun e he => k e (List.mem_cons_of_mem _ he)
        cases op with
        | And =>
          cases h
          refine (pe_andT (k e List.mem_cons_self Ea h1) ih).mono fun σ H Q h => ?_
          obtain ⟨L, φ, ρ, m, d, m', R, hE, e, q⟩ := h
          obtain ⟨x, m1, e1, e⟩ := bind_inv e
          refine ⟨L, φ, ρ, m, x, m1, R, hE, e1, fun φ1 v H1 R1 s1 r1 => ?_⟩
          cases ht : truth m1 x with
          | none => rw [ht] at e; cases e
          | some k =>
            rw [ht] at e
            refine ⟨k, truth_ok R1 r1 ht, ?_⟩
            cases k with
            | true => exact ⟨L, φ1, ρ, m1, d, m', R1, hE.step R s1, e, fun φ' v H' R' s' r' => q φ' v H' R' (s1.trans s') (r'.older fun p => s1.free)⟩
            | false => cases e; exact q φ1 v H1 R1 s1 r1
        | Or =>
          cases h
          refine (pe_orT (k e List.mem_cons_self Ea h1) ih).mono fun σ H Q h => ?_
          obtain ⟨L, φ, ρ, m, d, m', R, hE, e, q⟩ := h
          obtain ⟨x, m1, e1, e⟩ := bind_inv e
          refine ⟨L, φ, ρ, m, x, m1, R, hE, e1, fun φ1 v H1 R1 s1 r1 => ?_⟩
          cases ht : truth m1 x with
          | none => rw [ht] at e; cases e
          | some k =>
            rw [ht] at e
            refine ⟨k, truth_ok R1 r1 ht, ?_⟩
            cases k with
            | true => cases e; exact q φ1 v H1 R1 s1 r1
            | false => exact ⟨L, φ1, ρ, m1, d, m', R1, hE.step R s1, e, fun φ' v H' R' s' r' => q φ' v H' R' (s1.trans s') (r'.older fun p => s1.free)⟩
/-! ### arguments, displays -/
theorem star_cons {e : Expr} {es : List Expr} {env : PySem.Env} (h : notStar e = true) : starEach (e :: es) env = (false, eval e env) :: starEach es env := by
  cases e <;> first | rfl | (cases h)
theorem ta_args {f : Expr → Option E} : ∀ (es : List Expr) {E' : E}, cArgs f es = some E' → (∀ e ∈ es, ∀ E1, f e = some E1 → PE X e (TEv X.K C E1)) → PA X es (TAv X.K C E')
  | [], E', h, _ => by
    cases h
    refine pa_nil.mono fun σ H Q h => ?_
    obtain ⟨L, φ, ρ, m, d, m', R, hE, e, q⟩ := h
    cases e
    exact q φ [] H R (.refl _ _) (.nil fun _ h => h)
  | e :: es, E', h, k => by
    unfold cArgs at h
    split at h
    · rename_i hs
      cases h1 : f e with
      | none => rw [h1] at h; simp at h
      | some Ea =>
        cases h2 : cArgs f es with
        | none => rw [h1, h2] at h; simp at h
        | some Eb =>
          rw [h1, h2] at h
          simp at h
          subst h
          have ih := ta_args es h2 fun e he => k e (List.mem_cons_of_mem _ he)
          refine (pa_cons (k e List.mem_cons_self Ea h1) ih (star_cons hs)).mono fun σ H Q h => ?_
          obtain ⟨L, φ, ρ, m, d, m', R, hE, e, q⟩ := h
          obtain ⟨x, m1, e1, e⟩ := bind_inv e
          obtain ⟨y, m2, e2, e⟩ := bind_inv e
          obtain ⟨ys, rfl, e⟩ := withArgs_inv e
          cases e
          refine ⟨L, φ, ρ, m, x, m1, R, hE, e1, fun φ1 vx H1 R1 s1 r1 => ⟨L, φ1, ρ, m1, ys, _, R1, hE.step R s1, e2, fun φ2 vs H2 R2 s2 r2 => q φ2 _ H2 R2 (s1.trans s2) (.cons (r1.step R1 s2) (fun p => s1.free) ?_ r2)⟩⟩
          cases r1 with
          | st z => exact .inl (z.step R1 s2)
          | tmp h n f z w => exact .inr ⟨_, rfl, by rw [h]; simp⟩
    · cases h
theorem homes_eq (xs : List D) (m : Hm) : homes xs m = ((homes xs m).1, (homes xs m).2) := rfl
theorem te_tup {es : List Expr} {x1 : Nat} (h : PA X es (TAv X.K C Ea)) (hz : ∀ ρ m ds m', ev C Ea ρ m = .ok (.tup ds) m' → ds.length ≤ sizeLine) : PE X (.Tuple es x1 pos) (TEv X.K C (.tup Ea)) := by
  refine (pe_tup h).mono fun σ H Q h => ?_
  obtain ⟨L, φ, ρ, m, d, m', R, hE, e, q⟩ := h
  obtain ⟨x, m1, e1, e⟩ := bind_inv e
  obtain ⟨xs, rfl, e⟩ := withArgs_inv e
  cases e
  refine ⟨L, φ, ρ, m, xs, m1, R, hE, e1, fun φ1 vs H1 R1 s1 r1 => ⟨?_, fun p hp => ?_⟩⟩
  · rw [← r1.length]
    exact hz _ _ _ _ e1
  · obtain ⟨φ2, p2, R2, t2, f2⟩ := homes_ok r1 R1
    have s2 := s1.homed p2 f2
    have qv : QV X.K C.base L φ2 H H1 (homes xs m1).2 (.tup (homes xs m1).1) Q := fun φ' v H' R' s' r' => q φ' v H' R' (s2.trans s') r'
    exact qv.newT R2 hp t2
theorem te_lst {es : List Expr} (h : PA X es (TAv X.K C Ea)) (hz : ∀ ρ m ds m', ev C Ea ρ m = .ok (.tup ds) m' → ds.length ≤ sizeLine) : PE X (.List es pos) (TEv X.K C (.lst Ea)) := by
  refine (pe_lst h).mono fun σ H Q h => ?_
  obtain ⟨L, φ, ρ, m, d, m', R, hE, e, q⟩ := h
  obtain ⟨x, m1, e1, e⟩ := bind_inv e
  obtain ⟨xs, rfl, e⟩ := withArgs_inv e
  cases e
  refine ⟨L, φ, ρ, m, xs, m1, R, hE, e1, fun φ1 vs H1 R1 s1 r1 => ⟨?_, fun p hp => ?_⟩⟩
  · rw [← r1.length]
    exact hz _ _ _ _ e1
  · obtain ⟨φ2, p2, R2, t2, f2⟩ := homes_ok r1 R1
    have s2 := s1.homed p2 f2
    have qv : QV X.K C.base L φ2 H H1 (homes xs m1).2 (.lst (homes xs m1).1) Q := fun φ' v H' R' s' r' => q φ' v H' R' (s2.trans s') r'
    exact qv.new R2 (fun p => s1.free) hp (fun _ z => by cases z) (.lst t2)
end
end Bell
end

section
set_option maxRecDepth 100000
/-! calls, subscripts, methods -/
namespace Bell
open PySem PySem.Spec PyProof.Rows L2
section
variable {X : Cx} {C : Cf} {a b c : Expr} {Ea Eb Ec : E} {pos : Pos}
theorem te_bi {q : Bi} {es : List Expr} (h : PA X es (TAv X.K C Ea)) (k : PE X a (tCB (rBi X.K q) (TAv X.K C Ea))) : PE X a (TEv X.K C (.bi q Ea)) := by
  refine k.mono fun σ H Q h => ?_
  obtain ⟨L, φ, ρ, m, d, m', R, hE, e, q⟩ := h
  obtain ⟨x, m1, e1, e⟩ := bind_inv e
  obtain ⟨xs, rfl, e⟩ := withArgs_inv e
  obtain ⟨e2, rfl⟩ := okD_inv e
  exact ⟨L, φ, ρ, m, xs, _, R, hE, e1, fun φ1 vs H1 R1 s1 r1 => ⟨C.base, L, φ1, _, H, _, xs, d, R1, r1, fun p => s1.free, e2, fun φ' v H' R' s' r' => q φ' v H' R' (s1.trans s') r'⟩⟩
/-! ### subscripts -/
def rIdx (K : PySem.W.Frag) : R2 := fun x y H Q => ∃ base L φ m H0 a b d, RelH K base L φ m H ∧ RV K φ H0 H a x ∧ RV K φ H0 H b y ∧ idxD a b m = some d ∧ ∀ v, RS K φ H d v → Q v H
theorem ixOf_eq (n : Nat) (i : Int) : ixOf n i = ixN n i := rfl
theorem atI_of {K : PySem.W.Frag} {φ : List Addr} {H : Hp} {xs : List D} {vs : List V} {i : Int} {d : D} (t : RSs K φ H xs vs) (e : ((ixOf xs.length i).bind fun j => xs[j]?) = some d) : ∃ v, atI vs i = some v ∧ RS K φ H d v := by
  cases q : ixOf xs.length i with
  | none => rw [q] at e; cases e
  | some j =>
    rw [q] at e
    obtain ⟨v, h1, h2⟩ := t.get (show xs[j]? = some d from e)
    refine ⟨v, ?_, h2⟩
    unfold atI
    rw [← t.length, ← ixOf_eq, q]
    exact h1
theorem ix_any : IxR X (fun x y H Q => rIx X.K x y H Q) := ix_seq
theorem look_cons (k x v : D) (ks vs : List D) : look k (x :: ks) (v :: vs) = if eqb x k then some v else look k ks vs := by
  unfold look
  rw [show keyIx k (x :: ks) = if eqb x k then some 0 else (keyIx k ks).map (· + 1) from rfl]
  by_cases h : eqb x k = true
  · rw [if_pos h, if_pos h]; rfl
  · rw [if_neg h, if_neg h]
    cases keyIx k ks <;> rfl
theorem look_val {K : PySem.W.Frag} {φ : List Addr} {H : Hp} {a : D} {k : Key} (r : RS K φ H a (kV k)) : ∀ {ks vs : List D} {kvs : List (Key × V)}, RSs K φ H ks (kvs.map fun p => kV p.1) → RSs K φ H vs (kvs.map Prod.snd) →
    match look a ks vs with
    | some d => ∃ v, valV kvs k = some v ∧ RS K φ H d v
    | none => valV kvs k = none
  | [], [], [], _, _ => rfl
  | [], _ :: _, [], _, h => by cases h
  | [], _, _ :: _, h, _ => by cases h
  | _ :: _, [], _ :: _, _, h => by cases h
  | _ :: _, _, [], h, _ => by cases h
  | x :: xs, d :: ds, p :: kvs, .cons h t, .cons h2 t2 => by
    rw [look_cons, eqb_key h r]
    by_cases e : p.1 = k
    · rw [decide_eq_true e, if_pos rfl, valV_pos e]
      exact ⟨_, rfl, h2⟩
    · rw [decide_eq_false e, if_neg (by decide), valV_neg e]
      exact look_val r t t2
theorem te_idx (hs : PlainIx b) (hn : NoSl b) (ha : PE X a (TEv X.K C Ea)) (hb : PE X b (TEv X.K C Eb)) (hu : X.A.units + 65 < cLine) : PE X (.Subscript a b pos) (TEv X.K C (.idx Ea Eb)) := by
  refine ((pe_ix ix_seq ha hb hs).or (pe_dget (by omega) ha hb hn)).mono fun σ H Q h => ?_
  obtain ⟨L, φ, ρ, m, d, m', R, hE, e, q⟩ := h
  obtain ⟨x, m1, e1, e⟩ := bind_inv e
  obtain ⟨y, m2, e2, e⟩ := bind_inv e
  obtain ⟨e3, rfl⟩ := okD_inv e
  unfold idxD at e3
  split at e3
  · rename_i xs i e4
    refine .inl (two_ok R hE e1 e2 fun φ2 vx vy H2 R2 s2 rx ry => .inl ?_)
    obtain ⟨p, vs, rfl, h1, t1⟩ := deref_lst R2 rx e4
    obtain ⟨v, h2, h3⟩ := atI_of t1 e3
    have := ry.int; subst this
    exact ⟨p, vs, i, v, rfl, rfl, SqL.of h1, h2, q φ2 v H2 R2 s2 (.st h3)⟩
  · rename_i xs i e4
    refine .inl (two_ok R hE e1 e2 fun φ2 vx vy H2 R2 s2 rx ry => .inr (.inl ?_))
    have := deref_out R2 rx e4 (fun _ z => by cases z) (fun _ z => by cases z) (fun _ _ z => by cases z)
    subst this
    obtain ⟨p, vs, rfl, h1, t1⟩ := rx.tup
    obtain ⟨v, h2, h3⟩ := atI_of t1 e3
    have := ry.int; subst this
    exact ⟨p, vs, i, v, rfl, rfl, h1, h2, q φ2 v H2 R2 s2 (.st h3)⟩
  · rename_i xs i e4
    refine .inl (two_ok R hE e1 e2 fun φ2 vx vy H2 R2 s2 rx ry => .inl ?_)
    obtain ⟨p, vs, rfl, h1, t1⟩ := deref_fro R2 rx e4
    obtain ⟨v, h2, h3⟩ := atI_of t1 e3
    have := ry.int; subst this
    exact ⟨p, vs, i, v, rfl, rfl, h1, h2, q φ2 v H2 R2 s2 (.st h3)⟩
  · rename_i ks vs e4
    split at e3
    · rename_i c
      simp only [Bool.and_eq_true] at c
      refine .inr (two_ok R hE e1 e2 fun φ2 vx vy H2 R2 s2 rx ry => ?_)
      obtain ⟨p, kvs, rfl, h1, t1, t2⟩ := deref_dct R2 rx e4
      obtain ⟨kk, rfl⟩ := key_of_isKey (ry.pur c.1.2) c.1.1
      have lv := look_val (ry.pur c.1.2) t1 t2
      rw [e3] at lv
      obtain ⟨v, h2, h3⟩ := lv
      exact ⟨p, v, rfl, by rw [← h2]; exact DGet.k h1, q φ2 v H2 R2 s2 (.st h3)⟩
    · cases e3
  · cases e3
/-! ### slices -/
theorem cut_len (xs : List D) (lo hi : Option Int) : (cut xs lo hi).length ≤ xs.length := by
  unfold cut
  rw [List.length_take, List.length_drop]
  omega
theorem cut_rss {K : PySem.W.Frag} {φ : List Addr} {H : Hp} {xs : List D} {vs : List V} (t : RSs K φ H xs vs) (lo hi : Option Int) : RSs K φ H (cut xs lo hi) (cutV vs lo hi) := by
  unfold cut cutV
  have e : ∀ d o, sIx xs.length d o = HT.sIx vs.length d o := fun d o => by rw [t.length]; rfl
  rw [e, e]
  have e2 : HT.sIx vs.length xs.length hi = HT.sIx vs.length vs.length hi := by rw [t.length]
  rw [e2]
  exact (t.drop _).take _
def TOv (K : PySem.W.Frag) (C : Cf) (e : E) : TO := fun σ H Q => ∃ L φ ρ m d m' o, RelH K C.base L φ m H ∧ RelE K φ H ρ σ ∧ ev C e ρ m = .ok d m' ∧ part d = some o ∧
  ∀ φ' H', RelH K C.base L φ' m' H' → Step φ H φ' H' → Q o H'
theorem _root_.L2.PO.mono {X : Cx} {e : Option Expr} {t t' : TO} (h : PO X e t) (k : ∀ σ H Q, t' σ H Q → t σ H Q) : PO X e t' := ⟨fun pins s σ H Q I q => h.run pins s σ H Q I (k σ H Q q)⟩
theorem to_none : PO X none (TOv X.K C (.con .non)) := by
  refine po_none.mono fun σ H Q h => ?_
  obtain ⟨L, φ, ρ, m, d, m', o, R, hE, e, ho, q⟩ := h
  cases e
  cases ho
  exact q φ H R (.refl _ _)
theorem sl_any : SlR X (fun x lo hi H Q => rSlL X.K x lo hi H Q ∨ rSlA X.K x lo hi H Q) := sl_list.or sl_tupA
theorem part_int {K : PySem.W.Frag} {φ : List Addr} {H0 H : Hp} {d : D} {v : V} {o : Option Int} (r : RV K φ H0 H d v) (h : part d = some o) (hn : v ≠ .non) : ∃ i, v = .int i ∧ o = some i := by
  cases d with
  | non => exact absurd r.non hn
  | int i => cases h; exact ⟨i, r.int, rfl⟩
  | _ => cases h
/-- a written bound is an int -/
theorem te_slc {lo hi : Option Expr} {p2 : Pos} {El Eh : E} (ha : PE X a (TEv X.K C Ea)) (hl : PO X lo (TOv X.K C El)) (hh : PO X hi (TOv X.K C Eh)) : PE X (.Subscript a (.Slice lo hi none p2) pos) (TEv X.K C (.slc Ea El Eh)) := by
  refine (pe_slice sl_any ha hl hh).mono fun σ H Q h => ?_
  obtain ⟨L, φ, ρ, m, d, m', R, hE, e, q⟩ := h
  obtain ⟨x, m1, e1, e⟩ := bind_inv e
  obtain ⟨y, m2, e2, e⟩ := bind_inv e
  obtain ⟨z, m3, e3, e⟩ := bind_inv e
  obtain ⟨e4, rfl⟩ := okD_inv e
  unfold slcD at e4
  split at e4
  · rename_i xs l u d1 d2 d3
    cases e4
    refine ⟨L, φ, ρ, m, x, m1, R, hE, e1, fun φ1 vx H1 R1 s1 r1 => ⟨L, φ1, ρ, m1, y, m2, l, R1, hE.step R s1, e2, d2, fun φ2 H2 R2 s2 => ⟨L, φ2, ρ, m2, z, _, u, R2, hE.step R (s1.trans s2), e3, d3, fun φ3 H3 R3 s3 => ?_⟩⟩⟩
    have r3 := r1.step R1 (s2.trans s3)
    have s := s1.trans (s2.trans s3)
    obtain ⟨p, vs, rfl, h1, t1⟩ := deref_lst R3 r3 d1
    have qv : QV X.K C.base L φ3 H H3 _ (.lst (cut xs l u)) Q := fun φ' v H' R' s' r' => q φ' v H' R' (s.trans s') r'
    exact .inl ⟨p, vs, rfl, SqL.of h1, fun c hc => qv.new R3 (fun p => s.free) hc (fun _ z => by cases z) (.lst (cut_rss t1 l u))⟩
  · rename_i xs l u d1 d2 d3
    cases e4
    refine ⟨L, φ, ρ, m, x, m1, R, hE, e1, fun φ1 vx H1 R1 s1 r1 => ⟨L, φ1, ρ, m1, y, m2, l, R1, hE.step R s1, e2, d2, fun φ2 H2 R2 s2 => ⟨L, φ2, ρ, m2, z, _, u, R2, hE.step R (s1.trans s2), e3, d3, fun φ3 H3 R3 s3 => ?_⟩⟩⟩
    have r3 := r1.step R1 (s2.trans s3)
    have s := s1.trans (s2.trans s3)
    have := deref_out R3 r3 d1 (fun _ z => by cases z) (fun _ z => by cases z) (fun _ _ z => by cases z)
    subst this
    obtain ⟨p, vs, rfl, h1, t1⟩ := r3.tup
    have qv : QV X.K C.base L φ3 H H3 _ (.tup (cut xs l u)) Q := fun φ' v H' R' s' r' => q φ' v H' R' (s.trans s') r'
    refine .inr ⟨p, vs, rfl, h1, fun hw => ?_, fun _ c hc => qv.newT R3 hc (cut_rss t1 l u)⟩
    have ec : cut xs l u = xs := by
      unfold cut
      have e : ∀ d o, sIx xs.length d o = HT.sIx vs.length d o := fun d o => by rw [t1.length]; rfl
      rw [e, e, hw.1]
      have e2 : HT.sIx vs.length xs.length u = HT.sIx vs.length vs.length u := by rw [t1.length]
      rw [e2, hw.2, ← t1.length]
      simp
    rw [ec] at qv
    exact qv.stay R3 (.tup h1 t1)
  · cases e4
theorem to_some {e : Expr} {E1 : E} (h : PE X e (TEv X.K C E1)) : PO X (some e) (TOv X.K C (.nd E1)) := by
  refine (po_some h).mono fun σ H Q h => ?_
  obtain ⟨L, φ, ρ, m, d, m', o, R, hE, e, ho, q⟩ := h
  obtain ⟨x, m1, e1, e⟩ := bind_inv e
  cases x with
  | int i =>
    cases e
    cases ho
    exact ⟨L, φ, ρ, m, _, _, R, hE, e1, fun φ1 v H1 R1 s1 r1 => ⟨i, r1.int, q φ1 H1 R1 s1⟩⟩
  | _ => cases e
end
end Bell
end

section
set_option maxRecDepth 100000
/-! calls of defs -/
namespace Bell
open PySem PySem.Spec PyProof.Rows L2
/-- a def's promise, by Mini -/
def spF (K : PySem.W.Frag) (run : List D → Hm → Out D) : Sp := fun vs H Q _ => ∃ base L φ m ds d m', RelH K base L φ m H ∧ RSs K φ H ds vs ∧ run ds m = .ok d m' ∧
  ∀ H' v, RelH K base L φ m' H' → Step φ H φ H' → RV K φ H H' d v → Q v H'
/-- a def may be called so -/
structure CallOk (X : Cx) (run : List D → Hm → Out D) (x : Str) (n : Nat) (ks : List Str) (p : List Nat) (ds : List D) : Prop where
  ex : ∃ addr fd ps k g gV, X.mg x = some (.ref addr) ∧ PySem.W.keepIn X.K (.ref addr) = true ∧ KBn X.K fd ps n ks g gV ∧ FnOk X.prog X.w X.K X.mg X.base CX0 k addr fd ps (spF X.K run) ∧ Room k X.A ∧
    ∀ φ H ys vs ws, RSs X.K φ H ys (vs ++ ws) → vs.length = n → ws.length = ks.length → RSs X.K φ H (pick (ys ++ ds) p) (gV vs ws)
inductive IsArgs : E → Nat → Prop
  | nil : IsArgs .nil 0
  | cons {a r : E} {n : Nat} : IsArgs r n → IsArgs (.cons a r) (n + 1)
theorem cArgs_is {f : Expr → Option E} : ∀ {es : List Expr} {E' : E}, cArgs f es = some E' → IsArgs E' es.length
  | [], E', h => by cases h; exact .nil
  | e :: es, E', h => by
    unfold cArgs at h
    split at h
    · cases h1 : f e with
      | none => rw [h1] at h; simp at h
      | some Ea =>
        cases h2 : cArgs f es with
        | none => rw [h1, h2] at h; simp at h
        | some Eb =>
          rw [h1, h2] at h
          simp at h
          subst h
          exact .cons (cArgs_is h2)
    · cases h
theorem args_len {C : Cf} {a : E} {n : Nat} (i : IsArgs a n) : ∀ {ρ : Env} {m m' : Hm} {ds : List D}, ev C a ρ m = .ok (.tup ds) m' → ds.length = n := by
  induction i with
  | nil => intro ρ m m' ds h; cases h; rfl
  | cons i ih =>
    intro ρ m m' ds h
    obtain ⟨x, m1, e1, e⟩ := bind_inv h
    obtain ⟨y, m2, e2, e⟩ := bind_inv e
    obtain ⟨ys, rfl, e⟩ := withArgs_inv e
    cases e
    simp [ih e2]
/-- arguments and what follows them -/
theorem app_inv {C : Cf} {a b : E} {n : Nat} (i : IsArgs a n) : ∀ {ρ : Env} {m m' : Hm} {ds : List D}, ev C (appE a b) ρ m = .ok (.tup ds) m' → ∃ xs m1 zs, ev C a ρ m = .ok (.tup xs) m1 ∧ ev C b ρ m1 = .ok (.tup zs) m' ∧ ds = xs ++ zs := by
  induction i with
  | nil => intro ρ m m' ds h; exact ⟨[], m, ds, rfl, h, rfl⟩
  | cons i ih =>
    intro ρ m m' ds h
    obtain ⟨x, m1, e1, e⟩ := bind_inv h
    obtain ⟨y, m2, e2, e⟩ := bind_inv e
    obtain ⟨ys, rfl, e⟩ := withArgs_inv e
    cases e
    obtain ⟨xs, m3, zs, h1, h2, h3⟩ := ih e2
    refine ⟨x :: xs, m3, zs, ?_, h2, by rw [h3]; rfl⟩
    show (ev C _ ρ m).bind _ = _
    rw [e1, bind_ok, h1]
    rfl
theorem args_plain {f : Expr → Option E} {env : PySem.Env} {pos : Pos} : ∀ {es : List Expr} {E' : E}, cArgs f es = some E' → (backTo pos (starEach es env)).any (·.1) = false
  | [], _, _ => rfl
  | e :: es, E', h => by
    unfold cArgs at h
    split at h
    · rename_i hs
      cases h2 : cArgs f es with
      | none =>
        rw [h2] at h
        cases h1 : f e <;> (rw [h1] at h; simp at h)
      | some Eb =>
        rw [star_cons hs]
        have := args_plain (env := env) (pos := pos) h2
        simpa [backTo] using this
    · cases h
theorem args_star {f : Expr → Option E} {env : PySem.Env} {e : Expr} {es : List Expr} {E' : E} (h : cArgs f (e :: es) = some E') : starEach (e :: es) env = (false, eval e env) :: starEach es env := by
  unfold cArgs at h
  split at h
  · rename_i hs
    exact star_cons hs
  · cases h
theorem kws_facts {f : Expr → Option E} {env : PySem.Env} {pos : Pos} : ∀ {kws : List Keyword} {ks : List Str} {E' : E}, cKws f kws = some (ks, E') →
    (backToKw pos (keywordEach kws env)).all (·.1.isSome) = true ∧ (backToKw pos (keywordEach kws env)).filterMap (·.1) = ks ∧ (backToKw pos (keywordEach kws env)).any (·.1.isNone) = false ∧ kws.length = ks.length
  | [], ks, E', h => by cases h; exact ⟨rfl, rfl, rfl, rfl⟩
  | ⟨none, e, p⟩ :: kws, ks, E', h => by simp [cKws] at h
  | ⟨some k, e, p⟩ :: kws, ks, E', h => by
    unfold cKws at h
    cases h1 : f e with
    | none => rw [h1] at h; simp at h
    | some Ea =>
      cases h2 : cKws f kws with
      | none => rw [h1, h2] at h; simp at h
      | some q =>
        obtain ⟨ks2, Eb⟩ := q
        rw [h1, h2] at h
        simp at h
        obtain ⟨rfl, rfl⟩ := h
        obtain ⟨a1, a2, a3, a4⟩ := kws_facts (env := env) (pos := pos) h2
        refine ⟨?_, ?_, ?_, by simp [a4]⟩
        · simpa [keywordEach, backToKw] using a1
        · simpa [keywordEach, backToKw] using a2
        · simpa [keywordEach, backToKw] using a3
theorem _root_.L2.PK.mono {X : Cx} {e : List Keyword} {t t' : TA} (h : PK X e t) (k : ∀ σ H Q, t' σ H Q → t σ H Q) : PK X e t' := ⟨fun pos pins s σ H Q I q => h.run pos pins s σ H Q I (k σ H Q q)⟩
section
variable {X : Cx} {C : Cf} {a b c : Expr} {Ea Eb Ec : E} {pos : Pos}
theorem tk_kws {f : Expr → Option E} : ∀ (kws : List Keyword) {ks : List Str} {E' : E}, cKws f kws = some (ks, E') → (∀ k ∈ kws, ∀ E1, f k.value = some E1 → PE X k.value (TEv X.K C E1)) → PK X kws (TAv X.K C E')
  | [], ks, E', h, _ => by
    cases h
    refine pk_nil.mono fun σ H Q h => ?_
    obtain ⟨L, φ, ρ, m, d, m', R, hE, e, q⟩ := h
    cases e
    exact q φ [] H R (.refl _ _) (.nil fun _ h => h)
  | ⟨none, e, p⟩ :: kws, ks, E', h, _ => by simp [cKws] at h
  | ⟨some k0, e, p⟩ :: kws, ks, E', h, k => by
    unfold cKws at h
    cases h1 : f e with
    | none => rw [h1] at h; simp at h
    | some Ea =>
      cases h2 : cKws f kws with
      | none => rw [h1, h2] at h; simp at h
      | some q =>
        obtain ⟨ks2, Eb⟩ := q
        rw [h1, h2] at h
        simp at h
        obtain ⟨rfl, rfl⟩ := h
        have ih := tk_kws kws h2 fun e he => k e (List.mem_cons_of_mem _ he)
        have hd : PE X e (TEv X.K C Ea) := k ⟨some k0, e, p⟩ List.mem_cons_self Ea h1
        refine (pk_cons (nm := some k0) (kpos := p) hd ih).mono fun σ H Q h => ?_
        obtain ⟨L, φ, ρ, m, d, m', R, hE, e, q⟩ := h
        obtain ⟨x, m1, e1, e⟩ := bind_inv e
        obtain ⟨y, m2, e2, e⟩ := bind_inv e
        obtain ⟨ys, rfl, e⟩ := withArgs_inv e
        cases e
        refine ⟨L, φ, ρ, m, x, m1, R, hE, e1, fun φ1 vx H1 R1 s1 r1 => ⟨L, φ1, ρ, m1, ys, _, R1, hE.step R s1, e2, fun φ2 vs H2 R2 s2 r2 => q φ2 _ H2 R2 (s1.trans s2) (.cons (r1.step R1 s2) (fun p => s1.free) ?_ r2)⟩⟩
        cases r1 with
        | st z => exact .inl (z.step R1 s2)
        | tmp h n f z w => exact .inr ⟨_, rfl, by rw [h]; simp⟩
/-- f(.., k = ..), no argument by place -/
theorem pe_kw0 {k : Nat} {addr : Addr} {fd : FuncData} {ps ks : List Str} {g : List Value → List Value → List Value} {gV : List V → List V → List V} {sp : Sp} {x : Str} {p : Pos} {kws : List Keyword} {tk : TA}
    (F : FnOk X.prog X.w X.K X.mg X.base CX0 k addr fd ps sp) (hr : Room k X.A) (hg : Gl X x) (hm : X.mg x = some (.ref addr)) (hk : PySem.W.keepIn X.K (.ref addr) = true) (hb : KBn X.K fd ps 0 ks g gV)
    (hkw : PK X kws tk) (hall : (backToKw pos (keywordEach kws X.env)).all (·.1.isSome) = true) (hks : (backToKw pos (keywordEach kws X.env)).filterMap (·.1) = ks) (hno : (backToKw pos (keywordEach kws X.env)).any (·.1.isNone) = false)
    (hdb : (x == ("__debug__" : Str)) = false) : PE X (.Call (.Name x p) [] kws pos) (tCallN 0 ks.length sp gV E0 tNil tk) := by
  constructor
  intro pins s σ H Q I hq
  apply wpAny_Call_Name_kw
  apply ld_glob I hg hm _ hdb
  refine PySem.W.callWith_KW0 (h₀ := X.base) I.ok.mod.kin hk hall ?_ (by show (false || (backToKw pos (keywordEach kws X.env)).any (·.1.isNone)) = false; rw [hno]; rfl)
  refine thn (hkw.run pos pins s σ H _ I hq) ?_
  rintro ws s2 ⟨zs, H2, I2, rz, l1, l2, q2⟩
  refine ⟨I2.kIn, ?_⟩
  rw [hks]
  exact run_fnN F hr hb pass0 I2 (vs := []) .nil rz l1 l2 q2
theorem cKws_is {f : Expr → Option E} : ∀ {kws : List Keyword} {ks : List Str} {E' : E}, cKws f kws = some (ks, E') → IsArgs E' ks.length
  | [], ks, E', h => by cases h; exact .nil
  | ⟨none, e, p⟩ :: kws, ks, E', h => by simp [cKws] at h
  | ⟨some k, e, p⟩ :: kws, ks, E', h => by
    unfold cKws at h
    cases h1 : f e with
    | none => rw [h1] at h; simp at h
    | some Ea =>
      cases h2 : cKws f kws with
      | none => rw [h1, h2] at h; simp at h
      | some q =>
        obtain ⟨ks2, Eb⟩ := q
        rw [h1, h2] at h
        simp at h
        obtain ⟨rfl, rfl⟩ := h
        exact .cons (cKws_is h2)
theorem te_callp {f : Expr → Option E} {fi : Nat} {q : List Nat} {dfl : List D} {x : Str} {p : Pos} {es : List Expr} {kws : List Keyword} {ks : List Str} (ha : cArgs f es = some Ea) (hk : cKws f kws = some (ks, Eb))
    (hg : Gl X x) (hdb : (x == ("__debug__" : Str)) = false) (pa : PA X es (TAv X.K C Ea)) (pk : PK X kws (TAv X.K C Eb)) (co : CallOk X (C.call fi) x es.length ks q dfl) : PE X (.Call (.Name x p) es kws pos) (TEv X.K C (.callp fi q dfl (appE Ea Eb))) := by
  obtain ⟨addr, fd, ps, k, g, gV, hm, hkp, hb, F, hr, hgv⟩ := co.ex
  obtain ⟨k1, k2, k3, k4⟩ := kws_facts (env := X.env) (pos := pos) hk
  have ia := cArgs_is ha
  have core : ∀ σ H Q, TEv X.K C (.callp fi q dfl (appE Ea Eb)) σ H Q → TAv X.K C Ea σ H fun vs H1 => TAv X.K C Eb σ H1 fun zs H2 => vs.length = es.length ∧ zs.length = ks.length ∧ spF X.K (C.call fi) (gV vs zs) H2 Q E0 := by
    intro σ H Q h
    obtain ⟨L, φ, ρ, m, d, m', R, hE, e, q⟩ := h
    obtain ⟨y, m1, e1, e⟩ := bind_inv e
    obtain ⟨ys, rfl, e⟩ := withArgs_inv e
    obtain ⟨xs, m2, zs, e2, e3, rfl⟩ := app_inv ia e1
    refine ⟨L, φ, ρ, m, xs, m2, R, hE, e2, fun φ1 vs H1 R1 s1 r1 => ⟨L, φ1, ρ, m2, zs, m1, R1, hE.step R s1, e3, fun φ2 ws H2 R2 s2 r2 => ?_⟩⟩
    have l1 : vs.length = es.length := r1.length.symm.trans (args_len ia e2)
    have l2 : zs.length = ks.length := args_len (cKws_is hk) e3
    have l3 : ws.length = ks.length := r2.length.symm.trans l2
    refine ⟨l1, l3, ?_⟩
    have r := (r1.step R1 s2).app r2
    obtain ⟨φ3, p3, R3, t3, f3⟩ := homes_ok r R2
    have s := (s1.trans s2).homed p3 f3
    exact ⟨C.base, L, φ3, _, _, d, m', R3, hgv φ3 H2 _ vs ws t3 l1 l3, e, fun H' v R' s' r' => q φ3 v H' R' (s.trans s') (r'.older fun p => s.free)⟩
  cases es with
  | nil =>
    refine (pe_kw0 (p := p) (pos := pos) F hr hg hm hkp hb pk k1 k2 k3 hdb).mono fun σ H Q h => ?_
    cases ha
    obtain ⟨L, φ, ρ, m, ds, m', R, hE, e, q⟩ := core σ H Q h
    cases e
    exact q φ [] H R (.refl _ _) (.nil fun _ h => h)
  | cons e es =>
    refine (pe_callN (p := p) (pos := pos) F hr hg hm hkp hb pass0 pa pk k1 k2 hdb (args_star ha) ?_).mono fun σ H Q h => core σ H Q h
    rw [args_plain ha, k3]
    rfl
end
end Bell
end

section
set_option maxRecDepth 100000
/-! walks, comprehensions -/
namespace Bell
open PySem PySem.Spec PyProof.Rows L2
/-- an iterator gives what Mini's walk gives -/
structure WalkOk (K : PySem.W.Frag) (base : Nat) (L : Nat → Nat) (φ0 : List Addr) (H0 : Hp) (J : It) (nx : Nx) : Prop where
  go : ∀ φ m H i d, RelH K base L φ m H → Step φ0 H0 φ H → nx i m = some (some d) → J.go i H ∧ ∀ x H3, J.yld i H x H3 → RelH K base L φ m H3 ∧ Step φ H φ H3 ∧ RS K φ H3 d x
  stop : ∀ φ m H i, RelH K base L φ m H → Step φ0 H0 φ H → nx i m = some none → J.stop i H
section
variable {K : PySem.W.Frag} {base : Nat} {L : Nat → Nat} {φ0 : List Addr} {m0 : Hm} {H0 : Hp}
theorem walk_snapT (R0 : RelH K base L φ0 m0 H0) {p : Addr} {xs : List D} {vs : List V} (h : SqT K H0 p vs) (t : RSs K φ0 H0 xs vs) : WalkOk K base L φ0 H0 (Itt K p) (snap xs) := by
  refine ⟨fun φ m H i d R s e => ?_, fun φ m H i R s e => ?_⟩
  · have e : xs[i]? = some d := Option.some.inj e
    have h' : SqT K H p vs := SqT.step R0 s h
    obtain ⟨v, hv, r⟩ := (t.step R0 s).get e
    refine ⟨⟨vs, v, h', hv⟩, fun x H3 y => ?_⟩
    obtain ⟨rfl, y⟩ := y
    have := (y vs h').symm.trans hv
    cases this
    exact ⟨R, .refl _ _, r⟩
  · have e : xs[i]? = none := Option.some.inj e
    exact ⟨vs, SqT.step R0 s h, by rw [← t.length]; exact List.getElem?_eq_none_iff.mp e⟩
theorem walk_snapL (R0 : RelH K base L φ0 m0 H0) {p : Addr} {xs : List D} {vs : List V} (h : H0 p = some (.lst vs)) (n : p ∉ φ0) (t : RSs K φ0 H0 xs vs) : WalkOk K base L φ0 H0 (Itl K p) (snap xs) := by
  refine ⟨fun φ m H i d R s e => ?_, fun φ m H i R s e => ?_⟩
  · have e : xs[i]? = some d := Option.some.inj e
    have h' : SqL K H p vs := SqL.of (s.keep p _ h n (fun _ z => by cases z)).1
    obtain ⟨v, hv, r⟩ := (t.step R0 s).get e
    refine ⟨⟨vs, v, h', hv⟩, fun x H3 y => ?_⟩
    obtain ⟨rfl, y⟩ := y
    have := (y vs h').symm.trans hv
    cases this
    exact ⟨R, .refl _ _, r⟩
  · have e : xs[i]? = none := Option.some.inj e
    exact ⟨vs, SqL.of (s.keep p _ h n (fun _ z => by cases z)).1, by rw [← t.length]; exact List.getElem?_eq_none_iff.mp e⟩
theorem live_at {k i : Nat} {m : Hm} {o : Option D} (e : live k i m = some o) : ∃ xs, m[k]? = some (.lst xs) ∧ o = xs[i]? := by
  unfold live at e
  split at e
  · rename_i xs h
    exact ⟨xs, h, (Option.some.inj e).symm⟩
  · cases e
theorem walk_live (R0 : RelH K base L φ0 m0 H0) {p : Addr} {k : Nat} (h : φ0[k]? = some p) : WalkOk K base L φ0 H0 (Itl K p) (live k) := by
  have at_ : ∀ {φ m H xs}, RelH K base L φ m H → Step φ0 H0 φ H → m[k]? = some (.lst xs) → ∃ vs, SqL K H p vs ∧ RSs K φ H xs vs := fun {φ m H xs} R s e => by
    obtain ⟨p', ho, h1, h2, h3⟩ := R.at e
    have := (get_pre s.pre h).symm.trans h1
    cases this
    cases h3 with
    | lst t => exact ⟨_, SqL.of h2, t⟩
  refine ⟨fun φ m H i d R s e => ?_, fun φ m H i R s e => ?_⟩
  · obtain ⟨xs, e1, e2⟩ := live_at e
    obtain ⟨vs, h', t⟩ := at_ R s e1
    obtain ⟨v, hv, r⟩ := t.get e2.symm
    refine ⟨⟨vs, v, h', hv⟩, fun x H3 y => ?_⟩
    obtain ⟨rfl, y⟩ := y
    have := (y vs h').symm.trans hv
    cases this
    exact ⟨R, .refl _ _, r⟩
  · obtain ⟨xs, e1, e2⟩ := live_at e
    obtain ⟨vs, h', t⟩ := at_ R s e1
    exact ⟨vs, h', by rw [← t.length]; exact List.getElem?_eq_none_iff.mp e2.symm⟩
theorem rangeL_get : ∀ (n : Nat) (lo : Int) (i : Nat), (rangeL lo n)[i]? = if i < n then some (.int (lo + i)) else none
  | 0, lo, i => by simp [rangeL]
  | n + 1, lo, 0 => by simp [rangeL]
  | n + 1, lo, i + 1 => by
    show (rangeL (lo + 1) n)[i]? = _
    rw [rangeL_get n (lo + 1) i]
    by_cases h : i < n
    · rw [if_pos h, if_pos (by omega)]
      congr 2
      omega
    · rw [if_neg h, if_neg (by omega)]
theorem rangeL_len : ∀ (n : Nat) (lo : Int), (rangeL lo n).length = n
  | 0, _ => rfl
  | n + 1, lo => by simp [rangeL, rangeL_len n]
theorem walk_rng {lo : Int} {n : Nat} : WalkOk K base L φ0 H0 (Itr lo n) (snap (rangeL lo n)) := by
  refine ⟨fun φ m H i d R s e => ?_, fun φ m H i R s e => ?_⟩
  · have e : (rangeL lo n)[i]? = some d := Option.some.inj e
    rw [rangeL_get] at e
    split at e
    · rename_i h
      cases e
      refine ⟨h, fun x H3 y => ?_⟩
      obtain ⟨rfl, rfl⟩ := y
      exact ⟨R, .refl _ _, .int _⟩
    · cases e
  · have e : (rangeL lo n)[i]? = none := Option.some.inj e
    rw [rangeL_get] at e
    split at e
    · cases e
    · rename_i h
      show n ≤ i
      omega
end
/-- the walk of an expression, by Mini -/
def TIv (K : PySem.W.Frag) (C : Cf) (k : Sk) (e : E) : TI := fun σ H R => ∃ L φ ρ m xs m1 nx n, RelH K C.base L φ m H ∧ RelE K φ H ρ σ ∧ ev C e ρ m = .ok (.tup xs) m1 ∧ src k xs m1 = some (nx, n) ∧
  ∀ φ' H' J, RelH K C.base L φ' m1 H' → Step φ H φ' H' → WalkOk K C.base L φ' H' J nx → R J H'
section
variable {X : Cx} {C : Cf} {a b c : Expr} {Ea Eb Ec : E} {pos : Pos}
theorem ti_val {tg : Expr} (ha : PE X a (TEv X.K C Ea)) : PI X tg a (TIv X.K C .val (.cons Ea .nil)) := by
  refine ((pi_list ha).or (pi_tup ha)).mono fun σ H Q h => ?_
  obtain ⟨L, φ, ρ, m, xs, m1, nx, n, R, hE, e, hs, q⟩ := h
  obtain ⟨x, m2, e1, e⟩ := bind_inv e
  obtain ⟨y, m3, e2, e⟩ := bind_inv e
  cases e2
  obtain ⟨ys, e3, e⟩ := withArgs_inv e
  cases e3
  cases e
  have hs : nxOf m1 x = some (nx, n) := hs
  unfold nxOf at hs
  split at hs
  · rename_i zs
    cases hs
    refine .inl ⟨L, φ, ρ, m, _, m1, R, hE, e1, fun φ1 v H1 R1 s1 r1 => ?_⟩
    cases r1 with
    | st r => cases r
    | tmp h1 n1 f z w =>
      cases w with
      | lst t => exact ⟨_, rfl, ⟨_, SqL.of h1⟩, q φ1 H1 _ R1 s1 (walk_snapL R1 h1 n1 t)⟩
  · rename_i zs
    cases hs
    refine .inr ⟨L, φ, ρ, m, _, m1, R, hE, e1, fun φ1 v H1 R1 s1 r1 => ?_⟩
    obtain ⟨p, vs, rfl, h1, t1⟩ := r1.tup
    exact ⟨_, rfl, ⟨_, h1⟩, q φ1 H1 _ R1 s1 (walk_snapT R1 h1 t1)⟩
  · rename_i k
    split at hs
    · rename_i zs hz
      cases hs
      refine .inl ⟨L, φ, ρ, m, _, m1, R, hE, e1, fun φ1 v H1 R1 s1 r1 => ?_⟩
      cases r1 with
      | st r =>
        cases r with
        | adr h =>
          obtain ⟨p', ho, h1, h2, h3⟩ := R1.at hz
          rw [h] at h1
          cases h1
          cases h3 with
          | lst t => exact ⟨_, rfl, ⟨_, SqL.of h2⟩, q φ1 H1 _ R1 s1 (walk_live R1 h)⟩
      | tmp h1 n1 f z w => cases w
    · cases hs
  · cases hs
theorem ti_rng1 {tg : Expr} {p : Pos} (hg : Gl X "range") (hm : X.mg "range" = none) (ha : PA X [a] (TAv X.K C Ea)) (hs : starEach [a] X.env = [(false, eval a X.env)]) (hl : IsArgs Ea 1) : PI X tg (.Call (.Name "range" p) [a] [] pos) (TIv X.K C .rng Ea) := by
  refine (pi_range1 hg hm ha hs).mono fun σ H Q h => ?_
  obtain ⟨L, φ, ρ, m, xs, m1, nx, n, R, hE, e, hs, q⟩ := h
  have l := args_len hl e
  refine ⟨L, φ, ρ, m, xs, m1, R, hE, e, fun φ1 vs H1 R1 s1 r1 => ?_⟩
  match xs, l, hs, r1 with
  | [x], _, hs, r1 =>
    obtain ⟨v, rfl, rv⟩ := r1.one
    cases x with
    | int i =>
      have := rv.int; subst this
      unfold src rangeOf at hs
      simp only at hs
      split at hs
      · rename_i c
        cases hs
        exact ⟨i, rfl, c.1, c.2, q φ1 H1 _ R1 s1 walk_rng⟩
      · cases hs
    | _ => simp [src, rangeOf] at hs
theorem ti_rng2 {tg : Expr} {p : Pos} (hg : Gl X "range") (hm : X.mg "range" = none) (ha : PA X [a, b] (TAv X.K C Ea)) (hs : starEach [a, b] X.env = [(false, eval a X.env), (false, eval b X.env)]) (hs2 : starEach [b] X.env = [(false, eval b X.env)]) (hl : IsArgs Ea 2) : PI X tg (.Call (.Name "range" p) [a, b] [] pos) (TIv X.K C .rng Ea) := by
  refine (pi_range2 hg hm ha hs hs2).mono fun σ H Q h => ?_
  obtain ⟨L, φ, ρ, m, xs, m1, nx, n, R, hE, e, hs, q⟩ := h
  have l := args_len hl e
  refine ⟨L, φ, ρ, m, xs, m1, R, hE, e, fun φ1 vs H1 R1 s1 r1 => ?_⟩
  match xs, l, hs, r1 with
  | [x, y], _, hs, r1 =>
    obtain ⟨v, w, rfl, rv, rw'⟩ := r1.two
    cases x with
    | int i =>
      cases y with
      | int j =>
        have := rv.int; subst this
        have := rw'.int; subst this
        unfold src rangeOf at hs
        simp only at hs
        split at hs
        · rename_i c
          cases hs
          exact ⟨i, j, rfl, c, q φ1 H1 _ R1 s1 walk_rng⟩
        · cases hs
      | _ => simp [src, rangeOf] at hs
    | _ => simp [src, rangeOf] at hs
end
/-! ### targets -/
mutual
def gOf (K : PySem.W.Frag) : Tg → TG
  | .nm i => gName i
  | .tup a => gTup K (lenT a) (gsOf K a)
  | .nil => fun _ _ _ _ => False
  | .cons _ _ => fun _ _ _ _ => False
def gsOf (K : PySem.W.Frag) : Tg → TGs
  | .nil => gNil
  | .cons a r => gCons (gOf K a) (gsOf K r)
  | .nm _ => fun _ _ _ _ => False
  | .tup _ => fun _ _ _ _ => False
def lenT : Tg → Nat
  | .cons _ r => lenT r + 1
  | _ => 0
end
end Bell
end

section
set_option maxRecDepth 100000
/-! targets, comprehensions -/
namespace Bell
open PySem PySem.Spec PyProof.Rows L2
theorem wipe_setA (i : Nat) (x y : Option V) : ∀ (vs : List Nat) (σ : L2.St), (L2.wipe (σ.set i x) vs).set i y = (L2.wipe σ vs).set i y
  | [], σ => by simp [L2.wipe]
  | v :: vs, σ => by
    have ih := wipe_setA i x y vs σ
    show ((L2.wipe (σ.set i x) vs).set v none).set i y = ((L2.wipe σ vs).set v none).set i y
    by_cases e : v = i
    · subst e
      have ih2 := wipe_setA v x y vs σ
      simp only [List.set_set]
      exact ih2
    · rw [List.set_comm _ _ e, ih, List.set_comm _ _ (Ne.symm e)]
theorem wipe_set {i : Nat} (x : Option V) : ∀ {vs : List Nat} {σ : L2.St}, i ∈ vs → L2.wipe (σ.set i x) vs = L2.wipe σ vs
  | v :: vs, σ, h => by
    show (L2.wipe (σ.set i x) vs).set v none = (L2.wipe σ vs).set v none
    by_cases e : v = i
    · subst e
      exact wipe_setA v x none vs σ
    · rcases List.mem_cons.mp h with h | h
      · exact absurd h.symm e
      · rw [wipe_set x h]
theorem wipe_wipe (σ : L2.St) : ∀ vs us : List Nat, (∀ v ∈ us, v ∈ vs) → L2.wipe (L2.wipe σ us) vs = L2.wipe σ vs
  | vs, [], _ => rfl
  | vs, u :: us, h => by
    show L2.wipe ((L2.wipe σ us).set u none) vs = _
    rw [wipe_set none (h u List.mem_cons_self), wipe_wipe σ vs us fun v hv => h v (List.mem_cons_of_mem _ hv)]
section
variable {K : PySem.W.Frag} {φ : List Addr} {H : Hp}
theorem lenT_ok : ∀ (t : Tg) {ds : List D} {ρ ρ' : Env}, assignTs t ds ρ = some ρ' → ds.length = lenT t
  | .nil, ds, ρ, ρ', h => by
    cases ds with
    | nil => rfl
    | cons d ds => simp [assignTs] at h
  | .cons a t, ds, ρ, ρ', h => by
    cases ds with
    | nil => simp [assignTs] at h
    | cons d ds =>
      unfold assignTs at h
      try dsimp only at h
      split at h
      · simp [lenT, lenT_ok t h]
      · cases h
  | .nm i, ds, ρ, ρ', h => by simp [assignTs] at h
  | .tup a, ds, ρ, ρ', h => by simp [assignTs] at h
mutual
theorem assign_ok {vs : List Nat} : ∀ (t : Tg) {d : D} {v : V} {ρ ρ' : Env} {σ : L2.St} {P : L2.St → Hp → Prop}, assignT t d ρ = some ρ' → RelE K φ H ρ σ → RS K φ H d v → (∀ σ', RelE K φ H ρ' σ' → (tgIn t vs = true → L2.wipe σ' vs = L2.wipe σ vs) → P σ' H) → gOf K t v σ H P
  | .nm i, d, v, ρ, ρ', σ, P, h, hE, r, k => by
    unfold assignT at h
    cases h
    exact k _ (hE.put r) fun hi => wipe_set _ (by simpa [tgIn] using hi)
  | .tup a, d, v, ρ, ρ', σ, P, h, hE, r, k => by
    unfold assignT at h
    try dsimp only at h
    split at h
    · rename_i ds
      cases r with
      | tup hq t =>
        refine ⟨_, _, rfl, hq, ?_, assigns_ok a h hE t k⟩
        rw [← t.length]
        exact lenT_ok a h
    · cases h
  | .nil, d, v, ρ, ρ', σ, P, h, hE, r, k => by simp [assignT] at h
  | .cons a t, d, v, ρ, ρ', σ, P, h, hE, r, k => by simp [assignT] at h
theorem assigns_ok {vs : List Nat} : ∀ (t : Tg) {ds : List D} {us : List V} {ρ ρ' : Env} {σ : L2.St} {P : L2.St → Hp → Prop}, assignTs t ds ρ = some ρ' → RelE K φ H ρ σ → RSs K φ H ds us → (∀ σ', RelE K φ H ρ' σ' → (tgIn t vs = true → L2.wipe σ' vs = L2.wipe σ vs) → P σ' H) → gsOf K t us σ H P
  | .nil, ds, us, ρ, ρ', σ, P, h, hE, r, k => by
    cases r with
    | nil =>
      unfold assignTs at h
      cases h
      exact ⟨rfl, k σ hE fun _ => rfl⟩
    | cons a b => simp [assignTs] at h
  | .cons a t, ds, us, ρ, ρ', σ, P, h, hE, r, k => by
    cases r with
    | nil => simp [assignTs] at h
    | cons r rs =>
      unfold assignTs at h
      try dsimp only at h
      split at h
      · rename_i ρ1 h1
        refine ⟨_, _, rfl, assign_ok (vs := vs) a h1 hE r fun σ1 hE1 w1 => assigns_ok (vs := vs) t h hE1 rs fun σ2 hE2 w2 => k σ2 hE2 fun hi => ?_⟩
        unfold tgIn at hi
        rw [Bool.and_eq_true] at hi
        rw [w2 hi.2, w1 hi.1]
      · cases h
  | .nm i, ds, us, ρ, ρ', σ, P, h, hE, r, k => by simp [assignTs] at h
  | .tup a, ds, us, ρ, ρ', σ, P, h, hE, r, k => by simp [assignTs] at h
end
end
/-- names that may be stored -/
structure StoreOk (X : Cx) (N : List Str) (raw : Scope) : Prop where
  hN : X.N = N
  nd : X.N.Nodup
  st : ∀ x, isLoc raw x = true → Loc X.env.scope x ∧ (X.fn x = true ∨ X.env.scope.names.lookup x = some .local)
theorem ixOfN_get {x : Str} : ∀ {l : List Str} {i : Nat}, ixOfN x l = some i → l[i]? = some x
  | [], i, h => by simp [ixOfN] at h
  | y :: ys, i, h => by
    unfold ixOfN at h
    split at h
    · rename_i e
      cases h
      simp [e]
    · cases q : ixOfN x ys with
      | none => rw [q] at h; cases h
      | some j =>
        rw [q] at h
        cases h
        simpa using ixOfN_get q
section
variable {X : Cx} {N : List Str} {raw : Scope}
theorem each_cons {e : Expr} {es : List Expr} {env : PySem.Env} (h : notStar e = true) : assignEach (e :: es) env = (false, assign e env) :: assignEach es env := by
  cases e <;> first | rfl | (cases h)
theorem pg_of (hc : X.calm = true) (S : StoreOk X N raw) : ∀ (n : Nat) (e : Expr) (t : Tg), cTg N raw n e = some t → PG X e (gOf X.K t)
  | 0, e, t, h => by simp [cTg] at h
  | n + 1, e, t, h => by
    have go : ∀ (es : List Expr) (t : Tg), cTg.go N raw n es = some t → PGs X es (gsOf X.K t) ∧ (assignEach es X.env).length = lenT t ∧ (assignEach es X.env).findIdx? (·.1) = none := by
      intro es
      induction es with
      | nil =>
        intro t h
        simp [cTg.go] at h
        subst h
        exact ⟨pgs_nil, rfl, rfl⟩
      | cons e es ih =>
        intro t h
        unfold cTg.go at h
        split at h
        · rename_i hs
          split at h
          · rename_i a r h1 h2
            cases h
            obtain ⟨i1, i2, i3⟩ := ih r h2
            refine ⟨pgs_cons (pg_of hc S n e a h1) i1 (by rw [each_cons hs]; rfl), by rw [each_cons hs]; simp [lenT, i2], ?_⟩
            rw [each_cons hs, List.findIdx?_cons]
            simp [i3]
          · cases h
        · cases h
    cases e with
    | Name x p =>
      unfold cTg at h
      split at h
      · rename_i hl
        cases q : ixOfN x N with
        | none => rw [q] at h; cases h
        | some i =>
          rw [q] at h
          cases h
          obtain ⟨s1, s2⟩ := S.st x hl
          exact pg_name S.nd (by rw [S.hN]; exact ixOfN_get q) s1 s2
      · cases h
    | Tuple es k p =>
      unfold cTg at h
      cases q : cTg.go N raw n es with
      | none => rw [q] at h; cases h
      | some a =>
        rw [q] at h
        cases h
        obtain ⟨i1, i2, i3⟩ := go es a q
        exact pg_tup hc i1 i2 i3
    | _ => simp [cTg] at h
end
end Bell
end

section
set_option maxRecDepth 100000
/-! comprehensions -/
namespace Bell
open PySem PySem.Spec PyProof.Rows L2
/-- one turn of a comprehension -/
noncomputable def oneC (C : Cf) (tg : Tg) (c e : E) (ρ0 : Env) : D → List D → Hm → Out (List D) := fun d acc m => match assignT tg d ρ0 with
  | none => .bad
  | some ρ' => (ev C c ρ' m).bind fun t m => match t with
    | .bl true => (ev C e ρ' m).bind fun y m => let p := home y m; .ok (acc ++ [p.1]) p.2
    | .bl false => .ok acc m
    | _ => .bad
theorem ev_comp (C : Cf) (k : Sk) (it : E) (tg : Tg) (c e : E) (own : List Nat) (ρ : Env) (m : Hm) : ev C (.comp k it tg c e own) ρ m = (ev C it ρ m).bind fun x m => withArgs x fun xs => match src k xs m with
    | none => .bad
    | some (f, n) => if !isBig n then .bad else (turns f (oneC C tg c e (wipe ρ own)) n 0 [] m).bind fun acc m => .ok (.lst acc) m := rfl
theorem turns_eq (f : Nx) (one : D → List D → Hm → Out (List D)) (n i : Nat) (acc : List D) (m : Hm) : turns f one n i acc m = match f i m with
    | none => .bad
    | some none => .ok acc m
    | some (some d) => match n with
      | 0 => .bad
      | n + 1 => (one d acc m).bind fun acc m => turns f one n (i + 1) acc m := by
  cases n <;> rw [turns] <;> rfl
theorem _root_.L2.PTs.mono {X : Cx} {e : List Expr} {t t' : TT} (h : PTs X e t) (k : ∀ σ H Q, t' σ H Q → t σ H Q) : PTs X e t' := ⟨fun pins s σ H Q I q => h.run pins s σ H Q I (k σ H Q q)⟩
section
variable {X : Cx} {C : Cf}
/-- a thing behind home -/
theorem home_step {K : PySem.W.Frag} {base : Nat} {L : Nat → Nat} {φ0 φ : List Addr} {m : Hm} {H0 H : Hp} {d : D} {v : V} (R : RelH K base L φ m H) (s : Step φ0 H0 φ H) (r : RV K φ H0 H d v) :
    ∃ φ', φ <+: φ' ∧ RelH K base L φ' (home d m).2 H ∧ RS K φ' H (home d m).1 v ∧ Step φ0 H0 φ' H ∧ ∀ p, p ∉ φ → (H0 p ≠ none) → p ∉ φ' := by
  obtain ⟨φ', p1, R1, r1, f1, _⟩ := home_ok r R
  exact ⟨φ', p1, R1, r1, s.homed p1 f1, fun p h1 h2 h3 => by
    rcases f1 p h3 with z | z
    · exact h1 z
    · exact h2 z⟩
/-- a comprehension's turns -/
theorem comp_core {L : Nat → Nat} {φ1 : List Addr} {ρ : Env} {m1 m' : Hm} {H1 : Hp} {J : It} {nx : Nx} {n : Nat} {t : Tg} {Ec Ee : E} {own : List Nat} {acc : List D} {σ : L2.St} {Q : VK} (hin : tgIn t own = true) (R1 : RelH X.K C.base L φ1 m1 H1) (hE1 : RelE X.K φ1 H1 ρ σ) (W : WalkOk X.K C.base L φ1 H1 J nx) (hbig : isBig n = true)
    (e2 : turns nx (oneC C t Ec Ee (wipe ρ own)) n 0 [] m1 = .ok acc m') (q : ∀ φ' v H', RelH X.K C.base L φ' m' H' → Step φ1 H1 φ' H' → RV X.K φ' H1 H' (.lst acc) v → Q v H') :
    ∀ D, H1 D = none → ∃ W : Nat → Nat → Hp → Prop, (∃ m, W 0 m (upd H1 D (.lst []))) ∧ ∀ i m H, W i m H →
      (J.stop i H ∧ Q (.ref D) H) ∨ (J.go i H ∧ ∃ Nx : Hp → Prop, (∀ H', Nx H' → ∃ m', m' < m ∧ W (i + 1) m' H') ∧ ∀ x H', J.yld i H x H' → gOf X.K t x (L2.wipe σ own) H' fun σ2 H2 => L2.wipe σ2 own = L2.wipe σ own ∧ TTv X.K C Ec σ2 H2 fun b H3 =>
        if b = true then TEv X.K C Ee σ2 H3 fun y H4 => ∃ acc, H4 D = some (.lst acc) ∧ acc.length < sizeLine ∧ Nx (upd H4 D (.lst (acc ++ [y]))) else Nx H3) := by
  intro D hD
  have hDφ : D ∉ φ1 := fun z => by
    obtain ⟨o, e, _⟩ := R1.kind z
    rw [hD] at e; cases e
  let Inv := fun (i k : Nat) (H2 : Hp) => ∃ φ2 m2' acc' vs, RelH X.K C.base L φ2 m2' H2 ∧ Step φ1 H1 φ2 H2 ∧ D ∉ φ2 ∧ H2 D = some (.lst vs) ∧ RSs X.K φ2 H2 acc' vs ∧ acc'.length ≤ i ∧ i + k = n ∧ turns nx (oneC C t Ec Ee (wipe ρ own)) k i acc' m2' = .ok acc m'
  refine ⟨fun i k H2 => Inv i k H2, ⟨n, φ1, m1, [], [], R1.alloc hD, .new hD, hDφ, upd_same, .nil, Nat.zero_le _, Nat.zero_add _, e2⟩, fun i k H2 hW => ?_⟩
  obtain ⟨φ2, m2', acc', vs, R2, s2, n2, h2, t2, l2, lk, e3⟩ := hW
  rw [turns_eq] at e3
  cases hnx : nx i m2' with
  | none => rw [hnx] at e3; cases e3
  | some o =>
    rw [hnx] at e3
    cases o with
    | none =>
      cases e3
      exact .inl ⟨W.stop φ2 _ H2 i R2 s2 hnx, q φ2 _ H2 R2 s2 (.tmp h2 n2 hD (fun _ z => by cases z) (.lst t2))⟩
    | some d =>
      cases k with
      | zero => cases e3
      | succ k =>
        dsimp only at e3
        obtain ⟨acc1, m3, e4, e5⟩ := bind_inv e3
        obtain ⟨g1, g2⟩ := W.go φ2 m2' H2 i d R2 s2 hnx
        refine .inr ⟨g1, fun H' => Inv (i + 1) k H', fun H' hN' => ⟨k, Nat.lt_succ_self k, hN'⟩, fun v H3 hy => ?_⟩
        obtain ⟨R3, s3, r3⟩ := g2 v H3 hy
        unfold oneC at e4
        cases ha : assignT t d (wipe ρ own) with
        | none => rw [ha] at e4; cases e4
        | some ρ' =>
          rw [ha] at e4
          dsimp only at e4
          have s13 := s2.trans s3
          have hD3 : H3 D = some (.lst vs) ∧ D ∉ φ2 := s3.keep D _ h2 n2 (fun _ z => by cases z)
          have t3 : RSs X.K φ2 H3 acc' vs := t2.step R2 s3
          refine assign_ok (K := X.K) (φ := φ2) (vs := own) t ha ((hE1.step R1 s13).wipe _) r3 fun σ' hE' hw => ⟨by rw [hw hin, wipe_wipe _ _ _ fun _ h => h], ?_⟩
          obtain ⟨b, m4, e6, e7⟩ := bind_inv e4
          have eb : ∃ bb, b = .bl bb := by
            cases b <;> first | exact ⟨_, rfl⟩ | (cases e7)
          obtain ⟨bb, rfl⟩ := eb
          refine ⟨L, φ2, ρ', m2', bb, m4, R3, hE', e6, fun φ4 H4 R4 s4 => ?_⟩
          obtain ⟨hD4, n4⟩ := s4.keep D _ hD3.1 hD3.2 (fun _ z => by cases z)
          have t4 := t3.step R3 s4
          cases bb with
          | false =>
            cases e7
            rw [if_neg Bool.false_ne_true]
            exact ⟨φ4, _, _, vs, R4, s13.trans s4, n4, hD4, t4, by omega, by omega, e5⟩
          | true =>
            rw [if_pos rfl]
            obtain ⟨y, m5, e8, e9⟩ := bind_inv e7
            refine ⟨L, φ4, ρ', m4, y, m5, R4, hE'.step R3 s4, e8, fun φ5 w H5 R5 s5 r5 => ?_⟩
            obtain ⟨hD5, n5⟩ := s5.keep D _ hD4 n4 (fun _ z => by cases z)
            have t5 := t4.step R4 s5
            obtain ⟨φ6, p6, R6, r6, s6, f6⟩ := home_step R5 s5 r5
            have n6 : D ∉ φ6 := f6 D n5 (by rw [hD4]; simp)
            cases e9
            refine ⟨vs, hD5, ?_, ?_⟩
            · rw [← t5.length]
              have := isBig_le hbig
              omega
            · have t6 := t5.mono (Kp.refl _ _) p6
              have s15 : Step φ1 H1 φ6 H5 := (s13.trans s4).trans s6
              -- the list at D grows
              have hTt : ∀ a us, SqT X.K H5 a us → SqT X.K (upd H5 D (.lst (vs ++ [w]))) a us := fun a us h => by
                have ne : ∀ {o : HO}, H5 a = some o → (o = .tup us ∨ ∃ ob, o = .frz ob (.tup us)) → a ≠ D := fun {o} e d z => by
                  rw [z, hD5] at e
                  cases e
                  rcases d with d | ⟨_, d⟩ <;> cases d
                rcases h with (h | ⟨o, h⟩) | h
                · exact .inl (.inl (by rw [upd_ne (ne h (.inl rfl))]; exact h))
                · exact .inl (.inr ⟨o, by rw [upd_ne (ne h (.inr ⟨o, rfl⟩))]; exact h⟩)
                · exact .inr h
              have hT : Kp X.K H5 (upd H5 D (.lst (vs ++ [w]))) := ⟨hTt, fun a us h => by
                rcases h with ⟨o, h⟩ | h
                · exact .inl ⟨o, by rw [upd_ne (fun z => by rw [z, hD5] at h; cases h)]; exact h⟩
                · exact .inr h, fun c q h => by
                rw [upd_ne (fun z => by rw [z, hD5] at h; unfold LamX.CodeO at h; cases h)]
                exact h⟩
              have R7 : RelH X.K C.base L φ6 (home y m5).2 (upd H5 D (.lst (vs ++ [w]))) := R6.other n6 hT (tabs_upd (fun u z => by rw [hD5] at z; cases z; exact ⟨(fun _ z => by cases z), fun _ z => by cases z⟩) R6.tabs)
              refine ⟨φ6, _, _, vs ++ [w], R7, ?_, n6, upd_same, (t6.app (.cons r6 .nil)).mono hT (List.prefix_refl _), ?_, by omega, e5⟩
              · refine ⟨s15.pre, fun p hp => ?_, fun p o hp np => ?_, s15.kout⟩
                · by_cases e : p = D
                  · rw [e, upd_same]; simp
                  · rw [upd_ne e]; exact s15.dom p hp
                · intro nt
                  have : p ≠ D := fun z => by rw [z, hD] at hp; cases hp
                  rw [upd_ne this]
                  exact s15.keep p o hp np nt
              · simp
                omega
theorem te_comp {elt tg iter : Expr} {ifs : List Expr} {scope : Scope} {own : List (Str × Nat)} {pos : Pos} {k : Sk} {Ei Ec Ee : E} {t : Tg} (hc : X.calm = true) (hN : X.N.Nodup) (hi : PI X tg iter (TIv X.K C k Ei)) (ok : BlkOk X.N X.env.scope scope own)
    (hg : ∀ (s : Shared) (H : Hp) (A : Addr) (cl : List (Str × Addr)) (fp : List Addr), PG (X.blk s H scope (compEnvC scope cl A X.env) fp) tg (gOf X.K t)) (ht : ∀ (s : Shared) (H : Hp) (A : Addr) (cl : List (Str × Addr)) (fp : List Addr), PTs (X.blk s H scope (compEnvC scope cl A X.env) fp) ifs (TTv X.K C Ec))
    (he : ∀ (s : Shared) (H : Hp) (A : Addr) (cl : List (Str × Addr)) (fp : List Addr), PE (X.blk s H scope (compEnvC scope cl A X.env) fp) elt (TEv X.K C Ee)) (hs : ∀ x, foldedSetIterable iter X.env x = pure x) (hin : tgIn t (own.map (·.2)) = true) :
    ∀ σ H Q, TEv X.K C (.comp k Ei t Ec Ee (own.map (·.2))) σ H Q → tLc (TIv X.K C k Ei) (gOf X.K t) (TTv X.K C Ec) (TEv X.K C Ee) (own.map (·.2)) σ H Q := by
  intro σ H Q h
  obtain ⟨L, φ, ρ, m, d, m', R, hE, e, q⟩ := h
  rw [ev_comp] at e
  obtain ⟨x, m1, e1, ea⟩ := bind_inv e
  clear e
  obtain ⟨xs, rfl, e⟩ := withArgs_inv ea
  clear ea
  cases hsrc : src k xs m1 with
  | none => rw [hsrc] at e; cases e
  | some fn =>
    obtain ⟨nx, n⟩ := fn
    rw [hsrc] at e
    dsimp only at e
    split at e
    · cases e
    · rename_i hbig
      have hbig : isBig n = true := by simpa using hbig
      obtain ⟨acc, m2, e2, e⟩ := bind_inv e
      cases e
      refine ⟨L, φ, ρ, m, xs, m1, nx, n, R, hE, e1, hsrc, fun φ1 H1 J R1 s1 W => ?_⟩
      exact comp_core hin R1 (hE.step R s1) W hbig e2 fun φ2 v H2 R2 s2 r2 => q φ2 v H2 R2 (s1.trans s2) (r2.older fun p => s1.free)
end
end Bell
end

section
set_option maxRecDepth 100000
/-! methods; built-ins by name -/
namespace Bell
open PySem PySem.Spec PyProof.Rows L2
section
variable {X : Cx} {C : Cf} {a b c : Expr} {Ea Eb Ec : E} {pos : Pos}
set_option maxHeartbeats 4000000 in
theorem bi_call {x : Str} {q : Bi} {p : Pos} {e : Expr} {es : List Expr} {t : TA} (h : cBi x = some q) (hc : X.calm = true) (hu : X.A.units + 65 < cLine) (hg : Gl X x) (hm : X.mg x = none) (ha : PA X (e :: es) t)
    (he : starEach (e :: es) X.env = (false, eval e X.env) :: starEach es X.env) (hpl : (backTo pos (starEach es X.env)).any (·.1) = false) : PE X (.Call (.Name x p) (e :: es) [] pos) (tCB (rBi X.K q) t) := by
  unfold cBi at h
  split at h
  · rename_i e1; subst e1; cases h; exact pe_callB bi_len hg hm PySem.boot_len ha (by decide +kernel) (by decide +kernel) he hpl
  split at h
  · rename_i e1; subst e1; cases h; exact pe_callB bi_abs hg hm (by decide +kernel) ha (by decide +kernel) (by decide +kernel) he hpl
  split at h
  · rename_i e1; subst e1; cases h; exact pe_callTy bi_int hg hm (by decide +kernel) ha (by decide +kernel) (by decide +kernel) he hpl
  split at h
  · rename_i e1; subst e1; cases h; exact pe_callTy bi_tuple hg hm (by decide +kernel) ha (by decide +kernel) (by decide +kernel) he hpl
  split at h
  · rename_i e1; subst e1; cases h; exact pe_callTy (bi_list hc) hg hm (by decide +kernel) ha (by decide +kernel) (by decide +kernel) he hpl
  split at h
  · rename_i e1; subst e1; cases h; exact pe_callB (bi_sorted (by omega)) hg hm (by decide +kernel) ha (by decide +kernel) (by decide +kernel) he hpl
  split at h
  · rename_i e1; subst e1; cases h; exact pe_callB (bi_max hc) hg hm (by decide +kernel) ha (by decide +kernel) (by decide +kernel) he hpl
  split at h
  · rename_i e1; subst e1; cases h; exact pe_callB (bi_min hc) hg hm (by decide +kernel) ha (by decide +kernel) (by decide +kernel) he hpl
  split at h
  · rename_i e1; subst e1; cases h; exact pe_callB (bi_sum hc) hg hm (by decide +kernel) ha (by decide +kernel) (by decide +kernel) he hpl
  split at h
  · rename_i e1; subst e1; cases h; exact pe_callB (bi_any hc) hg hm (by decide +kernel) ha (by decide +kernel) (by decide +kernel) he hpl
  split at h
  · rename_i e1; subst e1; cases h; exact pe_callB (bi_all hc) hg hm (by decide +kernel) ha (by decide +kernel) (by decide +kernel) he hpl
  · cases h
/-! ### methods of lists -/
theorem meth_inv {me : Me} {ρ : Env} {m m' : Hm} {d : D} (e : ev C (.meth me Ea Eb) ρ m = .ok d m') : ∃ x m1 ys m2, ev C Ea ρ m = .ok x m1 ∧ recv me m1 x = true ∧ ev C Eb ρ m1 = .ok (.tup ys) m2 ∧ methD C.base me x (homes ys m2).1 (homes ys m2).2 = some (d, m') := by
  obtain ⟨x, m1, e1, e2⟩ := bind_inv e
  split at e2
  · rename_i hr
    obtain ⟨y, m2, e3, e4⟩ := bind_inv e2
    obtain ⟨ys, rfl, e5⟩ := withArgs_inv e4
    dsimp only at e5
    split at e5
    · rename_i d' m'' h
      cases e5
      exact ⟨x, m1, ys, m2, e1, hr, e3, h⟩
    · cases e5
  · cases e2
theorem recv_lst {K : PySem.W.Frag} {base : Nat} {L : Nat → Nat} {φ : List Addr} {m : Hm} {H H0 : Hp} {x : D} {v : V} (R : RelH K base L φ m H) (r : RV K φ H0 H x v) (h : ∃ xs, deref m x = some (.lst xs)) : tyV K "list" v H := by
  obtain ⟨xs, h⟩ := h
  obtain ⟨p, vs, rfl, h1, _⟩ := deref_lst R r h
  exact Or.inl ⟨rfl, _, SqL.of h1⟩
theorem recvL {me : Me} {m : Hm} {x : D} (hm : me ≠ .get) (h : recv me m x = true) : ∃ xs, deref m x = some (.lst xs) := by
  unfold recv at h
  cases me <;> first | (exact absurd rfl hm) | skip
  all_goals
    dsimp only at h
    split at h
    · rename_i xs e
      exact ⟨xs, e⟩
    · cases h
/-- what a method gets -/
def rMe (K : PySem.W.Frag) (me : Me) : V → List V → Hp → VK → Prop := fun x vs H Q => ∃ base L φ m H0 a ds d m', RelH K base L φ m H ∧ RV K φ H0 H a x ∧ RSs K φ H ds vs ∧ (∀ p, H p = none → H0 p = none) ∧ methD base me a ds m = some (d, m') ∧
  ∀ φ' v H', RelH K base L φ' m' H' → Step φ H φ' H' → RV K φ' H0 H' d v → Q v H'
theorem te_meth {me : Me} {es : List Expr} (hm : me ≠ .get) {T id : String} {name : Str} {e : Expr} {apos : Pos} (pa : PlainAttrs T) (slot : Slot T name id) (hty : typeOf (.builtin id) = pure (.type "method_descriptor")) (hT : T = "list") (mr : MtR X id (rMe X.K me))
    (ho : PE X a (TEv X.K C Ea)) (ha : PA X (e :: es) (TAv X.K C Eb)) (hbase : attributeBase a name X.env (eval a X.env) = eval a X.env)
    (hfew : ((backTo pos (starEach (e :: es) X.env)).all (fun x => !x.1) && (backToKw pos (keywordEach [] X.env)).all (fun x => x.1.isSome)
      && decide ((e :: es).length + ([] : List Keyword).length + (if ([] : List Keyword).isEmpty then 0 else 1) < 30)) = true)
    (hline : (apos.endLine == pos.line) = true) (hs : starEach (e :: es) X.env = (false, eval e X.env) :: starEach es X.env) (hplain : (backTo pos (starEach es X.env)).any (·.1) = false) :
    PE X (.Call (.Attribute a name apos) (e :: es) [] pos) (TEv X.K C (.meth me Ea Eb)) := by
  subst hT
  refine (pe_bm pa slot hty mr ho ha hbase hfew hline hs hplain).mono fun σ H Q h => ?_
  obtain ⟨L, φ, ρ, m, d, m', R, hE, e, q⟩ := h
  obtain ⟨x, m1, ys, m2, e1, e2, e3, e4⟩ := meth_inv e
  refine ⟨L, φ, ρ, m, x, m1, R, hE, e1, fun φ1 vx H1 R1 s1 r1 => ⟨recv_lst R1 r1 (recvL hm e2), L, φ1, ρ, m1, ys, m2, R1, hE.step R s1, e3, fun φ2 vs H2 R2 s2 r2 => ?_⟩⟩
  obtain ⟨φ3, p3, R3, t3, f3⟩ := homes_ok r2 R2
  have s := (s1.trans s2).homed p3 fun p hp => (f3 p hp).imp (fun z => z) fun z => s1.free z
  have r3 : RV X.K φ3 H H2 x vx := by
    have := r1.step R1 s2
    cases this with
    | st z => exact .st (z.mono (Kp.refl _ _) p3)
    | tmp h n f z w =>
      refine .tmp h (fun hp => ?_) f z (w.mono (Kp.refl _ _) p3)
      rcases f3 _ hp with g | g
      · exact n g
      · rename_i p0 _
        have : H1 p0 ≠ none := by
          cases r1 with
          | st z' => cases z' <;> cases w
          | tmp h' _ _ _ _ => rw [h']; simp
        exact this g
  exact ⟨C.base, L, φ3, _, H, x, _, d, m', R3, r3, t3, fun p => s.free, e4, fun φ' v H' R' s' r' => q φ' v H' R' (s.trans s') r'⟩
theorem mayPut_ok {K : PySem.W.Frag} {base : Nat} {L : Nat → Nat} {φ : List Addr} {m : Hm} {H : Hp} {k : Nat} {d : D} {v : V} (R : RelH K base L φ m H) (h : mayPut base k d = true) (r : RS K φ H d v) : k < base → RS K (φ.take (L k)) H d v := by
  intro hk
  unfold mayPut at h
  rw [Bool.or_eq_true] at h
  rcases h with h | h
  · have := of_decide_eq_true h
    omega
  · have r' := r.low h
    refine r'.mono (Kp.refl _ _) ?_
    have := (R.lim k hk).1
    exact List.take_prefix_take_left this
theorem write_lst {K : PySem.W.Frag} {base : Nat} {L : Nat → Nat} {φ : List Addr} {m : Hm} {H : Hp} {k : Nat} {p : Addr} {xs ys : List D} {vs ws : List V} (R : RelH K base L φ m H) (hφ : φ[k]? = some p) (hk : m[k]? = some (.lst xs)) (h2 : H p = some (.lst vs))
    (hn : RSs K φ H ys ws) (ho : ∀ φ', φ' <+: φ → k < base → φ' = φ.take (L k) → RSs K φ' H xs vs → RSs K φ' H ys ws) : RelH K base L φ (m.set k (.lst ys)) (upd H p (.lst ws)) ∧ Step φ H φ (upd H p (.lst ws)) := by
  refine R.write hφ ⟨fun hlt => ?_, fun _ => .lst hn⟩
  obtain ⟨p2, ho2, g1, g2, g3⟩ := R.old k _ hlt hk
  rw [hφ] at g1
  cases g1
  rw [h2] at g2
  cases g2
  cases g3 with
  | lst t' => exact .lst (ho _ (List.take_prefix _ _) hlt rfl t')
/-- a list of Mini's heap -/
theorem at_lst {K : PySem.W.Frag} {base : Nat} {L : Nat → Nat} {φ : List Addr} {m : Hm} {H H0 : Hp} {k : Nat} {x : V} {xs : List D} (R : RelH K base L φ m H) (ra : RV K φ H0 H (.adr k) x) (hk : m[k]? = some (.lst xs)) :
    ∃ p vs, x = .ref p ∧ φ[k]? = some p ∧ H p = some (.lst vs) ∧ RSs K φ H xs vs := by
  cases ra with
  | st r =>
    cases r with
    | adr hφ =>
      obtain ⟨p, ho, h1, h2, h3⟩ := R.at hk
      rw [hφ] at h1
      cases h1
      cases h3 with
      | lst t => exact ⟨_, _, rfl, hφ, h2, t⟩
  | tmp _ _ _ _ w => cases w
theorem mr_append : MtR X "list.append" (rMe X.K .append) := by
  intro pins s σ H x vs v us Q I rx rvs h
  obtain ⟨base, L, φ, m, H0, a, ds, d, m', R, ra, t, hd, e, q⟩ := h
  replace e : appendD base a ds m = some (d, m') := e
  unfold appendD at e
  split at e
  · rename_i k y
    split at e
    · rename_i hp
      split at e
      · rename_i xs hk
        split at e
        · rename_i hb
          cases e
          obtain ⟨p, ws, rfl, hφ, h2, t2⟩ := at_lst R ra hk
          cases t with
          | cons ty tn =>
            cases tn
            obtain ⟨R', s'⟩ := write_lst R hφ hk h2 (t2.app (.cons ty .nil)) fun φ' _ hlt e t' => by subst e; exact t'.app (.cons (mayPut_ok R hp ty hlt) .nil)
            exact mt_append pins s σ H _ _ v us Q I rx rvs ⟨p, ws, _, rfl, rfl, h2, by rw [← t2.length]; exact isBig_lt hb, q φ _ _ R' s' (.st .non)⟩
        · cases e
      · cases e
    · cases e
  · cases e
theorem mr_extend : MtR X "list.extend" (rMe X.K .extend) := by
  intro pins s σ H x vs v us Q I rx rvs h
  obtain ⟨base, L, φ, m, H0, a, ds, d, m', R, ra, t, hd, e, q⟩ := h
  replace e : extendD base a ds m = some (d, m') := e
  unfold extendD at e
  split at e
  · rename_i k j
    split at e
    · rename_i xs ys hk hj
      split at e
      · rename_i hb
        rw [Bool.and_eq_true] at hb
        cases e
        obtain ⟨p, ws, rfl, hφ, h2, t2⟩ := at_lst R ra hk
        cases t with
        | cons ty tn =>
          cases tn
          obtain ⟨p3, zs, rfl, hφ3, h3, t3⟩ := at_lst (H0 := H) R (.st ty) hj
          obtain ⟨R', s'⟩ := write_lst R hφ hk h2 (t2.app t3) fun φ' _ hlt e t' => by
            subst e
            refine t'.app ?_
            have hp := hb.1
            unfold mayPut at hp
            rw [Bool.or_eq_true] at hp
            rcases hp with hp | hp
            · have := of_decide_eq_true hp
              omega
            · exact (t3.low (by simpa [below] using hp)).mono (Kp.refl _ _) (List.take_prefix_take_left (R.lim _ hlt).1)
          exact mt_extend pins s σ H _ _ v us Q I rx rvs ⟨p, p3, ws, zs, rfl, rfl, h2, h3, by rw [← t2.length, ← t3.length]; exact isBig_le hb.2, q φ _ _ R' s' (.st .non)⟩
      · cases e
    · cases e
  · cases e
theorem firstIx_ok {x : D} (hx : pur 40 x = true) : ∀ {xs : List D} {j : Nat}, purs 40 xs = true → firstIx x xs = some j → ∃ z, (toPys xs)[j]? = some z ∧ PyData.eqv z (toPy x) = true ∧ ∀ m z', m < j → (toPys xs)[m]? = some z' → PyData.eqv z' (toPy x) = false
  | [], j, _, h => by cases h
  | y :: ys, j, hp, h => by
    unfold purs at hp
    rw [Bool.and_eq_true] at hp
    unfold firstIx at h
    split at h
    · rename_i he
      cases h
      exact ⟨toPy y, rfl, by rw [eqv_toPy 40 y x hp.1 hx]; exact he, fun m z' hm => by omega⟩
    · rename_i he
      cases q : firstIx x ys with
      | none => rw [q] at h; cases h
      | some i =>
        rw [q] at h
        cases h
        obtain ⟨z, h1, h2, h3⟩ := firstIx_ok hx hp.2 q
        refine ⟨z, h1, h2, fun m z' hm hz => ?_⟩
        cases m with
        | zero =>
          cases hz
          rw [eqv_toPy 40 y x hp.1 hx]
          simpa using he
        | succ m => exact h3 m z' (Nat.lt_of_succ_lt_succ hm) hz
theorem mr_index (hu : X.A.units + 65 < cLine) : MtR X "list.index" (rMe X.K .index) := by
  intro pins s σ H x vs v us Q I rx rvs h
  obtain ⟨base, L, φ, m, H0, a, ds, d, m', R, ra, t, hd, e, q⟩ := h
  replace e : indexD a ds m = some (d, m') := e
  unfold indexD at e
  split at e
  · rename_i xs y hk
    split at e
    · rename_i hp
      rw [Bool.and_eq_true] at hp
      cases hf : firstIx y xs with
      | none => rw [hf] at e; cases e
      | some j =>
        rw [hf] at e
        cases e
        obtain ⟨p, ws, rfl, h2, t2⟩ := deref_lst R ra hk
        cases t with
        | cons ty tn =>
          cases tn
          obtain ⟨z, z1, z2, z3⟩ := firstIx_ok hp.2 hp.1 hf
          exact mt_indexD hu pins s σ H _ _ v us Q I rx rvs ⟨p, _, toPy y, toPys xs, j, z, rfl, rfl, .lst (SqL.of h2) (t2.dp hp.1), ty.dp hp.2, shaped_list hp.1, shaped_pur hp.2, z1, z2, fun m z' hm hz => z3 m z' hm hz, q φ _ H R (.refl _ _) (.st (.int _))⟩
    · cases e
  · cases e
theorem RSs.erase {K : PySem.W.Frag} {φ : List Addr} {H : Hp} : ∀ {xs : List D} {vs : List V} (i : Nat), RSs K φ H xs vs → RSs K φ H (xs.eraseIdx i) (vs.eraseIdx i)
  | _, _, _, .nil => .nil
  | _, _, 0, .cons _ t => t
  | _, _, i + 1, .cons r t => .cons r (t.erase i)
theorem mr_pop : MtR X "list.pop" (rMe X.K .pop) := by
  intro pins s σ H x vs v us Q I rx rvs h
  obtain ⟨base, L, φ, m, H0, a, ds, d, m', R, ra, t, hd, e, q⟩ := h
  replace e : popD a ds m = some (d, m') := e
  unfold popD at e
  split at e
  · rename_i k
    split at e
    · rename_i xs hk
      obtain ⟨p, ws, rfl, hφ, h2, t2⟩ := at_lst R ra hk
      cases hy : xs[xs.length - 1]? with
      | none => rw [hy] at e; cases e
      | some y =>
        rw [hy] at e
        cases e
        cases t
        obtain ⟨w, g1, g2⟩ := t2.get hy
        rw [t2.length] at g1
        have dl : ∀ {φ : List Addr}, RSs X.K φ H xs ws → RSs X.K φ H xs.dropLast ws.dropLast := fun z => by
          rw [List.dropLast_eq_take, List.dropLast_eq_take, t2.length]
          exact z.take _
        obtain ⟨R', s'⟩ := write_lst R hφ hk h2 (dl t2) fun φ' _ hlt e t' => dl t'
        exact mt_pop pins s σ H _ _ v us Q I rx rvs ⟨p, ws, w, rfl, rfl, h2, g1, q φ _ _ R' s' (.st (g2.step R s'))⟩
    · cases e
  · rename_i k i
    split at e
    · rename_i xs hk
      obtain ⟨p, ws, rfl, hφ, h2, t2⟩ := at_lst R ra hk
      split at e
      · rename_i hb
        cases hj : ixOf xs.length i with
        | none => rw [hj] at e; cases e
        | some j =>
          rw [hj] at e
          replace e : (xs[j]?).map (fun y => (y, m.set k (.lst (xs.eraseIdx j)))) = some (d, m') := e
          cases hy : xs[j]? with
          | none => rw [hy] at e; cases e
          | some y =>
            rw [hy] at e
            cases e
            cases t with
            | cons ty tn =>
              cases tn
              cases ty
              obtain ⟨w, g1, g2⟩ := t2.get hy
              rw [ixOf_eq, t2.length] at hj
              obtain ⟨R', s'⟩ := write_lst R hφ hk h2 (t2.erase j) fun φ' _ hlt e t' => t'.erase j
              exact mt_popAt pins s σ H _ _ v us Q I rx rvs ⟨p, ws, i, j, w, rfl, rfl, h2, by omega, by omega, (ixN_seq hj).1, g1, q φ _ _ R' s' (.st (g2.step R s'))⟩
      · cases e
    · cases e
  · cases e
theorem te_pop0 {apos : Pos} (ho : PE X a (TEv X.K C Ea)) (hbase : attributeBase a "pop" X.env (eval a X.env) = eval a X.env) (hline : (apos.endLine == pos.line) = true) : PE X (.Call (.Attribute a "pop" apos) [] [] pos) (TEv X.K C (.meth .pop Ea .nil)) := by
  refine (pe_bm0 PySem.F.plainAttrs_list PySem.F.slot_list_pop PySem.F.type_list_pop mr_pop ho hbase hline).mono fun σ H Q h => ?_
  obtain ⟨L, φ, ρ, m, d, m', R, hE, e, q⟩ := h
  obtain ⟨x, m1, ys, m2, e1, e2, e3, e4⟩ := meth_inv e
  cases e3
  refine ⟨L, φ, ρ, m, x, m1, R, hE, e1, fun φ1 vx H1 R1 s1 r1 => ⟨recv_lst R1 r1 (recvL (fun z => by cases z) e2), ?_⟩⟩
  exact ⟨C.base, L, φ1, m1, H, x, [], d, m', R1, r1, .nil, fun p => s1.free, e4, fun φ' v H' R' s' r' => q φ' v H' R' (s1.trans s') r'⟩
end
end Bell
end

section
set_option maxRecDepth 100000
/-! dict displays -/
namespace Bell
open PySem PySem.Spec PyProof.Rows L2
section
variable {X : Cx} {C : Cf} {a b : Expr} {Ea Eb : E} {pos : Pos}
theorem te_dct0 : PE X (.Dict [] [] pos) (TEv X.K C (.dct .nil)) := by
  refine pe_dnewK.mono fun σ H Q h => ?_
  obtain ⟨L, φ, ρ, m, d, m', R, hE, e, q⟩ := h
  cases e
  intro p hp
  refine q φ _ _ (R.alloc hp) (.new hp) (.tmp upd_same (fun z => ?_) hp (fun _ z => by cases z) (.dK (kvs := []) .nil .nil))
  obtain ⟨o, e, _⟩ := R.kind z
  rw [hp] at e
  cases e
theorem te_dct1 (ha : PE X a (TEv X.K C Ea)) (hb : PE X b (TEv X.K C Eb)) : PE X (.Dict [some a] [b] pos) (TEv X.K C (.dct (.cons Ea (.cons Eb .nil)))) := by
  refine (pe_disp (pps_cons ha hb pps_nil) rfl rfl (by simp) (by simp)).mono fun σ H Q h => ?_
  obtain ⟨L, φ, ρ, m, d, m', R, hE, e, q⟩ := h
  obtain ⟨x, m1, e1, e⟩ := bind_inv e
  obtain ⟨xs, rfl, ee⟩ := withArgs_inv e
  obtain ⟨k, m2, e2, e3⟩ := bind_inv e1
  obtain ⟨y, m3, e4, e5⟩ := bind_inv e3
  obtain ⟨ys, rfl, e6⟩ := withArgs_inv e5
  cases e6
  obtain ⟨v, m4, e7, e8⟩ := bind_inv e4
  obtain ⟨z, m5, e9, e10⟩ := bind_inv e8
  cases e9
  obtain ⟨zs, e11, e12⟩ := withArgs_inv e10
  cases e11
  cases e12
  dsimp only at ee
  split at ee
  · rename_i hk
    rw [Bool.and_eq_true] at hk
    cases ee
    intro p hp
    have np : ∀ {φ : List Addr} {L : Nat → Nat} {m : Hm} {H : Hp}, RelH X.K C.base L φ m H → (H p = none ∨ H p = some (.dK [])) → p ∈ φ → H p = some (.dK []) := fun R hh z => by
      rcases hh with h | h
      · obtain ⟨o, e, _⟩ := R.kind z
        rw [h] at e
        cases e
      · exact h
    have hnp : p ∉ φ := fun z => by
      obtain ⟨o, e, _⟩ := R.kind z
      rw [hp] at e
      cases e
    have R0 := R.alloc (o := .dK []) hp
    have s0 : Step φ H φ (upd H p (.dK [])) := .new hp
    refine ⟨L, φ, ρ, m, k, m2, R0, hE.step R s0, e2, fun φ1 xk H1 R1 s1 r1 => ⟨L, φ1, ρ, m2, v, _, R1, (hE.step R s0).step R0 s1, e7, fun φ2 xv H2 R2 s2 r2 => ?_⟩⟩
    obtain ⟨k1, n1⟩ := s1.keep p _ upd_same hnp (fun _ z => by cases z)
    obtain ⟨k2, n2⟩ := s2.keep p _ k1 n1 (fun _ z => by cases z)
    have rk : RS X.K φ2 H2 k xk := by
      cases r1 with
      | st r => exact r.step R1 s2
      | tmp _ _ _ _ w => cases w <;> cases hk.1
    obtain ⟨key, rfl⟩ := key_of_isKey rk hk.1
    obtain ⟨φ3, p3, R3, r3, f3, w3⟩ := home_ok r2 R2
    have n3 : p ∉ φ3 := fun z => by
      rcases w3 with e | ⟨p', _, e, h1⟩
      · rw [e] at z; exact n2 z
      · rw [e] at z
        rcases List.mem_append.mp z with z | z
        · exact n2 z
        · rw [List.mem_singleton.mp z, h1] at k1
          cases k1
    refine ⟨k2, [(key, xv)], rfl, by simp, ?_⟩
    have em : mergeK [] [(key, xv)] = [(key, xv)] := by simp [mergeK, putK]
    rw [em]
    have hT : Kp X.K H2 (upd H2 p (.dK [(key, xv)])) := ⟨fun a vs h => ?_, fun a vs h => ?_, fun c q h => by
      rw [upd_ne (fun z => by rw [z, k2] at h; unfold LamX.CodeO at h; cases h)]
      exact h⟩
    have R4 := R3.other n3 hT (tabs_upd (fun u z => by rw [k2] at z; cases z; exact ⟨(fun _ z => by cases z), (fun _ z => by cases z)⟩) R3.tabs)
    have p12 : φ <+: φ3 := (s1.pre.trans s2.pre).trans p3
    have st : Step φ H φ3 (upd H2 p (.dK [(key, xv)])) := by
      have s02 := (s0.trans s1).trans s2
      have ko : ∀ b, H b ≠ none → b ∉ φ → b ∉ φ3 := fun b hb nb z => by
        rcases w3 with e | ⟨p', _, e, h1⟩
        · rw [e] at z; exact s02.kout b hb nb z
        · rw [e] at z
          rcases List.mem_append.mp z with z | z
          · exact s02.kout b hb nb z
          · rw [List.mem_singleton.mp z] at hb
            exact hb ((s0.trans s1).free h1)
      refine ⟨p12, fun b hb => ?_, fun b o e nb t => ?_, ko⟩
      · by_cases q : b = p
        · rw [q, upd_same]; simp
        · rw [upd_ne q]; exact s02.dom b hb
      · have hbp : b ≠ p := fun z => by rw [z, hp] at e; cases e
        exact ⟨by rw [upd_ne hbp]; exact (s02.keep b o e nb t).1, ko b (by rw [e]; simp) nb⟩
    refine q φ3 _ _ R4 st (.tmp upd_same n3 hp (fun _ z => by cases z) (.dK (kvs := [(key, xv)]) (.cons ((rk.mono (Kp.refl _ _) p3).mono hT (List.prefix_refl _)) .nil) (.cons (r3.mono hT (List.prefix_refl _)) .nil)))
    · rcases h with (h | ⟨o, h⟩) | h
      · exact .inl (.inl (by rw [upd_ne (fun z => by rw [z, k2] at h; cases h)]; exact h))
      · exact .inl (.inr ⟨o, by rw [upd_ne (fun z => by rw [z, k2] at h; cases h)]; exact h⟩)
      · exact .inr h
    · rcases h with ⟨o, h⟩ | h
      · exact .inl ⟨o, by rw [upd_ne (fun z => by rw [z, k2] at h; cases h)]; exact h⟩
      · exact .inr h
  · cases ee
end
end Bell
end

section
set_option maxRecDepth 100000
/-! isinstance -/
namespace Bell
open PySem PySem.Spec PyProof.Rows L2
def tyN : Ty → String
  | .int => "int" | .bool => "bool" | .str => "str" | .tuple => "tuple" | .list => "list" | .dict => "dict"
section
variable {K : PySem.W.Frag} {base : Nat} {L : Nat → Nat} {φ : List Addr} {m : Hm} {H H0 : Hp}
theorem kit_t {a : String} {t : Ty} {b : Bool} (h : kitB a (tyN t) = some b) : PySem.W.kitOne K (.type a) (.type (tyN t)) = some b := kit_ty h
theorem ty_ok (R : RelH K base L φ m H) {d : D} {v : V} {t : Ty} {b : Bool} (r : RV K φ H0 H d v) (e : isTy m d t = some b) : ∃ tv, TyX K H v tv ∧ PySem.W.kitOne K tv (.type (tyN t)) = some b := by
  unfold isTy at e
  split at e
  · rename_i e1
    have := deref_out R r e1 (fun _ z => by cases z) (fun _ z => by cases z) (fun _ _ z => by cases z)
    subst this
    have := r.non; subst this
    cases e
    exact ⟨_, .base .non, kit_t (by cases t <;> decide +kernel)⟩
  · rename_i e1
    have := deref_out R r e1 (fun _ z => by cases z) (fun _ z => by cases z) (fun _ _ z => by cases z)
    subst this
    have := r.bl; subst this
    cases e
    exact ⟨_, .base (.bl _), kit_t (by cases t <;> decide +kernel)⟩
  · rename_i e1
    have := deref_out R r e1 (fun _ z => by cases z) (fun _ z => by cases z) (fun _ _ z => by cases z)
    subst this
    have := r.int; subst this
    cases e
    exact ⟨_, .base (.int _), kit_t (by cases t <;> decide +kernel)⟩
  · rename_i e1
    have := deref_out R r e1 (fun _ z => by cases z) (fun _ z => by cases z) (fun _ _ z => by cases z)
    subst this
    have := r.str; subst this
    cases e
    exact ⟨_, .base (.str _), kit_t (by cases t <;> decide +kernel)⟩
  · rename_i e1
    have := deref_out R r e1 (fun _ z => by cases z) (fun _ z => by cases z) (fun _ _ z => by cases z)
    subst this
    obtain ⟨p, vs, rfl, h1, t1⟩ := r.tup
    cases e
    have kk : PySem.W.kitOne K (.type "tuple") (.type (tyN t)) = some (match t with | .tuple => true | _ => false) := kit_t (by cases t <;> decide +kernel)
    rcases h1 with (h1 | ⟨o, h1⟩) | ⟨o, its, n, h1, h2, _⟩
    · exact ⟨_, .base (.tup h1), kk⟩
    · exact ⟨_, .fTuple h1, kk⟩
    · exact ⟨_, .kTuple h1 h2, kk⟩
  · rename_i e1
    obtain ⟨p, ws, rfl, h1, t1⟩ := deref_lst R r e1
    cases e
    exact ⟨_, .base (.lst h1), kit_t (by cases t <;> decide +kernel)⟩
  · rename_i e1
    obtain ⟨p, kvs, rfl, h1, t1, t2⟩ := deref_dct R r e1
    cases e
    exact ⟨_, .base (.dK h1), kit_t (by cases t <;> decide +kernel)⟩
  · cases e
end
theorem cTy_ok {x : Str} {t : Ty} (h : cTy x = some t) : bootBuiltins x = some (.type (tyN t)) ∧ x ≠ "__name__" ∧ (x == ("__debug__" : Str)) = false := by
  unfold cTy at h
  split at h
  · rename_i e1; subst e1; cases h; exact ⟨by decide +kernel, by decide +kernel, by decide +kernel⟩
  split at h
  · rename_i e1; subst e1; cases h; exact ⟨by decide +kernel, by decide +kernel, by decide +kernel⟩
  split at h
  · rename_i e1; subst e1; cases h; exact ⟨by decide +kernel, by decide +kernel, by decide +kernel⟩
  split at h
  · rename_i e1; subst e1; cases h; exact ⟨by decide +kernel, by decide +kernel, by decide +kernel⟩
  split at h
  · rename_i e1; subst e1; cases h; exact ⟨by decide +kernel, by decide +kernel, by decide +kernel⟩
  split at h
  · rename_i e1; subst e1; cases h; exact ⟨by decide +kernel, by decide +kernel, by decide +kernel⟩
  · cases h
section
variable {X : Cx} {C : Cf} {a : Expr} {Ea : E} {pos p q : Pos} {x : Str}
theorem te_isin {t : Ty} (ht : cTy x = some t) (hg : Gl X "isinstance") (hm : X.mg "isinstance" = none) (hg2 : Gl X x) (hm2 : X.mg x = none) (ha : PE X a (TEv X.K C Ea))
    (he : starEach [a, .Name x q] X.env = (false, eval a X.env) :: starEach [.Name x q] X.env) : PE X (.Call (.Name "isinstance" p) [a, .Name x q] [] pos) (TEv X.K C (.isin Ea [t])) := by
  obtain ⟨h1, h2, h3⟩ := cTy_ok ht
  refine (pe_callB (p := p) (pos := pos) (es := [.Name x q]) call_isi hg hm (by decide +kernel) (pa_cons ha (pa_cons (pe_bltn (v := .ty (tyN t)) hg2 hm2 h1 rfl h2 h3) pa_nil) he) (by decide +kernel) (by decide +kernel) he rfl).mono fun σ H Q h => ?_
  obtain ⟨L, φ, ρ, m, d, m', R, hE, e, k⟩ := h
  obtain ⟨y, m1, e1, e⟩ := bind_inv e
  obtain ⟨b, e2, rfl, rfl⟩ := okB_inv e
  refine ⟨L, φ, ρ, m, y, _, R, hE, e1, fun φ1 v H1 R1 s1 r1 => ?_⟩
  have e3 : isTy m' y t = some b := by
    unfold isTys isTys at e2
    cases q : isTy m' y t with
    | none => rw [q] at e2; cases e2
    | some z => rw [q] at e2; cases e2; simp
  obtain ⟨tv, k1, k2⟩ := ty_ok R1 r1 e3
  exact ⟨v, .ty (tyN t), tv, .type (tyN t), b, rfl, .ty _, k1, k2, k φ1 _ H1 R1 s1 (.st (.bl b))⟩
end
end Bell
end

section
set_option maxRecDepth 100000
/-! list(zip(a, b, c)) -/
namespace Bell
open PySem PySem.Spec PyProof.Rows L2
/-- a zip that has handed out the tuple at a -/
abbrev ZR (h : Heap) (z TI TO a : Addr) (f : Bool) : Prop :=
  h.get? z = some { cls := .type "zip", dict := none, data := .fields #[rawInt a, .bool f, .bool false, .ref TI, .ref TO], slots := #[] }
section
variable {prog : Program} {w : World} {A : Around} {E : Value → Shared → Prop} {s : Shared} {z TI TO i1 i2 i3 a : Addr} {fp1 fp2 fp3 : List Addr} {n i : Nat} {P1 P2 P3 : Nat → Value → Prop} {St1 St2 St3 : Nat → Heap → Prop} {f : Bool} {oa : Obj}
theorem z3_free {Q : Bool → Shared → Prop} (hz : ZR s.heap z TI TO a f) (ha : s.heap.get? a = some oa) (h : ∀ h', ZR h' z TI TO a true → Heap.SameBut z s.heap h' → Q false { s with heap := h' }) :
    wpAny (model prog w) A (Builtin.SmallTypes.ownedTupleIsFree (.ref z)) Q E s := by
  unfold Builtin.SmallTypes.ownedTupleIsFree
  refine wpAny_bind (wpAny_field hz rfl (x := rawInt a) rfl ?_)
  show wpAny _ _ (loadIfAlive ((a : Int).toNat) >>= _) _ _ _
  rw [Int.toNat_natCast]
  refine wpAny_bind (PySem.W.kdx_alive ha ?_)
  simp only [Option.isNone_some, Bool.false_eq_true, if_false]
  refine wpAny_bind (wpAny_field hz rfl (x := .bool f) rfl ?_)
  cases f with
  | true =>
    rw [if_neg (show ¬ ((Value.bool true != Value.bool true) = true) from Bool.false_ne_true)]
    exact wpAny_pure (h s.heap hz (Heap.SameBut.refl _ _))
  | false =>
    rw [if_pos (show (Value.bool false != Value.bool true) = true from rfl)]
    exact wpAny_bind (wpAny_setField_rec hz (by simp) fun h₃ he₃ hs₃ => wpAny_pure (h h₃ he₃ hs₃))
theorem z3_next {Q : Value → Shared → Prop} (S : ZipSep3 z TI TO i1 i2 i3 fp1 fp2 fp3) (D1 : Draws prog w A i1 fp1 n P1 St1) (D2 : Draws prog w A i2 fp2 n P2 St2) (D3 : Draws prog w A i3 fp3 n P3 St3)
    (hz : ZR s.heap z TI TO a f) (ha : s.heap.get? a = some oa) (hTI : IsTupOf3 s.heap TI (.ref i1) (.ref i2) (.ref i3)) (st1 : St1 i s.heap) (st2 : St2 i s.heap) (st3 : St3 i s.heap) (hlt : i < n)
    (hQ : ∀ x1 x2 x3 h' tk, P1 i x1 → P2 i x2 → P3 i x3 → ZR h' z TI TO a true → St1 (i + 1) h' → St2 (i + 1) h' → St3 (i + 1) h' → IsTupOf3 h' s.heap.objs.size x1 x2 x3 → h'.objs.size = s.heap.objs.size + 1 →
      (∀ c o, c ≠ z → c ≠ i1 → c ≠ i2 → c ≠ i3 → s.heap.get? c = some o → h'.get? c = some o) → Q (.ref s.heap.objs.size) { s with heap := h', toks := tk }) :
    wpAny (model prog w) A (Builtin.«zip.__next__» ⟨[.ref z], []⟩) (fun fin s' => ∃ v, fin = .done (.ret v) ∧ Q v s') E s := by
  obtain ⟨hp, g, d, tk0, os⟩ := s
  show wpAny _ _ (field (.ref z) 2 >>= _) _ _ _
  refine wpAny_bind (wpAny_field hz rfl (x := .bool false) rfl ?_)
  show wpAny _ _ (field (.ref z) 3 >>= _) _ _ _
  refine wpAny_bind (wpAny_field hz rfl (x := .ref TI) rfl ?_)
  refine wpAny_bind (wpAny_seqItems hTI rfl ?_)
  show wpAny _ _ (Builtin.SmallTypes.ownedTupleIsFree (.ref z) >>= _) _ _ _
  refine wpAny_bind (z3_free hz ha fun g0 hz0 hs0 => ?_)
  replace hs0 : Heap.SameBut z hp g0 := hs0
  simp only [Bool.false_eq_true, if_false]
  refine wpAny_bind ?_
  rw [← Array.forIn_toList]
  simp only [List.forIn_cons, List.forIn_nil]
  refine wpAny_bind (wpAny_bind (wpAny_holding ?_))
  show wpAny _ _ (Builtin.SmallTypes.nextOf (.ref i1) >>= _) _ _ ⟨g0, g, d, tk0, os⟩
  refine wpAny_bind (D1.item i _ _ _ hlt (D1.over st1 hs0 S.zf1) fun x1 p1 tk1 hx1 sn1 hp1 => wpAny_pure (wpAny_pure ?_))
  replace hp1 : Heap.SameBut i1 g0 p1 := hp1
  refine wpAny_bind (wpAny_bind (wpAny_holding ?_))
  show wpAny _ _ (Builtin.SmallTypes.nextOf (.ref i2) >>= _) _ _ ⟨p1, g, d, tk1, os⟩
  refine wpAny_bind (D2.item i _ _ _ hlt (D2.over (D2.over st2 hs0 S.zf2) hp1 S.sep1_2) fun x2 p2 tk2 hx2 sn2 hp2 => wpAny_pure (wpAny_pure ?_))
  replace hp2 : Heap.SameBut i2 p1 p2 := hp2
  refine wpAny_bind (wpAny_bind (wpAny_holding ?_))
  show wpAny _ _ (Builtin.SmallTypes.nextOf (.ref i3) >>= _) _ _ ⟨p2, g, d, tk2, os⟩
  refine wpAny_bind (D3.item i _ _ _ hlt (D3.over (D3.over (D3.over st3 hs0 S.zf3) hp1 S.sep1_3) hp2 S.sep2_3) fun x3 p3 tk3 hx3 sn3 hp3 => wpAny_pure (wpAny_pure ?_))
  replace hp3 : Heap.SameBut i3 p2 p3 := hp3
  refine wpAny_pure ?_
  show wpAny _ _ (newTuple [x1, x2, x3] >>= _) _ _ _
  refine wpAny_bind (wpAny_newTuple ?_)
  have hsz : p3.objs.size = hp.objs.size := by rw [hp3.1, hp2.1, hp1.1, hs0.1]
  have hzz : ZR p3 z TI TO a true := hp3.extBut _ _ S.zi3 (hp2.extBut _ _ S.zi2 (hp1.extBut _ _ S.zi1 hz0))
  have hkk : ∀ c o, c ≠ z → c ≠ i1 → c ≠ i2 → c ≠ i3 → hp.get? c = some o → p3.get? c = some o := fun c o cz c1 c2 c3 e =>
    hp3.extBut _ _ c3 (hp2.extBut _ _ c2 (hp1.extBut _ _ c1 (hs0.extBut _ _ cz e)))
  have hj1 : St1 (i + 1) p3 := D1.over (D1.over sn1 hp2 S.sep2_1) hp3 S.sep3_1
  have hj2 : St2 (i + 1) p3 := D2.over sn2 hp3 S.sep3_2
  have up : ∀ c o, p3.get? c = some o → (p3.push { cls := .type "tuple", data := .seq #[x1, x2, x3] }).get? c = some o := fun c o e => Heap.get?_push_of_some _ e
  have hT : IsTupOf3 (p3.push { cls := .type "tuple", data := .seq #[x1, x2, x3] }) p3.objs.size x1 x2 x3 := Heap.get?_push_size _ rfl
  refine wpAny_pure ⟨_, rfl, ?_⟩
  show Q (.ref p3.objs.size) ⟨p3.push { cls := .type "tuple", data := .seq #[x1, x2, x3] }, g, d, tk3, os⟩
  rw [hsz] at hT ⊢
  exact hQ x1 x2 x3 _ tk3 hx1 hx2 hx3 (up _ _ hzz) (D1.frame _ _ _ hj1 fun b _ o e => up b o e) (D2.frame _ _ _ hj2 fun b _ o e => up b o e) (D3.frame _ _ _ sn3 fun b _ o e => up b o e) hT (by rw [Heap.size_push, hsz]) fun c o cz c1 c2 c3 e => up c o (hkk c o cz c1 c2 c3 e)
theorem z3_stop {Q : Fin → Shared → Prop} (S : ZipSep3 z TI TO i1 i2 i3 fp1 fp2 fp3) (D1 : Draws prog w A i1 fp1 n P1 St1)
    (hz : ZR s.heap z TI TO a f) (ha : s.heap.get? a = some oa) (hTI : IsTupOf3 s.heap TI (.ref i1) (.ref i2) (.ref i3)) (st1 : St1 n s.heap)
    (hE : ∀ h' e, (∀ c o, c ≠ z → c ≠ i1 → s.heap.get? c = some o → h'.get? c = some o) → (∃ o, h'.get? e = some o ∧ o.cls = .type "StopIteration") → E (.ref e) { s with heap := h' }) :
    wpAny (model prog w) A (Builtin.«zip.__next__» ⟨[.ref z], []⟩) Q E s := by
  obtain ⟨hp, g, d, tk0, os⟩ := s
  show wpAny _ _ (field (.ref z) 2 >>= _) _ _ _
  refine wpAny_bind (wpAny_field hz rfl (x := .bool false) rfl ?_)
  show wpAny _ _ (field (.ref z) 3 >>= _) _ _ _
  refine wpAny_bind (wpAny_field hz rfl (x := .ref TI) rfl ?_)
  refine wpAny_bind (wpAny_seqItems hTI rfl ?_)
  show wpAny _ _ (Builtin.SmallTypes.ownedTupleIsFree (.ref z) >>= _) _ _ _
  refine wpAny_bind (z3_free hz ha fun g0 hz0 hs0 => ?_)
  replace hs0 : Heap.SameBut z hp g0 := hs0
  simp only [Bool.false_eq_true, if_false]
  refine wpAny_bind ?_
  rw [← Array.forIn_toList]
  simp only [List.forIn_cons, List.forIn_nil]
  refine wpAny_bind (wpAny_bind (wpAny_holding ?_))
  show wpAny _ _ (Builtin.SmallTypes.nextOf (.ref i1) >>= _) _ _ ⟨g0, g, d, tk0, os⟩
  refine wpAny_bind (D1.done ⟨g0, g, d, tk0, os⟩ _ _ (D1.over st1 hs0 S.zf1) fun q e hq he => ?_)
  exact hE q e (fun c o cz c1 x => hq _ _ c1 (hs0.extBut _ _ cz x)) he
theorem z3_item {Q : Option Value → Shared → Prop} (S : ZipSep3 z TI TO i1 i2 i3 fp1 fp2 fp3) (D1 : Draws prog w A.in1 i1 fp1 n P1 St1) (D2 : Draws prog w A.in1 i2 fp2 n P2 St2) (D3 : Draws prog w A.in1 i3 fp3 n P3 St3)
    (hz : ZR s.heap z TI TO a f) (ha : s.heap.get? a = some oa) (hTI : IsTupOf3 s.heap TI (.ref i1) (.ref i2) (.ref i3)) (st1 : St1 i s.heap) (st2 : St2 i s.heap) (st3 : St3 i s.heap) (hlt : i < n)
    (hQ : ∀ x1 x2 x3 h' tk, P1 i x1 → P2 i x2 → P3 i x3 → ZR h' z TI TO a true → St1 (i + 1) h' → St2 (i + 1) h' → St3 (i + 1) h' → IsTupOf3 h' s.heap.objs.size x1 x2 x3 → h'.objs.size = s.heap.objs.size + 1 →
      (∀ c o, c ≠ z → c ≠ i1 → c ≠ i2 → c ≠ i3 → s.heap.get? c = some o → h'.get? c = some o) → Q (some (.ref s.heap.objs.size)) { s with heap := h', toks := tk }) :
    wpAny (model prog w) A (pyNext (.ref z)) Q E s := by
  have hT : s.TypeIs (.ref z) "zip" := ⟨_, hz, rfl⟩
  unfold pyNext
  exact wpAny_bind (wpAny_attempt (wpAny_callSpecial?_slot (name := Str.ofString "__next__") hT PySem.F.slot_zip_next
    (wpAny_call_entry PySem.F.slot_zip_next hT PySem.F.entry_zip_next
      (z3_next S D1 D2 D3 hz ha hTI st1 st2 st3 hlt fun x1 x2 x3 h' tk y1 y2 y3 b1 d1 d2 d3 b5 b6 b7 => wpAny_pure (hQ x1 x2 x3 h' tk y1 y2 y3 b1 d1 d2 d3 b5 b6 b7)) (PySem.F.args_zip_next_1 _))))
theorem z3_end {Q : Option Value → Shared → Prop} (S : ZipSep3 z TI TO i1 i2 i3 fp1 fp2 fp3) (D1 : Draws prog w A.in1 i1 fp1 n P1 St1)
    (hz : ZR s.heap z TI TO a f) (ha : s.heap.get? a = some oa) (hTI : IsTupOf3 s.heap TI (.ref i1) (.ref i2) (.ref i3)) (st1 : St1 n s.heap)
    (hQ : ∀ h', (∀ c o, c ≠ z → c ≠ i1 → s.heap.get? c = some o → h'.get? c = some o) → Q none { s with heap := h' }) : wpAny (model prog w) A (pyNext (.ref z)) Q E s := by
  have hT : s.TypeIs (.ref z) "zip" := ⟨_, hz, rfl⟩
  unfold pyNext
  refine wpAny_bind (wpAny_attempt (wpAny_callSpecial?_slot (name := Str.ofString "__next__") hT PySem.F.slot_zip_next
    (wpAny_call_entry PySem.F.slot_zip_next hT PySem.F.entry_zip_next (z3_stop S D1 hz ha hTI st1 fun h' e hk he => ?_) (PySem.F.args_zip_next_1 _))))
  obtain ⟨o, ho, hc⟩ := he
  refine wpAny_bind (wpAny_isInstance (T := "StopIteration") (b := true) ⟨o, ho, hc⟩ isSubtype_stop ?_)
  exact wpAny_pure (hQ _ hk)
/-- before the first turn; after it -/
def Z3St (h : Heap) (lo z TI TO : Addr) (i : Nat) : Prop := (i = 0 ∧ IsZip h z TI TO .none ∧ ∃ a1 a2 a3, IsTupOf3 h TO a1 a2 a3) ∨ ∃ a f oa, ZR h z TI TO a f ∧ h.get? a = some oa ∧ lo < a
/-- the tuples laid so far -/
structure Z3G (P1 P2 P3 : Nat → Value → Prop) (lo : Addr) (h : Heap) (as : List Addr) : Prop where
  nd : as.Nodup
  above : ∀ a ∈ as, lo < a
  at_ : ∀ (j : Nat) (a : Addr), as[j]? = some a → ∃ x y u, P1 j x ∧ P2 j y ∧ P3 j u ∧ IsTupOf3 h a x y u
theorem Z3G.there {lo : Addr} {h : Heap} {as : List Addr} (g : Z3G P1 P2 P3 lo h as) {a : Addr} (ha : a ∈ as) : a < h.objs.size := by
  obtain ⟨j, hj⟩ := List.mem_iff_getElem?.mp ha
  obtain ⟨_, _, _, _, _, _, e⟩ := g.at_ j a hj
  exact Heap.lt_size e
end
section
variable {prog : Program} {w : World} {A : Around} {s : Shared} {R : Result → Shared → Prop} {E : Value → Shared → Prop} {z TI TO i1 i2 i3 : Addr} {fp1 fp2 fp3 : List Addr} {n : Nat} {P1 P2 P3 : Nat → Value → Prop} {St1 St2 St3 : Nat → Heap → Prop} {lo S : Addr}
/-- what stands while zip(a, b, c) is drawn -/
structure Z3C (h : Heap) (lo z TI TO i1 i2 i3 : Addr) (St1 St2 St3 : Nat → Heap → Prop) (i : Nat) : Prop where
  st : Z3St h lo z TI TO i
  TI : IsTupOf3 h TI (.ref i1) (.ref i2) (.ref i3)
  s1 : St1 i h
  s2 : St2 i h
  s3 : St3 i h
theorem z3_loop (hh : A.handled = none) (ZS : ZipSep3 z TI TO i1 i2 i3 fp1 fp2 fp3) (D1 : Draws prog w A.in1.in1 i1 fp1 n P1 St1) (D2 : Draws prog w A.in1.in1 i2 fp2 n P2 St2) (D3 : Draws prog w A.in1.in1 i3 fp3 n P3 St3)
    (hl1 : ∀ b ∈ fp1, b < S) (hl2 : ∀ b ∈ fp2, b < S) (hl3 : ∀ b ∈ fp3, b < S) (hlz : z < S) (hlI : TI < S) (hlO : TO < S) (hn : n ≤ sizeLine) (hn0 : 0 < n) (res : Value) {h₁ : Heap}
    (hR : ∀ h' tk acc c as, (∀ b o, b ≠ S → b ≠ z → b ≠ TO → b ≠ i1 → b ≠ i2 → b ≠ i3 → h₁.get? b = some o → h'.get? b = some o) → h'.get? S = some { cls := .type "list", dict := none, data := .seq acc c, slots := #[] } → as.length = n → Z3G P1 P2 P3 S h' as →
      acc.toList = as.map Value.ref → R (.ok (.ret res)) { s with heap := h', toks := tk }) :
    ∀ (k i : Nat) (h : Heap) (tk c : Nat) (acc : Array Value) (as : List Addr), n - i = k → i ≤ n → Z3C h S z TI TO i1 i2 i3 St1 St2 St3 i → (∀ b o, b ≠ S → b ≠ z → b ≠ TO → b ≠ i1 → b ≠ i2 → b ≠ i3 → h₁.get? b = some o → h.get? b = some o) →
      h.get? S = some { cls := .type "list", dict := none, data := .seq acc c, slots := #[] } → acc.toList = as.map Value.ref → as.length = i → Z3G P1 P2 P3 S h as →
      codeAny (model prog w) A (.builtin "list.extend.loop" ⟨[.ref S, .ref z, res], []⟩) R { s with heap := h, toks := tk } := by
  have hS1 : i1 < S := hl1 _ ZS.mem1
  have hS2 : i2 < S := hl2 _ ZS.mem2
  have hS3 : i3 < S := hl3 _ ZS.mem3
  have nS : ∀ {b : Addr}, b < S → b ≠ S := fun h => Nat.ne_of_lt h
  intro k
  induction k with
  | zero =>
    intro i h tk c acc as hk hi hC hkeep hS hacc hal hG
    have hin : i = n := by omega
    refine codeAny_builtin PySem.F.entry_extend_loop ?_
    rw [Around.under_plainId PySem.F.plain_extend_loop _]
    show wpAny _ A.in1 (pyNext (.ref z) >>= _) _ _ _
    rcases hC.st with ⟨e, _⟩ | ⟨a, f, oa, g⟩
    · omega
    have hz := g.1
    have ha := g.2.1
    refine wpAny_bind (z3_end (s := { s with heap := h, toks := tk }) (A := A.in1) ZS D1 hz ha hC.TI (by rw [← hin]; exact hC.s1) fun h' he => ?_)
    refine wpAny_pure (hR h' tk acc c as (fun b o h1 h2 h3 h4 h5 h6 e => he b o h2 h4 (hkeep b o h1 h2 h3 h4 h5 h6 e)) (he S _ (nS hlz).symm (nS hS1).symm hS) (by omega) ⟨hG.nd, hG.above, fun j a hj => ?_⟩ hacc)
    obtain ⟨x, y, u, e1, e2, e3, e4⟩ := hG.at_ j a hj
    have hb := hG.above a (List.mem_of_getElem? hj)
    exact ⟨x, y, u, e1, e2, e3, he a _ (Nat.ne_of_gt (Nat.lt_trans hlz hb)) (Nat.ne_of_gt (Nat.lt_trans hS1 hb)) e4⟩
  | succ k ih =>
    intro i h tk c acc as hk hi hC hkeep hS hacc hal hG
    have hlt : i < n := by omega
    have hsz : acc.size = i := by rw [← Array.length_toList, hacc, List.length_map, hal]
    have hSl : S < h.objs.size := Heap.lt_size hS
    refine codeAny_builtin PySem.F.entry_extend_loop ?_
    rw [Around.under_plainId PySem.F.plain_extend_loop _]
    show wpAny _ A.in1 (pyNext (.ref z) >>= _) _ _ _
    have key : ∀ (x1 x2 x3 : Value) (h' : Heap) (tk' : Nat), P1 i x1 → P2 i x2 → P3 i x3 → (∃ a f oa, ZR h' z TI TO a f ∧ h'.get? a = some oa ∧ S < a) → St1 (i + 1) h' → St2 (i + 1) h' → St3 (i + 1) h' → IsTupOf3 h' h.objs.size x1 x2 x3 →
        (∀ c o, c ≠ z → c ≠ TO → c ≠ i1 → c ≠ i2 → c ≠ i3 → h.get? c = some o → h'.get? c = some o) →
        wpAny (model prog w) A.in1 (updateSeq S (·.push (Value.ref h.objs.size)) >>= fun _ => again (.builtin "list.extend.loop" ⟨[.ref S, .ref z, res], []⟩))
          (fun fin s' => match fin with | .done f => R (.ok f) s' | .again c' => c'.quiet = true ∧ codeAny (model prog w) A c' R s') (fun e s' => R (.error e) s') { s with heap := h', toks := tk' } := by
      intro x1 x2 x3 h' tk' p1 p2 p3 hst hs1 hs2 hs3 hT hkp
      have hS' := hkp S _ (nS hlz).symm (nS hlO).symm (nS hS1).symm (nS hS2).symm (nS hS3).symm hS
      have up : ∀ b o, b ≠ S → h'.get? b = some o → (h'.update S (Obj.mapSeq (·.push (Value.ref h.objs.size)))).get? b = some o := fun b o hb e => (Heap.get?_update_other _ _ (Ne.symm hb)).trans e
      have hTI' : IsTupOf3 h' TI (.ref i1) (.ref i2) (.ref i3) := hkp _ _ ZS.TIz ZS.TITO ZS.TIi1 ZS.TIi2 ZS.TIi3 hC.TI
      refine wpAny_bind (wpAny_updateSeq hS' rfl (wpAny_pure ⟨plainId_quiet PySem.F.plain_extend_loop _, ih (i + 1) _ tk' _ (acc.push (Value.ref h.objs.size)) (as ++ [h.objs.size]) (by omega) hlt ⟨?_, up _ _ (nS hlI) hTI', ?_, ?_, ?_⟩
        (fun b o h1 h2 h3 h4 h5 h6 e => up b o h1 (hkp b o h2 h3 h4 h5 h6 (hkeep b o h1 h2 h3 h4 h5 h6 e))) (Heap.get?_update_self _ hS' rfl) (by rw [Array.toList_push, hacc, List.map_append]; rfl) (by rw [List.length_append, hal]; rfl) ⟨?_, ?_, ?_⟩⟩) (by have := hsz; omega) (by show (acc.push (Value.ref h.objs.size)).size ≤ sizeLine + 1; rw [Array.size_push, hsz]; omega))
      · rcases hst with ⟨a, f, oa, g⟩
        exact .inr ⟨a, f, oa, up _ _ (nS hlz) g.1, up _ _ (Nat.ne_of_gt g.2.2) g.2.1, g.2.2⟩
      · exact D1.frame _ _ _ hs1 fun b hb o e => up b o (nS (hl1 b hb)) e
      · exact D2.frame _ _ _ hs2 fun b hb o e => up b o (nS (hl2 b hb)) e
      · exact D3.frame _ _ _ hs3 fun b hb o e => up b o (nS (hl3 b hb)) e
      · refine List.nodup_append.mpr ⟨hG.nd, by simp, fun a ha b hb => ?_⟩
        rw [List.mem_singleton.mp hb]
        exact Nat.ne_of_lt (hG.there ha)
      · intro a ha
        rcases List.mem_append.mp ha with ha | ha
        · exact hG.above a ha
        · rw [List.mem_singleton.mp ha]; exact hSl
      · intro j b hj
        rcases Nat.lt_trichotomy j as.length with h1 | h1 | h1
        · rw [List.getElem?_append_left h1] at hj
          obtain ⟨x, y, u, e1, e2, e3, e4⟩ := hG.at_ j b hj
          have hb := hG.above b (List.mem_of_getElem? hj)
          exact ⟨x, y, u, e1, e2, e3, up b _ (Nat.ne_of_gt hb) (hkp b _ (Nat.ne_of_gt (Nat.lt_trans hlz hb)) (Nat.ne_of_gt (Nat.lt_trans hlO hb)) (Nat.ne_of_gt (Nat.lt_trans hS1 hb)) (Nat.ne_of_gt (Nat.lt_trans hS2 hb)) (Nat.ne_of_gt (Nat.lt_trans hS3 hb)) e4)⟩
        · subst h1
          have hb : h.objs.size = b := by simpa using hj
          subst hb
          exact ⟨x1, x2, x3, by rw [hal]; exact p1, by rw [hal]; exact p2, by rw [hal]; exact p3, up _ _ (Nat.ne_of_gt hSl) hT⟩
        · have hnone : (as ++ [h.objs.size])[j]? = none := List.getElem?_eq_none (by rw [List.length_append, List.length_singleton]; omega)
          rw [hnone] at hj; cases hj
    rcases hC.st with ⟨e, hz, a1, a2, a3, hTO⟩ | ⟨a, f, oa, g⟩
    · refine wpAny_bind (wpAny_pyNext_zipD3_item (s := { s with heap := h, toks := tk }) (A := A.in1) ZS D1 D2 D3 hz hC.TI hTO hC.s1 hC.s2 hC.s3 hlt hlt hlt fun x1 x2 x3 h' tk' p1 p2 p3 b1 b2 d1 d2 d3 b5 b6 b7 => ?_)
      exact key x1 x2 x3 h' tk' p1 p2 p3 ⟨h.objs.size, false, _, b1, b5, hSl⟩ d1 d2 d3 b5 b7
    · have hz := g.1
      have ha := g.2.1
      have hla := g.2.2
      refine wpAny_bind (z3_item (s := { s with heap := h, toks := tk }) (A := A.in1) ZS D1 D2 D3 hz ha hC.TI hC.s1 hC.s2 hC.s3 hlt fun x1 x2 x3 h' tk' p1 p2 p3 b1 d1 d2 d3 b5 b6 b7 => ?_)
      refine key x1 x2 x3 h' tk' p1 p2 p3 ?_ d1 d2 d3 b5 fun c o c1 _ c3 c4 c5 e => b7 c o c1 c3 c4 c5 e
      exact ⟨a, true, oa, b1, b7 a _ (Nat.ne_of_gt (Nat.lt_trans hlz hla)) (Nat.ne_of_gt (Nat.lt_trans hS1 hla)) (Nat.ne_of_gt (Nat.lt_trans hS2 hla)) (Nat.ne_of_gt (Nat.lt_trans hS3 hla)) ha, hla⟩
theorem z3_lookup : typeLookup (.type "zip") "__len__" = pure none := by rw [typeLookup_type, builtinLookup_eq_fast]; kernel_rfl
theorem z3_lookupH : typeLookup (.type "zip") "__length_hint__" = pure none := by rw [typeLookup_type, builtinLookup_eq_fast]; kernel_rfl
theorem z3_hint (hT : s.TypeIs (.ref z) "zip") {Q : Bool → Shared → Prop} (h : Q true s) : wpAny (model prog w) A (Builtin.List.listLengthHint (.ref z)) Q E s := by
  unfold Builtin.List.listLengthHint
  refine wpAny_bind (wpAny_specialOf hT z3_lookup ?_)
  show wpAny _ _ (specialOf (.ref z) (Str.ofString "__length_hint__") >>= _) _ _ s
  exact wpAny_bind (wpAny_specialOf hT z3_lookupH (wpAny_pure h))
theorem z3_extend (hh : A.handled = none) (ZS : ZipSep3 z TI TO i1 i2 i3 fp1 fp2 fp3) (D1 : Draws prog w A.in1.in1 i1 fp1 n P1 St1) (D2 : Draws prog w A.in1.in1 i2 fp2 n P2 St2) (D3 : Draws prog w A.in1.in1 i3 fp3 n P3 St3)
    (hl1 : ∀ b ∈ fp1, b < S) (hl2 : ∀ b ∈ fp2, b < S) (hl3 : ∀ b ∈ fp3, b < S) (hlz : z < S) (hlI : TI < S) (hlO : TO < S) (hn : n ≤ sizeLine) (hn0 : 0 < n) (res : Value) (c₀ : Nat)
    (hz : IsZip s.heap z TI TO .none) (hTI : IsTupOf3 s.heap TI (.ref i1) (.ref i2) (.ref i3)) (hTO : ∃ a1 a2 a3, IsTupOf3 s.heap TO a1 a2 a3) (s1 : St1 0 s.heap) (s2 : St2 0 s.heap) (s3 : St3 0 s.heap)
    (hS : s.heap.get? S = some { cls := .type "list", data := .seq #[] c₀ })
    (hR : ∀ h' tk acc c as, (∀ b o, b ≠ S → b ≠ z → b ≠ TO → b ≠ i1 → b ≠ i2 → b ≠ i3 → s.heap.get? b = some o → h'.get? b = some o) → h'.get? S = some { cls := .type "list", dict := none, data := .seq acc c, slots := #[] } → as.length = n → Z3G P1 P2 P3 S h' as →
      acc.toList = as.map Value.ref → R (.ok (.ret res)) { s with heap := h', toks := tk }) :
    wpAny (model prog w) A.in1 (Builtin.List.listExtendWith (.ref S) (.ref z) res)
      (fun fin s' => match fin with | .done f => R (.ok f) s' | .again c' => c'.quiet = true ∧ codeAny (model prog w) A c' R s') (fun e s' => R (.error e) s') s := by
  have nS : ∀ {b : Addr}, b < S → b ≠ S := fun h => Nat.ne_of_lt h
  have hT : s.TypeIs (.ref z) "zip" := ⟨_, hz, rfl⟩
  unfold Builtin.List.listExtendWith
  refine wpAny_bind (wpAny_typeOf hT ?_)
  have h1 : Builtin.List.listSameRef (.ref S) (.ref z) = false := by
    simp [Builtin.List.listSameRef, (nS hlz).symm]
  have h2 : (Value.type "zip" == Value.type "list") = false := by decide
  have h3 : (Value.type "zip" == Value.type "tuple") = false := by decide
  simp only [h1, h2, h3, Bool.or_false, Bool.false_eq_true, if_false]
  refine wpAny_bind (wpAny_pyIter_zip hz ?_)
  refine wpAny_bind (wpAny_holding (z3_hint hT ?_))
  simp only [Bool.true_or, if_true]
  refine wpAny_bind (wpAny_rule ?_)
  refine wpAny_bind ?_
  show wpAny _ _ (updateSeq S (·.push .none) >>= fun _ => updateSeq S (·.pop)) _ _ _
  refine wpAny_bind (wpAny_updateSeq hS rfl ?_)
  have hS₂ := Heap.get?_update_self (Obj.mapSeq (·.push Value.none)) hS rfl
  refine wpAny_updateSeq (hz := by seq_fits) hS₂ rfl ?_
  have hS₃ := Heap.get?_update_self (Obj.mapSeq (·.pop)) hS₂ rfl
  have up : ∀ b o, b ≠ S → s.heap.get? b = some o → ((s.heap.update S (Obj.mapSeq (·.push Value.none))).update S (Obj.mapSeq (·.pop))).get? b = some o := fun b o hb e => (Heap.get?_update_other _ _ (Ne.symm hb)).trans ((Heap.get?_update_other _ _ (Ne.symm hb)).trans e)
  obtain ⟨a1, a2, a3, hTO⟩ := hTO
  refine wpAny_pure ⟨plainId_quiet PySem.F.plain_extend_loop _, z3_loop hh ZS D1 D2 D3 hl1 hl2 hl3 hlz hlI hlO hn hn0 res hR n 0 _ _ _ #[] [] (Nat.sub_zero _) (Nat.zero_le _)
    ⟨.inl ⟨rfl, up _ _ (nS hlz) hz, a1, a2, a3, up _ _ (nS hlO) hTO⟩, up _ _ (nS hlI) hTI, D1.frame _ _ _ s1 fun b hb o e => up b o (nS (hl1 b hb)) e, D2.frame _ _ _ s2 fun b hb o e => up b o (nS (hl2 b hb)) e, D3.frame _ _ _ s3 fun b hb o e => up b o (nS (hl3 b hb)) e⟩
    (fun b o h _ _ _ _ _ e => up b o h e) hS₃ rfl rfl ⟨List.nodup_nil, (fun _ ha => nomatch ha), (fun j a hj => by simp at hj)⟩⟩
theorem z3_call {Q : Value → Shared → Prop} (hh : A.handled = none) (ZS : ZipSep3 z TI TO i1 i2 i3 fp1 fp2 fp3) (D1 : Draws prog w A.in1.in1.in1 i1 fp1 n P1 St1) (D2 : Draws prog w A.in1.in1.in1 i2 fp2 n P2 St2) (D3 : Draws prog w A.in1.in1.in1 i3 fp3 n P3 St3)
    (hl1 : ∀ b ∈ fp1, b < s.heap.objs.size) (hl2 : ∀ b ∈ fp2, b < s.heap.objs.size) (hl3 : ∀ b ∈ fp3, b < s.heap.objs.size) (hn : n ≤ sizeLine) (hn0 : 0 < n)
    (hz : IsZip s.heap z TI TO .none) (hTI : IsTupOf3 s.heap TI (.ref i1) (.ref i2) (.ref i3)) (hTO : ∃ a1 a2 a3, IsTupOf3 s.heap TO a1 a2 a3) (s1 : St1 0 s.heap) (s2 : St2 0 s.heap) (s3 : St3 0 s.heap)
    (hQ : ∀ h' tk acc c as, (∀ b o, b ≠ z → b ≠ TO → b ≠ i1 → b ≠ i2 → b ≠ i3 → s.heap.get? b = some o → h'.get? b = some o) → h'.get? s.heap.objs.size = some { cls := .type "list", dict := none, data := .seq acc c, slots := #[] } → as.length = n → Z3G P1 P2 P3 s.heap.objs.size h' as →
      acc.toList = as.map Value.ref → Q (.ref s.heap.objs.size) { s with heap := h', toks := tk }) :
    wpAny (model prog w) A (call (.type "list") [.ref z]) Q E s := by
  refine callType_codes (Q₁ := fun obj s₁ => obj = .ref s.heap.objs.size ∧ s₁ = { s with heap := s.heap.push { cls := .type "list", data := .seq #[] } }) PySem.F.called_list (PySem.F.typeCall_list_1 _) PySem.F.entry_list_init
    (code_list_new _ ⟨rfl, rfl⟩) fun obj s₁ h₁ => ?_
  obtain ⟨rfl, rfl⟩ := h₁
  have hS : (s.heap.push { cls := .type "list", data := .seq #[] }).get? s.heap.objs.size = some { cls := .type "list", data := .seq #[] } := Heap.get?_push_size _ rfl
  refine ⟨⟨_, hS, rfl⟩, PySem.F.args_list_init_2 _ _, ?_⟩
  show wpAny _ _ (do let old ← Builtin.List.listItems (.ref s.heap.objs.size); Builtin.List.listUpdate (.ref s.heap.objs.size) (fun _ => #[]); letGo old.toList.reverse; Builtin.List.listExtendWith (.ref s.heap.objs.size) (.ref z) .none) _ _ _
  refine wpAny_bind ?_
  unfold Builtin.List.listItems
  refine wpAny_bind (wpAny_seqItems hS rfl (wpAny_pure ?_))
  show wpAny _ _ (updateSeq s.heap.objs.size (fun _ => #[]) >>= fun _ => letGo (#[] : Array Value).toList.reverse >>= fun _ => Builtin.List.listExtendWith (.ref s.heap.objs.size) (.ref z) .none) _ _ _
  refine wpAny_bind (wpAny_updateSeq hS rfl ?_)
  have hS₂ := Heap.get?_update_self (Obj.mapSeq (fun _ => (#[] : Array Value))) hS rfl
  have oth : ∀ b o, s.heap.get? b = some o → ((s.heap.push { cls := .type "list", data := .seq #[] }).update s.heap.objs.size (Obj.mapSeq (fun _ => (#[] : Array Value)))).get? b = some o :=
    fun b o e => (Heap.get?_update_other _ _ (Ne.symm (Nat.ne_of_lt (Heap.lt_size e)))).trans (Heap.get?_push_of_some _ e)
  refine wpAny_bind (wpAny_letGo ?_)
  obtain ⟨a1, a2, a3, hTO⟩ := hTO
  generalize hg : ((s.heap.push { cls := .type "list", data := .seq #[] }).update s.heap.objs.size (Obj.mapSeq (fun _ => (#[] : Array Value)))) = hp at hS₂ oth ⊢
  have lz : z < s.heap.objs.size := Heap.lt_size hz
  have lI : TI < s.heap.objs.size := Heap.lt_size hTI
  have lO : TO < s.heap.objs.size := Heap.lt_size hTO
  refine z3_extend (A := A.in1) (s := { s with heap := hp }) hh ZS D1 D2 D3 hl1 hl2 hl3 lz lI lO hn hn0 .none _ (oth _ _ hz) (oth _ _ hTI) ⟨a1, a2, a3, oth _ _ hTO⟩ (D1.frame _ _ _ s1 fun b _ o e => oth b o e) (D2.frame _ _ _ s2 fun b _ o e => oth b o e) (D3.frame _ _ _ s3 fun b _ o e => oth b o e) hS₂ ?_
  exact fun h' tk acc c as hk hS' hl hG hacc => ⟨rfl, hQ h' tk acc c as (fun b o h2 h3 h4 h5 h6 e => hk b o (Nat.ne_of_lt (Heap.lt_size e)) h2 h3 h4 h5 h6 (oth b o e)) hS' hl hG hacc⟩
end
/-- tuples are laid -/
def upds (H : Hp) : List Addr → List (List V) → Hp
  | a :: as, t :: ts => upds (upd H a (.tup t)) as ts
  | _, _ => H
section
variable {X : Cx} {pins : List (Addr × Obj)} {σ : L2.St} {s : Shared}
theorem upds_ne {b : Addr} : ∀ {as : List Addr} {ts : List (List V)} {H : Hp}, b ∉ as → upds H as ts b = H b
  | [], _, H, _ => by unfold upds; rfl
  | a :: as, [], H, _ => rfl
  | a :: as, t :: ts, H, h => by
    show upds (upd H a (.tup t)) as ts b = _
    rw [upds_ne (fun z => h (List.mem_cons_of_mem _ z)), upd_ne (fun z => h (by rw [z]; exact List.mem_cons_self))]
theorem track {h' : Heap} {tk : Nat} : ∀ (as : List Addr) (ts : List (List V)) (H : Hp) (G : Heap), as.length = ts.length → Inv X pins σ H { s with heap := G, toks := tk } → (∀ b o, G.get? b = some o → h'.get? b = some o) → as.Nodup → (∀ a ∈ as, G.get? a = none ∧ H a = none) →
    (∀ (j : Nat) (a : Addr) (t : List V), as[j]? = some a → ts[j]? = some t → t.length ≤ sizeLine ∧ ∃ its : List Value, Vals t its ∧ IsTup h' a its.toArray) →
    ∃ G', Inv X pins σ (upds H as ts) { s with heap := G', toks := tk } ∧ (∀ b o, G'.get? b = some o → h'.get? b = some o) ∧ ∀ b, b ∉ as → G'.get? b = G.get? b
  | [], ts, H, G, _, I, hG, _, _, _ => ⟨G, by unfold upds; exact I, hG, fun _ _ => rfl⟩
  | a :: as, [], H, G, hl, _, _, _, _, _ => by simp at hl
  | a :: as, t :: ts, H, G, hl, I, hG, hn, hf, ho => by
    obtain ⟨G1, k1, k2⟩ := restrict h' fun b => decide (b = a) || (G.get? b).isSome
    have sub : ∀ b o, G.get? b = some o → G1.get? b = some o := fun b o e => by
      rw [k1 b (by rw [e]; simp)]
      exact hG b o e
    have sub2 : ∀ b o, G1.get? b = some o → h'.get? b = some o := fun b o e => by
      cases q : (decide (b = a) || (G.get? b).isSome) with
      | true => rw [k1 b q] at e; exact e
      | false => rw [k2 b q] at e; cases e
    have same : ∀ b, b ≠ a → G1.get? b = G.get? b := fun b hb => by
      cases q : G.get? b with
      | some o => exact sub b o q
      | none => exact k2 b (by rw [q]; simp [hb])
    obtain ⟨hz, its, rv, o, e1, e2, m, e3⟩ := ho 0 a t rfl rfl
    have ea : G1.get? a = some o := by rw [k1 a (by simp)]; exact e1
    have I1 : Inv X pins σ (upd H a (.tup t)) { s with heap := G1, toks := tk } := Inv.laidN (t' := tk) (s := { s with heap := G, toks := tk }) I sub (hf a List.mem_cons_self).1 (hf a List.mem_cons_self).2 (show ObjOk X.prog X.w _ _ _ (.tup t) from ⟨hz, its, rv, o, ea, e2, m, e3⟩)
    obtain ⟨na, nd⟩ := List.nodup_cons.mp hn
    obtain ⟨G', I', g1, g2⟩ := track as ts (upd H a (.tup t)) G1 (by simpa using hl) I1 sub2 nd (fun b hb => by
      have hne : b ≠ a := fun z => na (z ▸ hb)
      rw [same b hne, upd_ne hne]
      exact hf b (List.mem_cons_of_mem _ hb)) fun j b u h1 h2 => ho (j + 1) b u (by simpa using h1) (by simpa using h2)
    exact ⟨G', I', g1, fun b hb => by
      rw [g2 b (fun z => hb (List.mem_cons_of_mem _ z)), same b (fun z => hb (by rw [z]; exact List.mem_cons_self))]⟩
/-- three lists' items, side by side -/
def zip3V : List V → List V → List V → List (List V)
  | x :: xs, y :: ys, u :: us => [x, y, u] :: zip3V xs ys us
  | _, _, _ => []
theorem zip3V_len : ∀ {xs ys us : List V}, ys.length = xs.length → us.length = xs.length → (zip3V xs ys us).length = xs.length
  | [], _, _, _, _ => by unfold zip3V; rfl
  | x :: xs, [], _, h, _ => by simp at h
  | x :: xs, y :: ys, [], _, h => by simp at h
  | x :: xs, y :: ys, u :: us, h1, h2 => by simp [zip3V, zip3V_len (xs := xs) (ys := ys) (us := us) (by simpa using h1) (by simpa using h2)]
theorem zip3V_get : ∀ {xs ys us : List V} {j : Nat} {t : List V}, (zip3V xs ys us)[j]? = some t → ∃ x y u, xs[j]? = some x ∧ ys[j]? = some y ∧ us[j]? = some u ∧ t = [x, y, u]
  | [], _, _, j, t, h => by simp [zip3V] at h
  | x :: xs, [], _, j, t, h => by simp [zip3V] at h
  | x :: xs, y :: ys, [], j, t, h => by simp [zip3V] at h
  | x :: xs, y :: ys, u :: us, 0, t, h => by simp [zip3V] at h; exact ⟨x, y, u, rfl, rfl, rfl, h.symm⟩
  | x :: xs, y :: ys, u :: us, j + 1, t, h => by
    obtain ⟨a, b, c, h1, h2, h3, h4⟩ := zip3V_get (xs := xs) (ys := ys) (us := us) (j := j) (t := t) (by simpa [zip3V] using h)
    exact ⟨a, b, c, by simpa using h1, by simpa using h2, by simpa using h3, h4⟩
def tLZ (K : PySem.W.Frag) (ta : TA) : TE := fun σ H Q => ta σ H fun vs H1 => ∃ a b c xs ys us, vs = [.ref a, .ref b, .ref c] ∧ SqL K H1 a xs ∧ SqL K H1 b ys ∧ SqL K H1 c us ∧ ys.length = xs.length ∧ us.length = xs.length ∧ 0 < xs.length ∧
  ∀ as q, as.length = xs.length → as.Nodup → (∀ a ∈ as, H1 a = none) → q ∉ as → H1 q = none → Q (.ref q) (upd (upds H1 as (zip3V xs ys us)) q (.lst (as.map .ref)))
theorem pe_listZip3 {e1 e2 e3 : Expr} {ta : TA} {p pos p2 pos2 : Pos} (hc : X.calm = true) (hg : Gl X "list") (hm : X.mg "list" = none) (hg2 : Gl X "zip") (hm2 : X.mg "zip" = none) (ha : PA X [e1, e2, e3] ta)
    (hs : starEach [e1, e2, e3] X.env = (false, eval e1 X.env) :: starEach [e2, e3] X.env) (hpl : (backTo pos2 (starEach [e2, e3] X.env)).any (·.1) = false) :
    PE X (.Call (.Name "list" p) [.Call (.Name "zip" p2) [e1, e2, e3] [] pos2] [] pos) (tLZ X.K ta) := by
  refine ⟨fun pins s σ H Q I h => ?_⟩
  refine Call_ (ld_blt I hg hm PyProof.Rows.boot_list (PyProof.Rows.callWith_type1 (args_cons (Call_ (ld_blt I hg2 hm2 PyProof.Rows.boot_zip (PyProof.Rows.callWith_type1 (thn (ha.run pos2 pins s σ H _ I h) fun vs s1 ⟨xs, H1, I1, r1, q1⟩ => ?_) hs hpl))) rfl) rfl))
  obtain ⟨a, b, c, xs, ys, us, rfl, ha, hb, hc', hl1, hl2, hl0, q⟩ := q1
  cases r1 with
  | cons ra rr =>
  cases rr with
  | cons rb rr =>
  cases rr with
  | cons rc rr =>
  cases rr
  cases ra
  cases rb
  cases rc
  obtain ⟨ix, rx, px, zx⟩ := I1.list ha
  obtain ⟨iy, ry, py, zy⟩ := I1.list hb
  obtain ⟨iu, ru, pu, zu⟩ := I1.list hc'
  have lx := rx.length
  have ly := ry.length
  have lu := ru.length
  refine zip_begins3 (begins_list a ix.toArray) (begins_list b iy.toArray) (begins_list c iu.toArray) px.isList py.isList pu.isList fun h1 hz hTI hTO g1 g2 g3 hsz hk => ?_
  refine args_nil ?_
  have hA := I1.ok.hd hc
  have ax : a < s1.heap.objs.size := px.lt
  have bx : b < s1.heap.objs.size := py.lt
  have cx : c < s1.heap.objs.size := pu.lt
  have ni : ∀ {x y : Nat}, x < s1.heap.objs.size → s1.heap.objs.size ≤ y → x ≠ y := fun h1 h2 => by omega
  have D1 := Draws.list (prog := X.prog) (w := X.w) (A := X.A.in1.in1.in1) hA s1.heap.objs.size a (Nat.ne_of_lt ax) ix.toArray
  have D2 := Draws.list (prog := X.prog) (w := X.w) (A := X.A.in1.in1.in1) hA (s1.heap.objs.size + 1) b (ni bx (Nat.le_add_right _ _)) iy.toArray
  have D3 := Draws.list (prog := X.prog) (w := X.w) (A := X.A.in1.in1.in1) hA (s1.heap.objs.size + 2) c (ni cx (Nat.le_add_right _ _)) iu.toArray
  rw [show iy.toArray.size = ix.toArray.size by simp; omega] at D2
  rw [show iu.toArray.size = ix.toArray.size by simp; omega] at D3
  have two : ∀ {x l : Nat} {b : Addr}, x < s1.heap.objs.size + 6 → l < s1.heap.objs.size → b ∈ [(x : Addr), (l : Addr)] → b < h1.objs.size := fun {x l b} h1' h2 hb => by
    rw [hsz]
    rcases List.mem_cons.mp hb with rfl | hb
    · exact h1'
    · rw [List.mem_singleton.mp hb]; exact Nat.lt_of_lt_of_le h2 (Nat.le_add_right _ _)
  refine z3_call (s := { s1 with heap := h1 }) hA (zip_sep3 (N := s1.heap.objs.size) (fp1 := [a]) (fp2 := [b]) (fp3 := [c]) (by simpa using ax) (by simpa using bx) (by simpa using cx)) D1 D2 D3
    (fun b hb => two (Nat.lt_add_of_pos_right (by decide)) ax hb) (fun b hb => two (Nat.add_lt_add_left (by decide) _) bx hb) (fun b hb => two (Nat.add_lt_add_left (by decide) _) cx hb) (by simp; omega) (by simp; omega) hz hTI ⟨_, _, _, hTO⟩
    ⟨⟨_, g1, rfl, rfl⟩, px.isList.at fun o e => hk _ o e⟩ ⟨⟨_, g2, rfl, rfl⟩, py.isList.at fun o e => hk _ o e⟩ ⟨⟨_, g3, rfl, rfl⟩, pu.isList.at fun o e => hk _ o e⟩ fun h' tk acc cc as kp hS hl hG hacc => ?_
  have hln : as.length = xs.length := by rw [hl]; simp; omega
  have keep : ∀ b o, s1.heap.get? b = some o → h'.get? b = some o := fun b o e => by
    have hb := Heap.lt_size e
    refine kp b o ?_ ?_ ?_ ?_ ?_ (hk b o e)
    · exact ni hb (Nat.le_add_right _ _)
    · exact ni hb (Nat.le_add_right _ _)
    · exact Nat.ne_of_lt hb
    · exact ni hb (Nat.le_add_right _ _)
    · exact ni hb (Nat.le_add_right _ _)
  obtain ⟨G, k1, k2⟩ := restrict h' fun b => (s1.heap.get? b).isSome
  have gs : ∀ b o, s1.heap.get? b = some o → G.get? b = some o := fun b o e => by
    rw [k1 b (by rw [e]; rfl)]
    exact keep b o e
  have gh : ∀ b o, G.get? b = some o → h'.get? b = some o := fun b o e => by
    cases q : (s1.heap.get? b).isSome with
    | true => rw [k1 b q] at e; exact e
    | false => rw [k2 b q] at e; cases e
  have lo : s1.heap.objs.size ≤ h1.objs.size := by rw [hsz]; exact Nat.le_add_right _ _
  have out : ∀ b, s1.heap.objs.size ≤ b → G.get? b = none ∧ H1 b = none := fun b hb => by
    refine ⟨k2 b ?_, I1.hok.fresh hb⟩
    cases q : s1.heap.get? b with
    | none => rfl
    | some o => exact absurd (Heap.lt_size q) (Nat.not_lt.mpr hb)
  have I2 : Inv X pins σ H1 { s1 with heap := G, toks := tk } := I1.kept (t' := tk) gs
  obtain ⟨G', I3, g1', g2'⟩ := track (h' := h') (tk := tk) (s := s1) as (zip3V xs ys us) H1 G (by rw [zip3V_len hl1 hl2, hln]) I2 gh hG.nd (fun a ha => out a (Nat.le_trans lo (Nat.le_of_lt (hG.above a ha)))) fun j a t h1 h2 => by
    obtain ⟨x, y, u, e1, e2, e3, e4⟩ := hG.at_ j a h1
    obtain ⟨x', y', u', f1, f2, f3, rfl⟩ := zip3V_get h2
    refine ⟨by rw [sizeLine_eq]; simp, [x, y, u], ?_, ⟨_, e4, rfl, _, rfl⟩⟩
    obtain ⟨w1, a1, a2⟩ := rx.get f1
    obtain ⟨w2, b1, b2⟩ := ry.get f2
    obtain ⟨w3, c1, c2⟩ := ru.get f3
    simp only [List.getElem?_toArray] at e1 e2 e3
    rw [e1] at a1
    rw [e2] at b1
    rw [e3] at c1
    cases a1
    cases b1
    cases c1
    exact .cons a2 (.cons b2 (.cons c2 .nil))
  have nq : h1.objs.size ∉ as := fun z => absurd (hG.above _ z) (Nat.lt_irrefl _)
  refine ⟨.ref h1.objs.size, _, Inv.laidN (t' := tk) (s := { s1 with heap := G', toks := tk }) (o := .lst (as.map V.ref)) I3 g1' (by rw [g2' _ nq]; exact (out _ lo).1) (by rw [upds_ne nq]; exact (out _ lo).2) ?_, rfl, q as h1.objs.size hln hG.nd (fun a ha => (out a (Nat.le_trans lo (Nat.le_of_lt (hG.above a ha)))).2) nq (out _ lo).2⟩
  refine ⟨by rw [List.length_map, hln]; exact zx, as.map Value.ref, cc, vals_refs as, ?_⟩
  rw [← hacc, Array.toArray_toList]
  exact hS
end
end Bell
end

section
set_option maxRecDepth 100000
/-! list(zip(a, b, c)), by Mini -/
namespace Bell
open PySem PySem.Spec PyProof.Rows L2
section
variable {K : PySem.W.Frag} {base : Nat} {L : Nat → Nat} {φ : List Addr} {m : Hm} {H H0 U : Hp}
theorem RVs.three {x y z : D} {vs : List V} (r : RVs K φ H H0 U [x, y, z] vs) : ∃ v w u, vs = [v, w, u] ∧ RV K φ H0 H x v ∧ RV K φ H0 H y w ∧ RV K φ H0 H z u := by
  cases r with
  | cons a b c t =>
    obtain ⟨w, u, rfl, h1, h2⟩ := t.two
    exact ⟨_, _, _, rfl, a, h1.older b, h2.older b⟩
theorem upds_rel : ∀ (as : List Addr) (ts : List (List V)) (ds : List (List D)) (H : Hp), RelH K base L φ m H → as.length = ts.length → ds.length = ts.length → as.Nodup → (∀ a ∈ as, H a = none) →
    (∀ (j : Nat) (t : List V) (d : List D), ts[j]? = some t → ds[j]? = some d → RSs K φ H d t) →
    RelH K base L φ m (upds H as ts) ∧ Step φ H φ (upds H as ts) ∧ RSs K φ (upds H as ts) (ds.map D.tup) (as.map V.ref)
  | [], ts, ds, H, R, h1, h2, _, _, _ => by
    have : ts = [] := List.eq_nil_of_length_eq_zero h1.symm
    subst this
    have : ds = [] := List.eq_nil_of_length_eq_zero h2
    subst this
    exact ⟨R, .refl _ _, .nil⟩
  | a :: as, [], ds, H, R, h1, _, _, _, _ => by simp at h1
  | a :: as, t :: ts, [], H, R, h1, h2, _, _, _ => by simp at h2
  | a :: as, t :: ts, d :: ds, H, R, h1, h2, nd, hf, k => by
    obtain ⟨na, nd'⟩ := List.nodup_cons.mp nd
    have s1 : Step φ H φ (upd H a (.tup t)) := .new (hf a List.mem_cons_self)
    have R1 : RelH K base L φ m (upd H a (.tup t)) := R.alloc (hf a List.mem_cons_self)
    obtain ⟨R2, s2, r2⟩ := upds_rel as ts ds (upd H a (.tup t)) R1 (by simpa using h1) (by simpa using h2) nd' (fun b hb => by
      have hne : b ≠ a := fun z => na (by rw [← z]; exact hb)
      rw [upd_ne hne]
      exact hf b (List.mem_cons_of_mem _ hb)) fun j t' d' e1 e2 => (k (j + 1) t' d' (by simpa using e1) (by simpa using e2)).step R s1
    refine ⟨R2, s1.trans s2, .cons ?_ r2⟩
    have r0 : RSs K φ (upd H a (.tup t)) d t := (k 0 t d rfl rfl).step R s1
    exact (RS.tup (.inl (.inl upd_same)) r0 : RS K φ (upd H a (.tup t)) (.tup d) (.ref a)).step R1 s2
def zip3D : List D → List D → List D → List (List D)
  | x :: xs, y :: ys, u :: us => [x, y, u] :: zip3D xs ys us
  | _, _, _ => []
theorem zip3_map : ∀ xs ys us : List D, (zip3D xs ys us).map D.tup = zip3L xs ys us
  | [], _, _ => by unfold zip3D zip3L; rfl
  | x :: xs, [], _ => by unfold zip3D zip3L; rfl
  | x :: xs, y :: ys, [] => by unfold zip3D zip3L; rfl
  | x :: xs, y :: ys, u :: us => by simp [zip3D, zip3L, zip3_map xs ys us]
theorem zip3_rs : ∀ {xs ys us : List D} {vx vy vu : List V}, RSs K φ H xs vx → RSs K φ H ys vy → RSs K φ H us vu → (zip3D xs ys us).length = (zip3V vx vy vu).length ∧ ∀ (j : Nat) (t : List V) (d : List D), (zip3V vx vy vu)[j]? = some t → (zip3D xs ys us)[j]? = some d → RSs K φ H d t
  | _, _, _, _, _, _, .nil, _, _ => by simp [zip3D, zip3V]
  | _, _, _, _, _, _, .cons _ _, .nil, _ => by simp [zip3D, zip3V]
  | _, _, _, _, _, _, .cons _ _, .cons _ _, .nil => by simp [zip3D, zip3V]
  | _, _, _, _, _, _, .cons a ta, .cons b tb, .cons c tc => by
    obtain ⟨h1, h2⟩ := zip3_rs ta tb tc
    refine ⟨by simp [zip3D, zip3V, h1], fun j t d e1 e2 => ?_⟩
    cases j with
    | zero =>
      simp [zip3D, zip3V] at e1 e2
      subst e1
      subst e2
      exact .cons a (.cons b (.cons c .nil))
    | succ j => exact h2 j t d (by simpa [zip3V] using e1) (by simpa [zip3D] using e2)
end
section
variable {X : Cx} {C : Cf} {a b c : Expr} {Ea : E} {pos p p2 pos2 : Pos}
theorem te_z3 (hc : X.calm = true) (hg : Gl X "list") (hm : X.mg "list" = none) (hg2 : Gl X "zip") (hm2 : X.mg "zip" = none) (ha : PA X [a, b, c] (TAv X.K C Ea))
    (hs : starEach [a, b, c] X.env = (false, eval a X.env) :: starEach [b, c] X.env) (hpl : (backTo pos2 (starEach [b, c] X.env)).any (·.1) = false) :
    PE X (.Call (.Name "list" p) [.Call (.Name "zip" p2) [a, b, c] [] pos2] [] pos) (TEv X.K C (.bi .z3 Ea)) := by
  refine (pe_listZip3 hc hg hm hg2 hm2 ha hs hpl).mono fun σ H Q h => ?_
  obtain ⟨L, φ, ρ, m, d, m', R, hE, e, q⟩ := h
  obtain ⟨x, m1, e1, e⟩ := bind_inv e
  obtain ⟨xs, rfl, e⟩ := withArgs_inv e
  obtain ⟨e2, rfl⟩ := okD_inv e
  refine ⟨L, φ, ρ, m, xs, _, R, hE, e1, fun φ1 vs H1 R1 s1 r1 => ?_⟩
  match xs, e2, r1 with
  | [x, y, u], e2, r1 =>
    obtain ⟨v, w, z, rfl, g1, g2, g3⟩ := r1.three
    replace e2 : z3D (itemsL m' x) (itemsL m' y) (itemsL m' u) = some d := e2
    unfold z3D at e2
    split at e2
    · rename_i xs ys us q1 q2 q3
      split at e2
      · rename_i hl
        cases e2
        obtain ⟨p1, v1, rfl, f1, t1⟩ := itemsL_ok R1 g1 q1
        obtain ⟨p2, v2, rfl, f2, t2⟩ := itemsL_ok R1 g2 q2
        obtain ⟨p3, v3, rfl, f3, t3⟩ := itemsL_ok R1 g3 q3
        have l1 := t1.length
        have l2 := t2.length
        have l3 := t3.length
        refine ⟨p1, p2, p3, v1, v2, v3, rfl, f1, f2, f3, by omega, by omega, by omega, fun as q0 ha nd hn nq hq => ?_⟩
        obtain ⟨h1, h2⟩ := zip3_rs t1 t2 t3
        have zl : (zip3V v1 v2 v3).length = v1.length := zip3V_len (by omega) (by omega)
        obtain ⟨R2, s2, r2⟩ := upds_rel as _ _ H1 R1 (by rw [zl, ha]) h1 nd hn h2
        have hq2 : upds H1 as (zip3V v1 v2 v3) q0 = none := by rw [upds_ne nq]; exact hq
        rw [zip3_map] at r2
        refine q φ1 _ _ (R2.alloc hq2) ((s1.trans s2).trans (.new hq2)) (.tmp upd_same (fun z => ?_) (s1.free hq) (fun _ z => by cases z) (.lst (r2.step R2 (.new hq2))))
        obtain ⟨o, e, _⟩ := R2.kind z
        rw [hq2] at e
        cases e
      · cases e2
    · cases e2
end
end Bell
end

section
set_option maxRecDepth 100000
/-! enumerate of a tuple, zip of a list and a tuple -/
namespace Bell
open PySem PySem.Spec PyProof.Rows L2
set_option maxHeartbeats 1000000 in
theorem meets_enum1 {v : Value} {o : Obj} {Hh : Heap → Prop} (B : Begins v o Hh) :
    Meets (Builtin.«enumerate.__new__» ⟨[.type "enumerate", v], []⟩) (fun _ R s => Hh s.heap ∧ R (.ok (.ret (.ref (s.heap.push o).objs.size)))
      { s with heap := (s.heap.push o).push { cls := .type "enumerate", data := .fields #[.none, .bool false, .ref s.heap.objs.size, rawInt 0, .none, .none] } }) :=
  .of_wp fun P w A R s h => by
    obtain ⟨hp, g, d, tk, os⟩ := s
    obtain ⟨h1, h⟩ := h
    have hsub := sub_enumerate
    have it1 : ∀ {A' : Around} {E : Value → Shared → Prop} {Q : Value → Shared → Prop}, Q (.ref hp.objs.size) ⟨hp.push o, g, d, tk, os⟩ → wpAny (model P w) A' (pyIter v) Q E ⟨hp, g, d, tk, os⟩ :=
      fun q => B.iter P w _ _ ⟨hp, g, d, tk, os⟩ _ h1 q
    wp_walk using it1
    refine wpAny_stack_any fun st => wpAny_pure ?_
    split
    · rename_i c _ _ _ _ _
      cases (c == Value.type "enumerate") <;> (wp_walk using it1; exact ⟨_, rfl, h⟩)
    · wp_walk using it1
      exact ⟨_, rfl, h⟩
theorem call_enum1 {prog : Program} {w : World} {A : Around} {E : Value → Shared → Prop} {s : Shared} {v : Value} {o : Obj} {Hh : Heap → Prop} {Q : Value → Shared → Prop} (B : Begins v o Hh) (h1 : Hh s.heap)
    (h : ∀ h', IsEnum h' (s.heap.objs.size + 1) s.heap.objs.size 0 .none → h'.get? s.heap.objs.size = some o → h'.objs.size = s.heap.objs.size + 2 → (∀ b u, s.heap.get? b = some u → h'.get? b = some u) → Q (.ref (s.heap.objs.size + 1)) { s with heap := h' }) :
    wpAny (model prog w) A (call (.type "enumerate") [v]) Q E s := by
  refine callType_new F.called_enumerate (by decide) (F.typeCall_enumerate_1 _) (F.newCall_enumerate_1 _) (fun obj => F.args_object_init_2 obj _) F.entry_enumerate_new (meets_enum1 B) ⟨h1, ?_⟩
  have sz : (s.heap.push o).objs.size = s.heap.objs.size + 1 := Heap.size_push ..
  have he := Heap.get?_push_size (s.heap.push o) (o := { cls := .type "enumerate", data := .fields #[.none, .bool false, .ref s.heap.objs.size, rawInt 0, .none, .none] }) rfl
  show _ ∧ _
  rw [sz] at he ⊢
  exact ⟨⟨_, he, rfl⟩, h _ he (Heap.get?_push_of_some _ (Heap.get?_push_size _ B.free)) (by rw [Heap.size_push, sz]) fun b u z => Heap.get?_push_of_some _ (Heap.get?_push_of_some _ z)⟩
/-- the tuple at a, each item in a new pair -/
def IteT (K : PySem.W.Frag) (a : Addr) : It :=
  ⟨fun i H => ∃ (xs : List V) (x : V), SqT K H a xs ∧ xs[i]? = some x, fun i H v H' => ∃ T x, v = .ref T ∧ H T = none ∧ H' = upd H T (.tup [.int (i : Nat), x]) ∧ ∀ xs, SqT K H a xs → xs[i]? = some x, fun i H => ∃ xs : List V, SqT K H a xs ∧ xs.length = i⟩
theorem turn_enumT {P : Program} {w : World} {K : PySem.W.Frag} {elts : List Expr} {kk : Nat} {tpos : Pos} (a e it : Addr) (n1 : e ≠ it) (n2 : a ≠ it) (n3 : e ≠ a) :
    Turn P w K (.Tuple elts kk tpos) (IteT K a) [e, it] e (fun i h => (∃ old, IsEnum h e it ((i : Nat) : Int) old) ∧ h.IsTupleIter it a i) where
  mem := List.mem_cons_self ..
  obj := fun i h st b hb => by
    obtain ⟨⟨old, he⟩, ⟨o, ho, _, hd⟩⟩ := st
    rcases List.mem_cons.mp hb with z | z
    · rw [z]
      exact ⟨_, he, fun v q => by cases q⟩
    · rw [List.mem_singleton.mp z]
      exact ⟨o, ho, fun v q => by rw [hd] at q; cases q⟩
  keep := fun i h h' st k => ⟨let ⟨old, he⟩ := st.1; ⟨old, k e (List.mem_cons_self ..) _ he⟩, st.2.at fun o q => k it (by simp) o q⟩
  item := by
    intro X hP hw hK hc i pins s σ H E I hf st hg
    subst hP hw hK
    obtain ⟨⟨old, he⟩, hit⟩ := st
    obtain ⟨xs, x, hq, hx⟩ := hg
    obtain ⟨its, rv, p, _⟩ := I.tuple hq
    obtain ⟨u, hu, ru⟩ := rv.get hx
    have hi : i < its.toArray.size := by
      have := (List.getElem?_eq_some_iff.mp hu).1
      simpa using this
    have ltE : e < s.heap.objs.size := Heap.lt_size he
    have ltI : it < s.heap.objs.size := by obtain ⟨_, q, _⟩ := hit; exact Heap.lt_size q
    have D := Draws.tuple (prog := X.prog) (w := X.w) (A := X.A.in1) (I.ok.hd hc) it a n2 its.toArray
    refine wpAny_pyNext_enum_itemC D he ⟨hit, p⟩ hi n1 (by simp [n1, n3]) fun y h' tk hy ho hit' hT _ hk => ?_
    have ey : y = u := by
      have hy : its.toArray[i]? = some y := hy
      have hu2 : its.toArray[i]? = some u := by simpa using hu
      exact Option.some.inj (hy.symm.trans hu2)
    subst ey
    refine ⟨_, rfl, wpAny_letOwnedTupleGo_enum (s := { s with heap := h', toks := tk + 1 }) ho fun h'' he' sb => ?_⟩
    have hT2 : h''.get? s.heap.objs.size = some { cls := .type "tuple", data := .seq #[.int i tk, y] } := (sb.2 _ (Nat.ne_of_gt ltE)).trans hT
    have new : ObjOk X.prog X.w (upd H s.heap.objs.size (.tup [.int (i : Nat), x])) h'' s.heap.objs.size (.tup [.int (i : Nat), x]) := ⟨by show 2 ≤ sizeLine; decide, [.int i tk, y], .cons ⟨_, rfl⟩ (.cons ru .nil), ⟨_, hT2, rfl, _, rfl⟩⟩
    have J : Inv X pins σ (upd H s.heap.objs.size (.tup [.int (i : Nat), x])) { s with heap := h'', toks := tk + 1 } :=
      I.turnedNew (ch := [e, it]) (fun b ob hb q => (sb.2 b (fun z => hb (z ▸ List.mem_cons_self ..))).trans (hk b ob (fun z => hb (z ▸ List.mem_cons_self ..)) (fun z => hb (by simp [z])) q)) hf (Nat.le_refl _) new
    refine ⟨.ref s.heap.objs.size, _, J, rfl, ⟨_, x, rfl, I.hok.fresh (Nat.le_refl _), rfl, fun ys hy => by rw [I.tuple_inj hy hq]; exact hx⟩, ⟨⟨y, ?_⟩, hit'.1.at fun o q => (sb.2 it (Ne.symm n1)).trans q⟩, fun b hb => ?_⟩
    · rw [show ((i + 1 : Nat) : Int) = (i : Int) + 1 from by omega]
      exact he'
    · have hb' : b < s.heap.objs.size := by
        rcases List.mem_cons.mp hb with z | z
        · rw [z]; exact ltE
        · rw [List.mem_singleton.mp z]; exact ltI
      rw [upd_ne (Nat.ne_of_lt hb')]
      exact (hf b hb).1
  done := by
    intro X hP hw hK hc i pins s σ H E I hf st hg
    subst hP hw hK
    obtain ⟨⟨old, he⟩, hit⟩ := st
    obtain ⟨xs, hq, hx⟩ := hg
    obtain ⟨its, rv, p, _⟩ := I.tuple hq
    obtain ⟨f0, f1, f2, f3, f4, f5⟩ := hf it (by simp)
    have hl := rv.length
    have D := Draws.tuple (prog := X.prog) (w := X.w) (A := X.A.in1) (I.ok.hd hc) it a n2 its.toArray
    have hn : its.toArray.size = i := by simp; omega
    exact wpAny_pyNext_enum_endD D he ⟨by rw [hn]; exact hit, p⟩ fun h' eb => ⟨rfl, I.turned (t' := s.toks) (fun b o hb q => eb b o hb q) f0 f1 f3 f4 f5⟩
  self := fun A i s Q E st h => let ⟨⟨_, he⟩, _⟩ := st; wpAny_pyIter_enum he h
def iEnumT (K : PySem.W.Frag) (ta : TA) : TI := fun σ H R => ta σ H fun vs H1 => ∃ a xs, vs = [.ref a] ∧ SqT K H1 a xs ∧ R (IteT K a) H1
theorem pi_enumT {X : Cx} {e : Expr} {ta : TA} {p pos tpos : Pos} {elts : List Expr} {kk : Nat} (hg : Gl X "enumerate") (hm : X.mg "enumerate" = none) (ha : PA X [e] ta) (hs : starEach [e] X.env = [(false, eval e X.env)]) :
    PI X (.Tuple elts kk tpos) (.Call (.Name "enumerate" p) [e] [] pos) (iEnumT X.K ta) := by
  refine ⟨fun pins s σ H R I h => ?_⟩
  refine Call_ (ld_blt I hg hm boot_enumerate (PyProof.Rows.callWith_type1 (thn (ha.run pos pins s σ H _ I h) fun us s1 ⟨vs, H1, I1, r1, q1⟩ => ?_) hs rfl))
  obtain ⟨a, xs, ex, hq, q⟩ := q1
  subst ex
  cases r1 with
  | cons r rr =>
    cases rr
    cases r
    obtain ⟨its, rv, pt, _⟩ := I1.tuple hq
    have la : a < s1.heap.objs.size := by obtain ⟨_, e, _⟩ := id pt; exact Heap.lt_size e
    refine call_enum1 (begins_tuple a its.toArray) (show s1.heap.IsTuple a its.toArray from pt) fun h' he hit hsz hk => wpAny_pyIter_enum he ?_
    have J : Inv X pins σ H1 { s1 with heap := h' } := I1.kept (t' := s1.toks) hk
    refine ⟨s1.heap.objs.size + 1, [s1.heap.objs.size + 1, s1.heap.objs.size], _, _, H1, rfl, J, turn_enumT a (s1.heap.objs.size + 1) s1.heap.objs.size (Nat.succ_ne_self _) (Nat.ne_of_lt la) (Nat.ne_of_gt (Nat.lt_succ_of_lt la)), ⟨⟨.none, he⟩, ⟨_, hit, rfl, rfl⟩⟩, fun b hb => ?_, q⟩
    have hle : s1.heap.objs.size ≤ b := by
      rcases List.mem_cons.mp hb with z | z
      · rw [z]; exact Nat.le_succ _
      · rw [List.mem_singleton.mp z]; exact Nat.le_refl _
    exact I1.fpOk hle (I1.hok.fresh hle)
/-- the list at a and the tuple at b, as they stand: xs, ys -/
def ItzM (K : PySem.W.Frag) (a b : Addr) (xs ys : List V) : It :=
  ⟨fun i H => SqL K H a xs ∧ SqT K H b ys ∧ i < xs.length ∧ i < ys.length, fun i H v H' => ∃ T x y, v = .ref T ∧ H T = none ∧ H' = upd H T (.tup [x, y]) ∧ xs[i]? = some x ∧ ys[i]? = some y,
    fun i H => SqL K H a xs ∧ SqT K H b ys ∧ i ≤ xs.length ∧ i ≤ ys.length ∧ (i = xs.length ∨ i = ys.length)⟩
theorem turn_zipM {P : Program} {w : World} {K : PySem.W.Frag} {elts : List Expr} {kk : Nat} {tpos : Pos} {a b z TI TO i1 i2 : Addr} {xs ys : List V} (S : ZipSep2 z TI TO i1 i2 [i1, a] [i2, b]) (n1 : a ≠ i1) (n2 : b ≠ i2) :
    Turn P w K (.Tuple elts kk tpos) (ItzM K a b xs ys) [z, TI, TO, i1, i2] z (fun i h => IsZip h z TI TO .none ∧ IsTupOf2 h TI (.ref i1) (.ref i2) ∧ (∃ x y, IsTupOf2 h TO x y) ∧ h.IsListIter i1 a i ∧ h.IsTupleIter i2 b i) where
  mem := List.mem_cons_self ..
  obj := fun i h st c hc => by
    obtain ⟨hz, hTI, ⟨x, y, hTO⟩, ⟨o1, e1, _, d1⟩, ⟨o2, e2, _, d2⟩⟩ := st
    have c5 : c = z ∨ c = TI ∨ c = TO ∨ c = i1 ∨ c = i2 := by simpa using hc
    rcases c5 with q | q | q | q | q <;> rw [q]
    · exact ⟨_, hz, fun v q => by cases q⟩
    · exact ⟨_, hTI, fun v q => by cases q⟩
    · exact ⟨_, hTO, fun v q => by cases q⟩
    · exact ⟨o1, e1, fun v q => by rw [d1] at q; cases q⟩
    · exact ⟨o2, e2, fun v q => by rw [d2] at q; cases q⟩
  keep := fun i h h' st k => by
    obtain ⟨hz, hTI, ⟨x, y, hTO⟩, k1, k2⟩ := st
    exact ⟨k z (by simp) _ hz, k TI (by simp) _ hTI, ⟨x, y, k TO (by simp) _ hTO⟩, k1.at fun o q => k i1 (by simp) o q, k2.at fun o q => k i2 (by simp) o q⟩
  item := by
    intro X hP hw hK hc i pins s σ H E I hf st hg
    subst hP hw hK
    obtain ⟨hz, hTI, ⟨x0, y0, hTO⟩, k1, k2⟩ := st
    obtain ⟨hq1, hq2, l1, l2⟩ := hg
    obtain ⟨its, rv, p, _⟩ := I.list hq1
    obtain ⟨its2, rv2, p2, _⟩ := I.tuple hq2
    obtain ⟨u, hu, ru⟩ := rv.get (List.getElem?_eq_getElem l1)
    obtain ⟨u2, hu2, ru2⟩ := rv2.get (List.getElem?_eq_getElem l2)
    have s1 : i < its.toArray.size := by have := rv.length; simp; omega
    have s2 : i < its2.toArray.size := by have := rv2.length; simp; omega
    have D1 := Draws.list (prog := X.prog) (w := X.w) (A := X.A.in1) (I.ok.hd hc) i1 a n1 its.toArray
    have D2 := Draws.tuple (prog := X.prog) (w := X.w) (A := X.A.in1) (I.ok.hd hc) i2 b n2 its2.toArray
    have zlt : z < s.heap.objs.size := Heap.lt_size hz
    refine wpAny_pyNext_zipD2_item S D1 D2 hz hTI hTO ⟨k1, p.isList⟩ ⟨k2, p2⟩ s1 s2 fun y1 y2 h' tk hy1 hy2 z' TO' t1 t2 hT _ hk => ?_
    have e1 : y1 = u := by
      have q : its.toArray[i]? = some u := by simpa using hu
      exact Option.some.inj ((show its.toArray[i]? = some y1 from hy1).symm.trans q)
    have e2 : y2 = u2 := by
      have q : its2.toArray[i]? = some u2 := by simpa using hu2
      exact Option.some.inj ((show its2.toArray[i]? = some y2 from hy2).symm.trans q)
    subst e1 e2
    refine ⟨_, rfl, wpAny_letOwnedTupleGo_zip (s := { s with heap := h', toks := tk }) z' fun h'' z'' sb => ?_⟩
    have hT2 : h''.get? s.heap.objs.size = some { cls := .type "tuple", data := .seq #[y1, y2] } := (sb.2 _ (Nat.ne_of_gt zlt)).trans hT
    have new : ObjOk X.prog X.w (upd H s.heap.objs.size (.tup [xs[i], ys[i]])) h'' s.heap.objs.size (.tup [xs[i], ys[i]]) := ⟨by show 2 ≤ sizeLine; decide, [y1, y2], .cons ru (.cons ru2 .nil), ⟨_, hT2, rfl, _, rfl⟩⟩
    have J : Inv X pins σ (upd H s.heap.objs.size (.tup [xs[i], ys[i]])) { s with heap := h'', toks := tk } :=
      I.turnedNew (ch := [z, TI, TO, i1, i2]) (fun c o hb q => (sb.2 c (fun e => hb (by simp [e]))).trans (hk c o (fun e => hb (by simp [e])) (fun e => hb (by simp [e])) (fun e => hb (by simp [e])) (fun e => hb (by simp [e])) q)) hf (Nat.le_refl _) new
    refine ⟨.ref s.heap.objs.size, _, J, rfl, ⟨_, _, _, rfl, I.hok.fresh (Nat.le_refl _), rfl, List.getElem?_eq_getElem l1, List.getElem?_eq_getElem l2⟩, ⟨z'', ?_, ⟨y1, y2, ?_⟩, ?_, ?_⟩, fun c hcm => ?_⟩
    · exact (sb.2 _ S.TIz).trans (hk _ _ S.TIz S.TITO S.TIi1 S.TIi2 hTI)
    · exact (sb.2 _ S.TOz).trans TO'
    · exact t1.1.at fun o q => (sb.2 _ (fun e => S.zf1 (by rw [← e]; simp))).trans q
    · exact t2.1.at fun o q => (sb.2 _ (fun e => S.zf2 (by rw [← e]; simp))).trans q
    · have hlt : c < s.heap.objs.size := by
        have c5 : c = z ∨ c = TI ∨ c = TO ∨ c = i1 ∨ c = i2 := by simpa using hcm
        rcases c5 with q | q | q | q | q <;> rw [q]
        · exact zlt
        · exact Heap.lt_size hTI
        · exact Heap.lt_size hTO
        · obtain ⟨_, q, _⟩ := k1; exact Heap.lt_size q
        · obtain ⟨_, q, _⟩ := k2; exact Heap.lt_size q
      rw [upd_ne (Nat.ne_of_lt hlt)]
      exact (hf c hcm).1
  done := by
    intro X hP hw hK hc i pins s σ H E I hf st hg
    subst hP hw hK
    obtain ⟨hz, hTI, ⟨x0, y0, hTO⟩, k1, k2⟩ := st
    obtain ⟨hq1, hq2, l1, l2, hend⟩ := hg
    obtain ⟨its, rv, p, _⟩ := I.list hq1
    obtain ⟨its2, rv2, p2, _⟩ := I.tuple hq2
    have s1 : its.toArray.size = xs.length := by have := rv.length; simp; omega
    have s2 : its2.toArray.size = ys.length := by have := rv2.length; simp; omega
    have D1 := Draws.list (prog := X.prog) (w := X.w) (A := X.A.in1) (I.ok.hd hc) i1 a n1 its.toArray
    have D2 := Draws.tuple (prog := X.prog) (w := X.w) (A := X.A.in1) (I.ok.hd hc) i2 b n2 its2.toArray
    exact wpAny_pyNext_zipD2_end S D1 D2 hz hTI hTO ⟨k1, p.isList⟩ ⟨k2, p2⟩ (by omega) (by omega) (by omega) fun h' tk hk => ⟨rfl, I.turnedL (t' := tk) (ch := [z, TI, TO, i1, i2]) (fun c o hb q =>
      hk c o (fun e => hb (by simp [e])) (fun e => hb (by simp [e])) (fun e => hb (by simp [e])) (fun e => hb (by simp [e])) q) hf⟩
  self := fun A i s Q E st h => wpAny_pyIter_zip st.1 h
def iZipM (K : PySem.W.Frag) (ta : TA) : TI := fun σ H R => ta σ H fun vs H1 => ∃ a b xs ys, vs = [.ref a, .ref b] ∧ SqL K H1 a xs ∧ SqT K H1 b ys ∧ R (ItzM K a b xs ys) H1
theorem pi_zipM {X : Cx} {e e2 : Expr} {ta : TA} {p pos tpos : Pos} {elts : List Expr} {kk : Nat} (hg : Gl X "zip") (hm : X.mg "zip" = none) (ha : PA X [e, e2] ta) (hs : starEach [e, e2] X.env = (false, eval e X.env) :: starEach [e2] X.env) (hpl : (backTo pos (starEach [e2] X.env)).any (·.1) = false) :
    PI X (.Tuple elts kk tpos) (.Call (.Name "zip" p) [e, e2] [] pos) (iZipM X.K ta) := by
  refine ⟨fun pins s σ H R I h => ?_⟩
  refine Call_ (ld_blt I hg hm PyProof.Rows.boot_zip (PyProof.Rows.callWith_type1 (thn (ha.run pos pins s σ H _ I h) fun us s1 ⟨vs, H1, I1, r1, q1⟩ => ?_) hs hpl))
  obtain ⟨a, b, xs, ys, ex, hq1, hq2, q⟩ := q1
  subst ex
  cases r1 with
  | cons r rr =>
    cases rr with
    | cons r' rr =>
      cases rr
      cases r
      cases r'
      obtain ⟨its, rv, p1, _⟩ := I1.list hq1
      obtain ⟨its2, rv2, p2, _⟩ := I1.tuple hq2
      have la : a < s1.heap.objs.size := p1.lt
      have lb : b < s1.heap.objs.size := by obtain ⟨_, e, _⟩ := id p2; exact Heap.lt_size e
      have S : ZipSep2 (s1.heap.objs.size + 4) (s1.heap.objs.size + 2) (s1.heap.objs.size + 3) s1.heap.objs.size (s1.heap.objs.size + 1) [s1.heap.objs.size, a] [s1.heap.objs.size + 1, b] :=
        zip_sep2 (N := s1.heap.objs.size) (fp1 := [a]) (fp2 := [b]) (fun c hc => by rw [List.mem_singleton.mp hc]; exact la) (fun c hc => by rw [List.mem_singleton.mp hc]; exact lb)
      refine zip_begins2 (begins_list a its.toArray) (begins_tuple b its2.toArray) p1.isList (show s1.heap.IsTuple b its2.toArray from p2) fun h' hz hTI hTO h1 h2 hsz hk => wpAny_pyIter_zip hz ?_
      have J : Inv X pins σ H1 { s1 with heap := h' } := I1.kept (t' := s1.toks) hk
      refine ⟨s1.heap.objs.size + 4, [s1.heap.objs.size + 4, s1.heap.objs.size + 2, s1.heap.objs.size + 3, s1.heap.objs.size, s1.heap.objs.size + 1], _, _, H1, rfl, J, turn_zipM S (Nat.ne_of_lt la) (Nat.ne_of_lt (Nat.lt_succ_of_lt lb)), ⟨hz, hTI, ⟨_, _, hTO⟩, ⟨_, h1, rfl, rfl⟩, ⟨_, h2, rfl, rfl⟩⟩, fun c hcm => ?_, q⟩
      have hle : s1.heap.objs.size ≤ c := by
        have c5 : c = s1.heap.objs.size + 4 ∨ c = s1.heap.objs.size + 2 ∨ c = s1.heap.objs.size + 3 ∨ c = s1.heap.objs.size ∨ c = s1.heap.objs.size + 1 := by simpa using hcm
        rcases c5 with q | q | q | q | q <;> rw [q]
        · exact Nat.le_add_right _ _
        · exact Nat.le_add_right _ _
        · exact Nat.le_add_right _ _
        · exact Nat.le_refl _
        · exact Nat.le_add_right _ _
      exact I1.fpOk hle (I1.hok.fresh hle)
end Bell
end

section
set_option maxRecDepth 100000
/-! enumerate, zip, ranges downwards, by Mini; tuple(range), list(range) -/
namespace Bell
open PySem PySem.Spec PyProof.Rows L2
section
variable {K : PySem.W.Frag} {base : Nat} {L : Nat → Nat} {φ0 : List Addr} {m0 : Hm} {H0 : Hp}
/-- a list that is walked: a temporary one, one of Mini's -/
structure LiveOk (K : PySem.W.Frag) (base : Nat) (L : Nat → Nat) (φ0 : List Addr) (H0 : Hp) (p : Addr) (nx : Nx) : Prop where
  at_ : ∀ φ m H i o, RelH K base L φ m H → Step φ0 H0 φ H → nx i m = some o → ∃ xs vs, SqL K H p vs ∧ RSs K φ H xs vs ∧ o = xs[i]?
theorem live_snap (R0 : RelH K base L φ0 m0 H0) {p : Addr} {xs : List D} {vs : List V} (h : H0 p = some (.lst vs)) (n : p ∉ φ0) (t : RSs K φ0 H0 xs vs) : LiveOk K base L φ0 H0 p (snap xs) :=
  ⟨fun φ m H i o R s e => ⟨xs, vs, SqL.of (s.keep p _ h n (fun _ z => by cases z)).1, t.step R0 s, (Option.some.inj e).symm⟩⟩
theorem live_live {p : Addr} {k : Nat} (h : φ0[k]? = some p) : LiveOk K base L φ0 H0 p (live k) := ⟨fun φ m H i o R s e => by
  obtain ⟨xs, e1, e2⟩ := live_at e
  obtain ⟨p', ho, h1, h2, h3⟩ := R.at e1
  have := (get_pre s.pre h).symm.trans h1
  cases this
  cases h3 with
  | lst t => exact ⟨xs, _, SqL.of h2, t, e2⟩⟩
theorem nxOf_ok {m : Hm} {d : D} {nx : Nx} {n : Nat} {H1 H00 : Hp} {φ1 : List Addr} (R : RelH K base L φ1 m H1) {v : V} (r : RV K φ1 H00 H1 d v) (e : nxOf m d = some (nx, n)) (nt : isTup d = false) :
    ∃ p vs, v = .ref p ∧ SqL K H1 p vs ∧ LiveOk K base L φ1 H1 p nx := by
  unfold nxOf at e
  split at e
  · rename_i zs
    cases e
    cases r with
    | st r => cases r
    | tmp h1 n1 f z w =>
      cases w with
      | lst t => exact ⟨_, _, rfl, SqL.of h1, live_snap R h1 n1 t⟩
  · cases nt
  · rename_i k
    split at e
    · rename_i zs hz
      cases e
      cases r with
      | st r =>
        cases r with
        | adr h =>
          obtain ⟨p', ho, h1, h2, h3⟩ := R.at hz
          rw [h] at h1
          cases h1
          cases h3 with
          | lst t => exact ⟨_, _, rfl, SqL.of h2, live_live h⟩
      | tmp h1 n1 f z w => cases w
    · cases e
  · cases e
theorem sq_one {H : Hp} {a : Addr} {x y : V} {T : Addr} (e : a = T) : SqT K (upd H T (.tup [x, y])) a [x, y] := by
  rw [e]
  exact .inl (.inl upd_same)
/-- a new pair -/
theorem pair_new {φ : List Addr} {m : Hm} {H : Hp} (R : RelH K base L φ m H) {T : Addr} (h : H T = none) {x y : V} {d e : D} (r : RS K φ H d x) (q : RS K φ H e y) :
    RelH K base L φ m (upd H T (.tup [x, y])) ∧ Step φ H φ (upd H T (.tup [x, y])) ∧ RS K φ (upd H T (.tup [x, y])) (.tup [d, e]) (.ref T) :=
  ⟨R.alloc h, .new h, .tup (.inl (.inl upd_same)) (.cons (r.step R (.new h)) (.cons (q.step R (.new h)) .nil))⟩
theorem walk_enum {p : Addr} {nx : Nx} (W : LiveOk K base L φ0 H0 p nx) : WalkOk K base L φ0 H0 (Ite K p) (nxEnum nx) := by
  refine ⟨fun φ m H i d R s e => ?_, fun φ m H i R s e => ?_⟩
  · unfold nxEnum at e
    cases q : nx i m with
    | none => rw [q] at e; cases e
    | some o =>
      rw [q] at e
      cases o with
      | none => cases e
      | some d0 =>
        cases e
        obtain ⟨xs, vs, h, t, e2⟩ := W.at_ φ m H i _ R s q
        obtain ⟨v, hv, r⟩ := t.get e2.symm
        refine ⟨⟨vs, v, h, hv⟩, fun x H3 y => ?_⟩
        obtain ⟨T, x', rfl, hT, rfl, k⟩ := y
        have := (k vs h).symm.trans hv
        cases this
        exact pair_new R hT (.int _) r
  · unfold nxEnum at e
    cases q : nx i m with
    | none => rw [q] at e; cases e
    | some o =>
      rw [q] at e
      cases o with
      | some d0 => cases e
      | none =>
        obtain ⟨xs, vs, h, t, e2⟩ := W.at_ φ m H i _ R s q
        exact ⟨vs, h, by rw [← t.length]; exact List.getElem?_eq_none_iff.mp e2.symm⟩
theorem enumL_get : ∀ (xs : List D) (j i : Nat), (enumL j xs)[i]? = (xs[i]?).map fun x => .tup [.int ((j + i : Nat) : Int), x]
  | [], j, i => by simp [enumL]
  | x :: xs, j, 0 => by simp [enumL]
  | x :: xs, j, i + 1 => by
    show (enumL (j + 1) xs)[i]? = _
    rw [enumL_get xs (j + 1) i]
    have : j + 1 + i = j + (i + 1) := by omega
    rw [this]
    simp
theorem enumL_len : ∀ (xs : List D) (j : Nat), (enumL j xs).length = xs.length
  | [], _ => rfl
  | x :: xs, j => by simp [enumL, enumL_len xs]
theorem zipL_get : ∀ (xs ys : List D) (i : Nat) (d : D), (zipL xs ys)[i]? = some d → ∃ x y, xs[i]? = some x ∧ ys[i]? = some y ∧ d = .tup [x, y]
  | [], _, i, d, h => by simp [zipL] at h
  | x :: xs, [], i, d, h => by simp [zipL] at h
  | x :: xs, y :: ys, 0, d, h => by simp [zipL] at h; exact ⟨x, y, rfl, rfl, h.symm⟩
  | x :: xs, y :: ys, i + 1, d, h => by
    obtain ⟨a, b, h1, h2, h3⟩ := zipL_get xs ys i d (by simpa [zipL] using h)
    exact ⟨a, b, by simpa using h1, by simpa using h2, h3⟩
theorem zipL_len : ∀ (xs ys : List D), (zipL xs ys).length = min xs.length ys.length
  | [], _ => by simp [zipL]
  | x :: xs, [] => by simp [zipL]
  | x :: xs, y :: ys => by simp [zipL, zipL_len xs ys]
theorem bnd_some {xs : List D} {i : Nat} {m : Hm} {d : D} (e : bnd xs i m = some (some d)) : xs[i]? = some d ∧ i < xs.length := by
  unfold bnd at e
  split at e
  · rename_i h; exact ⟨Option.some.inj e, h⟩
  · split at e
    · cases e
    · cases e
theorem bnd_none {xs : List D} {i : Nat} {m : Hm} (e : bnd xs i m = some none) : i = xs.length := by
  unfold bnd at e
  split at e
  · rename_i h
    rw [List.getElem?_eq_getElem h] at e
    cases e
  · split at e
    · rename_i h; exact h
    · cases e
theorem walk_enumT (R0 : RelH K base L φ0 m0 H0) {p : Addr} {xs : List D} {vs : List V} (h : SqT K H0 p vs) (t : RSs K φ0 H0 xs vs) : WalkOk K base L φ0 H0 (IteT K p) (bnd (enumL 0 xs)) := by
  refine ⟨fun φ m H i d R s e => ?_, fun φ m H i R s e => ?_⟩
  · obtain ⟨e1, _⟩ := bnd_some e
    rw [enumL_get] at e1
    cases q : xs[i]? with
    | none => rw [q] at e1; cases e1
    | some d0 =>
      rw [q] at e1
      cases e1
      have h' : SqT K H p vs := SqT.step R0 s h
      obtain ⟨v, hv, r⟩ := (t.step R0 s).get q
      refine ⟨⟨vs, v, h', hv⟩, fun x H3 y => ?_⟩
      obtain ⟨T, x', rfl, hT, rfl, k⟩ := y
      have := (k vs h').symm.trans hv
      cases this
      rw [Nat.zero_add]
      exact pair_new R hT (.int _) r
  · have := bnd_none e
    rw [enumL_len] at this
    exact ⟨vs, SqT.step R0 s h, by rw [← t.length, this]⟩
theorem walk_zipT (R0 : RelH K base L φ0 m0 H0) {p q : Addr} {xs ys : List D} {vs ws : List V} (h : SqT K H0 p vs) (t : RSs K φ0 H0 xs vs) (h2 : SqT K H0 q ws) (t2 : RSs K φ0 H0 ys ws) : WalkOk K base L φ0 H0 (RZ.ItzT K p q) (snap (zipL xs ys)) := by
  refine ⟨fun φ m H i d R s e => ?_, fun φ m H i R s e => ?_⟩
  · obtain ⟨x, y, e1, e2, rfl⟩ := zipL_get xs ys i d (Option.some.inj e)
    have h' : SqT K H p vs := SqT.step R0 s h
    have h2' : SqT K H q ws := SqT.step R0 s h2
    obtain ⟨v, hv, r⟩ := (t.step R0 s).get e1
    obtain ⟨w, hw, r2⟩ := (t2.step R0 s).get e2
    refine ⟨⟨vs, ws, v, w, h', h2', hv, hw⟩, fun x H3 y => ?_⟩
    obtain ⟨T, x', y', rfl, hT, rfl, k, k2⟩ := y
    have := (k vs h').symm.trans hv
    cases this
    have := (k2 ws h2').symm.trans hw
    cases this
    exact pair_new R hT r r2
  · have e1 : (zipL xs ys).length ≤ i := List.getElem?_eq_none_iff.mp (Option.some.inj e)
    rw [zipL_len] at e1
    exact ⟨vs, ws, SqT.step R0 s h, SqT.step R0 s h2, by rw [← t.length, ← t2.length]; omega⟩
theorem walk_zipM (R0 : RelH K base L φ0 m0 H0) {p q : Addr} {xs ys : List D} {vs ws : List V} (h : H0 p = some (.lst vs)) (n : p ∉ φ0) (t : RSs K φ0 H0 xs vs) (h2 : SqT K H0 q ws) (t2 : RSs K φ0 H0 ys ws) : WalkOk K base L φ0 H0 (ItzM K p q vs ws) (bnd (zipL xs ys)) := by
  refine ⟨fun φ m H i d R s e => ?_, fun φ m H i R s e => ?_⟩
  · obtain ⟨e0, _⟩ := bnd_some e
    obtain ⟨x, y, e1, e2, rfl⟩ := zipL_get xs ys i d e0
    have h' : SqL K H p vs := SqL.of (s.keep p _ h n (fun _ z => by cases z)).1
    have h2' : SqT K H q ws := SqT.step R0 s h2
    obtain ⟨v, hv, r⟩ := (t.step R0 s).get e1
    obtain ⟨w, hw, r2⟩ := (t2.step R0 s).get e2
    refine ⟨⟨h', h2', (List.getElem?_eq_some_iff.mp hv).1, (List.getElem?_eq_some_iff.mp hw).1⟩, fun x H3 y => ?_⟩
    obtain ⟨T, x', y', rfl, hT, rfl, k, k2⟩ := y
    have := k.symm.trans hv
    cases this
    have := k2.symm.trans hw
    cases this
    exact pair_new R hT r r2
  · have e1 := bnd_none e
    rw [zipL_len] at e1
    have l1 := t.length
    have l2 := t2.length
    exact ⟨SqL.of (s.keep p _ h n (fun _ z => by cases z)).1, SqT.step R0 s h2, by omega, by omega, by omega⟩
theorem walk_zip {p q : Addr} {nx nx2 : Nx} (W : LiveOk K base L φ0 H0 p nx) (W2 : LiveOk K base L φ0 H0 q nx2) : WalkOk K base L φ0 H0 (Itz K p q) (nxZip nx nx2) := by
  refine ⟨fun φ m H i d R s e => ?_, fun φ m H i R s e => ?_⟩
  · unfold nxZip at e
    split at e
    · rename_i a b e1 e2
      cases e
      obtain ⟨xs, vs, h, t, k1⟩ := W.at_ φ m H i _ R s e1
      obtain ⟨ys, ws, h2, t2, k2⟩ := W2.at_ φ m H i _ R s e2
      obtain ⟨v, hv, r⟩ := t.get k1.symm
      obtain ⟨w, hw, r2⟩ := t2.get k2.symm
      refine ⟨⟨vs, ws, v, w, h, h2, hv, hw⟩, fun x H3 y => ?_⟩
      obtain ⟨T, x', y', rfl, hT, rfl, k, k2⟩ := y
      have := (k vs h).symm.trans hv
      cases this
      have := (k2 ws h2).symm.trans hw
      cases this
      exact pair_new R hT r r2
    · cases e
    · cases e
    · cases e
  · unfold nxZip at e
    split at e
    · cases e
    · rename_i e1 e2
      obtain ⟨xs, vs, h, t, k1⟩ := W.at_ φ m H i _ R s e1
      obtain ⟨ys, ws, h2, t2, k2⟩ := W2.at_ φ m H i _ R s e2
      exact ⟨vs, ws, h, h2, .inl (by rw [← t.length]; exact List.getElem?_eq_none_iff.mp k1.symm)⟩
    · rename_i e1 e2
      obtain ⟨xs, vs, h, t, k1⟩ := W.at_ φ m H i _ R s e1
      obtain ⟨ys, ws, h2, t2, k2⟩ := W2.at_ φ m H i _ R s e2
      exact ⟨vs, ws, h, h2, .inr (by rw [← t2.length]; exact List.getElem?_eq_none_iff.mp k2.symm)⟩
    · cases e
theorem rangeS_get (c : Int) : ∀ (n : Nat) (lo : Int) (i : Nat), (rangeS lo c n)[i]? = if i < n then some (.int (lo + i * c)) else none
  | 0, lo, i => by simp [rangeS]
  | n + 1, lo, 0 => by simp [rangeS]
  | n + 1, lo, i + 1 => by
    show (rangeS (lo + c) c n)[i]? = _
    rw [rangeS_get c n (lo + c) i]
    by_cases h : i < n
    · rw [if_pos h, if_pos (by omega)]
      congr 2
      have : ((i + 1 : Nat) : Int) * c = i * c + c := by
        rw [Int.natCast_add, Int.add_mul]
        simp
      omega
    · rw [if_neg h, if_neg (by omega)]
theorem rangeS_len (c : Int) : ∀ (n : Nat) (lo : Int), (rangeS lo c n).length = n
  | 0, _ => rfl
  | n + 1, lo => by simp [rangeS, rangeS_len c n]
theorem walk_rngS {lo c : Int} {n : Nat} : WalkOk K base L φ0 H0 (Itc lo c n) (snap (rangeS lo c n)) := by
  refine ⟨fun φ m H i d R s e => ?_, fun φ m H i R s e => ?_⟩
  · have e : (rangeS lo c n)[i]? = some d := Option.some.inj e
    rw [rangeS_get] at e
    split at e
    · rename_i h
      cases e
      refine ⟨h, fun x H3 y => ?_⟩
      obtain ⟨rfl, rfl⟩ := y
      exact ⟨R, .refl _ _, .int _⟩
    · cases e
  · have e : (rangeS lo c n)[i]? = none := Option.some.inj e
    rw [rangeS_get] at e
    split at e
    · cases e
    · rename_i h
      show n ≤ i
      omega
end
section
variable {X : Cx} {C : Cf} {a b c : Expr} {Ea Eb Ec : E} {pos p tpos : Pos} {elts : List Expr} {kk : Nat} {tg : Expr}
theorem ti_enum (hg : Gl X "enumerate") (hm : X.mg "enumerate" = none) (ha : PA X [a] (TAv X.K C Ea)) (hs : starEach [a] X.env = [(false, eval a X.env)]) (hl : IsArgs Ea 1) : PI X (.Tuple elts kk tpos) (.Call (.Name "enumerate" p) [a] [] pos) (TIv X.K C .enum Ea) := by
  refine ((pi_enum hg hm ha hs).or (pi_enumT hg hm ha hs)).mono fun σ H Q h => ?_
  obtain ⟨L, φ, ρ, m, xs, m1, nx, n, R, hE, e, hsrc, q⟩ := h
  have l := args_len hl e
  match xs, l, hsrc with
  | [x], _, hsrc =>
    have hsrc : srcEnum m1 x = some (nx, n) := hsrc
    by_cases ht : isTup x = true
    · cases x <;> first | (cases ht; done) | skip
      rename_i zs
      cases hsrc
      refine .inr ⟨L, φ, ρ, m, _, m1, R, hE, e, fun φ1 vs H1 R1 s1 r1 => ?_⟩
      obtain ⟨v, rfl, rv⟩ := r1.one
      obtain ⟨p, vs, rfl, h1, t1⟩ := rv.tup
      exact ⟨p, vs, rfl, h1, q φ1 H1 _ R1 s1 (walk_enumT R1 h1 t1)⟩
    · have ht : isTup x = false := by simpa using ht
      have hsrc : (nxOf m1 x).map (fun p => (nxEnum p.1, p.2)) = some (nx, n) := by
        cases x <;> first | (cases ht; done) | exact hsrc
      cases hn : nxOf m1 x with
      | none => rw [hn] at hsrc; cases hsrc
      | some z =>
        obtain ⟨nx0, n0⟩ := z
        rw [hn] at hsrc
        cases hsrc
        refine .inl ⟨L, φ, ρ, m, _, m1, R, hE, e, fun φ1 vs H1 R1 s1 r1 => ?_⟩
        obtain ⟨v, rfl, rv⟩ := r1.one
        obtain ⟨p, vs, rfl, h1, W⟩ := nxOf_ok R1 rv hn ht
        exact ⟨p, vs, rfl, h1, q φ1 H1 _ R1 s1 (walk_enum W)⟩
theorem ti_zip (hg : Gl X "zip") (hm : X.mg "zip" = none) (ha : PA X [a, b] (TAv X.K C Ea)) (hs : starEach [a, b] X.env = (false, eval a X.env) :: starEach [b] X.env) (hpl : (backTo pos (starEach [b] X.env)).any (·.1) = false) (hl : IsArgs Ea 2) :
    PI X (.Tuple elts kk tpos) (.Call (.Name "zip" p) [a, b] [] pos) (TIv X.K C .zip Ea) := by
  refine ((RZ.pi_zipA hg hm ha hs hpl).or (pi_zipM hg hm ha hs hpl)).mono fun σ H Q h => ?_
  obtain ⟨L, φ, ρ, m, xs, m1, nx, n, R, hE, e, hsrc, q⟩ := h
  have l := args_len hl e
  match xs, l, hsrc with
  | [x, y], _, hsrc =>
    have hsrc : srcZip m1 x y = some (nx, n) := hsrc
    unfold srcZip at hsrc
    split at hsrc
    · rename_i xs ys
      cases hsrc
      refine .inl ⟨L, φ, ρ, m, _, m1, R, hE, e, fun φ1 vs H1 R1 s1 r1 => ?_⟩
      obtain ⟨v, w, rfl, rv, rw'⟩ := r1.two
      obtain ⟨p, vs, rfl, h1, t1⟩ := rv.tup
      obtain ⟨p2, ws, rfl, h2, t2⟩ := rw'.tup
      exact ⟨p, p2, vs, ws, rfl, .inr ⟨h1, h2, q φ1 H1 _ R1 s1 (walk_zipT R1 h1 t1 h2 t2)⟩⟩
    · rename_i xs ys
      cases hsrc
      refine .inr ⟨L, φ, ρ, m, _, m1, R, hE, e, fun φ1 vs H1 R1 s1 r1 => ?_⟩
      obtain ⟨v, w, rfl, rv, rw'⟩ := r1.two
      obtain ⟨p2, ws, rfl, h2, t2⟩ := rw'.tup
      cases rv with
      | st r => cases r
      | tmp h1 n1 f z w =>
        cases w with
        | lst t => exact ⟨_, p2, _, ws, rfl, SqL.of h1, h2, q φ1 H1 _ R1 s1 (walk_zipM R1 h1 n1 t h2 t2)⟩
    · split at hsrc
      · cases hsrc
      · rename_i hnt
        simp only [Bool.or_eq_true, not_or, Bool.not_eq_true] at hnt
        cases h1 : nxOf m1 x with
        | none => rw [h1] at hsrc; cases hsrc
        | some z1 =>
          cases h2 : nxOf m1 y with
          | none => rw [h1, h2] at hsrc; cases hsrc
          | some z2 =>
            obtain ⟨nx1, n1⟩ := z1
            obtain ⟨nx2, n2⟩ := z2
            rw [h1, h2] at hsrc
            cases hsrc
            refine .inl ⟨L, φ, ρ, m, _, m1, R, hE, e, fun φ1 vs H1 R1 s1 r1 => ?_⟩
            obtain ⟨v, w, rfl, rv, rw'⟩ := r1.two
            obtain ⟨p, vs, rfl, g1, W1⟩ := nxOf_ok R1 rv h1 hnt.1
            obtain ⟨p2, ws, rfl, g2, W2⟩ := nxOf_ok R1 rw' h2 hnt.2
            exact ⟨p, p2, vs, ws, rfl, .inl ⟨g1, g2, q φ1 H1 _ R1 s1 (walk_zip W1 W2)⟩⟩
theorem ti_rng3 (hg : Gl X "range") (hm : X.mg "range" = none) (ha : PA X [a, b, c] (TAv X.K C Ea)) (h1 : starEach [a, b, c] X.env = (false, eval a X.env) :: starEach [b, c] X.env) (h2 : (backTo pos (starEach [b, c] X.env)).any (·.1) = false) (hl : IsArgs Ea 3) : PI X tg (.Call (.Name "range" p) [a, b, c] [] pos) (TIv X.K C .rng Ea) := by
  refine (pi_range3 hg hm ha h1 h2).mono fun σ H Q h => ?_
  obtain ⟨L, φ, ρ, m, xs, m1, nx, n, R, hE, e, hs, q⟩ := h
  have l := args_len hl e
  refine ⟨L, φ, ρ, m, xs, m1, R, hE, e, fun φ1 vs H1 R1 s1 r1 => ?_⟩
  match xs, l, hs, r1 with
  | [x, y, z], _, hs, r1 =>
    have hs : (rangeOf [x, y, z]).map (fun xs => (snap xs, xs.length)) = some (nx, n) := hs
    cases r1 with
    | cons a1 b1 c1 t1 =>
      obtain ⟨v, w, rfl, rv, rw'⟩ := t1.two
      cases x <;> first | (simp [rangeOf] at hs; done) | skip
      rename_i i
      cases y <;> first | (simp [rangeOf] at hs; done) | skip
      rename_i j
      cases z <;> first | (simp [rangeOf] at hs; done) | skip
      rename_i k
      have := a1.int; subst this
      have := rv.int; subst this
      have := rw'.int; subst this
      unfold rangeOf at hs
      simp only at hs
      split at hs
      · rename_i c0
        obtain ⟨c1, c2, c3, c4, rfl⟩ := c0
        cases hs
        exact ⟨_, _, -1, _, rfl, .neg c1 c2 c3 c4, q φ1 H1 _ R1 s1 walk_rngS⟩
      · cases hs
theorem rss_rg {K : PySem.W.Frag} {φ : List Addr} {H : Hp} : ∀ (n : Nat) (lo : Int), RSs K φ H (rangeL lo n) ((List.range n).map fun i => V.int (lo + (i : Nat)))
  | 0, _ => .nil
  | n + 1, lo => by
    have ih := rss_rg (K := K) (φ := φ) (H := H) n (lo + 1)
    rw [List.range_succ_eq_map, List.map_cons, List.map_map]
    have e : (fun i : Nat => V.int (lo + (i : Int))) ∘ Nat.succ = fun i : Nat => V.int (lo + 1 + (i : Int)) := by
      funext i
      show V.int (lo + ((i + 1 : Nat) : Int)) = _
      congr 1
      omega
    rw [e]
    have z : lo + ((0 : Nat) : Int) = lo := by omega
    rw [z]
    exact .cons (.int _) ih
/-- the ends of a range that is written out -/
def rgEnds : List D → Option (Int × Int)
  | [.int hi] => some (0, hi)
  | [.int lo, .int hi] => some (lo, hi)
  | _ => none
theorem rg_inv {xs : List D} {zs : List D} {i j : Int} (h : rangeOf xs = some zs) (e : rgEnds xs = some (i, j)) (hb : isBig zs.length = true) : RgOk i j ∧ zs = rangeL i (j - i).toNat := by
  unfold rgEnds at e
  split at e
  · rename_i hi
    cases e
    unfold rangeOf at h
    simp only at h
    split at h
    · rename_i c
      cases h
      have hb := isBig_le hb
      rw [rangeL_len, sizeLine_eq] at hb
      exact ⟨⟨by omega, by omega, c.1, c.2, by omega⟩, by rw [Int.sub_zero]⟩
    · cases h
  · rename_i lo hi
    cases e
    unfold rangeOf at h
    simp only at h
    split at h
    · rename_i c
      cases h
      have hb := isBig_le hb
      rw [rangeL_len, sizeLine_eq] at hb
      exact ⟨⟨c.1, c.2.1, c.2.2.1, c.2.2.2, by omega⟩, rfl⟩
    · cases h
  · cases e
/-- what a written-out range asks: one or two ends -/
theorem te_rgOf {q : Bi} {te : L2.St → Hp → (Int → Int → Hp → Prop) → Prop} {mk : List V → HO} {mkD : List D → D}
    (hq : ∀ xs m d, biD q xs m = some d → ∃ zs, rangeOf xs = some zs ∧ isBig zs.length = true ∧ d = mkD zs)
    (hrv : ∀ {K : PySem.W.Frag} {L : Nat → Nat} {base : Nat} {φ : List Addr} {m : Hm} {H : Hp} {H0 : Hp} {p : Addr} {zs : List D} {vs : List V}, RelH K base L φ m H → H p = none → (∀ p, H p = none → H0 p = none) → RSs K φ H zs vs → RV K φ H0 (upd H p (mk vs)) (mkD zs) (.ref p))
    (hte : ∀ σ H (Q : Int → Int → Hp → Prop), (∃ L φ ρ m xs m1, RelH X.K C.base L φ m H ∧ RelE X.K φ H ρ σ ∧ ev C Ea ρ m = .ok (.tup xs) m1 ∧ (∃ zs, rangeOf xs = some zs) ∧ (∀ i j, rgEnds xs = some (i, j) → ∀ φ' H', RelH X.K C.base L φ' m1 H' → Step φ H φ' H' → Q i j H')) → te σ H Q)
    (hends : ∀ ρ m xs m1, ev C Ea ρ m = .ok (.tup xs) m1 → (∃ zs, rangeOf xs = some zs) → ∃ i j, rgEnds xs = some (i, j)) :
    ∀ σ H Q, TEv X.K C (.bi q Ea) σ H Q → te σ H fun a b H1 => RgOk a b ∧ ∀ p, H1 p = none → Q (.ref p) (upd H1 p (mk (rgV a b))) := by
  intro σ H Q h
  obtain ⟨L, φ, ρ, m, d, m', R, hE, e, k⟩ := h
  obtain ⟨x, m1, e1, e⟩ := bind_inv e
  obtain ⟨xs, rfl, e⟩ := withArgs_inv e
  obtain ⟨e2, rfl⟩ := okD_inv e
  obtain ⟨zs, r1, r2, rfl⟩ := hq _ _ _ e2
  obtain ⟨i, j, hij⟩ := hends ρ m xs _ e1 ⟨zs, r1⟩
  obtain ⟨g1, g2⟩ := rg_inv r1 hij r2
  refine hte σ H _ ⟨L, φ, ρ, m, xs, _, R, hE, e1, ⟨zs, r1⟩, fun i' j' hij' φ1 H1 R1 s1 => ?_⟩
  rw [hij] at hij'
  cases hij'
  refine ⟨g1, fun p hp => ?_⟩
  subst g2
  exact k φ1 _ _ (R1.alloc hp) (s1.trans (.new hp)) (hrv R1 hp (fun p h => s1.free h) (rss_rg _ _))
theorem tupR_q (xs : List D) (m : Hm) (d : D) (h : biD .tupR xs m = some d) : ∃ zs, rangeOf xs = some zs ∧ isBig zs.length = true ∧ d = .tup zs := by
  have h : ((rangeOf xs).bind fun xs => if isBig xs.length then some (.tup xs) else none) = some d := h
  cases q : rangeOf xs with
  | none => rw [q] at h; cases h
  | some zs =>
    rw [q] at h
    replace h : (if isBig zs.length then some (D.tup zs) else none) = some d := h
    split at h
    · rename_i c; cases h; exact ⟨zs, rfl, c, rfl⟩
    · cases h
theorem listR_q (xs : List D) (m : Hm) (d : D) (h : biD .listR xs m = some d) : ∃ zs, rangeOf xs = some zs ∧ isBig zs.length = true ∧ d = .lst zs := by
  have h : ((rangeOf xs).bind fun xs => if isBig xs.length then some (.lst xs) else none) = some d := h
  cases q : rangeOf xs with
  | none => rw [q] at h; cases h
  | some zs =>
    rw [q] at h
    replace h : (if isBig zs.length then some (D.lst zs) else none) = some d := h
    split at h
    · rename_i c; cases h; exact ⟨zs, rfl, c, rfl⟩
    · cases h
theorem rv_tupN {K : PySem.W.Frag} {L : Nat → Nat} {base : Nat} {φ : List Addr} {m : Hm} {H H0 : Hp} {p : Addr} {zs : List D} {vs : List V} (R : RelH K base L φ m H) (h : H p = none) (_ : ∀ p, H p = none → H0 p = none) (t : RSs K φ H zs vs) : RV K φ H0 (upd H p (.tup vs)) (.tup zs) (.ref p) :=
  .st (.tup (.inl (.inl upd_same)) (t.step R (.new h)))
theorem rv_lstN {K : PySem.W.Frag} {L : Nat → Nat} {base : Nat} {φ : List Addr} {m : Hm} {H H0 : Hp} {p : Addr} {zs : List D} {vs : List V} (R : RelH K base L φ m H) (h : H p = none) (f : ∀ p, H p = none → H0 p = none) (t : RSs K φ H zs vs) : RV K φ H0 (upd H p (.lst vs)) (.lst zs) (.ref p) :=
  .tmp upd_same (fun z => by obtain ⟨o, e, _⟩ := R.kind z; rw [h] at e; cases e) (f p h) (fun _ z => by cases z) (.lst (t.step R (.new h)))
theorem ends1 {ρ : Env} {m m1 : Hm} {xs : List D} (h : ev C (.cons Ea .nil) ρ m = .ok (.tup xs) m1) (hz : ∃ zs, rangeOf xs = some zs) : ∃ i, xs = [.int i] ∧ ev C Ea ρ m = .ok (.int i) m1 := by
  obtain ⟨x, m2, e1, e⟩ := bind_inv h
  obtain ⟨y, m3, e2, e⟩ := bind_inv e
  cases e2
  obtain ⟨ys, e3, e⟩ := withArgs_inv e
  cases e3
  cases e
  obtain ⟨zs, hz⟩ := hz
  cases x <;> first | (simp [rangeOf] at hz; done) | exact ⟨_, rfl, e1⟩
theorem ends2 {ρ : Env} {m m1 : Hm} {xs : List D} (h : ev C (.cons Ea (.cons Eb .nil)) ρ m = .ok (.tup xs) m1) (hz : ∃ zs, rangeOf xs = some zs) : ∃ i j m2, xs = [.int i, .int j] ∧ ev C Ea ρ m = .ok (.int i) m2 ∧ ev C Eb ρ m2 = .ok (.int j) m1 := by
  obtain ⟨x, m2, e1, e⟩ := bind_inv h
  obtain ⟨y, m3, e2, e⟩ := bind_inv e
  obtain ⟨ys, rfl, e⟩ := withArgs_inv e
  cases e
  obtain ⟨x2, m4, e3, e4⟩ := bind_inv e2
  obtain ⟨y2, m5, e5, e6⟩ := bind_inv e4
  cases e5
  obtain ⟨ys2, e7, e8⟩ := withArgs_inv e6
  cases e7
  cases e8
  obtain ⟨zs, hz⟩ := hz
  cases x <;> first | (simp [rangeOf] at hz; done) | skip
  cases x2 <;> first | (simp [rangeOf] at hz; done) | exact ⟨_, _, _, rfl, e1, e3⟩
def HTe (X : Cx) (C : Cf) (Ea : E) (te : L2.St → Hp → (Int → Int → Hp → Prop) → Prop) : Prop := ∀ σ H (Q : Int → Int → Hp → Prop), (∃ L φ ρ m xs m1, RelH X.K C.base L φ m H ∧ RelE X.K φ H ρ σ ∧ ev C Ea ρ m = .ok (.tup xs) m1 ∧ (∃ zs, rangeOf xs = some zs) ∧ (∀ i j, rgEnds xs = some (i, j) → ∀ φ' H', RelH X.K C.base L φ' m1 H' → Step φ H φ' H' → Q i j H')) → te σ H Q
theorem rg1_of : HTe X C (.cons Ea .nil) (tRg1 (TEv X.K C Ea)) := by
  intro σ H Q h
  obtain ⟨L, φ, ρ, m, xs, m1, R, hE, e, hz, k⟩ := h
  obtain ⟨n, rfl, e1⟩ := ends1 e hz
  exact ⟨L, φ, ρ, m, _, m1, R, hE, e1, fun φ1 v H1 R1 s1 r1 => ⟨n, r1.int, k 0 n rfl φ1 H1 R1 s1⟩⟩
theorem rg2_of : HTe X C (.cons Ea (.cons Eb .nil)) (tRg2 (TEv X.K C Ea) (TEv X.K C Eb)) := by
  intro σ H Q h
  obtain ⟨L, φ, ρ, m, xs, m1, R, hE, e, hz, k⟩ := h
  obtain ⟨i, j, m2, rfl, e1, e2⟩ := ends2 e hz
  exact ⟨L, φ, ρ, m, _, m2, R, hE, e1, fun φ1 v H1 R1 s1 r1 => ⟨L, φ1, ρ, m2, _, m1, R1, hE.step R s1, e2, fun φ2 w H2 R2 s2 r2 => ⟨i, j, r1.int, r2.int, k i j rfl φ2 H2 R2 (s1.trans s2)⟩⟩⟩
/-- tuple(range(..)) -/
theorem te_tupR {es : List Expr} {te : L2.St → Hp → (Int → Int → Hp → Prop) → Prop} {p p2 pos2 : Pos} (hc : X.calm = true) (hg : Gl X "tuple") (hm : X.mg "tuple" = none) (he : PRg X (.Call (.Name "range" p2) es [] pos2) te) (hte : HTe X C Ea te)
    (hends : ∀ ρ m xs m1, ev C Ea ρ m = .ok (.tup xs) m1 → (∃ zs, rangeOf xs = some zs) → ∃ i j, rgEnds xs = some (i, j)) :
    PE X (.Call (.Name "tuple" p) [.Call (.Name "range" p2) es [] pos2] [] pos) (TEv X.K C (.bi .tupR Ea)) :=
  (pe_tupRg hc hg hm he rfl).mono (te_rgOf (mk := .tup) tupR_q rv_tupN hte hends)
/-- list(range(..)) -/
theorem te_lstR {es : List Expr} {te : L2.St → Hp → (Int → Int → Hp → Prop) → Prop} {p p2 pos2 : Pos} (hc : X.calm = true) (hg : Gl X "list") (hm : X.mg "list" = none) (he : PRg X (.Call (.Name "range" p2) es [] pos2) te) (hte : HTe X C Ea te)
    (hends : ∀ ρ m xs m1, ev C Ea ρ m = .ok (.tup xs) m1 → (∃ zs, rangeOf xs = some zs) → ∃ i j, rgEnds xs = some (i, j)) :
    PE X (.Call (.Name "list" p) [.Call (.Name "range" p2) es [] pos2] [] pos) (TEv X.K C (.bi .listR Ea)) :=
  (pe_listRg hc hg hm he rfl).mono (te_rgOf (mk := .lst) listR_q rv_lstN hte hends)
end
end Bell
end

section
set_option maxRecDepth 100000
set_option maxHeartbeats 2000000
/-! a lambda is made: what is said of the heap afterwards -/
namespace Bell
open PySem PySem.Spec PyProof.Rows L2 LamX
section
variable {X : Cx} {pins : List (Addr × Obj)} {σ : L2.St} {H : Hp} {s : Shared}
/-- the function object at f, of the code object c1 -/
abbrev lamObj (X : Cx) (params : Arguments) (body : Expr) (scope : Scope) (pm ctv : Value) (c1 : Addr) : Obj := PySem.W.kla_obj "<lambda>" (X.env.qual ++ "<lambda>") params body scope (cloFrom X.env.cells scope.names []) pm c1 ctv
theorem lam_make3 {T : List (Addr × Str)} {c P : Addr} {params : Arguments} {body : Expr} {scope : Scope} {pos : Pos} {E : Value → Shared → Prop} {Q : Value → Shared → Prop} (I : Inv X pins σ H s) (TB : TabB X.base X.mg c P) (hcode : X.env.code = .ref c)
    (hm : (P, X.env.qual ++ "<lambda>") ∈ T) (hu : ∀ p ∈ T, p.1 = P → p.2 = X.env.qual ++ "<lambda>") (hT : Tabs T H) (hdef : defaultsOf params X.env = ([], [])) (hfree : ∀ y ∈ scope.names, y.2 = .free → ∃ c, X.env.cells.lookup y.1 = some c)
    (h : ∀ (f c1 : Addr) (pm ctv : Value) (H1 : Hp) (s1 : Shared), Inv X pins σ H1 s1 → ExtN H H1 → Tabs T H1 → (∀ b, H1 b = none → H b = none) → s1.heap.get? f = some (lamObj X params body scope pm ctv c1) → H1 f = none → f ∉ frs X.stack → H1 c1 = some (CodeO c1 (X.env.qual ++ "<lambda>")) →
      (∀ b o, b ≠ P → s.heap.get? b = some o → s1.heap.get? b = some o) → s.heap.objs.size ≤ f → Q (.ref f) s1) :
    wpAny (model X.prog X.w) X.A (eval (.Lambda params body scope pos) X.env) Q E s := by
  obtain ⟨ps, hP, tr, am⟩ := hT _ hm
  refine PySem.W.kla_eval hdef ?_
  have bt : s.heap.BuiltinsAt X.mg P := TB.bm.keeps I.bk
  have oP : s.heap.get? P = some { cls := .none, data := .fields ps } := I.hok P _ hP
  have nf : ∀ f, s.heap.objs.size ≤ f → f ∉ frs X.stack := fun f hf z => by
    rcases List.mem_cons.mp (I.stkSub _ z) with e | e
    · have lt := I.lt
      rw [← e] at lt
      exact absurd (Nat.lt_of_lt_of_le lt hf) (Nat.lt_irrefl _)
    · exact I.nofs hf e
  cases hc : codeAmong pos ps.toList with
  | some cv =>
    obtain ⟨c1, e, hco⟩ := am pos cv hc
    subst e
    refine PySem.W.kla_makeFunctionHit (mg := X.mg) (c := c) (P := P) (ps := ps) (closure_ok hfree) I.ok.glob (I.mod.glob.keeps I.bk) hcode (TB.code.keeps I.bk) oP tr hc bt fun ctv h1 tk hx hsz => ?_
    refine h h1.objs.size c1 ((X.mg "__name__").getD .none) ctv H { s with heap := h1.push (lamObj X params body scope ((X.mg "__name__").getD .none) ctv c1), toks := tk } (I.kept fun b o e => Heap.get?_push_of_some _ (hx b o e)) (ExtN.refl H) hT (fun _ z => z) (Heap.get?_push_size _ rfl) (I.hok.fresh hsz) (nf _ hsz) hco (fun b o _ e => Heap.get?_push_of_some _ (hx b o e)) hsz
  | none =>
    refine PySem.W.kla_makeFunction (mg := X.mg) (c := c) (P := P) (ps := ps) (closure_ok hfree) I.ok.glob (I.mod.glob.keeps I.bk) hcode (TB.code.keeps I.bk) oP tr hc TB.gP bt fun c1 ctv h1 tk hx hge hlt hrec htb => ?_
    obtain ⟨c2, oc, vs, t, e2, hoc, hd, hv⟩ := hrec
    cases e2
    have hsz : s.heap.objs.size ≤ h1.objs.size := Nat.le_trans hge (Nat.le_of_lt hlt)
    have nC : H c1 = none := I.hok.fresh hge
    have J := inv_table (t' := tk) (more := #[rawInt pos.line, rawInt pos.col, .ref c1]) (h' := h1.push (lamObj X params body scope ((X.mg "__name__").getD .none) ctv c1)) I hP (fun b o hb e => Heap.get?_push_of_some _ (hx b o hb e)) (Heap.get?_push_of_some _ htb) hge ⟨oc, vs, t, Heap.get?_push_of_some _ hoc, hd, hv⟩
    have hE : ExtN H (upd (upd H P (.tbl (ps ++ #[rawInt pos.line, rawInt pos.col, .ref c1]))) c1 (CodeO c1 (X.env.qual ++ "<lambda>"))) := fun b o e n => by
      have b1 : b ≠ c1 := ne_of_none e nC
      have b2 : b ≠ P := fun z => n ps (Option.some.inj (e.symm.trans (by rw [z]; exact hP)))
      rw [upd_ne b1, upd_ne b2]
      exact e
    have eL : (ps ++ #[rawInt pos.line, rawInt pos.col, .ref c1]).toList = ps.toList ++ [rawInt pos.line, rawInt pos.col, .ref c1] := by simp
    refine h h1.objs.size c1 ((X.mg "__name__").getD .none) ctv _ _ J hE (fun p hp => ?_) (fun b z => ?_) (Heap.get?_push_size _ rfl) ?_ (nf _ hsz) upd_same (fun b o hb e => Heap.get?_push_of_some _ (hx b o hb e)) hsz
    · by_cases hb : p.1 = P
      · rw [hu p hp hb, hb]
        refine ⟨_, by rw [upd_ne (ne_of_none hP nC), upd_same], by rw [eL]; exact PySem.TriplesOk_snoc _ _ _ _ tr, fun p1 cv hcv => ?_⟩
        rw [eL] at hcv
        rcases among_app _ tr hcv with z | z
        · obtain ⟨c0, e1, e2⟩ := am p1 cv z
          exact ⟨c0, e1, hE _ _ e2 codeO_ne⟩
        · exact ⟨c1, z, upd_same⟩
      · obtain ⟨qs, a1, a2, a3⟩ := hT p hp
        refine ⟨qs, by rw [upd_ne (ne_of_none a1 nC), upd_ne hb]; exact a1, a2, fun p1 cv hcv => ?_⟩
        obtain ⟨c0, e1, e2⟩ := a3 p1 cv hcv
        exact ⟨c0, e1, hE _ _ e2 codeO_ne⟩
    · by_cases h1' : b = c1
      · rw [h1', upd_same] at z; cases z
      · by_cases h2' : b = P
        · rw [upd_ne h1', h2', upd_same] at z; cases z
        · rw [upd_ne h1', upd_ne h2'] at z; exact z
    · have n1 : h1.objs.size ≠ c1 := Nat.ne_of_gt hlt
      have n2 : h1.objs.size ≠ P := Nat.ne_of_gt (Nat.lt_of_lt_of_le (Heap.lt_size oP) hsz)
      rw [upd_ne n1, upd_ne n2]
      exact I.hok.fresh hsz
end
section
variable {K : PySem.W.Frag} {base : Nat} {L : Nat → Nat} {φ : List Addr} {m : Hm} {H H1 : Hp}
/-- after a lambda is made Mini's objects stand as before -/
theorem Step.of_ext (e : ExtN H H1) (d : ∀ b, H1 b = none → H b = none) : Step φ H φ H1 :=
  ⟨List.prefix_refl _, fun p h z => h (d p z), fun p o h n t => ⟨e p o h t, n⟩, fun _ _ n => n⟩
theorem RelH.of_ext (R : RelH K base L φ m H) (e : ExtN H H1) (d : ∀ b, H1 b = none → H b = none) (t : Tabs (tabsOf K) H1) : RelH K base L φ m H1 := by
  have s : Step φ H φ H1 := .of_ext e d
  have hT : Kp K H H1 := Kp.step R s
  have ob : ∀ {φ2 : List Addr} {o : D} {p : Addr} {ho : HO}, H p = some ho → RO K φ2 H o ho → H1 p = some ho ∧ RO K φ2 H1 o ho := fun {φ2 o p ho} h r => ⟨e p ho h (fun ps z => by rw [z] at r; cases r), r.mono hT (List.prefix_refl _)⟩
  refine ⟨R.len, R.nd, R.bs, R.lim, fun i o hi q => ?_, fun i o hi q => ?_, t⟩
  · obtain ⟨p, ho, h1, h2, h3⟩ := R.old i o hi q
    exact ⟨p, ho, h1, (ob h2 h3).1, (ob h2 h3).2⟩
  · obtain ⟨p, ho, h1, h2, h3⟩ := R.new i o hi q
    exact ⟨p, ho, h1, (ob h2 h3).1, (ob h2 h3).2⟩
end
end Bell
end

section
set_option maxRecDepth 100000
set_option maxHeartbeats 2000000
/-! a larger base: the function object and its cells known for good; a lambda's body is run -/
namespace Bell
open PySem PySem.Spec PyProof.Rows L2 LamX NdefX
theorem restrictZ (h : Heap) (p : Addr → Bool) : ∃ G : Heap, (∀ b, p b = true → G.get? b = h.get? b) ∧ (∀ b, p b = false → G.get? b = none) ∧ G.objs.size = h.objs.size := by
  obtain ⟨l, hl⟩ : ∃ l : List Addr, l = (List.range h.objs.size).filter fun b => !p b := ⟨_, rfl⟩
  have m1 : ∀ b, b ∈ l → p b = false := fun b hb => by
    rw [hl] at hb
    have z := (List.mem_filter.mp hb).2
    simpa using z
  have m2 : ∀ b, b < h.objs.size → p b = false → b ∈ l := fun b h1 h2 => by
    rw [hl]
    exact List.mem_filter.mpr ⟨List.mem_range.mpr h1, by simp [h2]⟩
  have back : ∀ {b : Addr} {o : Obj}, (PySem.W.hideAll h l).get? b = some o → h.get? b = some o := fun {b o} q => PySem.W.of_hideAll l q
  refine ⟨PySem.W.hideAll h l, fun b hb => ?_, fun b hb => ?_, PySem.W.hideAll_size _ _⟩
  · cases e : h.get? b with
    | some o => exact PySem.W.hideAll_get l e fun hm => by rw [m1 b hm] at hb; cases hb
    | none =>
      cases q : (PySem.W.hideAll h l).get? b with
      | none => rfl
      | some o => rw [back q] at e; cases e
  · cases q : (PySem.W.hideAll h l).get? b with
    | none => rfl
    | some o =>
      rw [PySem.W.hideAll_none l (m2 b (Heap.lt_size (back q)) hb)] at q
      cases q
section
variable {X : Cx} {pins : List (Addr × Obj)} {σ : L2.St} {H : Hp} {s : Shared}
theorem Mod.up {K : PySem.W.Frag} {mg : Str → Option Value} {base base' : Heap} (M : Mod K mg base) (k : ∀ b o, base.get? b = some o → base'.get? b = some o) : Mod K mg base' :=
  ⟨M.kin.keeps k, M.glob.keeps k, let ⟨mb, h1, h2⟩ := M.blt; ⟨mb, h1.keeps k, h2⟩, M.nolimit.keeps k⟩
/-- the base grows by what is not tracked and no frame -/
theorem base_ext (I : Inv X pins σ H s) (l : List Addr) (hl : ∀ a ∈ l, H a = none ∧ a ∉ frs X.stack) :
    ∃ base' : Heap, (∀ b o, X.base.get? b = some o → base'.get? b = some o) ∧ (∀ a ∈ l, base'.get? a = s.heap.get? a) ∧ Env0 X.prog X.w X.K X.mg base' X.A X.stack s H := by
  obtain ⟨G, g1, g2, g3⟩ := restrictZ s.heap fun b => (X.base.get? b).isSome || decide (b ∈ l)
  have up : ∀ b o, X.base.get? b = some o → G.get? b = some o := fun b o e => by
    rw [g1 b (by rw [e]; rfl)]
    exact I.bk b o e
  have e0 := I.env0
  refine ⟨G, up, fun a ha => g1 a (by simp [ha]), e0.frames, Mod.up e0.mod up, fun b o e => ?_, by rw [g3]; exact Nat.le_refl _, funFrames_none I.stack fun b hb => g2 b ?_, e0.frf, e0.hok, e0.bare⟩
  · have hp : ((X.base.get? b).isSome || decide (b ∈ l)) = true := by
      cases q : ((X.base.get? b).isSome || decide (b ∈ l)) with
      | true => rfl
      | false => rw [g2 b q] at e; cases e
    rw [g1 b hp] at e
    refine ⟨e, ?_⟩
    rcases Bool.or_eq_true_iff.mp hp with z | z
    · obtain ⟨o', ho'⟩ := Option.isSome_iff_exists.mp z
      exact (I.bs b o' ho').2
    · exact (hl b (of_decide_eq_true z)).1
  · have n1 : X.base.get? b = none := (I.stack.mem hb).1
    have n2 : b ∉ l := fun z => (hl b z).2 hb
    simp [n1, n2]
end
section
variable {CX : CXT} {P : Program} {w : World} {K : PySem.W.Frag} {mg : Str → Option Value} {base : Heap} {N ps fr : List Str} {F : NF} {f : Addr} {A : Around} {outer : List PySem.Env} {s : Shared} {H : Hp} {E : XK} {us : List Value} {vs : List V} {ws : List (Option V)} {Q : VK} {body : Expr} {pm ctv : Value} {k : Nat}
/-- a lambda's body is run -/
theorem lam_run (S : NScope N ps fr F.scope) (hb : bindArgs (PySem.W.kla_fn F.name F.qual F.params body F.scope F.cl pm (.ref F.c) ctv) ⟨us, []⟩ = pure (ps.zip us)) (hr : Room (k + 1) A) (e0 : Env0 P w K mg base A outer s H)
    (hf : base.get? f = some (PySem.W.kla_obj F.name F.qual F.params body F.scope F.cl pm F.c ctv)) (hc : H F.c = some (CodeO F.c F.qual)) (C : CellsAt F.cl fr ws s.heap H) (r : Vals vs us) (hl : vs.length = ps.length)
    (hbody : Room k (A.deeper (envF F f s.heap.objs.size)) → ∃ t, PE (ncx CX P w K mg base N F f A outer s H E) body t ∧ t (startF N vs ws) H Q) :
    codeAny (model P w) A (.call (.ref f) ⟨us, []⟩) (CR CX outer P w H s Q E) s := by
  have lim : s.heap.NoLimit := e0.mod.nolimit.keeps fun b o e => (e0.bs b o e).1
  have ho := (e0.bs f _ hf).1
  refine PySem.W.kla_callFunE hr.depth ho rfl S.co S.gen rfl (codeO_at e0.hok hc) ?_
  rw [hb]
  refine wpAny_pure (wpAny_newFunctionEnv S.nocell (fun ⟨n, _⟩ hy => S.par n (List.of_mem_zip hy).1) (fun h₁ hns hsb => ⟨lim.fresh _ hsb, ?_⟩) S.kind)
  show codeAny _ _ (.expr body (envF F f s.heap.objs.size)) _ _
  have kp : ∀ b o, s.heap.get? b = some o → h₁.get? b = some o := fun b o e => hsb.extBut b o (Nat.ne_of_lt (Heap.lt_size e)) (Heap.get?_push_of_some _ e)
  obtain ⟨t, ht, hq⟩ := hbody (hr.deeper _)
  have J : Inv (ncx CX P w K mg base N F f A outer s H E) [] (startF N vs ws) H { s with heap := h₁, toks := s.toks + (ps.zip us).length } := inv_startN S hr.hd e0 hl r C hns kp
  refine PySem.W.kla_codeExpr (wpAny_mono (ht.run [] _ (startF N vs ws) H _ J hq) (fun v s' hs => ?_) fun e s' hs => hs)
  obtain ⟨v1, H', J', rv, q⟩ := hs
  exact ⟨v1, H', J'.os, J'.bare, J'.base, J'.hok, rv, q⟩
/-- the cells as the base has them -/
theorem cells_base {cl : List (Str × Addr)} {h0 : Heap} {H0 : Hp} (C : CellsAt cl fr ws h0 H0) (hb : ∀ y c, cl.lookup y = some c → base.get? c = h0.get? c) (e0 : Env0 P w K mg base A outer s H) : CellsAt cl fr ws s.heap H := by
  have kp : ∀ y c, cl.lookup y = some c → ∀ v, h0.IsCell c v → s.heap.IsCell c v ∧ H c = none := fun y c e v ⟨o, ho, hd⟩ => by
    have q := e0.bs c o (by rw [hb y c e]; exact ho)
    exact ⟨⟨o, q.1, hd⟩, q.2⟩
  refine ⟨C.len, fun y c e => ?_, C.inj, fun i y e => ?_⟩
  · obtain ⟨n, v, z⟩ := C.all y c e
    exact ⟨(kp y c e v z).2, v, (kp y c e v z).1⟩
  · obtain ⟨c, hc, hv⟩ := C.has i y e
    refine ⟨c, hc, fun v ev => ?_⟩
    obtain ⟨u, r, z⟩ := hv v ev
    exact ⟨u, r, (kp y c hc _ z).1⟩
end
end Bell
end

section
set_option maxRecDepth 100000
set_option maxHeartbeats 1000000
/-! the call of a lambda that came as an argument -/
namespace Bell
open PySem PySem.Spec PyProof.Rows L2 LamX NdefX
/-- a lambda's promise, by Mini: wv: the captured values -/
def spL (K : PySem.W.Frag) (run : List D → List D → Hm → Out D) (wv : List V) : Sp := fun vs H Q _ => ∃ base L φ m cs ds d m', RelH K base L φ m H ∧ RSs K φ H cs wv ∧ RSs K φ H ds vs ∧ run cs ds m = .ok d m' ∧
  ∀ H' v, RelH K base L φ m' H' → Step φ H φ H' → RV K φ H H' d v → Q v H'
/-- what is known of the lambda l where X runs -/
structure LamOk (X : Cx) (l : Fk × (List D → List D → Hm → Out D)) : Prop where
  at_ : ∃ o fd, X.base.get? l.1.1 = some o ∧ o.cls = .type "function" ∧ o.data = .func fd
  run : ∀ (s : Shared) (H : Hp) (us : List Value) (vs : List V) (Q : VK), Env0 X.prog X.w X.K X.mg X.base X.A X.stack s H → H l.1.2.1 = some (CodeO l.1.2.1 l.1.2.2.1) → Vals vs us → spL X.K l.2 l.1.2.2.2 vs H Q E0 →
    codeAny (model X.prog X.w) X.A (.call (.ref l.1.1) ⟨us, []⟩) (CR CX0 X.stack X.prog X.w H s Q E0) s
theorem LamOk.fnAt {X : Cx} {l : Fk × (List D → List D → Hm → Out D)} (o : LamOk X l) {pins : List (Addr × Obj)} {σ : L2.St} {H : Hp} {s : Shared} (I : Inv X pins σ H s) : PySem.W.FnAt l.1.1 s.heap := by
  obtain ⟨ob, fd, h1, h2, h3⟩ := o.at_
  have q := I.bk _ _ h1
  obtain ⟨c, od, dt, sl⟩ := ob
  cases h2
  cases h3
  exact ⟨_, od, _, sl, q⟩
/-- .. in whatever frame -/
def LamRun (P : Program) (w : World) (K : PySem.W.Frag) (mg : Str → Option Value) (base : Heap) (k : Nat) (l : Fk × (List D → List D → Hm → Out D)) : Prop :=
  (∃ o fd, base.get? l.1.1 = some o ∧ o.cls = .type "function" ∧ o.data = .func fd) ∧
  ∀ (A : Around) (outer : List PySem.Env) (s : Shared) (H : Hp) (us : List Value) (vs : List V) (Q : VK), Room k A → Env0 P w K mg base A outer s H → H l.1.2.1 = some (CodeO l.1.2.1 l.1.2.2.1) → Vals vs us → spL K l.2 l.1.2.2.2 vs H Q E0 →
    codeAny (model P w) A (.call (.ref l.1.1) ⟨us, []⟩) (CR CX0 outer P w H s Q E0) s
theorem LamRun.ok {X : Cx} {k : Nat} {l : Fk × (List D → List D → Hm → Out D)} (r : LamRun X.prog X.w X.K X.mg X.base k l) (hr : Room k X.A) : LamOk X l := ⟨r.1, fun s H us vs Q e0 hc v q => r.2 X.A X.stack s H us vs Q hr e0 hc v q⟩
section
variable {X : Cx} {C : Cf} {Ea : E} {pos p : Pos} {x : Str} {e : Expr} {es : List Expr} {i : Nat}
theorem te_callv (lo : ∀ l, C.lam = some l → LamOk X l) (hN : X.N[i]? = some x) (hv : Vis X.env.scope x) (hd : (x == ("__debug__" : Str)) = false) (hcd : (x == ("__classdict__" : Str)) = false) (pa : PA X (e :: es) (TAv X.K C Ea))
    (he : starEach (e :: es) X.env = (false, eval e X.env) :: starEach es X.env) (hpl : (backTo pos (starEach es X.env)).any (·.1) = false) : PE X (.Call (.Name x p) (e :: es) [] pos) (TEv X.K C (.callv i Ea)) := by
  refine ⟨fun pins s σ H Q I h => ?_⟩
  obtain ⟨L, φ, ρ, m, d, m', R, hE, e1, q⟩ := h
  obtain ⟨y, m1, e1, e2⟩ := bind_inv e1
  obtain ⟨ys, rfl, e2⟩ := withArgs_inv e2
  dsimp only at e2
  cases eg : get ρ i with
  | none => rw [eg] at e2; cases e2
  | some dg =>
    cases el : C.lam with
    | none => rw [eg, el] at e2; cases dg <;> cases e2
    | some l =>
      obtain ⟨⟨g0, c0, q0, v0⟩, run⟩ := l
      rw [eg, el] at e2
      cases dg with
      | fn g c qn cs wv =>
        dsimp only at e2
        split at e2
        · rename_i hk
          cases hk
          have LO := lo _ el
          obtain ⟨v, h1, h2⟩ := hE.2 i _ eg
          cases h2 with
          | fn hc hcs =>
            refine wpAny_Call_Name_kw (thn ((pe_var (pos := p) hN hv hd hcd).run pins s σ H (fun v H1 => v = .ref g0 ∧ H1 = H) I ⟨.ref g0, h1, rfl, rfl⟩) fun u s1 ⟨v, H1, I1, r1, q1⟩ => ?_)
            obtain ⟨ev, eH⟩ := q1
            subst ev
            rw [eH] at I1
            obtain rfl : u = Value.ref g0 := r1
            refine PySem.W.callWith_F (first := []) (LO.fnAt I1) (thn (pa.run pos pins s1 σ H (fun vs H2 => H2 c0 = some (CodeO c0 q0) ∧ spL X.K run v0 vs H2 Q E0) I1 ⟨L, φ, ρ, m, ys, m1, R, hE, e1, fun φ2 vs H2 R2 s2 r2 => ?_⟩) fun us s2 ⟨vs, H2, I2, r, h1, q⟩ => ⟨LO.fnAt I2, ?_⟩) he hpl
            · obtain ⟨φ3, p3, R3, t3, f3⟩ := homes_ok r2 R2
              have s := s2.homed p3 f3
              exact ⟨(Kp.step R s2).c _ _ hc, C.base, L, φ3, _, cs, _, d, m', R3, hcs.mono (Kp.step R s2) (s2.pre.trans p3), t3, e2, fun H' v R' s' r' => q φ3 v H' R' (s.trans s') (r'.older fun p => s.free)⟩
            · show wpAny _ _ (call (.ref g0) us) _ _ _
              refine wpAny_call (codeAny_mono (LO.run s2 H2 us vs Q I2.env0 h1 r q) fun r s' hq => ?_)
              cases r with
              | error e => exact pass0 pins σ H2 s2 e s' I2 hq
              | ok fl =>
                cases fl with
                | ret u => exact I2.after hq
                | next => exact False.elim hq
                | brk => exact False.elim hq
                | cont => exact False.elim hq
        · cases e2
      | _ => cases e2
end
end Bell
end

section
set_option maxRecDepth 100000
/-! a frame is entered and left -/
namespace Bell
open PySem PySem.Spec PyProof.Rows L2
section
variable {K : PySem.W.Frag} {φ φ' : List Addr} {H H' : Hp}
/-- an object below n -/
theorem RO.low {n : Nat} {d : D} {o : HO} (r : RO K φ H d o) (b : below n d = true) : RO K (φ.take n) H d o := by
  cases r with
  | lst t => exact .lst (t.low (by unfold below at b; exact b))
  | dK t u =>
    unfold below at b
    rw [Bool.and_eq_true] at b
    exact .dK (t.low b.1) (u.low b.2)
  | lck => unfold below at b; cases b
/-- the limits in a frame of base n -/
def deepL (base : Nat) (L : Nat → Nat) (n : Nat) : Nat → Nat := fun i => if i < base then L i else n
theorem RelH.enter {base : Nat} {L : Nat → Nat} {m : Hm} (R : RelH K base L φ m H) : RelH K m.length (deepL base L m.length) φ m H := by
  refine ⟨R.len, R.nd, Nat.le_refl _, fun i hi => ?_, fun i o hi e => ?_, fun i o hi e => ?_, R.tabs⟩
  · unfold deepL
    split
    · rename_i h
      have := R.lim i h
      have := R.bs
      omega
    · omega
  · unfold deepL
    split
    · rename_i h
      exact R.old i o h e
    · rename_i h
      obtain ⟨p, ho, h1, h2, h3⟩ := R.new i o (by omega) e
      refine ⟨p, ho, h1, h2, ?_⟩
      rw [List.take_of_length_le (Nat.le_of_eq R.len)]
      exact h3
  · have := (List.getElem?_eq_some_iff.mp e).1
    omega
theorem pre_take {α : Type} {l l' : List α} (h : l <+: l') : l'.take l.length = l := by
  obtain ⟨t, rfl⟩ := h
  simp
theorem RelH.leave {base : Nat} {L : Nat → Nat} {m m' : Hm} (R : RelH K base L φ m H) (s : Step φ H φ' H') (R' : RelH K m.length (deepL base L m.length) φ' m' H') : RelH K base L φ (m'.take m.length) H' ∧ Step φ H φ H' := by
  have tk : φ'.take m.length = φ := by rw [← R.len]; exact pre_take s.pre
  have lm : m.length ≤ m'.length := R'.bs
  have lt : (m'.take m.length).length = m.length := by rw [List.length_take]; omega
  have at_ : ∀ {i : Nat} {p : Addr}, i < m.length → φ'[i]? = some p → φ[i]? = some p := fun {i p} hi e => by
    have e2 : (φ'.take m.length)[i]? = some p := by rw [List.getElem?_take, if_pos hi]; exact e
    rw [tk] at e2
    exact e2
  have mm : ∀ {i : Nat} {o : D}, (m'.take m.length)[i]? = some o → i < m.length ∧ m'[i]? = some o := fun {i o} e => by
    have h1 := (List.getElem?_eq_some_iff.mp e).1
    rw [lt] at h1
    rw [List.getElem?_take, if_pos h1] at e
    exact ⟨h1, e⟩
  refine ⟨⟨by rw [lt]; exact R.len, R.nd, by rw [lt]; exact R.bs, R.lim, fun i o hi e => ?_, fun i o hi e => ?_, R'.tabs⟩, ⟨List.prefix_refl _, s.dom, fun p o e n t => ?_, fun _ _ n => n⟩⟩
  · obtain ⟨hi2, e2⟩ := mm e
    obtain ⟨p, ho, h1, h2, h3⟩ := R'.old i o hi2 e2
    refine ⟨p, ho, at_ hi2 h1, h2, ?_⟩
    have dl : deepL base L m.length i = L i := by unfold deepL; rw [if_pos hi]
    rw [dl] at h3
    have hL := (R.lim i hi).2
    have : φ.take (L i) = φ'.take (L i) := by
      rw [← tk, List.take_take]
      congr 1
      have := R.bs
      omega
    rw [this]
    exact h3
  · obtain ⟨hi2, e2⟩ := mm e
    obtain ⟨p, ho, h1, h2, h3⟩ := R'.old i o hi2 e2
    refine ⟨p, ho, at_ hi2 h1, h2, ?_⟩
    have dl : deepL base L m.length i = m.length := by unfold deepL; rw [if_neg (by omega)]
    rw [dl, tk] at h3
    exact h3
  · exact ⟨(s.keep p o e n t).1, n⟩
theorem close_inv {n : Nat} {d r : D} {m m' : Hm} (h : close n d m = .ok r m') : m' = m.take n ∧ ((r = d ∧ below n d = true) ∨ ∃ k, d = .adr k ∧ n ≤ k ∧ m[k]? = some r ∧ below n r = true ∧ ∀ xs, r ≠ .fro xs) := by
  unfold close at h
  split at h
  · rename_i hb
    cases h
    exact ⟨rfl, .inl ⟨rfl, hb⟩⟩
  · rename_i hb
    split at h
    · rename_i k
      split at h
      · cases h
      · rename_i o hf hk
        split at h
        · rename_i hb2
          cases h
          refine ⟨rfl, .inr ⟨k, rfl, ?_, hk, hb2, fun xs z => hf xs (by rw [z])⟩⟩
          unfold below at hb
          have : ¬ k < n := fun z => hb (decide_eq_true z)
          omega
        · cases h
      · cases h
    · cases h
/-- what a frame hands back -/
theorem RV.leave {base : Nat} {L : Nat → Nat} {m m' m2 : Hm} {d r : D} {v : V} (R : RelH K base L φ m H) (s : Step φ H φ' H') (R' : RelH K m.length (deepL base L m.length) φ' m' H') (rv : RV K φ' H H' d v) (h : close m.length d m' = .ok r m2) :
    m2 = m'.take m.length ∧ RV K φ H H' r v := by
  have tk : φ'.take m.length = φ := by rw [← R.len]; exact pre_take s.pre
  obtain ⟨h1, h2⟩ := close_inv h
  refine ⟨h1, ?_⟩
  rcases h2 with ⟨rfl, hb⟩ | ⟨k, rfl, hk, e, hb, hf⟩
  · cases rv with
    | st q =>
      have := q.low hb
      rw [tk] at this
      exact .st this
    | tmp a b c z w =>
      have := w.low hb
      rw [tk] at this
      exact .tmp a (fun z => b (s.pre.subset z)) c z this
  · cases rv with
    | st q =>
      cases q with
      | adr e1 =>
        obtain ⟨p, ho, g1, g2, g3⟩ := R'.at e
        rw [e1] at g1
        cases g1
        have nφ : ∀ p, φ'[k]? = some p → p ∉ φ := fun p e1 z => by
          obtain ⟨i, hi, e2⟩ := List.mem_iff_getElem.mp z
          have e3 : φ[i]? = some p := by rw [List.getElem?_eq_getElem hi, e2]
          have e4 := get_pre s.pre e3
          have hk2 : k < φ'.length := (List.getElem?_eq_some_iff.mp e1).1
          have := (List.getElem?_inj hk2 R'.nd).mp (e1.trans e4.symm)
          rw [R.len] at hi
          omega
        have g3' := g3.low hb
        rw [tk] at g3'
        refine .tmp g2 (nφ _ e1) ?_ hf g3'
        cases q : H _ with
        | none => rfl
        | some o => exact absurd (List.mem_of_getElem? e1) (s.kout _ (by rw [q]; simp) (nφ _ e1))
    | tmp a b c z w => cases w
end
theorem get_eq : ∀ (ρ : Env) (i : Nat), get ρ i = (ρ[i]?).join
  | [], i => rfl
  | x :: xs, 0 => rfl
  | x :: xs, i + 1 => by show get xs i = _; rw [get_eq xs i]; rfl
theorem relE_start {K : PySem.W.Frag} {φ : List Addr} {H : Hp} {ds : List D} {vs : List V} {N : List Str} (r : RSs K φ H ds vs) (hN : vs.length ≤ N.length) : RelE K φ H (ds.map some ++ List.replicate (N.length - ds.length) none) (L2.start N vs) := by
  have l := r.length
  refine ⟨by unfold L2.start; simp [l], fun i d e => ?_⟩
  rw [get_eq] at e
  by_cases hi : i < ds.length
  · rw [List.getElem?_append_left (by simpa using hi), List.getElem?_map, List.getElem?_eq_getElem hi] at e
    cases e
    obtain ⟨v, h1, h2⟩ := r.get (i := i) (List.getElem?_eq_getElem hi)
    refine ⟨v, ?_, h2⟩
    unfold L2.start
    rw [List.getElem?_append_left (by simp; omega), List.getElem?_map, h1]
    rfl
  · rw [List.getElem?_append_right (by simpa using hi), List.getElem?_replicate] at e
    split at e <;> cases e
end Bell
end

section
set_option maxRecDepth 100000
set_option maxHeartbeats 1000000
/-! a def is called with a lambda -/
namespace Bell
open PySem PySem.Spec PyProof.Rows L2 LamX NdefX
section
variable {X : Cx} {ea : Expr} {pos p lpos : Pos} {x : Str} {t : TE} {T : List (Addr × Str)} {cA cP : Addr} {params : Arguments} {body : Expr} {scope : Scope} {k : Nat} {addr : Addr} {fd : FuncData} {ps : List Str} {g : List Value → List Value → List Value} {gV : List V → List V → List V}
/-- a captured cell is no frame -/
theorem cell_nofr {pins : List (Addr × Obj)} {σ : L2.St} {H : Hp} {s : Shared} (I : Inv X pins σ H s) {y : Str} {c : Addr} (hf : X.fn y = true) (hc : X.env.cells.lookup y = some c) : c ∉ frs X.stack := fun hb => by
  rcases List.mem_cons.mp (I.stkSub c hb) with e | hb
  · exact I.cne y c hc e
  · obtain ⟨_, o, ho, _⟩ := I.ok.funs.mem hb
    exact absurd (Nat.lt_of_lt_of_le (Heap.lt_size ho) (I.ok.cab y c hf hc)) (Nat.lt_irrefl _)
theorem pe_callc {sp : L2.St → Addr → Addr → Sp} {W : L2.St → Prop} (hr : Room k X.A) (hg : Gl X x) (hm : X.mg x = some (.ref addr)) (hk : PySem.W.keepIn X.K (.ref addr) = true) (hb : KBn X.K fd ps 2 [] g gV) (hdb : (x == ("__debug__" : Str)) = false)
    (he : PE X ea t) (hs : starEach [ea, .Lambda params body scope lpos] X.env = (false, eval ea X.env) :: starEach [.Lambda params body scope lpos] X.env)
    (TB : TabB X.base X.mg cA cP) (hcode : X.env.code = .ref cA) (hmT : (cP, X.env.qual ++ "<lambda>") ∈ T) (hu : ∀ p ∈ T, p.1 = cP → p.2 = X.env.qual ++ "<lambda>") (hdef : defaultsOf params X.env = ([], [])) (hfree : ∀ y ∈ scope.names, y.2 = .free → ∃ c, X.env.cells.lookup y.1 = some c)
    (hfn : ∀ y, X.fn y = true)
    (F : ∀ (base' : Heap) (f c1 : Addr) (pm ctv : Value) (pins : List (Addr × Obj)) (σ : L2.St) (H2 : Hp) (s2 : Shared), W σ → Inv X pins σ H2 s2 → (∀ b o, X.base.get? b = some o → base'.get? b = some o) → base'.get? f = some (lamObj X params body scope pm ctv c1) →
      (∀ y c, (cloFrom X.env.cells scope.names []).lookup y = some c → base'.get? c = s2.heap.get? c) → FnOk X.prog X.w X.K X.mg base' CX0 k addr fd ps (sp σ f c1)) :
    PE X (.Call (.Name x p) [ea, .Lambda params body scope lpos] [] pos) (fun σ H Q => W σ ∧ t σ H fun va H1 => Tabs T H1 ∧ ∀ (f c1 : Addr) (H2 : Hp), ExtN H1 H2 → (∀ b, H2 b = none → H1 b = none) → Tabs T H2 → H2 c1 = some (CodeO c1 (X.env.qual ++ "<lambda>")) →
      sp σ f c1 (gV [va, .ref f] []) H2 Q E0) := by
  refine ⟨fun pins s σ H Q I h => ?_⟩
  obtain ⟨hW, h⟩ := h
  refine wpAny_Call_Name_kw (ld_glob I hg hm ?_ hdb)
  refine PySem.W.callWith_K (first := []) (h₀ := X.base) I.ok.mod.kin hk ?_ hs rfl
  rw [hs]
  show wpAny _ _ (spliced ((false, eval ea X.env) :: (false, eval (.Lambda params body scope lpos) X.env) :: backTo pos (starEach [] X.env))) _ _ s
  refine Calls.spliced_cons (thn (he.run pins s σ H _ I h) fun u s1 ⟨va, H1, I1, r1, hT, q1⟩ => ?_)
  refine Calls.spliced_cons (lam_make3 I1 TB hcode hmT hu hT hdef hfree fun f c1 pm ctv H2 s2 I2 eN T2 nl hf nf ns hc _ _ => ?_)
  refine Calls.spliced_nil ⟨I2.kIn, ?_⟩
  have cm : ∀ y c, (y, c) ∈ cloFrom X.env.cells scope.names [] → X.env.cells.lookup y = some c := fun y c e => by
    rcases cloFrom_mem e with hm | ⟨h1, h2⟩
    · cases hm
    · obtain ⟨c2, hc2⟩ := hfree _ h1 rfl
      have hc2 : X.env.cells.lookup y = some c2 := hc2
      have e2 : c = c2 := by
        rw [h2, hc2] <;> rfl
      rw [e2]
      exact hc2
  obtain ⟨base', b1, b2, e0⟩ := base_ext I2 (f :: (cloFrom X.env.cells scope.names []).map (·.2)) (fun a ha => by
    rcases List.mem_cons.mp ha with e | ha
    · rw [e]
      exact ⟨nf, ns⟩
    · obtain ⟨⟨y, c⟩, hm1, rfl⟩ := List.mem_map.mp ha
      exact ⟨I2.freeC y c (cm y c hm1), cell_nofr I2 (hfn y) (cm y c hm1)⟩)
  have Fn := F base' f c1 pm ctv pins σ H2 s2 hW I2 b1 (by rw [b2 f List.mem_cons_self]; exact hf) (fun y c e => b2 c (List.mem_cons_of_mem _ (List.mem_map.mpr ⟨(y, c), PySem.mem_of_lookup e, rfl⟩)))
  have rv : Vals [va, .ref f] [u, .ref f] := .cons r1 (.cons rfl .nil)
  show wpAny _ _ (call (.ref addr) [u, .ref f] (([] : List Str).zip [])) _ _ _
  refine wpAny_call (codeAny_mono (Fn.run X.A X.stack s2 H2 ⟨[u, .ref f], ([] : List Str).zip []⟩ (g [u, .ref f] []) (gV [va, .ref f] []) Q E0 hr e0 (hb.to s2 [u, .ref f] [] I2.kIn rfl rfl) (hb.rel rv .nil) (q1 f c1 H2 eN nl T2 hc)) fun r s' hq => ?_)
  cases r with
  | error e => exact pass0 pins σ H2 s2 e s' I2 hq
  | ok fl =>
    cases fl with
    | ret u => exact I2.after hq
    | next => exact False.elim hq
    | brk => exact False.elim hq
    | cont => exact False.elim hq
end
/-! ### what is known where a lambda is made -/
/-- a def may be called at any larger base, with a lambda too -/
structure LowOk (X : Cx) (C : Cf) (kk : Nat) (x : Str) (n : Nat) (ks : List Str) (f : Nat) (p : List Nat) (ds : List D) : Prop where
  ex : ∃ addr fd ps g gV, X.mg x = some (.ref addr) ∧ PySem.W.keepIn X.K (.ref addr) = true ∧ KBn X.K fd ps n ks g gV ∧
    (∀ φ H ys vs ws, RSs X.K φ H ys (vs ++ ws) → vs.length = n → ws.length = ks.length → RSs X.K φ H (pick (ys ++ ds) p) (gV vs ws)) ∧
    ∀ base' : Heap, (∀ b o, X.base.get? b = some o → base'.get? b = some o) → ∀ r, kk ≤ r → FnOk X.prog X.w X.K X.mg base' CX0 r addr fd ps (spF X.K (C.call f)) ∧
      ∀ l, LamRun X.prog X.w X.K X.mg base' (r - 1) l → FnOk X.prog X.w X.K X.mg base' CX0 r addr fd ps (spF X.K fun a m => C.callc f a l.1 l.2 m)
structure LamAt (Γ : Ct) (X : Cx) (C : Cf) (q : Str) : Prop where
  tab : ∃ cA cP, X.env.code = .ref cA ∧ TabB X.base X.mg cA cP ∧ (cP, q) ∈ tabsOf X.K ∧ ∀ p ∈ tabsOf X.K, p.1 = cP → p.2 = q
  qual : X.env.qual ++ "<lambda>" = q
  fn : ∀ y, X.fn y = true
  low : ∃ kk, Room (kk + 2) X.A ∧ ∀ x n ks f p ds, findPat x n ks Γ.pats = some (f, p, ds) → LowOk X C kk x n ks f p ds
/-- the captured values -/
def wvO (js : List Nat) (σ : L2.St) : List V := js.map fun j => (slotAt σ j).getD .non
theorem gets_rel {K : PySem.W.Frag} {φ : List Addr} {H : Hp} {ρ : Env} {σ : L2.St} (hE : RelE K φ H ρ σ) : ∀ {js : List Nat} {cs : List D}, gets ρ js = some cs → RSs K φ H cs (wvO js σ) ∧ js.map (slotAt σ) = (wvO js σ).map some
  | [], cs, h => by cases h; exact ⟨.nil, rfl⟩
  | j :: js, cs, h => by
    unfold gets at h
    split at h
    · rename_i d ds h1 h2
      cases h
      obtain ⟨v, e1, e2⟩ := hE.2 j d h1
      obtain ⟨t1, t2⟩ := gets_rel hE h2
      have e3 : slotAt σ j = some v := slotAt_of e1
      refine ⟨?_, ?_⟩
      · show RSs K φ H (d :: ds) (((slotAt σ j).getD .non) :: wvO js σ)
        rw [e3]
        exact .cons e2 t1
      · show slotAt σ j :: js.map (slotAt σ) = some ((slotAt σ j).getD .non) :: (wvO js σ).map some
        rw [t2, e3]
        rfl
    · cases h
theorem allIx_at {N : List Str} : ∀ {l : List Str} {js : List Nat}, allIx N l = some js → js.map (fun j => N[j]?) = l.map some
  | [], js, h => by cases h; rfl
  | x :: xs, js, h => by
    unfold allIx at h
    split at h
    · rename_i i r h1 h2
      cases h
      show N[i]? :: r.map (fun j => N[j]?) = some x :: xs.map some
      rw [allIx_at h2, ixOfN_get h1]
    · cases h
theorem agree_inv {h : Nat → Nat → List V → Out D} {d : D} {m : Hm} (e : agree h = .ok d m) : ∀ f c vs, h f c vs = .ok d m := by
  unfold agree at e
  split at e
  · rename_i q
    intro f c vs
    rw [q f c vs, e]
  · cases e
theorem startF_eq (N : List Str) (vs wv : List V) : startF N vs (wv.map some) = L2.start N (vs ++ wv) := by
  unfold startF L2.start
  simp [Nat.sub_sub]
theorem bind_lam {nm q p : Str} {pp : Pos} {body : Expr} {scope : Scope} {cl : List (Str × Addr)} {pm cdv ct u : Value} : bindArgs (PySem.W.kla_fn nm q ⟨[], [⟨p, none, pp⟩], none, [], [], none, []⟩ body scope cl pm cdv ct) ⟨[u], []⟩ = pure [(p, u)] := by
  have h : ([(p, u)] : List (Str × Value)).lookup p = some u := by simp [List.lookup]
  have e0 : seqItems? Value.none = pure none := rfl
  unfold bindArgs
  simp [h, e0]
section
variable {X : Cx} {C : Cf} {Γ : Ct}
/-- the lambda that was made keeps its promise, wherever it is called -/
theorem lam_runs {base' : Heap} {f c1 : Addr} {pm ctv : Value} {q p : Str} {pp : Pos} {body : Expr} {scope : Scope} {b : E} {wv : List V} {cl : List (Str × Addr)} {kk : Nat} {h0 : Heap} {H0 : Hp}
    (S : NScope (lamN p scope) [p] (freeOf scope.names) scope) (hf : base'.get? f = some (PySem.W.kla_obj "<lambda>" q ⟨[], [⟨p, none, pp⟩], none, [], [], none, []⟩ body scope cl pm c1 ctv))
    (hcl : ∀ y c, cl.lookup y = some c → base'.get? c = h0.get? c) (cs0 : CellsAt cl (freeOf scope.names) (wv.map some) h0 H0)
    (hbody : ∀ (X' : Cx) (n : Nat), X'.prog = X.prog → X'.w = X.w → X'.K = X.K → X'.mg = X.mg → X'.base = base' → X'.env.scope = scope → X'.N = lamN p scope → X'.calm = true → Room kk X'.A → PE X' body (TEv X'.K { C with base := n, lam := none } b)) :
    LamRun X.prog X.w X.K X.mg base' (kk + 1) ((f, c1, q, wv), lamG C ((lamN p scope).length - 1 - (freeOf scope.names).length) b) := by
  refine ⟨⟨_, _, hf, rfl, rfl⟩, fun A outer s H us vs Q hr e0 hc r h => ?_⟩
  obtain ⟨bs, L, φ, m, cs, ds, d, m', R, rcs, rds, e, qq⟩ := h
  have rcs : RSs X.K φ H cs wv := rcs
  have e : (if ds.length = 1 then (ev { C with base := m.length, lam := none } b (ds.map some ++ (cs.map some ++ List.replicate ((lamN p scope).length - 1 - (freeOf scope.names).length) none)) m).bind fun d m2 => close m.length d m2 else .bad) = .ok d m' := e
  split at e
  · rename_i hl
    obtain ⟨d2, m2, e1, e2⟩ := bind_inv e
    have lv : vs.length = 1 := by rw [← rds.length]; exact hl
    have lw : wv.length = (freeOf scope.names).length := by have := cs0.len; rw [List.length_map] at this; exact this
    have lcs : cs.length = wv.length := rcs.length
    have lN : 1 + (freeOf scope.names).length ≤ (lamN p scope).length := by
      have q := congrArg List.length S.pre
      rw [List.length_take, List.length_append] at q
      simp at q
      omega
    let Fn : NF := ⟨"<lambda>", q, ⟨[], [⟨p, none, pp⟩], none, [], [], none, []⟩, [], scope, cl, c1⟩
    refine lam_run (CX := CX0) (E := E0) (F := Fn) (N := lamN p scope) (ps := [p]) (ws := wv.map some) (vs := vs) (us := us) (body := body) (pm := pm) (ctv := ctv) (k := kk) S ?_ hr e0 hf hc (cells_base cs0 hcl e0) r lv fun hr2 => ?_
    · match us, r.length with
      | [u], _ => exact bind_lam
      | [], z => rw [lv] at z; cases z
      | _ :: _ :: _, z => rw [lv] at z; simp at z
    · refine ⟨_, hbody _ m.length rfl rfl rfl rfl rfl rfl rfl rfl hr2, deepL bs L m.length, φ, _, m, d2, m2, R.enter, ?_, e1, fun φ' v H' R' s' rv => ?_⟩
      · rw [startF_eq]
        have z := relE_start (N := lamN p scope) (rds.app rcs) (by rw [List.length_append]; omega)
        rw [List.map_append, List.append_assoc, List.length_append] at z
        rw [show (lamN p scope).length - 1 - (freeOf scope.names).length = (lamN p scope).length - (ds.length + cs.length) by omega]
        exact z
      · obtain ⟨R2, s2⟩ := R.leave s' R'
        obtain ⟨rfl, rv2⟩ := RV.leave R s' R' rv e2
        exact qq H' v R2 s2 rv2
  · cases e
/-- x(a, lambda pn: body) -/
theorem te_callc {x : Str} {p pos lpos : Pos} {ea body : Expr} {Ea b : E} {pn : Str} {pp : Pos} {scope : Scope} {fi kk : Nat} {js : List Nat} {q : Str}
    (LA : LamAt Γ X C q) (hr : Room (kk + 2) X.A) (low : LowOk X C kk x 2 [] fi [0, 1] []) (hsc : X.env.scope = Γ.sc) (hN : X.N = Γ.N) (hg : Gl X x) (hdb : (x == ("__debug__" : Str)) = false) (hj : allIx Γ.N (freeOf scope.names) = some js)
    (S : NScope (lamN pn scope) [pn] (freeOf scope.names) scope) (hnd : ndefB Γ.sc scope (freeOf scope.names) = true) (he : PE X ea (TEv X.K C Ea)) (hns : notStar ea = true)
    (hbody : ∀ (base' : Heap) (X' : Cx) (n : Nat), (∀ b o, X.base.get? b = some o → base'.get? b = some o) → X'.prog = X.prog → X'.w = X.w → X'.K = X.K → X'.mg = X.mg → X'.base = base' → X'.env.scope = scope → X'.N = lamN pn scope → X'.calm = true → Room kk X'.A → PE X' body (TEv X'.K { C with base := n, lam := none } b)) :
    PE X (.Call (.Name x p) [ea, .Lambda ⟨[], [⟨pn, none, pp⟩], none, [], [], none, []⟩ body scope lpos] [] pos) (TEv X.K C (.callc fi (.cons Ea .nil) 1 q js ((lamN pn scope).length - 1 - (freeOf scope.names).length) b)) := by
  obtain ⟨addr, fd, ps, g, gV, hm, hkp, hb, hpk, hF⟩ := low.ex
  obtain ⟨cA, cP, hcode, TB, hmT, hu⟩ := LA.tab
  have hq := LA.qual
  have hfr := ndef_free hnd
  have hfr2 : ∀ y ∈ scope.names, y.2 = .free → X.env.scope.names.lookup y.1 = some .cell ∨ X.env.scope.names.lookup y.1 = some .free := by rw [hsc]; exact hfr
  have hfk := ndef_fr hnd
  have hjs : js.map (fun j => X.N[j]?) = (freeOf scope.names).map some := by rw [hN]; exact allIx_at hj
  have hst : starEach [ea, .Lambda ⟨[], [⟨pn, none, pp⟩], none, [], [], none, []⟩ body scope lpos] X.env = (false, eval ea X.env) :: starEach [.Lambda ⟨[], [⟨pn, none, pp⟩], none, [], [], none, []⟩ body scope lpos] X.env := star_cons hns
  let run := lamG C ((lamN pn scope).length - 1 - (freeOf scope.names).length) b
  by_cases hok : X.Ok
  · have hfree : ∀ y ∈ scope.names, y.2 = .free → ∃ c, X.env.cells.lookup y.1 = some c := fun y hy e => (hfr2 y hy e).elim (fun z => hok.has _ (.inl z)) fun z => hok.has _ (.inr z)
    refine (pe_callc (X := X) (k := kk + 2) (T := tabsOf X.K) (sp := fun σ f c1 => spF X.K fun a m => C.callc fi a (f, c1, q, wvO js σ) run m) (W := fun σ => js.map (slotAt σ) = (wvO js σ).map some) (gV := gV) (g := g) (addr := addr) (fd := fd) (ps := ps) (p := p) (pos := pos) (lpos := lpos)
      hr hg hm hkp hb hdb he hst TB hcode (by rw [hq]; exact hmT) (by rw [hq]; exact hu) rfl hfree LA.fn ?_).mono ?_
    · intro base' f c1 pm ctv pins σ H2 s2 hW I2 up hf hcl
      refine (hF base' up (kk + 2) (by omega)).2 ((f, c1, q, wvO js σ), run) ?_
      have cs0 := cells_of I2 (Caps.made I2.ok hfr2 hfk hjs)
      rw [hW] at cs0
      rw [show lamObj X ⟨[], [⟨pn, none, pp⟩], none, [], [], none, []⟩ body scope pm ctv c1 = PySem.W.kla_obj "<lambda>" q ⟨[], [⟨pn, none, pp⟩], none, [], [], none, []⟩ body scope (cloFrom X.env.cells scope.names []) pm c1 ctv by rw [← hq]] at hf
      exact lam_runs S hf hcl cs0 fun X' n h1 h2 h3 h4 h5 h6 h7 h8 h9 => hbody base' X' n up h1 h2 h3 h4 h5 h6 h7 h8 h9
    · intro σ H Q h
      obtain ⟨L, φ, ρ, m, d, m', R, hE, e, qq⟩ := h
      unfold ev at e
      obtain ⟨y, m1, e1, e⟩ := bind_inv e
      obtain ⟨ys, rfl, e⟩ := withArgs_inv e
      unfold ev at e1
      obtain ⟨xa, m2, e2, e1⟩ := bind_inv e1
      unfold ev at e1
      rw [bind_ok] at e1
      cases e1
      dsimp only at e
      split at e
      · rename_i cs hcs
        have ag := agree_inv e
        obtain ⟨rcs, hW⟩ := gets_rel hE hcs
        refine ⟨hW, L, φ, ρ, m, xa, _, R, hE, e2, fun φ1 va H1 R1 s1 r1 => ?_⟩
        obtain ⟨φ2, p2, R2, r2, s2, f2⟩ := home_step R1 s1 r1
        refine ⟨R2.tabs, fun f c1 H2 eN nl T2 hc => ?_⟩
        have s3 : Step φ2 H1 φ2 H2 := .of_ext eN nl
        have R3 := R2.of_ext eN nl T2
        have s13 := s2.trans s3
        rw [hq] at hc
        have rc3 := rcs.step R s13
        have r3 := r2.step R2 s3
        have rv : RSs X.K φ2 H2 [(home xa _).1, .fn f c1 q cs (wvO js σ)] ([va, .ref f] ++ []) := .cons r3 (.cons (.fn hc rc3) .nil)
        have hp := hpk φ2 H2 _ [va, .ref f] [] rv rfl rfl
        refine ⟨C.base, L, φ2, _, _, d, m', R3, hp, ag f c1 (wvO js σ), fun H' v R' s' r' => qq φ2 v H' R' (s13.trans s') (r'.older fun p => s13.free)⟩
      · cases e
  · refine ⟨fun pins s σ H Q I h => absurd I.ok hok⟩
end
end Bell
end

section
set_option maxRecDepth 100000
/-! a comprehension over a dict -/
namespace Bell
open PySem PySem.Spec PyProof.Rows L2
theorem agreeU_inv {h : (Unit → Obj × List (Key × V)) → Out D} {d : D} {m : Hm} (e : agreeU h = .ok d m) : ∀ u, h u = .ok d m := by
  unfold agreeU at e
  split at e
  · rename_i q
    intro u
    rw [q.choose_spec u, e]
  · cases e
theorem unlk_inv {k : Nat} {u : Unit → Obj × List (Key × V)} {d x y : D} {m m' : Hm} (e : unlk k u d x m = .ok y m') : m[k]? = some (.lck u) ∧ y = x ∧ m' = m.set k d := by
  unfold unlk at e
  split at e
  · rename_i h
    cases e
    exact ⟨h, rfl, rfl⟩
  · cases e
section
variable {X : Cx} {C : Cf}
theorem ev_compd (i : Nat) (tg : Tg) (c e : E) (own : List Nat) (ρ : Env) (m : Hm) : ev C (.compd i tg c e own) ρ m = match get ρ i with
    | some (.adr k) => match m[k]? with
      | some (.dct ks vs) => if !isBig ks.length then .bad else agreeU fun u => (turns (lkd k u ks) (oneC C tg c e (wipe ρ own)) ks.length 0 [] (m.set k (.lck u))).bind fun acc m' => unlk k u (.dct ks vs) (.lst acc) m'
      | _ => .bad
    | _ => .bad := rfl
theorem te_compd {elt tg : Expr} {ifs : List Expr} {scope : Scope} {own : List (Str × Nat)} {pos px : Pos} {x : Str} {i : Nat} {Ec Ee : E} {t : Tg} (hc : X.calm = true) (hN : X.N.Nodup) (hx : X.N[i]? = some x) (hv : Vis X.env.scope x) (hdb : (x == ("__debug__" : Str)) = false) (hcd : (x == ("__classdict__" : Str)) = false) (ok : BlkOk X.N X.env.scope scope own)
    (hg : ∀ (s : Shared) (H : Hp) (A : Addr) (cl : List (Str × Addr)) (fp : List Addr), PG (X.blk s H scope (compEnvC scope cl A X.env) fp) tg (gOf X.K t)) (ht : ∀ (s : Shared) (H : Hp) (A : Addr) (cl : List (Str × Addr)) (fp : List Addr), PTs (X.blk s H scope (compEnvC scope cl A X.env) fp) ifs (TTv X.K C Ec))
    (he : ∀ (s : Shared) (H : Hp) (A : Addr) (cl : List (Str × Addr)) (fp : List Addr), PE (X.blk s H scope (compEnvC scope cl A X.env) fp) elt (TEv X.K C Ee)) (hs : ∀ y, foldedSetIterable (.Name x px) X.env y = pure y) (hin : tgIn t (own.map (·.2)) = true) :
    PE X (.ListComp elt [⟨tg, .Name x px, ifs, 0⟩] scope pos) (TEv X.K C (.compd i t Ec Ee (own.map (·.2)))) := by
  refine (pe_lock (pe_lc hc hN (pi_keys (pe_var hx hv hdb hcd)) ok hg ht he hs)).mono fun σ H Q h => ?_
  obtain ⟨L, φ, ρ, m, d, m', R, hE, e, q⟩ := h
  rw [ev_compd] at e
  split at e
  · rename_i k hk
    split at e
    · rename_i ks vs hm
      split at e
      · cases e
      · rename_i hbig
        have hbig : isBig ks.length = true := by simpa using hbig
        have ag := agreeU_inv e
        obtain ⟨v, hσ, rv⟩ := hE.2 i _ hk
        cases rv with
        | adr hφ =>
          rename_i p
          obtain ⟨p', ho, e1, hp, ro⟩ := R.at hm
          rw [hφ] at e1
          cases e1
          cases ro with
          | dK t1 t2 =>
            rename_i kvs
            refine ⟨p, _, hp, trivial, fun od => ?_⟩
            let u : Unit → Obj × List (Key × V) := fun _ => (od, kvs)
            have e2 := ag u
            obtain ⟨acc, m2, e3, e4⟩ := bind_inv e2
            obtain ⟨f1, rfl, rfl⟩ := unlk_inv e4
            obtain ⟨R1, s1⟩ := R.write (d := .lck u) (ho := .frz od (.dK kvs)) hφ ⟨fun _ => .lck (u := u), fun _ => .lck (u := u)⟩
            have hE1 := hE.step R s1
            have k1 : RSs X.K φ (upd H p (.frz od (.dK kvs))) ks (kvs.map fun q => kV q.1) := t1.step R s1
            have frz : ∀ {φ' : List Addr} {m3 : Hm} {H3 : Hp}, RelH X.K C.base L φ' m3 H3 → φ <+: φ' → m3[k]? = some (.lck u) → H3 p = some (.frz od (.dK kvs)) := fun {φ' m3 H3} R3 pre h3 => by
              obtain ⟨p2, ho2, g1, g2, g3⟩ := R3.at h3
              rw [get_pre pre hφ] at g1
              cases g1
              cases g3
              exact g2
            refine ⟨.ref p, hσ, p, od, rfl, .inl ⟨kvs, upd_same, ?_⟩⟩
            refine comp_core (J := Itk p od kvs) (Q := fun v H' => H' p = some (.frz od (.dK kvs)) ∧ Q v (upd H' p (.dK kvs))) (nx := lkd k u ks) hin R1 hE1 ⟨fun φ2 m3 H3 i2 d2 R3 s3 hn => ?_, fun φ2 m3 H3 i2 R3 s3 hn => ?_⟩ hbig e3 fun φ' v H' R' s' r' => ?_
            · unfold lkd at hn
              split at hn
              · rename_i hl
                have hn : ks[i2]? = some d2 := Option.some.inj hn
                obtain ⟨w, hw, rw2⟩ := (k1.step R1 s3).get hn
                rw [List.getElem?_map] at hw
                cases hq : kvs[i2]? with
                | none => rw [hq] at hw; cases hw
                | some kv =>
                  rw [hq] at hw
                  cases hw
                  refine ⟨⟨frz R3 s3.pre hl, (List.getElem?_eq_some_iff.mp hq).1⟩, fun x H4 hy => ?_⟩
                  obtain ⟨rfl, k2, v2, h5, rfl⟩ := hy
                  rw [hq] at h5
                  cases h5
                  exact ⟨R3, .refl _ _, rw2⟩
              · cases hn
            · unfold lkd at hn
              split at hn
              · rename_i hl
                have hn : ks[i2]? = none := Option.some.inj hn
                have := List.getElem?_eq_none_iff.mp hn
                have l1 := k1.length
                rw [List.length_map] at l1
                exact ⟨frz R3 s3.pre hl, by omega⟩
              · cases hn
            · have hf := frz R' s'.pre f1
              have s1' := s1.trans s'
              obtain ⟨R4, s4⟩ := R'.write (d := .dct ks vs) (ho := .dK kvs) (get_pre s'.pre hφ) ⟨fun hb => by
                obtain ⟨p3, ho3, g1, g2, g3⟩ := R.old k _ hb hm
                rw [hφ] at g1
                cases g1
                rw [hp] at g2
                cases g2
                cases g3 with
                | dK a b => exact .dK (a.mono (Kp.step R s1') (take_pre s'.pre _)) (b.mono (Kp.step R s1') (take_pre s'.pre _)), fun _ => .dK (t1.mono (Kp.step R s1') s'.pre) (t2.mono (Kp.step R s1') s'.pre)⟩
              exact ⟨hf, q φ' v _ R4 (s1'.trans s4) ((r'.older fun p => s1.free).step R' s4)⟩
    · cases e
  · cases e
end
end Bell
end

section
set_option maxRecDepth 100000
/-! every expression that is compiled -/
namespace Bell
open PySem PySem.Spec PyProof.Rows L2
structure Ok (Γ : Ct) (X : Cx) (C : Cf) : Prop where
  S : StoreOk X Γ.N Γ.raw
  sc : X.env.scope = Γ.sc
  calm : X.calm = true
  hu : X.A.units + 65 < cLine
  bl : ∀ x, Γ.bl.contains x = true → X.mg x = none
  pat : ∀ x n ks f p ds, findPat x n ks Γ.pats = some (f, p, ds) → CallOk X (C.call f) x n ks p ds
  lam : ∀ l, C.lam = some l → LamOk X l
  lamAt : ∀ q, Γ.lq = some q → LamAt Γ X C q
theorem Ok.blk {Γ : Ct} {X : Cx} {C : Cf} (O : Ok Γ X C) (scope : Scope) (s : Shared) (H : Hp) (A : Addr) (cl : List (Str × Addr)) (fp : List Addr) : Ok (Γ.blk scope) (X.blk s H scope (compEnvC scope cl A X.env) fp) C := by
  have hsc : (compEnvC scope cl A X.env).scope = relS scope X.env.scope := rfl
  refine ⟨⟨O.S.hN, O.S.nd, fun x hx => ?_⟩, ?_, O.calm, O.hu, O.bl, fun x n ks f p ds h => ⟨(O.pat x n ks f p ds h).ex⟩, fun l hl => ⟨(O.lam l hl).at_, (O.lam l hl).run⟩, fun q hq => nomatch hq⟩
  · have hx : isLoc scope x = true := hx
    unfold isLoc at hx
    split at hx
    · rename_i h
      have k := lookup_relS_keep (sc := X.env.scope) (by decide) h
      exact ⟨.inl k, .inr k⟩
    · rename_i h
      have k := lookup_relS_keep (sc := X.env.scope) (by decide) h
      refine ⟨.inr k, .inl ?_⟩
      show (scope.names.lookup x == some .cell) = true
      rw [h]
      rfl
    · cases hx
  · show relS scope X.env.scope = relS scope Γ.sc
    rw [O.sc]
theorem okName_ok {x : Str} (h : okName x = true) : (x == ("__debug__" : Str)) = false ∧ (x == ("__classdict__" : Str)) = false ∧ x ≠ "__name__" := by
  unfold okName at h
  simp only [Bool.and_eq_true, Bool.not_eq_true'] at h
  obtain ⟨⟨h1, h2⟩, h3⟩ := h
  exact ⟨h1, h2, beq_eq_false_iff_ne.mp h3⟩
theorem isGlob_ok {Γ : Ct} {X : Cx} {C : Cf} (O : Ok Γ X C) {x : Str} (h : isGlob Γ.sc x = true) : Gl X x := by
  unfold isGlob at h
  show X.env.scope.names.lookup x = _
  rw [O.sc]
  split at h
  · rename_i e; exact e
  · cases h
theorem isVis_ok {Γ : Ct} {X : Cx} {C : Cf} (O : Ok Γ X C) {x : Str} (h : isVis Γ.sc x = true) : Vis X.env.scope x := by
  rw [O.sc]
  unfold isVis at h
  split at h
  · rename_i e; exact .inl e
  · rename_i e; exact .inr (.inl e)
  · rename_i e; exact .inr (.inr e)
  · cases h
theorem cOp_ok {op : Operator} {o : Bop} (h : cOp op = some o) : op = opOf o := by
  cases op <;> first | (cases h; rfl) | (cases h)
theorem cCmp_ok (op : CmpOp) : cmpOf (cCmp op) = op := by cases op <;> rfl
theorem slice_ok {b : Expr} (h : notSlice b = true) : PlainIx b ∧ NoSl b := by
  have : ∀ o i, subscripted b false o i = operate [o, i] (getItem o i) := by
    intro o i
    cases b <;> first | rfl | (cases h)
  exact ⟨this, this⟩
theorem plainTest_ok {e : Expr} (h : plainTest e = true) (env : PySem.Env) : ∀ whole, isTrue e env whole = (do let v ← whole; standAt e.pos; holding [v] (truthy v)) := by
  intro w
  cases e <;> first | rfl | (cases h)
/-- a display's length is its text's -/
theorem cArgs_len {f : Expr → Option E} {es : List Expr} {E' : E} (h : cArgs f es = some E') {C : Cf} (hb : isBig es.length = true) : ∀ ρ m ds m', ev C E' ρ m = .ok (.tup ds) m' → ds.length ≤ sizeLine := fun ρ m ds m' e => by
  rw [args_len (cArgs_is h) e]
  exact isBig_le hb
theorem notSet_ok {iter : Expr} (h : ∀ a b c, iter ≠ .Set a b c) (env : PySem.Env) : ∀ x, foldedSetIterable iter env x = pure x := by
  intro x
  cases iter <;> first | rfl | (exact absurd rfl (h _ _ _))
theorem fewArgs {f : Expr → Option E} {env : PySem.Env} {pos : Pos} {e : Expr} {es : List Expr} {E' : E} (h : cArgs f (e :: es) = some E') (hl : (e :: es).length < 30) : ((backTo pos (starEach (e :: es) env)).all (fun x => !x.1) && (backToKw pos (keywordEach [] env)).all (fun x => x.1.isSome)
      && decide ((e :: es).length + ([] : List Keyword).length + (if ([] : List Keyword).isEmpty then 0 else 1) < 30)) = true := by
  have h1 := args_plain (env := env) (pos := pos) h
  rw [List.any_eq_false] at h1
  have h2 : (backTo pos (starEach (e :: es) env)).all (fun x => !x.1) = true := by
    rw [List.all_eq_true]
    intro x hx
    simpa using h1 x hx
  rw [h2]
  simp at hl ⊢
  refine ⟨?_, by omega⟩
  intro a b hab
  cases hab
theorem args_tail {f : Expr → Option E} {e : Expr} {es : List Expr} {E' : E} (h : cArgs f (e :: es) = some E') : ∃ E2, cArgs f es = some E2 := by
  unfold cArgs at h
  split at h
  · cases h2 : cArgs f es with
    | none => rw [h2] at h; cases h1 : f e <;> (rw [h1] at h; simp at h)
    | some E2 => exact ⟨E2, rfl⟩
  · cases h
theorem me_ok {X : Cx} (hu : X.A.units + 65 < cLine) {name : Str} {me : Me} (h : cMe name = some me) (hg : me ≠ .get) : ∃ id, PlainAttrs "list" ∧ Slot "list" name id ∧ typeOf (.builtin id) = pure (.type "method_descriptor") ∧ MtR X id (rMe X.K me) := by
  unfold cMe at h
  split at h
  · rename_i e1; subst e1; cases h; exact ⟨_, PySem.F.plainAttrs_list, PySem.F.slot_list_append, PySem.F.type_list_append, mr_append⟩
  split at h
  · rename_i e1; subst e1; cases h; exact ⟨_, PySem.F.plainAttrs_list, PySem.F.slot_list_extend, PySem.F.type_list_extend, mr_extend⟩
  split at h
  · rename_i e1; subst e1; cases h; exact ⟨_, PySem.F.plainAttrs_list, PySem.F.slot_list_index, PySem.F.type_list_index, mr_index hu⟩
  split at h
  · rename_i e1; subst e1; cases h; exact ⟨_, PySem.F.plainAttrs_list, PySem.F.slot_list_pop, PySem.F.type_list_pop, mr_pop⟩
  · cases h
section
variable {X : Cx} {C : Cf} {Γ : Ct} {pos : Pos}
theorem pe_cmpare (O : Ok Γ X C) {f : Expr → Option E} (k : ∀ e E1, f e = some E1 → PE X e (TEv X.K C E1)) {a : Expr} {ops : List CmpOp} {bs : List Expr} {E' : E} (h : cCompare f a ops bs = some E') :
    PE X (.Compare a ops bs pos) (TEv X.K C E') ∧ PT X (.Compare a ops bs pos) (TTv X.K C E') := by
  unfold cCompare at h
  split at h
  · rename_i op b
    split at h
    · cases h
    · rename_i hb
      split at h
      · rename_i x y hx hy
        cases h
        have hm : behindInMarks (cmpOf (cCmp op)) b = false := by rw [cCmp_ok]; simpa using hb
        have h1 := te_cmp (pos := pos) (op := cCmp op) O.hu hm (k _ _ hx) (k _ _ hy)
        have h2 := tt_cmp (pos := pos) (op := cCmp op) O.hu hm (k _ _ hx) (k _ _ hy)
        rw [cCmp_ok] at h1 h2
        exact ⟨h1, h2⟩
      · cases h
  · rename_i op op2 b c
    split at h
    · cases h
    · rename_i hb
      split at h
      · rename_i x y z hx hy hz
        cases h
        have hm : behindInMarks (cmpOf (cCmp op2)) c = false := by rw [cCmp_ok]; simpa using hb
        have h1 := te_chain (pos := pos) (op := cCmp op) (op2 := cCmp op2) O.hu hm (k _ _ hx) (k _ _ hy) (k _ _ hz)
        have h2 := tt_chain (pos := pos) (op := cCmp op) (op2 := cCmp op2) O.hu hm (k _ _ hx) (k _ _ hy) (k _ _ hz)
        rw [cCmp_ok, cCmp_ok] at h1 h2
        exact ⟨h1, h2⟩
      · cases h
  · cases h
theorem ti_ok (O : Ok Γ X C) {f : Expr → Option E} (k : ∀ e E1, f e = some E1 → PE X e (TEv X.K C E1)) {iter tg : Expr} {sk : Sk} {E' : E} (h : cIt Γ f tg iter = some (sk, E')) :
    PI X tg iter (TIv X.K C sk E') ∧ ∀ x, foldedSetIterable iter X.env x = pure x := by
  have val : ∀ {sk E'}, (if notStar iter then (f iter).map fun a => (Sk.val, E.cons a .nil) else none) = some (sk, E') → PI X tg iter (TIv X.K C sk E') := by
    intro sk E' h
    split at h
    · cases h1 : f iter with
      | none => rw [h1] at h; cases h
      | some E1 =>
        rw [h1] at h
        cases h
        exact ti_val (k _ _ h1)
    · cases h
  unfold cIt at h
  dsimp only at h
  split at h
  · rename_i x p args pos
    refine ⟨?_, notSet_ok (fun _ _ _ z => by cases z) _⟩
    split at h
    · rename_i hx
      simp only [Bool.and_eq_true] at hx
      split at h
      · rename_i e1
        subst e1
        cases ha : cArgs f args with
        | none => rw [ha] at h; cases h
        | some A =>
          rw [ha] at h
          have ia := cArgs_is ha
          have pa := ta_args args ha fun e _ E1 h => k e E1 h
          match args, ha, ia, pa, h with
          | [a], ha, ia, pa, h =>
            cases h
            exact ti_rng1 (isGlob_ok O hx.1.1) (O.bl _ hx.1.2) pa (args_star ha) ia
          | [a, b], ha, ia, pa, h =>
            cases h
            obtain ⟨E2, h2⟩ := args_tail ha
            exact ti_rng2 (isGlob_ok O hx.1.1) (O.bl _ hx.1.2) pa (by rw [args_star ha, args_star h2]; rfl) (args_star h2) ia
          | [a, b, c], ha, ia, pa, h =>
            cases h
            obtain ⟨E2, h2⟩ := args_tail ha
            exact ti_rng3 (isGlob_ok O hx.1.1) (O.bl _ hx.1.2) pa (args_star ha) (args_plain h2) ia
          | [], _, _, _, h => cases h
          | _ :: _ :: _ :: _ :: _, _, _, _, h => cases h
      · split at h
        · rename_i e1
          subst e1
          split at h
          · rename_i htg
            cases tg <;> first | (cases htg; done) | skip
            cases ha : cArgs f args with
            | none => rw [ha] at h; cases h
            | some A =>
              rw [ha] at h
              have ia := cArgs_is ha
              have pa := ta_args args ha fun e _ E1 h => k e E1 h
              match args, ha, ia, pa, h with
              | [a], ha, ia, pa, h =>
                cases h
                exact ti_enum (isGlob_ok O hx.1.1) (O.bl _ hx.1.2) pa (args_star ha) ia
              | [], _, _, _, h => cases h
              | _ :: _ :: _, _, _, _, h => cases h
          · cases h
        split at h
        · rename_i e1
          subst e1
          split at h
          · rename_i htg
            cases tg <;> first | (cases htg; done) | skip
            cases ha : cArgs f args with
            | none => rw [ha] at h; cases h
            | some A =>
              rw [ha] at h
              have ia := cArgs_is ha
              have pa := ta_args args ha fun e _ E1 h => k e E1 h
              match args, ha, ia, pa, h with
              | [a, b], ha, ia, pa, h =>
                cases h
                obtain ⟨E2, h2⟩ := args_tail ha
                exact ti_zip (isGlob_ok O hx.1.1) (O.bl _ hx.1.2) pa (args_star ha) (args_plain h2) ia
              | [], _, _, _, h => cases h
              | [_], _, _, _, h => cases h
              | _ :: _ :: _ :: _, _, _, _, h => cases h
          · cases h
        split at h
        · cases h
        · exact val h
    · exact val h
  · cases h
  · rename_i h1 h2
    exact ⟨val h, notSet_ok (fun a b c z => h2 a b c z) _⟩
theorem to_ok {f : Expr → Option E} (k : ∀ e E1, f e = some E1 → PE X e (TEv X.K C E1)) {o : Option Expr} {E' : E} (h : cOpt f o = some E') : PO X o (TOv X.K C E') := by
  cases o with
  | none => cases h; exact to_none
  | some e =>
    replace h : (f e).map E.nd = some E' := h
    cases h1 : f e with
    | none => rw [h1] at h; cases h
    | some E1 =>
      rw [h1] at h
      cases h
      exact to_some (k _ _ h1)
end

section
variable {X : Cx} {C : Cf} {Γ : Ct}
theorem isi_ok (O : Ok Γ X C) {f : Expr → Option E} (k : ∀ e E1, f e = some E1 → PE X e (TEv X.K C E1)) {x : Str} {p pos : Pos} {args : List Expr} {kws : List Keyword} {E' : E} (hg : isGlob Γ.sc x = true) (h : cIsi Γ f x args kws = some E') : PE X (.Call (.Name x p) args kws pos) (TEv X.K C E') := by
  unfold cIsi at h
  split at h
  · rename_i c
    simp only [Bool.and_eq_true, decide_eq_true_eq] at c
    obtain ⟨rfl, cb⟩ := c
    split at h
    · rename_i a y q
      split at h
      · rename_i c2
        simp only [Bool.and_eq_true] at c2
        split at h
        · rename_i t e ht he
          cases h
          exact te_isin ht (isGlob_ok O hg) (O.bl _ cb) (isGlob_ok O c2.1.2) (O.bl _ c2.2) (k _ _ he) (star_cons c2.1.1.1)
        · cases h
      · cases h
    · cases h
  · cases h
theorem lam_ok (O : Ok Γ X C) {f : Expr → Option E} {g : Ct → Expr → Option E} (k : ∀ e E1, f e = some E1 → PE X e (TEv X.K C E1)) (kg : ∀ Γ X C e E1, Ok Γ X C → g Γ e = some E1 → PE X e (TEv X.K C E1)) {x : Str} {p pos : Pos} {args : List Expr} {kws : List Keyword} {E' : E} (hg : isGlob Γ.sc x = true) (hdb : (x == ("__debug__" : Str)) = false) (h : cLam Γ f g x args kws = some E') : PE X (.Call (.Name x p) args kws pos) (TEv X.K C E') := by
  unfold cLam at h
  split at h
  · rename_i ea pn pp body scope lpos
    split at h
    · rename_i c
      simp only [Bool.and_eq_true] at c
      obtain ⟨⟨c1, c2⟩, c3⟩ := c
      have S := NdefX.nscope_by c2
      split at h
      · rename_i q fi js Ea b hq hp hj ha hb
        cases h
        have LA := O.lamAt q hq
        obtain ⟨kk, hr, low⟩ := LA.low
        refine te_callc LA hr (low _ _ _ _ _ _ hp) O.sc O.S.hN (isGlob_ok O hg) hdb hj S c3 (k _ _ ha) c1 fun base' X' n up h1 h2 h3 h4 h5 h6 h7 h8 h9 => ?_
        refine kg (Γ.lam (lamN pn scope) scope) X' _ body b ⟨⟨h7, by rw [h7]; exact S.nd, fun y hy => ?_⟩, h6, h8, ?_, fun y hy => by rw [h4]; exact O.bl y hy, fun y n1 ks f1 p1 ds1 hp1 => ?_, fun l z => (nomatch z), fun q z => (nomatch z)⟩ hb
        · have hy : isLoc scope y = true := hy
          unfold isLoc at hy
          rw [h6]
          split at hy
          · rename_i e
            exact ⟨.inl e, .inr e⟩
          · rename_i e
            exact absurd rfl (S.nocell _ (PySem.mem_of_lookup e))
          · cases hy
        · have := h9.un
          omega
        · obtain ⟨addr, fd, ps, g2, gV, g3, g4, g5, g6, g7⟩ := (low y n1 ks f1 p1 ds1 hp1).ex
          refine ⟨addr, fd, ps, kk, g2, gV, by rw [h4]; exact g3, by rw [h3]; exact g4, by rw [h3]; exact g5, ?_, h9, by rw [h3]; exact g6⟩
          rw [h1, h2, h3, h4, h5]
          exact (g7 base' up kk (Nat.le_refl _)).1
      · cases h
    · cases h
  · cases h
theorem z3_ok (O : Ok Γ X C) {f : Expr → Option E} (k : ∀ e E1, f e = some E1 → PE X e (TEv X.K C E1)) {x : Str} {p pos : Pos} {args : List Expr} {kws : List Keyword} {E' : E} (hg : isGlob Γ.sc x = true) (h : cZ3 Γ f x args kws = some E') : PE X (.Call (.Name x p) args kws pos) (TEv X.K C E') := by
  unfold cZ3 at h
  split at h
  · rename_i y q a b d q2
    split at h
    · rename_i c
      simp only [Bool.and_eq_true, decide_eq_true_eq, beq_iff_eq] at c
      obtain ⟨⟨⟨⟨rfl, c1⟩, c2⟩, c3⟩, rfl⟩ := c
      cases ha : cArgs f [a, b, d] with
      | none => rw [ha] at h; cases h
      | some A =>
        rw [ha] at h
        cases h
        obtain ⟨E2, h2⟩ := args_tail ha
        exact te_z3 O.calm (isGlob_ok O hg) (O.bl _ c3) (isGlob_ok O c1) (O.bl _ c2) (ta_args [a, b, d] ha fun e _ E1 h => k e E1 h) (args_star ha) (args_plain h2)
    · cases h
  · cases h
theorem rgs_ok (O : Ok Γ X C) {f : Expr → Option E} (k : ∀ e E1, f e = some E1 → PE X e (TEv X.K C E1)) {x : Str} {p pos : Pos} {args : List Expr} {kws : List Keyword} {E' : E} (hg : isGlob Γ.sc x = true) (h : cRgs Γ f x args kws = some E') : PE X (.Call (.Name x p) args kws pos) (TEv X.K C E') := by
  unfold cRgs at h
  split at h
  · rename_i y q as q2
    split at h
    · rename_i c
      simp only [Bool.and_eq_true, decide_eq_true_eq] at c
      obtain ⟨⟨⟨rfl, c1⟩, c2⟩, c3⟩ := c
      split at h
      · rename_i a
        split at h
        · rename_i na
          cases he : f a with
          | none => rw [he] at h; cases h
          | some e =>
            rw [he] at h
            replace h : (if x = "tuple" then some (E.bi .tupR (.cons e .nil)) else if x = "list" then some (.bi .listR (.cons e .nil)) else none) = some E' := h
            have pr := prg_1 (p := q) (pos := q2) (isGlob_ok O c1) (O.bl _ c2) (k _ _ he) (star_cons na)
            have en : ∀ ρ m xs m1, ev C (.cons e .nil) ρ m = .ok (.tup xs) m1 → (∃ zs, rangeOf xs = some zs) → ∃ i j, rgEnds xs = some (i, j) := fun ρ m xs m1 h1 h2 => by
              obtain ⟨i, rfl, _⟩ := ends1 h1 h2
              exact ⟨_, _, rfl⟩
            split at h
            · rename_i ex; subst ex; cases h
              exact te_tupR O.calm (isGlob_ok O hg) (O.bl _ c3) pr rg1_of en
            · split at h
              · rename_i ex; subst ex; cases h
                exact te_lstR O.calm (isGlob_ok O hg) (O.bl _ c3) pr rg1_of en
              · cases h
        · cases h
      · rename_i a b
        split at h
        · rename_i nab
          rw [Bool.and_eq_true] at nab
          split at h
          · rename_i e e2 he he2
            have pr := prg_2 (p := q) (pos := q2) (isGlob_ok O c1) (O.bl _ c2) (k _ _ he) (k _ _ he2) (star_cons nab.1) (star_cons nab.2) (by rw [star_cons nab.2]; rfl)
            have en : ∀ ρ m xs m1, ev C (.cons e (.cons e2 .nil)) ρ m = .ok (.tup xs) m1 → (∃ zs, rangeOf xs = some zs) → ∃ i j, rgEnds xs = some (i, j) := fun ρ m xs m1 h1 h2 => by
              obtain ⟨i, j, _, rfl, _⟩ := ends2 h1 h2
              exact ⟨_, _, rfl⟩
            split at h
            · rename_i ex; subst ex; cases h
              exact te_tupR O.calm (isGlob_ok O hg) (O.bl _ c3) pr rg2_of en
            · split at h
              · rename_i ex; subst ex; cases h
                exact te_lstR O.calm (isGlob_ok O hg) (O.bl _ c3) pr rg2_of en
              · cases h
          · cases h
        · cases h
      · cases h
    · cases h
  · cases h
end
section
/-- EXPRESSIONS -/
theorem x_ok : ∀ n : Nat, (∀ (Γ : Ct) (X : Cx) (C : Cf) (e : Expr) (E' : E), Ok Γ X C → cX n false Γ e = some E' → PE X e (TEv X.K C E')) ∧ (∀ (Γ : Ct) (X : Cx) (C : Cf) (e : Expr) (E' : E), Ok Γ X C → cX n true Γ e = some E' → PT X e (TTv X.K C E'))
  | 0 => ⟨fun _ _ _ _ _ _ h => by simp [cX] at h, fun _ _ _ _ _ _ h => by simp [cX] at h⟩
  | n + 1 => by
    obtain ⟨ihE, ihT⟩ := x_ok n
    refine ⟨fun Γ X C e E' O h => ?_, fun Γ X C e E' O h => ?_⟩
    · have kE : ∀ e E1, cX n false Γ e = some E1 → PE X e (TEv X.K C E1) := fun e E1 h => ihE Γ X C e E1 O h
      have kT : ∀ e E1, cX n true Γ e = some E1 → PT X e (TTv X.K C E1) := fun e E1 h => ihT Γ X C e E1 O h
      unfold cX at h
      try dsimp only at h
      split at h
      · -- a name
        rename_i x p
        split at h
        · rename_i hn
          split at h
          · rename_i hv
            cases hi : ixOfN x Γ.N with
            | none => rw [hi] at h; cases h
            | some i =>
              rw [hi] at h
              cases h
              obtain ⟨n1, n2, n3⟩ := okName_ok hn
              exact te_var (by rw [O.S.hN]; exact ixOfN_get hi) (isVis_ok O hv) n1 n2
          · cases h
        · cases h
      · -- a constant
        rename_i c k p
        cases hc : cC c with
        | none => rw [hc] at h; cases h
        | some d =>
          rw [hc] at h
          cases h
          exact te_con hc
      · -- a tuple
        rename_i es k p
        split at h
        · rename_i hb
          cases ha : cArgs (cX n false Γ) es with
          | none => rw [ha] at h; cases h
          | some A =>
            rw [ha] at h
            cases h
            exact te_tup (ta_args es ha fun e _ E1 h => kE e E1 h) (cArgs_len ha hb)
        · cases h
      · -- a list
        rename_i es p
        split at h
        · rename_i hb
          cases ha : cArgs (cX n false Γ) es with
          | none => rw [ha] at h; cases h
          | some A =>
            rw [ha] at h
            cases h
            exact te_lst (ta_args es ha fun e _ E1 h => kE e E1 h) (cArgs_len ha hb)
        · cases h
      · -- two operands
        rename_i a op b p
        split at h
        · rename_i o x y ho hx hy
          cases h
          have := cOp_ok ho
          subst this
          exact te_bin (kE _ _ hx) (kE _ _ hy)
        · cases h
      · rename_i a p
        cases ha : cX n false Γ a with
        | none => rw [ha] at h; cases h
        | some A =>
          rw [ha] at h
          cases h
          exact te_neg (kE _ _ ha)
      · rename_i a p
        cases ha : cX n false Γ a with
        | none => rw [ha] at h; cases h
        | some A =>
          rw [ha] at h
          cases h
          exact te_not (kE _ _ ha)
      · rename_i a ops bs p
        exact (pe_cmpare O kE h).1
      · rename_i op es p
        exact te_bools es h fun e _ E1 h => kE e E1 h
      · rename_i t a b p
        split at h
        · rename_i x y z hx hy hz
          cases h
          exact te_ife (kT _ _ hx) (kE _ _ hy) (kE _ _ hz)
        · cases h
      · -- a call by a name
        rename_i x p args kws pos
        split at h
        · rename_i hx
          rw [Bool.and_eq_true] at hx
          obtain ⟨n1, n2, n3⟩ := okName_ok hx.1
          split at h
          · rename_i r hr
            cases h
            exact lam_ok O kE (fun Γ X C e E1 O h => ihE Γ X C e E1 O h) hx.2 n1 hr
          split at h
          · rename_i r hr
            cases h
            exact isi_ok O kE hx.2 hr
          split at h
          · rename_i r hr
            cases h
            exact z3_ok O kE hx.2 hr
          split at h
          · rename_i r hr
            cases h
            exact rgs_ok O kE hx.2 hr
          split at h
          · rename_i A ks B ha hk
            have pa := ta_args args ha fun e _ E1 h => kE e E1 h
            have pk := tk_kws kws hk fun k _ E1 h => kE k.value E1 h
            split at h
            · rename_i f q ds hp
              cases h
              exact te_callp ha hk (isGlob_ok O hx.2) n1 pa pk (O.pat _ _ _ _ _ _ hp)
            · rename_i hp
              split at h
              · rename_i hb
                simp only [Bool.and_eq_true] at hb
                cases hq : cBi x with
                | none => rw [hq] at h; cases h
                | some q =>
                  rw [hq] at h
                  cases h
                  match args, ha, pa, hb with
                  | [], _, _, hb => simp at hb
                  | e :: es, ha, pa, hb =>
                    match kws, hb with
                    | _ :: _, hb => simp at hb
                    | [], _ =>
                      obtain ⟨E2, h2⟩ := args_tail ha
                      exact te_bi pa (bi_call hq O.calm O.hu (isGlob_ok O hx.2) (O.bl _ hb.1.1) pa (args_star ha) (args_plain h2))
              · cases h
          · cases h
        · split at h
          · rename_i hx
            simp only [Bool.and_eq_true] at hx
            obtain ⟨⟨⟨hx1, hx2⟩, hx3⟩, hx4⟩ := hx
            obtain ⟨n1, n2, n3⟩ := okName_ok hx1
            split at h
            · rename_i A i ha hi
              cases h
              have pa := ta_args args ha fun e _ E1 h => kE e E1 h
              match args, ha, pa, hx4 with
              | [], _, _, hx4 => simp at hx4
              | e :: es, ha, pa, _ =>
                match kws, hx3 with
                | _ :: _, hx3 => simp at hx3
                | [], _ =>
                  obtain ⟨E2, h2⟩ := args_tail ha
                  exact te_callv O.lam (by rw [O.S.hN]; exact ixOfN_get hi) (isVis_ok O hx2) n1 n2 pa (args_star ha) (args_plain h2)
            · cases h
          · cases h
      · -- a method without arguments
        rename_i o name apos cpos
        split at h
        · cases h
        · rename_i hno
          split at h
          · rename_i hl
            simp only [Bool.and_eq_true, decide_eq_true_eq] at hl
            obtain ⟨hl, rfl⟩ := hl
            cases ha : cX n false Γ o with
            | none => rw [ha] at h; cases h
            | some A =>
              rw [ha] at h
              cases h
              refine te_pop0 (kE _ _ ha) ?_ hl
              unfold attributeBase
              cases o <;> first | rfl | (exact absurd rfl (hno _ _ _ _))
          · cases h
      · -- a method
        rename_i o name apos args cpos _
        split at h
        · cases h
        · rename_i hno
          split at h
          · rename_i hl
            simp only [Bool.and_eq_true] at hl
            split at h
            · rename_i me x y hme hx hy
              cases h
              match args, hy, hl with
              | [], _, hl => simp at hl
              | e :: es, hy, hl =>
                have hg : me ≠ .get := by
                  intro z
                  subst z
                  unfold cMe at hme
                  split at hme
                  · cases hme
                  split at hme
                  · cases hme
                  split at hme
                  · cases hme
                  split at hme
                  · cases hme
                  · cases hme
                obtain ⟨id, pa, sl, ty, mr⟩ := me_ok O.hu hme hg
                obtain ⟨E2, h2⟩ := args_tail hy
                refine te_meth hg pa sl ty rfl mr (kE _ _ hx) (ta_args (e :: es) hy fun e _ E1 h => kE e E1 h) ?_ (fewArgs hy (of_decide_eq_true hl.2)) hl.1.1 (args_star hy) (args_plain h2)
                unfold attributeBase
                cases o <;> first | rfl | (exact absurd rfl (hno _ _ _ _))
            · cases h
          · cases h
      · -- a slice
        rename_i a lo hi p2 p
        split at h
        · rename_i x y z hx hy hz
          cases h
          exact te_slc (kE _ _ hx) (to_ok kE hy) (to_ok kE hz)
        · cases h
      · -- a subscript
        rename_i a b p _
        split at h
        · rename_i hs
          split at h
          · rename_i x y hx hy
            cases h
            obtain ⟨s1, s2⟩ := slice_ok hs
            exact te_idx s1 s2 (kE _ _ hx) (kE _ _ hy) O.hu
          · cases h
        · cases h
      · -- a comprehension
        rename_i elt tg iter ifs scope p
        split at h
        · rename_i hb
          split at h
          · rename_i i hdi
            split at h
            · rename_i t c e ht hc he
              split at h
              · rename_i hin
                cases h
                have ok : BlkOk X.N X.env.scope scope (ownOf Γ.N scope.names) := by
                  rw [O.S.hN, O.sc]
                  exact blkOk_by hb
                obtain ⟨x, px, rfl, hx1, hx2, hx3⟩ : ∃ x px, iter = .Name x px ∧ okName x = true ∧ isVis Γ.sc x = true ∧ ixOfN x Γ.N = some i := by
                  unfold dictIx at hdi
                  split at hdi
                  · split at hdi
                    · rename_i hh
                      simp only [Bool.and_eq_true] at hh
                      exact ⟨_, _, rfl, hh.1.2, hh.2, hdi⟩
                    · cases hdi
                  · cases hdi
                obtain ⟨n1, n2, n3⟩ := okName_ok hx1
                refine te_compd O.calm O.S.nd (by rw [O.S.hN]; exact ixOfN_get hx3) (isVis_ok O hx2) n1 n2 ok (fun s H A cl fp => pg_of (X := X.blk s H scope (compEnvC scope cl A X.env) fp) O.calm (O.blk scope s H A cl fp).S 8 tg t ht) (fun s H A cl fp => ?_) (fun s H A cl fp => ihE _ _ C _ _ (O.blk scope s H A cl fp) he) (fun _ => rfl) hin
                split at hc
                · cases hc
                  refine pts_nil.mono fun σ H Q h => ?_
                  obtain ⟨L, φ, ρ, m, b, m', R, hE, e, q⟩ := h
                  cases e
                  exact q φ H R (.refl _ _)
                · exact pts_one (ihT _ _ C _ _ (O.blk scope s H A cl fp) hc)
                · cases hc
              · cases h
            · cases h
          split at h
          · rename_i k i t c e hi ht hc he
            split at h
            · rename_i hin
              cases h
              have ok : BlkOk X.N X.env.scope scope (ownOf Γ.N scope.names) := by
                rw [O.S.hN, O.sc]
                exact blkOk_by hb
              obtain ⟨hi1, hi2⟩ := ti_ok O kE (tg := tg) hi
              have hg : ∀ (s : Shared) (H : Hp) (A : Addr) (cl : List (Str × Addr)) (fp : List Addr), PG (X.blk s H scope (compEnvC scope cl A X.env) fp) tg (gOf X.K t) := fun s H A cl fp => pg_of (X := X.blk s H scope (compEnvC scope cl A X.env) fp) O.calm (O.blk scope s H A cl fp).S 8 tg t ht
              have hif : ∀ (s : Shared) (H : Hp) (A : Addr) (cl : List (Str × Addr)) (fp : List Addr), PTs (X.blk s H scope (compEnvC scope cl A X.env) fp) ifs (TTv X.K C c) := fun s H A cl fp => by
                split at hc
                · cases hc
                  refine pts_nil.mono fun σ H Q h => ?_
                  obtain ⟨L, φ, ρ, m, b, m', R, hE, e, q⟩ := h
                  cases e
                  exact q φ H R (.refl _ _)
                · exact pts_one (ihT _ _ C _ _ (O.blk scope s H A cl fp) hc)
                · cases hc
              have hel : ∀ (s : Shared) (H : Hp) (A : Addr) (cl : List (Str × Addr)) (fp : List Addr), PE (X.blk s H scope (compEnvC scope cl A X.env) fp) elt (TEv X.K C e) := fun s H A cl fp => ihE _ _ C _ _ (O.blk scope s H A cl fp) he
              exact (pe_lc O.calm O.S.nd hi1 ok hg hif hel hi2).mono (te_comp (pos := p) O.calm O.S.nd hi1 ok hg hif hel hi2 hin)
            · cases h
          · cases h
        · cases h
      · cases h
        exact te_dct0
      · rename_i k v p
        split at h
        · rename_i x y hx hy
          cases h
          exact te_dct1 (kE _ _ hx) (kE _ _ hy)
        · cases h
      · cases h
    · have kE : ∀ e E1, cX n false Γ e = some E1 → PE X e (TEv X.K C E1) := fun e E1 h => ihE Γ X C e E1 O h
      have kT : ∀ e E1, cX n true Γ e = some E1 → PT X e (TTv X.K C E1) := fun e E1 h => ihT Γ X C e E1 O h
      unfold cX at h
      try dsimp only at h
      split at h
      · exact (pe_cmpare O kE h).2
      · rename_i op es p
        cases op with
        | And => exact (tt_ands es h fun e _ E1 h => kT e E1 h).pt
        | Or => exact (tt_ors es h fun e _ E1 h => kT e E1 h).pt
      · rename_i a p
        cases ha : cX n true Γ a with
        | none => rw [ha] at h; cases h
        | some A =>
          rw [ha] at h
          cases h
          exact tt_not (kT _ _ ha)
      · split at h
        · rename_i hp
          cases ha : cX n false Γ e with
          | none => rw [ha] at h; cases h
          | some A =>
            rw [ha] at h
            cases h
            exact tt_truth (kE _ _ ha) (plainTest_ok hp _)
        · cases h
end
end Bell
end

section
set_option maxRecDepth 100000
/-! statements -/
namespace Bell
open PySem PySem.Spec PyProof.Rows L2
/-- what is wanted of a statement's end -/
def EndOk (K : PySem.W.Frag) (D : Ends) (φ : List Addr) (H0 H : Hp) (σ : L2.St) : Fl → Prop
  | .nx => D.nx σ H
  | .brk => D.bk σ H
  | .cnt => D.ct σ H
  | .ret d => ∀ v, RV K φ H0 H d v → D.rt v H
def TSv (K : PySem.W.Frag) (C : Cf) (s : S) : TS := fun D σ H => ∃ L φ ρ m fl ρ' m', RelH K C.base L φ m H ∧ RelE K φ H ρ σ ∧ ex C s ρ m = .ok (fl, ρ') m' ∧
  ∀ φ' σ' H', RelH K C.base L φ' m' H' → Step φ H φ' H' → RelE K φ' H' ρ' σ' → EndOk K D φ' H H' σ' fl
theorem EndOk.older {K : PySem.W.Frag} {D : Ends} {φ : List Addr} {H0 H1 H : Hp} {σ : L2.St} {fl : Fl} (h : ∀ p, H1 p = none → H0 p = none) (e : EndOk K D φ H0 H σ fl) : EndOk K D φ H1 H σ fl := by
  cases fl with
  | ret d => exact fun v r => e v (r.older h)
  | _ => exact e
theorem _root_.L2.PS.mono {X : Cx} {e : Stmt} {t t' : TS} (h : PS X e t) (k : ∀ D σ H, t' D σ H → t D σ H) : PS X e t' := ⟨fun pins s σ H Q I q => h.run pins s σ H Q I (k Q σ H q)⟩
theorem _root_.L2.PSs.mono {X : Cx} {e : List Stmt} {t t' : TS} (h : PSs X e t) (k : ∀ D σ H, t' D σ H → t D σ H) : PSs X e t' := ⟨fun pins s σ H Q I q => h.run pins s σ H Q I (k Q σ H q)⟩
theorem _root_.L2.PS.or {X : Cx} {e : Stmt} {t t' : TS} (h : PS X e t) (h' : PS X e t') : PS X e (fun D σ H => t D σ H ∨ t' D σ H) := ⟨fun pins s σ H Q I q => q.elim (h.run pins s σ H Q I) (h'.run pins s σ H Q I)⟩
section
variable {X : Cx} {C : Cf} {Γ : Ct} {pos : Pos}
theorem ss_nil : PSs X [] (TSv X.K C .nil) := pss_nil.mono fun D σ H h => by
  obtain ⟨L, φ, ρ, m, fl, ρ', m', R, hE, e, q⟩ := h
  cases e
  exact q φ σ H R (.refl _ _) hE
theorem ex_cons {a b : S} {ρ ρ' : Env} {m m' : Hm} {fl : Fl} (e : ex C (.cons a b) ρ m = .ok (fl, ρ') m') : ∃ fl1 ρ1 m1, ex C a ρ m = .ok (fl1, ρ1) m1 ∧ ((fl1 = .nx ∧ ex C b ρ1 m1 = .ok (fl, ρ') m') ∨ (fl1 ≠ .nx ∧ fl = fl1 ∧ ρ' = ρ1 ∧ m' = m1)) := by
  unfold ex at e
  obtain ⟨⟨fl1, ρ1⟩, m1, e1, e⟩ := bind_inv e
  refine ⟨fl1, ρ1, m1, e1, ?_⟩
  cases fl1 with
  | nx => exact .inl ⟨rfl, e⟩
  | _ => cases e; exact .inr ⟨(fun z => by cases z), rfl, rfl, rfl⟩
theorem ss_cons {s : Stmt} {r : List Stmt} {a b : S} (h1 : PS X s (TSv X.K C a)) (h2 : PSs X r (TSv X.K C b)) : PSs X (s :: r) (TSv X.K C (.cons a b)) := (pss_cons h1 h2).mono fun D σ H h => by
  obtain ⟨L, φ, ρ, m, fl, ρ', m', R, hE, e, q⟩ := h
  obtain ⟨fl1, ρ1, m1, e1, e2⟩ := ex_cons e
  refine ⟨L, φ, ρ, m, fl1, ρ1, m1, R, hE, e1, fun φ1 σ1 H1 R1 s1 hE1 => ?_⟩
  rcases e2 with ⟨rfl, e2⟩ | ⟨hn, rfl, rfl, rfl⟩
  · exact ⟨L, φ1, ρ1, m1, fl, ρ', m', R1, hE1, e2, fun φ2 σ2 H2 R2 s2 hE2 => (q φ2 σ2 H2 R2 (s1.trans s2) hE2).older fun p h => s1.free h⟩
  · have := q φ1 σ1 H1 R1 s1 hE1
    cases fl with
    | nx => exact absurd rfl hn
    | ret d => exact this
    | brk => exact this
    | cnt => exact this
theorem ss_pass : PS X (.Pass pos) (TSv X.K C .pass) := ps_pass.mono fun D σ H h => by
  obtain ⟨L, φ, ρ, m, fl, ρ', m', R, hE, e, q⟩ := h
  cases e
  exact q φ σ H R (.refl _ _) hE
theorem ss_brk : PS X (.Break pos) (TSv X.K C .brk) := ps_break.mono fun D σ H h => by
  obtain ⟨L, φ, ρ, m, fl, ρ', m', R, hE, e, q⟩ := h
  cases e
  exact q φ σ H R (.refl _ _) hE
theorem ss_cnt : PS X (.Continue pos) (TSv X.K C .cnt) := ps_continue.mono fun D σ H h => by
  obtain ⟨L, φ, ρ, m, fl, ρ', m', R, hE, e, q⟩ := h
  cases e
  exact q φ σ H R (.refl _ _) hE
theorem ss_retN : PS X (.Return none pos) (TSv X.K C .retN) := ps_retN.mono fun D σ H h => by
  obtain ⟨L, φ, ρ, m, fl, ρ', m', R, hE, e, q⟩ := h
  cases e
  exact q φ σ H R (.refl _ _) hE _ (.st .non)
theorem ss_ret {e : Expr} {E1 : E} (he : PE X e (TEv X.K C E1)) : PS X (.Return (some e) pos) (TSv X.K C (.ret E1)) := (ps_ret he).mono fun D σ H h => by
  obtain ⟨L, φ, ρ, m, fl, ρ', m', R, hE, e, q⟩ := h
  unfold ex at e
  obtain ⟨d, m1, e1, e⟩ := bind_inv e
  cases e
  exact ⟨L, φ, ρ, m, d, m', R, hE, e1, fun φ1 v H1 R1 s1 r1 => q φ1 σ H1 R1 s1 (hE.step R s1) v r1⟩
theorem ss_exp {e : Expr} {E1 : E} (he : PE X e (TEv X.K C E1)) (hc : isC e = false) : PS X (.Expr e pos) (TSv X.K C (.exp E1)) := (ps_expr he (by cases e <;> first | rfl | (cases hc))).mono fun D σ H h => by
  obtain ⟨L, φ, ρ, m, fl, ρ', m', R, hE, e, q⟩ := h
  unfold ex at e
  obtain ⟨d, m1, e1, e⟩ := bind_inv e
  cases e
  exact ⟨L, φ, ρ, m, d, m', R, hE, e1, fun φ1 v H1 R1 s1 r1 => q φ1 σ H1 R1 s1 (hE.step R s1)⟩
theorem ss_if {t : Expr} {a b : List Stmt} {Et : E} {A B : S} (ht : PT X t (TTv X.K C Et)) (ha : PSs X a (TSv X.K C A)) (hb : PSs X b (TSv X.K C B)) : PS X (.If t a b pos) (TSv X.K C (.ifs Et A B)) := (ps_if ht ha hb).mono fun D σ H h => by
  obtain ⟨L, φ, ρ, m, fl, ρ', m', R, hE, e, q⟩ := h
  unfold ex at e
  obtain ⟨d, m1, e1, e⟩ := bind_inv e
  cases d <;> first | (cases e; done) | skip
  rename_i bb
  refine ⟨L, φ, ρ, m, bb, m1, R, hE, e1, fun φ1 H1 R1 s1 => ?_⟩
  cases bb with
  | true => exact ⟨L, φ1, ρ, m1, fl, ρ', m', R1, hE.step R s1, e, fun φ2 σ2 H2 R2 s2 hE2 => (q φ2 σ2 H2 R2 (s1.trans s2) hE2).older fun p h => s1.free h⟩
  | false => exact ⟨L, φ1, ρ, m1, fl, ρ', m', R1, hE.step R s1, e, fun φ2 σ2 H2 R2 s2 hE2 => (q φ2 σ2 H2 R2 (s1.trans s2) hE2).older fun p h => s1.free h⟩
/-! ### assignments -/
/-- a value is put behind a target, by Mini -/
theorem asg_ok {Ev : E} {t : Tg} {D : Ends} {σ : L2.St} {H : Hp} (h : TSv X.K C (.asg t Ev) D σ H) : tAsg (TEv X.K C Ev) (gOf X.K t) D σ H := by
  obtain ⟨L, φ, ρ, m, fl, ρ', m', R, hE, e, q⟩ := h
  unfold ex at e
  obtain ⟨d, m1, e1, e⟩ := bind_inv e
  dsimp only at e
  split at e
  · rename_i ρ1 ha
    cases e
    refine ⟨L, φ, ρ, m, d, m1, R, hE, e1, fun φ1 v H1 R1 s1 r1 => ?_⟩
    obtain ⟨φ2, p2, R2, r2, s2, f2⟩ := home_step R1 s1 r1
    exact assign_ok (K := X.K) (φ := φ2) (vs := []) t ha (hE.step R s2) r2 fun σ' hE' _ => q φ2 σ' H1 R2 s2 hE'
  · cases e
theorem kindFn {env : PySem.Env} (h : env.scope.kind = .function) : env.blockKind = .function := by unfold Env.blockKind; rw [h]; rfl
theorem ss_name {x : Str} {xp : Pos} {e : Expr} {t : Tg} {Ev : E} (O : Ok Γ X C) (hs : setTo Γ x xp e = true) (ht : cTg Γ.N Γ.raw 1 (.Name x xp) = some t) (hi : isC e = false) (he : PE X e (TEv X.K C Ev)) : PS X (.Assign [.Name x xp] e pos) (TSv X.K C (.asg t Ev)) := by
  have hg := pg_of O.calm O.S 1 _ _ ht
  refine (ps_asg he hg (by cases e <;> first | rfl | (cases hi)) (by cases e <;> rfl)).mono fun D σ H h => asg_ok h
theorem swp_ok {env : PySem.Env} {sc : Scope} {ts : List Expr} {k : Nat} {tp : Pos} {e : Expr} {r : Option (List Str)} (hsc : env.scope = sc) (hb : env.scope.kind = .function) (h : swp sc ts e = some r) : swappedStores [.Tuple ts k tp] e env = pure r := by
  subst hsc
  have hk := kindFn hb
  have go : ∀ {vs : List Expr} {q : Nat} {p : Pos}, e = .Tuple vs q p → swappedStores [.Tuple ts k tp] e env = pure r := by
    rintro vs q p rfl
    unfold swp at h
    try dsimp only at h
    unfold swappedStores
    try dsimp only
    have hst : ∀ e : Expr, (match e with | .Starred .. => true | _ => false) = !notStar e := fun e => by cases e <;> rfl
    split at h
    · rename_i c
      cases h
      rw [if_pos (by rw [c]; rfl)]
    · rename_i c
      rw [if_neg (by rw [hk]; simpa using c)]
      split at h
      · cases h
      · rename_i c2
        refine (if_neg (fun z => c2 ?_)).trans ?_
        · rw [← z]
          exact congrArg (fun f => vs.any f) (funext fun e => (hst e).symm)
        split at h
        · rename_i c3
          cases h
          refine (if_pos ?_).trans rfl
          exact c3
        · rename_i c3
          refine (if_neg ?_).trans ?_
          · exact c3
          split at h
          · rename_i c4
            cases h
            exact (if_pos c4).trans rfl
          · rename_i c4
            refine (if_neg c4).trans ?_
            split at h
            · cases h
            · rename_i c5
              cases h
              exact (if_neg c5).trans rfl
  cases e <;> first
    | exact go rfl
    | (unfold swp at h; cases h; rfl)
theorem fm_len {α β : Type} {f : α → Option β} : ∀ l : List α, (l.filterMap f).length = l.length → l.map f = (l.filterMap f).map some
  | [], _ => rfl
  | a :: l, h => by
    cases q : f a with
    | none =>
      rw [List.filterMap_cons_none q] at h
      have := List.length_filterMap_le f l
      simp at h
      omega
    | some b =>
      rw [List.filterMap_cons_some q] at h ⊢
      simp only [List.length_cons, Nat.add_right_cancel_iff] at h
      rw [List.map_cons, q, List.map_cons, fm_len l h]
def nmOf (sc : Scope) (line : Nat) : Expr → Option Str
  | .Name id pos => if sc.names.lookup id == some .local && pos.line == line then some id else none
  | _ => none
theorem nmOf_some {sc : Scope} {line : Nat} {e : Expr} {x : Str} (h : nmOf sc line e = some x) : ∃ p, e = .Name x p ∧ sc.names.lookup x = some .local := by
  unfold nmOf at h
  split at h
  · split at h
    · rename_i c
      cases h
      simp only [Bool.and_eq_true, beq_iff_eq] at c
      exact ⟨_, rfl, c.1⟩
    · cases h
  · cases h
theorem par_inv {sc : Scope} {ts : List Expr} {e : Expr} {names : List Str} (h : swp sc ts e = some (some names)) : ∃ vs q p, e = .Tuple vs q p ∧ vs.length = ts.length ∧ (ts.length = 2 ∨ ts.length = 3) ∧ names.eraseDups.length = names.length ∧ ∃ line, ts.map (nmOf sc line) = names.map some := by
  cases e <;> first
    | (unfold swp at h; cases h; done)
    | skip
  rename_i vs q p
  refine ⟨vs, q, p, rfl, ?_⟩
  unfold swp at h
  try dsimp only at h
  split at h
  · cases h
  · rename_i c
    simp only [Bool.or_eq_true, Bool.not_eq_true', bne_iff_ne, not_or, Bool.not_eq_false', beq_iff_eq, Bool.eq_false_iff, ne_eq, Decidable.not_not] at c
    split at h
    · cases h
    · split at h
      · cases h
      · rename_i c3
        split at h
        · cases h
        · split at h
          · cases h
          · cases h
            simp only [Bool.or_eq_true, bne_iff_ne, not_or, ne_eq, Decidable.not_not] at c3
            refine ⟨c.2, by have := c.1; omega, c3.2, (ts.head?.map (·.pos.line)).getD 0, ?_⟩
            exact fm_len ts c3.1
theorem two_names {sc : Scope} {ts : List Expr} {names : List Str} {line : Nat} (h2 : ts.length = 2) (hd : names.eraseDups.length = names.length) (h : ts.map (nmOf sc line) = names.map some) :
    ∃ x y px py, ts = [.Name x px, .Name y py] ∧ names = [x, y] ∧ x ≠ y ∧ sc.names.lookup x = some .local ∧ sc.names.lookup y = some .local := by
  match ts, names, h2, h with
  | [a, b], [x, y], _, h =>
    simp only [List.map, List.cons.injEq] at h
    obtain ⟨p1, rfl, l1⟩ := nmOf_some h.1
    obtain ⟨p2, rfl, l2⟩ := nmOf_some h.2.1
    refine ⟨x, y, p1, p2, rfl, rfl, fun e => ?_, l1, l2⟩
    subst e
    simp [List.eraseDups_cons] at hd
  | [a, b], [], _, h => simp at h
  | [a, b], [_], _, h => simp at h
  | [a, b], _ :: _ :: _ :: _, _, h => simp at h
theorem three_names {sc : Scope} {ts : List Expr} {names : List Str} {line : Nat} (h2 : ts.length = 3) (hd : names.eraseDups.length = names.length) (h : ts.map (nmOf sc line) = names.map some) :
    ∃ x y z px py pz, ts = [.Name x px, .Name y py, .Name z pz] ∧ names = [x, y, z] ∧ x ≠ y ∧ x ≠ z ∧ y ≠ z ∧ sc.names.lookup x = some .local ∧ sc.names.lookup y = some .local ∧ sc.names.lookup z = some .local := by
  match ts, names, h2, h with
  | [a, b, c], [x, y, z], _, h =>
    simp only [List.map, List.cons.injEq] at h
    obtain ⟨p1, rfl, l1⟩ := nmOf_some h.1
    obtain ⟨p2, rfl, l2⟩ := nmOf_some h.2.1
    obtain ⟨p3, rfl, l3⟩ := nmOf_some h.2.2.1
    refine ⟨x, y, z, p1, p2, p3, rfl, rfl, fun e => ?_, fun e => ?_, fun e => ?_, l1, l2, l3⟩
    · subst e
      simp only [List.eraseDups_cons, List.filter_cons, bne_self_eq_false, Bool.not_true, Bool.false_eq_true, if_false, beq_self_eq_true] at hd
      split at hd <;> simp [List.eraseDups_cons] at hd
    · subst e
      simp only [List.eraseDups_cons, List.filter_cons, bne_self_eq_false, Bool.not_true, Bool.false_eq_true, if_false, beq_self_eq_true] at hd
      split at hd <;> simp [List.eraseDups_cons] at hd
    · subst e
      simp only [List.eraseDups_cons, List.filter_cons, bne_self_eq_false, Bool.not_true, Bool.false_eq_true, if_false, beq_self_eq_true] at hd
      split at hd <;> simp [List.eraseDups_cons] at hd
  | [a, b, c], [], _, h => simp at h
  | [a, b, c], [_], _, h => simp at h
  | [a, b, c], [_, _], _, h => simp at h
  | [a, b, c], _ :: _ :: _ :: _ :: _, _, h => simp at h
theorem ixOfN_inj {l : List Str} {x y : Str} {i j : Nat} (hx : ixOfN x l = some i) (hy : ixOfN y l = some j) (h : x ≠ y) : i ≠ j := fun e => by
  subst e
  have a := ixOfN_get hx
  have b := ixOfN_get hy
  rw [a] at b
  exact h (Option.some.inj b)
theorem cTg_nm {N : List Str} {raw : Scope} {n : Nat} {x : Str} {p : Pos} {t : Tg} (h : cTg N raw (n + 1) (.Name x p) = some t) : ∃ i, ixOfN x N = some i ∧ t = .nm i := by
  unfold cTg at h
  split at h
  · cases q : ixOfN x N with
    | none => rw [q] at h; cases h
    | some i => rw [q] at h; cases h; exact ⟨i, rfl, rfl⟩
  · cases h
theorem cTg_go {N : List Str} {raw : Scope} {n : Nat} {e : Expr} {es : List Expr} {t : Tg} (h : cTg.go N raw n (e :: es) = some t) : ∃ a r, cTg N raw n e = some a ∧ cTg.go N raw n es = some r ∧ t = .cons a r := by
  unfold cTg.go at h
  split at h
  · split at h
    · rename_i a r h1 h2
      cases h
      exact ⟨a, r, h1, h2, rfl⟩
    · cases h
  · cases h
theorem par_run {A : E} {ti : Tg} {ρ ρ' : Env} {m m' : Hm} {fl : Fl} (e : ex C (.asg (.tup ti) (.tup A)) ρ m = .ok (fl, ρ') m') : ∃ ds m1, ev C A ρ m = .ok (.tup ds) m1 ∧ assignTs ti (homes ds m1).1 ρ = some ρ' ∧ m' = (homes ds m1).2 ∧ fl = .nx := by
  unfold ex at e
  obtain ⟨d, m1, e1, e⟩ := bind_inv e
  unfold ev at e1
  obtain ⟨x, m2, e2, e1⟩ := bind_inv e1
  obtain ⟨xs, rfl, e1⟩ := withArgs_inv e1
  cases e1
  dsimp only at e
  split at e
  · rename_i ρ1 ha
    cases e
    exact ⟨xs, m2, e2, ha, rfl, rfl⟩
  · cases e
theorem ss_par2 {x y : Str} {px py pt : Pos} {kt k2 : Nat} {pt2 : Pos} {a b : Expr} {A : E} {i j : Nat} (O : Ok Γ X C) (hi : X.N[i]? = some x) (hj : X.N[j]? = some y) (hij : i ≠ j)
    (hx : X.env.scope.names.lookup x = some .local) (hy : X.env.scope.names.lookup y = some .local) (ha : PA X [a, b] (TAv X.K C A))
    (hw : swappedStores [.Tuple [.Name x px, .Name y py] kt pt] (.Tuple [a, b] k2 pt2) X.env = pure (some [x, y])) : PS X (.Assign [.Tuple [.Name x px, .Name y py] kt pt] (.Tuple [a, b] k2 pt2) pos) (TSv X.K C (.asg (.tup (.cons (.nm i) (.cons (.nm j) .nil))) (.tup A))) := (ps_par O.calm O.S.nd hi hj hij hx hy ha hw).mono fun D σ H h => by
  obtain ⟨L, φ, ρ, m, fl, ρ', m', R, hE, e, q⟩ := h
  obtain ⟨ds, m1, e1, e2, rfl, rfl⟩ := par_run e
  refine ⟨L, φ, ρ, m, ds, m1, R, hE, e1, fun φ1 vs H1 R1 s1 r1 => ?_⟩
  obtain ⟨φ2, p2, R2, t2, f2⟩ := homes_ok r1 R1
  have s2 := s1.homed p2 f2
  have hE2 := hE.step R s2
  revert e2 t2
  generalize (homes ds m1).1 = ws
  intro e2 t2
  match ws, e2, t2 with
  | [a, b], e2, .cons (v := v) ra (.cons (v := w) rb .nil) =>
    simp only [assignTs, assignT] at e2
    cases e2
    exact ⟨v, w, rfl, q φ2 _ H1 R2 s2 ((hE2.put ra).put rb)⟩
  | [], e2, _ => simp [assignTs] at e2
  | [_], e2, _ => simp [assignTs, assignT] at e2
  | _ :: _ :: _ :: _, e2, _ => simp [assignTs, assignT] at e2
theorem ss_par3 {x y z : Str} {px py pz pt : Pos} {kt k2 : Nat} {pt2 : Pos} {a b c : Expr} {A : E} {i j l : Nat} (O : Ok Γ X C) (hi : X.N[i]? = some x) (hj : X.N[j]? = some y) (hl : X.N[l]? = some z) (hij : i ≠ j) (hil : i ≠ l) (hjl : j ≠ l)
    (hx : X.env.scope.names.lookup x = some .local) (hy : X.env.scope.names.lookup y = some .local) (hz : X.env.scope.names.lookup z = some .local) (ha : PA X [a, b, c] (TAv X.K C A))
    (hw : swappedStores [.Tuple [.Name x px, .Name y py, .Name z pz] kt pt] (.Tuple [a, b, c] k2 pt2) X.env = pure (some [x, y, z])) : PS X (.Assign [.Tuple [.Name x px, .Name y py, .Name z pz] kt pt] (.Tuple [a, b, c] k2 pt2) pos) (TSv X.K C (.asg (.tup (.cons (.nm i) (.cons (.nm j) (.cons (.nm l) .nil)))) (.tup A))) := (ps_par3 O.calm O.S.nd hi hj hl hij hil hjl hx hy hz ha hw).mono fun D σ H h => by
  obtain ⟨L, φ, ρ, m, fl, ρ', m', R, hE, e, q⟩ := h
  obtain ⟨ds, m1, e1, e2, rfl, rfl⟩ := par_run e
  refine ⟨L, φ, ρ, m, ds, m1, R, hE, e1, fun φ1 vs H1 R1 s1 r1 => ?_⟩
  obtain ⟨φ2, p2, R2, t2, f2⟩ := homes_ok r1 R1
  have s2 := s1.homed p2 f2
  have hE2 := hE.step R s2
  revert e2 t2
  generalize (homes ds m1).1 = ws
  intro e2 t2
  match ws, e2, t2 with
  | [a, b, c], e2, .cons (v := v) ra (.cons (v := w) rb (.cons (v := u) rc .nil)) =>
    simp only [assignTs, assignT] at e2
    cases e2
    exact ⟨v, w, u, rfl, q φ2 _ H1 R2 s2 (((hE2.put ra).put rb).put rc)⟩
  | [], e2, _ => simp [assignTs] at e2
  | [_], e2, _ => simp [assignTs, assignT] at e2
  | [_, _], e2, _ => simp [assignTs, assignT] at e2
  | _ :: _ :: _ :: _ :: _, e2, _ => simp [assignTs, assignT] at e2
/-- a tuple of targets -/
theorem ss_tup {ts : List Expr} {k : Nat} {tp : Pos} {e : Expr} {t : Tg} {Ev : E} {r : Option (List Str)} (O : Ok Γ X C) (hraw : X.env.scope.kind = .function) (hs : swp Γ.sc ts e = some r) (hr : r = none → isC e = false) (ht : cTg Γ.N Γ.raw 8 (.Tuple ts k tp) = some t) (he : cX 60 false Γ e = some Ev) :
    PS X (.Assign [.Tuple ts k tp] e pos) (TSv X.K C (.asg t Ev)) := by
  have hw := swp_ok (k := k) (tp := tp) O.sc hraw hs
  cases r with
  | none =>
    have hi := hr rfl
    exact (ps_asg ((x_ok 60).1 Γ X C e Ev O he) (pg_of O.calm O.S 8 _ _ ht) (by cases e <;> first | rfl | (cases hi)) hw).mono fun D σ H h => asg_ok h
  | some names =>
    obtain ⟨vs, q, p, rfl, hl, h23, hd, line, hn⟩ := par_inv hs
    unfold cX at he
    try dsimp only at he
    split at he
    · cases ha : cArgs (cX 59 false Γ) vs with
      | none => rw [ha] at he; cases he
      | some A =>
        rw [ha] at he
        cases he
        have pa : PA X vs (TAv X.K C A) := ta_args vs ha fun e _ E1 h => (x_ok 59).1 Γ X C e E1 O h
        unfold cTg at ht
        cases hg : cTg.go Γ.N Γ.raw 7 ts with
        | none => rw [hg] at ht; cases ht
        | some tt =>
          rw [hg] at ht
          cases ht
          rcases h23 with h2 | h3
          · obtain ⟨x, y, px, py, rfl, rfl, hxy, lx, ly⟩ := two_names h2 hd hn
            obtain ⟨t1, r1, c1, g1, rfl⟩ := cTg_go hg
            obtain ⟨t2, r2, c2, g2, rfl⟩ := cTg_go g1
            cases g2
            obtain ⟨i, ci, rfl⟩ := cTg_nm c1
            obtain ⟨j, cj, rfl⟩ := cTg_nm c2
            match vs, hl with
            | [a, b], _ => exact ss_par2 O (by rw [O.S.hN]; exact ixOfN_get ci) (by rw [O.S.hN]; exact ixOfN_get cj) (ixOfN_inj ci cj hxy) (by rw [O.sc]; exact lx) (by rw [O.sc]; exact ly) pa hw
          · obtain ⟨x, y, z, px, py, pz, rfl, rfl, hxy, hxz, hyz, lx, ly, lz⟩ := three_names h3 hd hn
            obtain ⟨t1, r1, c1, g1, rfl⟩ := cTg_go hg
            obtain ⟨t2, r2, c2, g2, rfl⟩ := cTg_go g1
            obtain ⟨t3, r3, c3, g3, rfl⟩ := cTg_go g2
            cases g3
            obtain ⟨i, ci, rfl⟩ := cTg_nm c1
            obtain ⟨j, cj, rfl⟩ := cTg_nm c2
            obtain ⟨l, cl, rfl⟩ := cTg_nm c3
            match vs, hl with
            | [a, b, c], _ => exact ss_par3 O (by rw [O.S.hN]; exact ixOfN_get ci) (by rw [O.S.hN]; exact ixOfN_get cj) (by rw [O.S.hN]; exact ixOfN_get cl) (ixOfN_inj ci cj hxy) (ixOfN_inj ci cl hxz) (ixOfN_inj cj cl hyz) (by rw [O.sc]; exact lx) (by rw [O.sc]; exact ly) (by rw [O.sc]; exact lz) pa hw
    · cases he
theorem sw_cell {elt : Expr} {gs : List Comprehension} {scope : Scope} {pos py : Pos} {y : Str} {l : Nat} {env : PySem.Env} (hy : env.scope.names.lookup y = some .cell) : swapsWith (.ListComp elt gs scope pos) (some (.Name y py)) l env = pure false := by
  have ky : env.kindOf y = some .cell := hy
  unfold swapsWith
  simp only [ky]
  simp [show (NameKind.cell == NameKind.local) = false from rfl]
/-- a comprehension that is stored in a cell -/
theorem ss_lcC {x : Str} {xp p : Pos} {elt : Expr} {gs : List Comprehension} {scope : Scope} {t : Tg} {Ev : E} (O : Ok Γ X C) (hs : isCell Γ.sc x = true) (ht : cTg Γ.N Γ.raw 1 (.Name x xp) = some t) (he : PE X (.ListComp elt gs scope p) (TEv X.K C Ev)) :
    PS X (.Assign [.Name x xp] (.ListComp elt gs scope p) pos) (TSv X.K C (.asg t Ev)) := by
  have hg := pg_of O.calm O.S 1 _ _ ht
  have hl : X.env.scope.names.lookup x = some .cell := by
    rw [O.sc]
    unfold isCell at hs
    split at hs
    · rename_i h; exact h
    · cases hs
  exact (ps_asg (pos := pos) he hg (sw_cell (l := pos.line) hl) rfl).mono fun D σ H h => asg_ok h
/-- a comprehension that is stored -/
theorem ss_lc {x : Str} {xp p : Pos} {elt : Expr} {gs : List Comprehension} {scope : Scope} {t : Tg} {Ev : E} (O : Ok Γ X C) (hraw : X.env.scope.kind = .function) (hs : setTo Γ x xp (.ListComp elt gs scope p) = true) (hn : isCell Γ.sc x = false) (ht : cTg Γ.N Γ.raw 1 (.Name x xp) = some t) (he : cX 60 false Γ (.ListComp elt gs scope p) = some Ev) :
    PS X (.Assign [.Name x xp] (.ListComp elt gs scope p) pos) (TSv X.K C (.asg t Ev)) := by
  obtain ⟨i, ci, rfl⟩ := cTg_nm ht
  unfold setTo at hs
  simp only [hn, Bool.false_or, Bool.and_eq_true] at hs
  obtain ⟨⟨⟨s0, s1⟩, s2⟩, s3⟩ := hs
  have hl : X.env.scope.names.lookup x = some .local := by
    rw [O.sc]
    unfold isOwn at s2
    split at s2
    · rename_i h; exact h
    · cases s2
  have hsw := sw_true (elt := elt) (gs := gs) (scope := scope) (pos := p) (py := xp) (l := pos.line) (env := X.env) hraw hl s1 (by simpa using s3)
  unfold cX at he
  try dsimp only at he
  split at he
  case h_16 elt tg iter ifs scope p heq =>
    cases heq
    split at he
    · rename_i hb
      split at he
      · rename_i i2 hdi
        simp [hdi] at s0
      split at he
      · rename_i k i2 t c e hi ht hc he2
        split at he
        · rename_i hin
          cases he
          have ok : BlkOk X.N X.env.scope scope (ownOf Γ.N scope.names) := by
            rw [O.S.hN, O.sc]
            exact blkOk_by hb
          obtain ⟨hi1, hi2⟩ := ti_ok O (fun e E1 h => (x_ok 59).1 Γ X C e E1 O h) (tg := tg) hi
          have hg : ∀ (s : Shared) (H : Hp) (A : Addr) (cl : List (Str × Addr)) (fp : List Addr), PG (X.blk s H scope (compEnvC scope cl A X.env) fp) tg (gOf X.K t) := fun s H A cl fp => pg_of (X := X.blk s H scope (compEnvC scope cl A X.env) fp) O.calm (O.blk scope s H A cl fp).S 8 tg t ht
          have hif : ∀ (s : Shared) (H : Hp) (A : Addr) (cl : List (Str × Addr)) (fp : List Addr), PTs (X.blk s H scope (compEnvC scope cl A X.env) fp) ifs (TTv X.K C c) := fun s H A cl fp => by
            split at hc
            · cases hc
              refine pts_nil.mono fun σ H Q h => ?_
              obtain ⟨L, φ, ρ, m, b, m', R, hE, e, q⟩ := h
              cases e
              exact q φ H R (.refl _ _)
            · exact pts_one ((x_ok 59).2 _ _ C _ _ (O.blk scope s H A cl fp) hc)
            · cases hc
          have hel : ∀ (s : Shared) (H : Hp) (A : Addr) (cl : List (Str × Addr)) (fp : List Addr), PE (X.blk s H scope (compEnvC scope cl A X.env) fp) elt (TEv X.K C e) := fun s H A cl fp => (x_ok 59).1 _ _ C _ _ (O.blk scope s H A cl fp) he2
          have hset := ps_setLc (spos := pos) O.calm O.S.nd (by rw [O.S.hN]; exact ixOfN_get ci) hl hsw hi1 ok hg hif hel hi2
          refine hset.mono fun D σ H h => ?_
          have h2 := asg_ok (t := .nm i) h
          exact te_comp (pos := p) O.calm O.S.nd hi1 ok hg hif hel hi2 hin _ _ _ h2
        · cases he
      · cases he
    · cases he
  all_goals first | (rename_i heq; cases heq; done) | cases he
end
end Bell
end

section
set_option maxRecDepth 100000
/-! stores at an index, loops -/
namespace Bell
open PySem PySem.Spec PyProof.Rows L2
theorem lays_ok {K : PySem.W.Frag} {φ : List Addr} {H : Hp} {a d : D} {k : Key} {v : V} (r : RS K φ H a (kV k)) (rd : RS K φ H d v) : ∀ {ks vs : List D} {kvs : List (Key × V)}, RSs K φ H ks (kvs.map fun p => kV p.1) → RSs K φ H vs (kvs.map Prod.snd) →
    RSs K φ H ks ((kvs.map fun kv => if kv.1 = k then (kv.1, v) else kv).map fun p => kV p.1) ∧ RSs K φ H (lays a d ks vs) ((kvs.map fun kv => if kv.1 = k then (kv.1, v) else kv).map Prod.snd)
  | [], [], [], _, _ => ⟨.nil, .nil⟩
  | [], _ :: _, [], _, h => by cases h
  | [], _, _ :: _, h, _ => by cases h
  | _ :: _, [], _ :: _, _, h => by cases h
  | _ :: _, _, [], h, _ => by cases h
  | x :: xs, y :: ds, p :: kvs, .cons h t, .cons h2 t2 => by
    obtain ⟨i1, i2⟩ := lays_ok r rd t t2
    have e : lays a d (x :: xs) (y :: ds) = (if eqb x a then d else y) :: lays a d xs ds := rfl
    rw [e, eqb_key h r]
    by_cases c : p.1 = k
    · rw [decide_eq_true c, if_pos rfl]
      refine ⟨?_, ?_⟩
      · rw [List.map_cons, if_pos c, List.map_cons]
        exact .cons h i1
      · rw [List.map_cons, if_pos c, List.map_cons]
        exact .cons rd i2
    · rw [decide_eq_false c, if_neg Bool.false_ne_true]
      refine ⟨?_, ?_⟩
      · rw [List.map_cons, if_neg c, List.map_cons]
        exact .cons h i1
      · rw [List.map_cons, if_neg c, List.map_cons]
        exact .cons h2 i2
theorem lay_ok {K : PySem.W.Frag} {φ : List Addr} {H : Hp} {a d : D} {k : Key} {v : V} (r : RS K φ H a (kV k)) (rd : RS K φ H d v) {ks vs : List D} {kvs : List (Key × V)} (t : RSs K φ H ks (kvs.map fun p => kV p.1)) (t2 : RSs K φ H vs (kvs.map Prod.snd)) :
    RSs K φ H (lay a d ks vs).1 ((putK kvs k v).map fun p => kV p.1) ∧ RSs K φ H (lay a d ks vs).2 ((putK kvs k v).map Prod.snd) := by
  have e := keyIx_val r t
  unfold lay putK
  rw [valV_any]
  cases q : keyIx a ks with
  | some i =>
    rw [q] at e
    rw [← e]
    simp only [Option.isSome_some, if_true]
    exact lays_ok r rd t t2
  | none =>
    rw [q] at e
    rw [← e]
    simp only [Option.isSome_none, Bool.false_eq_true, if_false, List.map_append]
    exact ⟨t.app (.cons r .nil), t2.app (.cons rd .nil)⟩
theorem at_dct {K : PySem.W.Frag} {base : Nat} {L : Nat → Nat} {φ : List Addr} {m : Hm} {H H0 : Hp} {k : Nat} {x : V} {ks vs : List D} (R : RelH K base L φ m H) (ra : RV K φ H0 H (.adr k) x) (hk : m[k]? = some (.dct ks vs)) :
    ∃ p kvs, x = .ref p ∧ φ[k]? = some p ∧ H p = some (.dK kvs) ∧ RSs K φ H ks (kvs.map fun p => kV p.1) ∧ RSs K φ H vs (kvs.map Prod.snd) := by
  cases ra with
  | st r =>
    cases r with
    | adr hφ =>
      obtain ⟨p, ho, h1, h2, h3⟩ := R.at hk
      rw [hφ] at h1
      cases h1
      cases h3 with
      | dK t u => exact ⟨_, _, rfl, hφ, h2, t, u⟩
  | tmp _ _ _ _ w => cases w
theorem key_any {K : PySem.W.Frag} {φ φ' : List Addr} {H : Hp} {a : D} {x : V} (r : RS K φ H a x) (h : isKey a = true) : RS K φ' H a x := by
  cases r with
  | int i => exact .int i
  | str z => exact .str z
  | _ => simp [isKey] at h
theorem write_dct {K : PySem.W.Frag} {base : Nat} {L : Nat → Nat} {φ : List Addr} {m : Hm} {H : Hp} {i : Nat} {p : Addr} {a d : D} {k : Key} {v : V} {ks vs : List D} {kvs : List (Key × V)} (R : RelH K base L φ m H) (hφ : φ[i]? = some p) (hi : m[i]? = some (.dct ks vs)) (h2 : H p = some (.dK kvs))
    (t : RSs K φ H ks (kvs.map fun p => kV p.1)) (t2 : RSs K φ H vs (kvs.map Prod.snd)) (r : RS K φ H a (kV k)) (ha : isKey a = true) (rd : RS K φ H d v) (hm : mayPut base i d = true) :
    RelH K base L φ (m.set i (.dct (lay a d ks vs).1 (lay a d ks vs).2)) (upd H p (.dK (putK kvs k v))) ∧ Step φ H φ (upd H p (.dK (putK kvs k v))) := by
  refine R.write hφ ⟨fun hlt => ?_, fun _ => ?_⟩
  · obtain ⟨p2, ho2, g1, g2, g3⟩ := R.old i _ hlt hi
    rw [hφ] at g1
    cases g1
    rw [h2] at g2
    cases g2
    cases g3 with
    | dK t' t2' =>
      obtain ⟨l1, l2⟩ := lay_ok (key_any r ha) (mayPut_ok R hm rd hlt) t' t2'
      exact .dK l1 l2
  · obtain ⟨l1, l2⟩ := lay_ok r rd t t2
    exact .dK l1 l2
section
variable {X : Cx} {C : Cf} {Γ : Ct} {pos : Pos}
/-- o[i] = v, by values -/
def rSetB (K : PySem.W.Frag) : TSet := fun o i v H Q => ∃ base L φ m H0 a b c m', RelH K base L φ m H ∧ RV K φ H0 H a o ∧ RV K φ H0 H b i ∧ RS K φ H c v ∧ setD base a b c m = some m' ∧ ∀ φ' H', RelH K base L φ' m' H' → Step φ H φ' H' → Q H'
theorem set_any (hu : X.A.units + 65 < cLine) : PSet X (rSetB X.K) := by
  intro pins s σ H o i v ov iv u Q I ro ri rv h
  obtain ⟨base, L, φ, m, H0, a, b, c, m', R, ra, rb, rc, e, q⟩ := h
  unfold setD at e
  split at e
  · rename_i k
    split at e
    · rename_i hp
      split at e
      · rename_i xs j hk
        obtain ⟨p, ws, rfl, hφ, h2, t2⟩ := at_lst R ra hk
        cases hj : ixOf xs.length j with
        | none => rw [hj] at e; cases e
        | some l =>
          rw [hj] at e
          cases e
          have := rb.int; subst this
          obtain ⟨R', s'⟩ := write_lst R hφ hk h2 (t2.set rc l) fun φ' _ hlt e t' => by subst e; exact t'.set (mayPut_ok R hp rc hlt) l
          exact set_list pins s σ H _ _ _ ov iv u Q I ro ri rv ⟨p, ws, j, l, rfl, rfl, h2, by rw [← t2.length]; exact hj, q φ _ R' s'⟩
      · rename_i ks vs hk
        split at e
        · rename_i hc
          simp only [Bool.and_eq_true] at hc
          cases e
          obtain ⟨p, kvs, rfl, hφ, h2, t1, t2⟩ := at_dct R ra hk
          have rb' := rb.pur hc.1.1.2
          obtain ⟨kk, rfl⟩ := key_of_isKey rb' hc.1.1.1
          obtain ⟨R', s'⟩ := write_dct R hφ hk h2 t1 t2 rb' hc.1.1.1 rc hp
          have hl : kvs.length < sizeLine := by
            have := t1.length
            rw [List.length_map] at this
            rw [← this]
            exact isBig_lt hc.2
          exact set_dict (by omega) pins s σ H _ _ _ ov iv u Q I ro ri rv ⟨p, _, rfl, DPut.k h2 hl, q φ _ R' s'⟩
        · cases e
      · cases e
    · cases e
  · cases e
theorem ss_set {o i e : Expr} {sp : Pos} {Eo Ei Ev : E} (O : Ok Γ X C) (hi : notSlice i = true) (ho : PE X o (TEv X.K C Eo)) (hx : PE X i (TEv X.K C Ei)) (he : PE X e (TEv X.K C Ev)) : PS X (.Assign [.Subscript o i sp] e pos) (TSv X.K C (.setix Eo Ei Ev)) := by
  have hg : PG X (.Subscript o i sp) (gSub (TEv X.K C Eo) (TEv X.K C Ei) (rSetB X.K)) := pg_sub ho hx (set_any O.hu) (by intro v; cases i <;> first | rfl | (cases hi))
  refine (ps_asg he hg (by cases e <;> rfl) (by cases e <;> rfl)).mono fun D σ H h => ?_
  obtain ⟨L, φ, ρ, m, fl, ρ', m', R, hE, e, q⟩ := h
  unfold ex at e
  obtain ⟨d, m1, e1, e⟩ := bind_inv e
  obtain ⟨x, m2, e2, e⟩ := bind_inv e
  obtain ⟨y, m3, e3, e⟩ := bind_inv e
  try dsimp only at e
  split at e
  · rename_i m4 e4
    cases e
    refine ⟨L, φ, ρ, m, d, m1, R, hE, e1, fun φ1 v H1 R1 s1 r1 => ?_⟩
    obtain ⟨φ2, p2, R2, r2, s2, f2⟩ := home_step R1 s1 r1
    have hE2 := hE.step R s2
    refine ⟨L, φ2, ρ, _, x, m2, R2, hE2, e2, fun φ3 vo H3 R3 s3 r3 => ?_⟩
    refine ⟨L, φ3, ρ, m2, y, m3, R3, hE2.step R2 s3, e3, fun φ4 vi H4 R4 s4 r4 => ?_⟩
    have hx : RV X.K φ4 H1 H4 x vo := r3.step R3 s4
    have hy : RV X.K φ4 H1 H4 y vi := r4.older fun p h => s3.free h
    have s34 := s3.trans s4
    exact ⟨C.base, L, φ4, m3, H1, x, y, _, _, R4, hx, hy, r2.step R2 s34, e4, fun φ5 H5 R5 s5 => q φ5 σ H5 R5 ((s2.trans s34).trans s5) ((hE2.step R2 s34).step R4 s5)⟩
  · cases e
theorem ss_aug {x : Str} {xp : Pos} {op : Operator} {o : Bop} {e : Expr} {i : Nat} {Ev : E} (O : Ok Γ X C) (hl : isLoc Γ.raw x = true) (hi : ixOfN x Γ.N = some i) (ho : okAug op = some o) (he : PE X e (TEv X.K C Ev)) : PS X (.AugAssign (.Name x xp) op e pos) (TSv X.K C (.aug i o Ev)) := by
  obtain ⟨s1, s2⟩ := O.S.st x hl
  have hN : X.N[i]? = some x := by rw [O.S.hN]; exact ixOfN_get hi
  have run : ∀ (f : Int → Int → Int), (∀ a b c, binI o a b = some c → c = f a b) → ∀ D σ H, TSv X.K C (.aug i o Ev) D σ H → tAug i (TEv X.K C Ev) (ipI f) D σ H := by
    intro f hf D σ H h
    obtain ⟨L, φ, ρ, m, fl, ρ', m', R, hE, e, q⟩ := h
    unfold ex at e
    cases hg : get ρ i with
    | none => rw [hg] at e; cases e
    | some x =>
      rw [hg] at e
      dsimp only at e
      obtain ⟨y, m1, e1, e2⟩ := bind_inv e
      clear e
      have e := e2
      clear e2
      cases x <;> first | (cases e; done) | skip
      rename_i a
      cases y <;> first | (cases e; done) | skip
      rename_i b
      cases hb : binI o a b with
      | none => simp only [hb] at e; cases e
      | some c =>
        simp only [hb] at e
        cases e
        obtain ⟨v, h1, h2⟩ := hE.2 i _ hg
        cases h2
        refine ⟨.int a, h1, L, φ, ρ, m, _, _, R, hE, e1, fun φ1 v H1 R1 s1 r1 => ?_⟩
        have := r1.int; subst this
        refine ⟨a, b, rfl, rfl, ?_⟩
        rw [← hf _ _ _ hb]
        exact q φ1 _ H1 R1 s1 ((hE.step R s1).put (.int c))
  cases op <;> first
    | (cases ho; exact (ps_aug O.S.nd hN s1 he ip_add s2).mono (run _ fun a b c h => by cases h; rfl))
    | (cases ho; exact (ps_aug O.S.nd hN s1 he ip_sub s2).mono (run _ fun a b c h => by cases h; rfl))
    | (cases ho)
/-! ### loops -/
theorem loop_eq (f : Nx) (one : D → Env → Hm → Out (Fl × Env)) (n i : Nat) (ρ : Env) (m : Hm) : loop f one n i ρ m = match f i m with
    | none => .bad
    | some none => .ok (.nx, ρ) m
    | some (some d) => match n with
      | 0 => .bad
      | n + 1 => (one d ρ m).bind fun p m => match p.1 with
        | .nx => loop f one n (i + 1) p.2 m
        | .cnt => loop f one n (i + 1) p.2 m
        | .brk => .ok (.nx, p.2) m
        | .ret d => .ok (.ret d, p.2) m := by
  cases n <;> rw [loop] <;> rfl
theorem ss_for {tg iter : Expr} {body : List Stmt} {k : Sk} {Ei : E} {t : Tg} {B : S} (O : Ok Γ X C) (hx : X.xe = fun _ _ => False) (hi : PI X tg iter (TIv X.K C k Ei)) (hs : ∀ x, foldedSetIterable iter X.env x = pure x) (hg : PG X tg (gOf X.K t)) (hb : PSs X body (TSv X.K C B)) : PS X (.For tg iter body [] pos) (TSv X.K C (.fors k Ei t B)) := by
  refine (ps_for (by rw [hx]; exact .never) O.calm hi hg hb hs).mono fun Dd σ H h => ?_
  obtain ⟨L, φ, ρ, m, fl, ρ', m', R, hE, e, q⟩ := h
  unfold ex at e
  obtain ⟨x, m1, e1, e⟩ := bind_inv e
  try dsimp only at e
  split at e
  · rename_i xs
    cases hsrc : src k xs m1 with
    | none => rw [hsrc] at e; cases e
    | some fn =>
      obtain ⟨nx, n⟩ := fn
      rw [hsrc] at e
      dsimp only at e
      refine ⟨L, φ, ρ, m, xs, m1, nx, n, R, hE, e1, hsrc, fun φ1 H1 J R1 s1 W => ?_⟩
      let one : D → Env → Hm → Out (Fl × Env) := fun d ρ m => match assignT t d ρ with
        | none => .bad
        | some ρ => ex C B ρ m
      let Inv := fun (i k : Nat) (σ2 : L2.St) (H2 : Hp) => ∃ φ2 ρ2 m2, RelH X.K C.base L φ2 m2 H2 ∧ Step φ1 H1 φ2 H2 ∧ RelE X.K φ2 H2 ρ2 σ2 ∧ loop nx one k i ρ2 m2 = .ok (fl, ρ') m'
      refine ⟨fun i k σ2 H2 => Inv i k σ2 H2, ⟨n, φ1, ρ, m1, R1, .refl _ _, hE.step R s1, e⟩, fun i k σ2 H2 hW => ?_⟩
      obtain ⟨φ2, ρ2, m2, R2, s2, hE2, e3⟩ := hW
      rw [loop_eq] at e3
      cases hnx : nx i m2 with
      | none => rw [hnx] at e3; cases e3
      | some o =>
        rw [hnx] at e3
        cases o with
        | none =>
          cases e3
          exact .inl ⟨W.stop φ2 _ H2 i R2 s2 hnx, q φ2 σ2 H2 R2 (s1.trans s2) hE2⟩
        | some d =>
          cases k with
          | zero => cases e3
          | succ k =>
            dsimp only at e3
            obtain ⟨⟨fl1, ρ3⟩, m3, e4, e5⟩ := bind_inv e3
            obtain ⟨g1, g2⟩ := W.go φ2 m2 H2 i d R2 s2 hnx
            refine .inr ⟨g1, fun σ' H' => Inv (i + 1) k σ' H', fun σ' H' hN' => ⟨k, Nat.lt_succ_self k, hN'⟩, fun v H3 hy => ?_⟩
            obtain ⟨R3, s3, r3⟩ := g2 v H3 hy
            have s23 := s2.trans s3
            replace e4 : (match assignT t d ρ2 with
              | none => .bad
              | some ρ => ex C B ρ m2) = Out.ok (fl1, ρ3) m3 := e4
            cases ha : assignT t d ρ2 with
            | none => rw [ha] at e4; cases e4
            | some ρ4 =>
              rw [ha] at e4
              dsimp only at e4
              refine assign_ok (K := X.K) (φ := φ2) (vs := []) t ha (hE2.step R2 s3) r3 fun σ4 hE4 _ => ?_
              refine ⟨L, φ2, ρ4, m2, fl1, ρ3, m3, R3, hE4, e4, fun φ5 σ5 H5 R5 s5 hE5 => ?_⟩
              have s15 := s23.trans s5
              cases fl1 with
              | nx => exact ⟨φ5, ρ3, m3, R5, s15, hE5, e5⟩
              | cnt => exact ⟨φ5, ρ3, m3, R5, s15, hE5, e5⟩
              | brk =>
                cases e5
                exact q φ5 σ5 H5 R5 (s1.trans s15) hE5
              | ret d =>
                cases e5
                intro v rv
                exact q φ5 σ5 H5 R5 (s1.trans s15) hE5 v (rv.older fun p h => ((s1.trans s23)).free h)
  · cases e
theorem ss_while {test : Expr} {body : List Stmt} {Et : E} {B : S} (O : Ok Γ X C) (hx : X.xe = fun _ _ => False) (ht : PT X test (TTv X.K C Et)) (hb : PSs X body (TSv X.K C B)) : PS X (.While test body [] pos) (TSv X.K C (.whil Et B)) := by
  refine (ps_while (by rw [hx]; exact .never) ht hb).mono fun D σ H h => ?_
  obtain ⟨L, φ, ρ, m, fl, ρ', m', R, hE, e, q⟩ := h
  unfold ex at e
  let Inv := fun (k : Nat) (σ2 : L2.St) (H2 : Hp) => ∃ φ2 ρ2 m2, RelH X.K C.base L φ2 m2 H2 ∧ Step φ H φ2 H2 ∧ RelE X.K φ2 H2 ρ2 σ2 ∧ whl (fun ρ m => ev C Et ρ m) (fun ρ m => ex C B ρ m) k ρ2 m2 = .ok (fl, ρ') m'
  refine ⟨fun k σ2 H2 => Inv k σ2 H2, ⟨C.wf, φ, ρ, m, R, .refl _ _, hE, e⟩, fun k σ2 H2 hW => ?_⟩
  obtain ⟨φ2, ρ2, m2, R2, s2, hE2, e3⟩ := hW
  cases k with
  | zero => cases e3
  | succ k =>
    rw [whl] at e3
    obtain ⟨b, m3, e4, e5⟩ := bind_inv e3
    cases b <;> first | (cases e5; done) | skip
    rename_i bb
    refine ⟨L, φ2, ρ2, m2, bb, m3, R2, hE2, e4, fun φ3 H3 R3 s3 => ?_⟩
    have s23 := s2.trans s3
    have hE3 := hE2.step R2 s3
    cases bb with
    | false =>
      cases e5
      show (if false = true then _ else D.nx σ2 H3)
      rw [if_neg Bool.false_ne_true]
      exact q φ3 σ2 H3 R3 s23 hE3
    | true =>
      try dsimp only at e5
      obtain ⟨⟨fl1, ρ3⟩, m4, e6, e7⟩ := bind_inv e5
      show (if true = true then _ else D.nx σ2 H3)
      rw [if_pos rfl]
      refine ⟨fun σ' H' => Inv k σ' H', fun σ' H' hN' => ⟨k, Nat.lt_succ_self k, hN'⟩, L, φ3, ρ2, m3, fl1, ρ3, m4, R3, hE3, e6, fun φ5 σ5 H5 R5 s5 hE5 => ?_⟩
      have s15 := s23.trans s5
      cases fl1 with
      | nx => exact ⟨φ5, ρ3, m4, R5, s15, hE5, e7⟩
      | cnt => exact ⟨φ5, ρ3, m4, R5, s15, hE5, e7⟩
      | brk =>
        cases e7
        exact q φ5 σ5 H5 R5 s15 hE5
      | ret d =>
        cases e7
        intro v rv
        exact q φ5 σ5 H5 R5 s15 hE5 v (rv.older fun p h => s23.free h)
end
/-- every statement that is compiled -/
structure OkS (Γ : Ct) (X : Cx) (C : Cf) : Prop where
  ok : Ok Γ X C
  fn : X.env.scope.kind = .function
  xe : X.xe = fun _ _ => False
theorem s_ok {Γ : Ct} {X : Cx} {C : Cf} (O : OkS Γ X C) : ∀ n : Nat, (∀ s S', cS n Γ s = some S' → PS X s (TSv X.K C S')) ∧ (∀ ss S', cS.go n Γ ss = some S' → PSs X ss (TSv X.K C S'))
  | 0 => by
    refine ⟨fun s S' h => by simp [cS] at h, fun ss => ?_⟩
    cases ss with
    | nil => intro S' h; simp [cS.go] at h; subst h; exact ss_nil
    | cons s r => intro S' h; simp [cS.go, cS] at h
  | n + 1 => by
    obtain ⟨ih, ihs⟩ := s_ok O n
    have kE : ∀ e E1, cX 60 false Γ e = some E1 → PE X e (TEv X.K C E1) := fun e E1 h => (x_ok 60).1 Γ X C e E1 O.ok h
    have kT : ∀ e E1, cX 60 true Γ e = some E1 → PT X e (TTv X.K C E1) := fun e E1 h => (x_ok 60).2 Γ X C e E1 O.ok h
    have one : ∀ s S', cS (n + 1) Γ s = some S' → PS X s (TSv X.K C S') := by
      intro s S' h
      unfold cS at h
      split at h
      · rename_i x xp e p
        split at h
        · rename_i hs
          split at h
          · rename_i t v ht hv
            cases h
            by_cases hc : isC e = true
            · have : ∃ elt gs scope p, e = .ListComp elt gs scope p := by
                cases e <;> first | exact ⟨_, _, _, _, rfl⟩ | (cases hc; done) | (exact absurd hs (by simp [setTo, isC]))
              obtain ⟨elt, gs, scope, p, rfl⟩ := this
              by_cases hcell : isCell Γ.sc x = true
              · exact ss_lcC O.ok hcell ht (kE _ _ hv)
              · exact ss_lc O.ok O.fn hs (by simpa using hcell) ht hv
            · exact ss_name O.ok hs ht (by simpa using hc) (kE _ _ hv)
          · cases h
        · cases h
      · rename_i ts k tp e p
        split at h
        · rename_i hs
          split at h
          · rename_i hc
            split at h
            · rename_i t v ht hv
              cases h
              exact ss_tup O.ok O.fn hs (fun _ => by simpa using hc) ht hv
            · cases h
          · cases h
        · rename_i names hs
          split at h
          · rename_i t v ht hv
            cases h
            exact ss_tup O.ok O.fn hs (fun z => by cases z) ht hv
          · cases h
        · cases h
      · rename_i o i sp e p
        split at h
        · rename_i hi
          split at h
          · rename_i x y z hx hy hz
            cases h
            exact ss_set O.ok hi (kE _ _ hx) (kE _ _ hy) (kE _ _ hz)
          · cases h
        · cases h
      · rename_i x xp op e p
        split at h
        · rename_i hl
          split at h
          · rename_i i o v hi ho hv
            cases h
            exact ss_aug O.ok hl hi ho (kE _ _ hv)
          · cases h
        · cases h
      · rename_i e p
        split at h
        · cases h
        · rename_i hc
          cases he : cX 60 false Γ e with
          | none => rw [he] at h; cases h
          | some v =>
            rw [he] at h
            cases h
            exact ss_exp (kE _ _ he) (by simpa using hc)
      · cases h
        exact ss_retN
      · rename_i e p
        cases he : cX 60 false Γ e with
        | none => rw [he] at h; cases h
        | some v =>
          rw [he] at h
          cases h
          exact ss_ret (kE _ _ he)
      · rename_i t a b p
        split at h
        · rename_i t' a' b' h1 h2 h3
          cases h
          exact ss_if (kT _ _ h1) (ihs _ _ h2) (ihs _ _ h3)
        · cases h
      · rename_i tg iter body p
        split at h
        · rename_i k i t b h1 h2 h3
          cases h
          obtain ⟨i1, i2⟩ := ti_ok O.ok (fun e E1 h => kE e E1 h) (tg := tg) h1
          exact ss_for O.ok O.xe i1 i2 (pg_of O.ok.calm O.ok.S 8 _ _ h2) (ihs _ _ h3)
        · cases h
      · rename_i t body p
        split at h
        · rename_i t' b' h1 h2
          cases h
          exact ss_while O.ok O.xe (kT _ _ h1) (ihs _ _ h2)
        · cases h
      · cases h
        exact ss_pass
      · cases h
        exact ss_brk
      · cases h
        exact ss_cnt
      · cases h
        refine ⟨fun pins s σ H Q I h => ?_⟩
        obtain ⟨L, φ, ρ, m, fl, ρ', m', R, hE, e, q⟩ := h
        cases e
      · cases h
    refine ⟨one, fun ss => ?_⟩
    induction ss with
    | nil => intro S' h; simp [cS.go] at h; subst h; exact ss_nil
    | cons s r ih2 =>
      intro S' h
      unfold cS.go at h
      split at h
      · rename_i a b h1 h2
        cases h
        exact ss_cons (one _ _ h1) (ih2 _ h2)
      · cases h
end Bell
end

section
set_option maxRecDepth 100000
set_option maxHeartbeats 2000000
/-! defs -/
namespace Bell
open PySem PySem.Spec PyProof.Rows L2
open LamX (TabB)
/-! ### what a def is -/
structure Def where
  name : Str
  st : Stmt
  N : List Str
  ps : List Str
  dfl : List D
  calls : List (Nat × List Str × List Nat)
  /-- names that hold dicts -/
  dn : List Str := []
/-- a constant as a value -/
def dV : D → V
  | .bl b => .bl b
  | .int i => .int i
  | .str x => .str x
  | _ => .non
def isCon : D → Bool
  | .non => true | .bl _ => true | .int _ => true | .str _ => true | _ => false
theorem dV_ok {K : PySem.W.Frag} {φ : List Addr} {H : Hp} {d : D} (h : isCon d = true) : RS K φ H d (dV d) := by
  cases d <;> first | (cases h; done) | skip
  · exact .non
  · exact .bl _
  · exact .int _
  · exact .str _
theorem dVs_ok {K : PySem.W.Frag} {φ : List Addr} {H : Hp} : ∀ {ds : List D}, ds.all isCon = true → RSs K φ H ds (ds.map dV)
  | [], _ => .nil
  | d :: ds, h => by
    simp only [List.all_cons, Bool.and_eq_true] at h
    exact .cons (dV_ok h.1) (dVs_ok h.2)
def pickA {α : Type} (d : α) (xs : List α) : List Nat → List α
  | [] => []
  | i :: is => xs.getD i d :: pickA d xs is
theorem pick_eq (xs : List D) : ∀ p : List Nat, pick xs p = pickA .non xs p
  | [] => rfl
  | i :: is => by show _ :: _ = _ :: _; rw [pick_eq xs is]
theorem pickA_vals {vs : List V} {us : List Value} (r : Vals vs us) : ∀ p : List Nat, Vals (pickA .non vs p) (pickA .none us p)
  | [] => .nil
  | i :: is => by
    refine .cons ?_ (pickA_vals r is)
    have l := r.length
    by_cases hi : i < vs.length
    · obtain ⟨u, e1, e2⟩ := r.get (i := i) (List.getElem?_eq_getElem hi)
      rw [List.getD_eq_getElem?_getD, List.getD_eq_getElem?_getD, List.getElem?_eq_getElem hi, e1]
      exact e2
    · rw [List.getD_eq_getElem?_getD, List.getD_eq_getElem?_getD, List.getElem?_eq_none (by omega), List.getElem?_eq_none (by omega)]
      rfl
theorem pickA_rs {K : PySem.W.Frag} {φ : List Addr} {H : Hp} {xs : List D} {vs : List V} (r : RSs K φ H xs vs) : ∀ p : List Nat, RSs K φ H (pickA .non xs p) (pickA .non vs p)
  | [] => .nil
  | i :: is => by
    refine .cons ?_ (pickA_rs r is)
    have l := r.length
    by_cases hi : i < xs.length
    · obtain ⟨u, e1, e2⟩ := r.get (i := i) (List.getElem?_eq_getElem hi)
      rw [List.getD_eq_getElem?_getD, List.getD_eq_getElem?_getD, List.getElem?_eq_getElem hi, e1]
      exact e2
    · rw [List.getD_eq_getElem?_getD, List.getD_eq_getElem?_getD, List.getElem?_eq_none (by omega), List.getElem?_eq_none (by omega)]
      exact .non
/-- how a def may be called: n arguments by place, keywords ks; p: where each parameter is taken from -/
structure PatOk (K : PySem.W.Frag) (fd : FuncData) (d : Def) (n : Nat) (ks : List Str) (p : List Nat) : Prop where
  ex : ∃ us0 : List Value, Vals (d.dfl.map dV) us0 ∧ ∀ (s : Shared) (us ws : List Value), K.In s.heap → us.length = n → ws.length = ks.length → BindsTo s fd ⟨us, ks.zip ws⟩ (d.ps.zip (pickA .none (us ++ ws ++ us0) p))
theorem PatOk.kbn {K : PySem.W.Frag} {fd : FuncData} {d : Def} {n : Nat} {ks : List Str} {p : List Nat} (h : PatOk K fd d n ks p) : ∃ g, KBn K fd d.ps n ks g (fun vs ws => pickA .non (vs ++ ws ++ d.dfl.map dV) p) := by
  obtain ⟨us0, r0, h⟩ := h.ex
  exact ⟨fun us ws => pickA .none (us ++ ws ++ us0) p, ⟨fun s us ws X l1 l2 => h s us ws X l1 l2, fun r1 r2 => pickA_vals ((r1.append r2).append r0) p⟩⟩
/-- a def without defaults -/
theorem pat_plain {K : PySem.W.Frag} {f : Addr} {fd : FuncData} {d : Def} {n : Nat} {ks : List Str} {p : List Nat} (F : FunD K d.name d.name (defArgs d.st) (defBody d.st) (defScope d.st) (d.dfl.map dV) [] f fd) (hd : d.dfl = [])
    (h : ∀ (kV doc pm : Value) (an : Option Addr) (cdv ct : Value) (us ws : List Value), us.length = n → ws.length = ks.length → bindArgs (PySem.W.fnOf d.name d.name (defArgs d.st) (defBody d.st) (defScope d.st) .none kV doc pm an cdv ct) ⟨us, ks.zip ws⟩ = pure (d.ps.zip (pickA .none (us ++ ws ++ []) p))) : PatOk K fd d n ks p := by
  obtain ⟨oc, od, dV0, kV, doc, pm, an, cdv, ct, osl, rfl, lk, hcd, hD, hK⟩ := F.ex
  rw [hd] at hD
  rcases hD with ⟨_, rfl⟩ | ⟨e, _⟩
  · refine ⟨[], by rw [hd]; exact .nil, fun s us ws X l1 l2 => .of_eq (h kV doc pm an cdv ct us ws l1 l2)⟩
  · exact absurd rfl e
/-- a def with defaults -/
theorem pat_dfl {K : PySem.W.Frag} {f : Addr} {fd : FuncData} {d : Def} {n : Nat} {ks : List Str} {p : List Nat} (F : FunD K d.name d.name (defArgs d.st) (defBody d.st) (defScope d.st) (d.dfl.map dV) [] f fd) (hd : d.dfl ≠ [])
    (h : ∀ (T : Addr) (kV doc pm : Value) (an : Option Addr) (cdv ct : Value) (us ws its : List Value), us.length = n → ws.length = ks.length → its.length = d.dfl.length →
      ∃ k, bindArgs (PySem.W.fnOf d.name d.name (defArgs d.st) (defBody d.st) (defScope d.st) (.ref T) kV doc pm an cdv ct) ⟨us, ks.zip ws⟩ = seqItems? (.ref T) >>= k ∧ k (some its.toArray) = pure (d.ps.zip (pickA .none (us ++ ws ++ its) p))) : PatOk K fd d n ks p := by
  obtain ⟨oc, od, dV0, kV, doc, pm, an, cdv, ct, osl, rfl, lk, hcd, hD, hK⟩ := F.ex
  rcases hD with ⟨e, _⟩ | ⟨_, T, o, its, m, rfl, lT, oT, rT⟩
  · exact absurd (List.map_eq_nil_iff.mp e) hd
  · refine ⟨its, rT, fun s us ws X l1 l2 => ?_⟩
    obtain ⟨k, e1, e2⟩ := h T kV doc pm an cdv ct us ws its l1 l2 (by have := rT.length; rw [List.length_map] at this; exact this.symm)
    refine BindsTo.of_looks fun M => ?_
    rw [e1]
    exact looks_items X lT oT (.of_pure e2)
/-- .. whose every parameter is given -/
theorem pat_full {K : PySem.W.Frag} {f : Addr} {fd : FuncData} {d : Def} {n : Nat} {ks : List Str} {p : List Nat} (F : FunD K d.name d.name (defArgs d.st) (defBody d.st) (defScope d.st) (d.dfl.map dV) [] f fd) (hd : d.dfl ≠ [])
    (h : ∀ (T : Addr) (kV doc pm : Value) (an : Option Addr) (cdv ct : Value) (us ws its : List Value), us.length = n → ws.length = ks.length → its.length = d.dfl.length →
      bindArgs (PySem.W.fnOf d.name d.name (defArgs d.st) (defBody d.st) (defScope d.st) (.ref T) kV doc pm an cdv ct) ⟨us, ks.zip ws⟩ = pure (d.ps.zip (pickA .none (us ++ ws ++ its) p))) : PatOk K fd d n ks p := by
  obtain ⟨oc, od, dV0, kV, doc, pm, an, cdv, ct, osl, rfl, lk, hcd, hD, hK⟩ := F.ex
  rcases hD with ⟨e, _⟩ | ⟨_, T, o, its, m, rfl, lT, oT, rT⟩
  · exact absurd (List.map_eq_nil_iff.mp e) hd
  · exact ⟨its, rT, fun s us ws X l1 l2 => .of_eq (h T kV doc pm an cdv ct us ws its l1 l2 (by have := rT.length; rw [List.length_map] at this; exact this.symm))⟩
abbrev Pats := List (Str × Nat × List Str × Nat × List Nat × List D)
/-- the ways to call the defs, the first one bears the number j -/
def patsFrom : Nat → List Def → Pats
  | _, [] => []
  | j, d :: r => d.calls.map (fun q => (d.name, q.1, q.2.1, j, q.2.2, d.dfl)) ++ patsFrom (j + 1) r
theorem patsFrom_mem {x : Str} {n i : Nat} {ks : List Str} {p : List Nat} {ds : List D} : ∀ {l : List Def} {j : Nat}, (x, n, ks, i, p, ds) ∈ patsFrom j l → ∃ d k, i = j + k ∧ l[k]? = some d ∧ x = d.name ∧ ds = d.dfl ∧ (n, ks, p) ∈ d.calls
  | [], _, h => by cases h
  | d :: r, j, h => by
    rcases List.mem_append.mp h with h | h
    · obtain ⟨q, hq, e⟩ := List.mem_map.mp h
      cases e
      exact ⟨d, 0, rfl, rfl, rfl, rfl, hq⟩
    · obtain ⟨d2, k, e1, e2, e3⟩ := patsFrom_mem h
      exact ⟨d2, k + 1, by omega, by simpa using e2, e3⟩
/-- the name of a def's lambdas -/
def lqOf (d : Def) : Option Str := if lamNames.contains d.name then some (d.name ++ (".<locals>." : Str) ++ ("<lambda>" : Str)) else none
def ctOf (pats : Pats) (bl : List Str) (d : Def) : Ct := ⟨d.N, defScope d.st, defScope d.st, pats, bl, [], lqOf d, d.dn⟩
theorem lqOf_inv {d : Def} {q : Str} (h : lqOf d = some q) : d.name ∈ lamNames ∧ q = d.name ++ (".<locals>." : Str) ++ ("<lambda>" : Str) := by
  unfold lqOf at h
  generalize hl : lamNames = l at h
  by_cases c : l.contains d.name = true
  · rw [if_pos c] at h
    exact ⟨List.contains_iff_mem.mp c, (Option.some.inj h).symm⟩
  · rw [if_neg c] at h
    cases h
/-- the code objects with lambdas, their tables -/
def csOf (K : PySem.W.Frag) : List (Addr × Addr) := lamNames.filterMap fun x => match PySem.W.nsIn K mainGlobals x with
  | some (some (.ref _)) => some (He.cT K (x, none))
  | _ => none
/-- each table has one name -/
def exK (K : PySem.W.Frag) : Bool := (tabsOf K).all fun p => (tabsOf K).all fun r => !(p.1 == r.1) || decide (p.2 = r.2)
theorem exK_ok {K : PySem.W.Frag} (h : exK K = true) {p r : Addr × Str} (hp : p ∈ tabsOf K) (hr : r ∈ tabsOf K) (e : p.1 = r.1) : p.2 = r.2 := by
  have := List.all_eq_true.mp (List.all_eq_true.mp h p hp) r hr
  rw [e] at this
  simpa using this
theorem fnd_ok {P : Program} {w : World} {K : PySem.W.Frag} {mg : Str → Option Value} {base : Heap} {x qual : Str} {params : Arguments} {body : List Stmt} {scope : Scope} {dvs : List V} {kws : List (Str × V)} {f : Addr} {fd : FuncData} {CX : CXT} {N ps : List Str} {k : Nat} {sp : Sp} (F : FunD K x qual params body scope dvs kws f fd) (S : FnScope N ps scope) (len : ∀ vs H Q E, sp vs H Q E → vs.length = ps.length)
    (hbody : ∀ (cdv : Value) (oc : Value) (od : Option Addr) (osl : Array (Option Value)), K.lookup f = some ⟨oc, od, .func fd, osl⟩ → fd.code = cdv → PySem.W.codeIn K cdv qual = true → ∀ (A : Around) (outer : List PySem.Env) (s : Shared) (H : Hp) (vs : List V) (Q : VK) (E : XK), Room k (A.deeper (envOfC qual scope s.heap.objs.size f cdv)) → sp vs H Q E →
      ∃ t, PSs (cxOf CX P w K mg base N qual scope f cdv A outer s H E) body t ∧ t { nx := fun _ H' => Q .non H', rt := Q } (L2.start N vs) H) : FnOk P w K mg base CX (k + 1) f fd ps sp := by
  obtain ⟨oc, od, dV, kV, doc, pm, an, cdv, ct, osl, rfl, lk, hcd, _, _⟩ := F.ex
  exact fn_of lk hcd S len fun A outer s H vs Q E hr hsp => hbody cdv oc od osl lk rfl hcd A outer s H vs Q E hr hsp
abbrev FunOk (K : PySem.W.Frag) (d : Def) (f : Addr) (fd : FuncData) : Prop := FunD K d.name d.name (defArgs d.st) (defBody d.st) (defScope d.st) (d.dfl.map dV) [] f fd
/-- how arguments come to the parameters, whatever stands -/
inductive PatS (d : Def) (n : Nat) (ks : List Str) (p : List Nat) : Prop
  | plain : d.dfl = [] → (∀ (kV doc pm : Value) (an : Option Addr) (cdv ct : Value) (us ws : List Value), us.length = n → ws.length = ks.length → bindArgs (PySem.W.fnOf d.name d.name (defArgs d.st) (defBody d.st) (defScope d.st) .none kV doc pm an cdv ct) ⟨us, ks.zip ws⟩ = pure (d.ps.zip (pickA .none (us ++ ws ++ []) p))) → PatS d n ks p
  | dfl : d.dfl ≠ [] → (∀ (T : Addr) (kV doc pm : Value) (an : Option Addr) (cdv ct : Value) (us ws its : List Value), us.length = n → ws.length = ks.length → its.length = d.dfl.length →
      ∃ k, bindArgs (PySem.W.fnOf d.name d.name (defArgs d.st) (defBody d.st) (defScope d.st) (.ref T) kV doc pm an cdv ct) ⟨us, ks.zip ws⟩ = seqItems? (.ref T) >>= k ∧ k (some its.toArray) = pure (d.ps.zip (pickA .none (us ++ ws ++ its) p))) → PatS d n ks p
  | full : d.dfl ≠ [] → (∀ (T : Addr) (kV doc pm : Value) (an : Option Addr) (cdv ct : Value) (us ws its : List Value), us.length = n → ws.length = ks.length → its.length = d.dfl.length →
      bindArgs (PySem.W.fnOf d.name d.name (defArgs d.st) (defBody d.st) (defScope d.st) (.ref T) kV doc pm an cdv ct) ⟨us, ks.zip ws⟩ = pure (d.ps.zip (pickA .none (us ++ ws ++ its) p))) → PatS d n ks p
theorem PatS.ok {K : PySem.W.Frag} {f : Addr} {fd : FuncData} {d : Def} {n : Nat} {ks : List Str} {p : List Nat} (F : FunOk K d f fd) (h : PatS d n ks p) : PatOk K fd d n ks p := by
  cases h with
  | plain a b => exact pat_plain F a b
  | dfl a b => exact pat_dfl F a b
  | full a b => exact pat_full F a b
/-- what is true of a def's text -/
structure DefS (d : Def) : Prop where
  con : d.dfl.all isCon = true
  sc : FnScope d.N d.ps (defScope d.st)
  len : d.ps.length ≤ d.N.length
  pat : ∀ q ∈ d.calls, PatS d q.1 q.2.1 q.2.2
/-- the program's defs, as the top left them -/
structure ProgOk (K : PySem.W.Frag) (mg : Str → Option Value) (defs : List Def) (bl : List Str) : Prop where
  fn : ∀ d ∈ defs, DefS d ∧ ∃ fd, mg d.name = some (.ref (He.fAd K (d.name, none))) ∧ FunOk K d (He.fAd K (d.name, none)) fd
  bl : ∀ x, bl.contains x = true → mg x = none
  gl : ∀ d ∈ defs, PySem.W.nsIn K mainGlobals d.name = some (some (.ref (He.fAd K (d.name, none))))
  ex : exK K = true
/-- how Mini's defs come from the text -/
def FOk (F : Nat → Option Fd) (defs : List Def) (pats : Pats) (bl : List Str) : Prop := ∀ i fd, F i = some fd → ∃ d, defs[i]? = some d ∧ fd.np = d.ps.length ∧ fd.nn = d.N.length ∧ ∃ n, cS.go n (ctOf pats bl d) (defBody d.st) = some fd.body
theorem findPat_mem {x : Str} {n : Nat} {ks : List Str} {r : Nat × List Nat × List D} : ∀ {ps : Pats}, findPat x n ks ps = some r → (x, n, ks, r.1, r.2.1, r.2.2) ∈ ps
  | [], h => by simp [findPat] at h
  | (y, m, js, q) :: ps, h => by
    unfold findPat at h
    split at h
    · rename_i e
      cases h
      obtain ⟨rfl, rfl, rfl⟩ := e
      exact List.mem_cons_self
    · exact List.mem_cons_of_mem _ (findPat_mem h)
theorem begin_none (f : Fd) (a : List D) : begin f a = a.map some ++ List.replicate (f.nn - f.np) none := rfl
theorem tabB_up {base base' : Heap} {mg : Str → Option Value} {c P : Addr} (t : TabB base mg c P) (k : ∀ b o, base.get? b = some o → base'.get? b = some o) : TabB base' mg c P := ⟨t.code.keeps k, t.bm.keeps k, t.gP⟩
theorem callN_ok {P : Program} {w : World} {K : PySem.W.Frag} {mg : Str → Option Value} {F : Nat → Option Fd} {defs : List Def} {bl : List Str} {wf : Nat} (O : ProgOk K mg defs bl) (FO : FOk F defs (patsFrom 0 defs) bl) :
    ∀ (n : Nat) (base : Heap), (∀ p ∈ csOf K, TabB base mg p.1 p.2) → ∀ (r : Nat) (c : Option (Fk × (List D → List D → Hm → Out D))) (i : Nat) (d : Def) (fd : FuncData), 3 * n ≤ r → (∀ l, c = some l → LamRun P w K mg base (r - 1) l) → defs[i]? = some d → FunOk K d (He.fAd K (d.name, none)) fd → FnScope d.N d.ps (defScope d.st) → d.ps.length ≤ d.N.length → FnOk P w K mg base CX0 r (He.fAd K (d.name, none)) fd d.ps (spF K (callN F wf n c i))
  | 0, base, TT, r, c, i, d, fd, hrn, lo, hd, FD, FS, hl => by
    refine ⟨fun vs H Q E h => ?_, fun A outer s H args us vs Q E _ _ _ _ h => ?_⟩
    · obtain ⟨base, L, φ, m, ds, r, m', _, _, e, _⟩ := h
      cases e
    · obtain ⟨base, L, φ, m, ds, r, m', _, _, e, _⟩ := h
      cases e
  | n + 1, base, TT, 0, c, i, d, fd, hrn, lo, hd, FD, FS, hl => absurd hrn (by omega)
  | n + 1, base, TT, r + 1, c, i, d, fd, hrn, lo, hd, FD, FS, hl => by
    have inv : ∀ {ds r m m'}, callN F wf (n + 1) c i ds m = .ok r m' → ∃ fd, F i = some fd ∧ ds.length = fd.np ∧ (ex { call := callN F wf n none, callc := fun f a k g m => callN F wf n (some (k, g)) f a m, lam := c, base := m.length, wf := wf } fd.body (begin fd ds) m).bind (fun p m' => finD m.length p m') = .ok r m' := by
      intro ds r m m' e
      unfold callN at e
      cases hF : F i with
      | none => rw [hF] at e; cases e
      | some fd0 =>
        rw [hF] at e
        dsimp only at e
        split at e
        · rename_i hl
          exact ⟨fd0, rfl, hl, e⟩
        · cases e
    refine fnd_ok FD FS (fun vs H Q E h => ?_) (fun cdv oc od osl lk hcode hcdi A outer s H vs Q E hr h => ?_)
    · obtain ⟨base, L, φ, m, ds, r, m', R, hds, e, _⟩ := h
      obtain ⟨fd0, hF, hl, _⟩ := inv e
      obtain ⟨d', hd', np, nn, _⟩ := FO i fd0 hF
      rw [hd] at hd'
      cases hd'
      rw [← hds.length, hl, np]
    · obtain ⟨bs, L, φ, m, ds, rd, m', R, hds, e, q⟩ := h
      obtain ⟨fd0, hF, hln, e⟩ := inv e
      obtain ⟨d', hd', np, nn, nb, hb⟩ := FO i fd0 hF
      rw [hd] at hd'
      cases hd'
      generalize hC : (Cf.mk (callN F wf n none) (fun f a k g m => callN F wf n (some (k, g)) f a m) c m.length wf : Cf) = C at e
      have hCb : C.base = m.length := by rw [← hC]
      have hCc : C.call = callN F wf n none := by rw [← hC]
      have hCl : C.lam = c := by rw [← hC]
      let X := (cxOf CX0 P w K mg base d.N d.name (defScope d.st) (He.fAd K (d.name, none)) cdv A outer s H E).nox
      have hCk : C.callc = fun f a k g m => callN F wf n (some (k, g)) f a m := by rw [← hC]
      have low : ∀ x n1 ks f1 p ds1, findPat x n1 ks (patsFrom 0 defs) = some (f1, p, ds1) → LowOk X C (3 * n) x n1 ks f1 p ds1 := fun x n1 ks f1 p ds1 h => by
        have hm := findPat_mem h
        obtain ⟨d1, k1, rfl, hd1, rfl, rfl, g6⟩ := patsFrom_mem hm
        rw [Nat.zero_add] at *
        obtain ⟨⟨g3, g4, g5, g7⟩, fd2, g1, g2⟩ := O.fn d1 (List.mem_of_getElem? hd1)
        obtain ⟨g, kb⟩ := ((g7 _ g6).ok g2).kbn
        refine ⟨_, fd2, d1.ps, g, _, g1, g2.kp, kb, fun φ H ys vs ws rr _ _ => ?_, fun base' up r' hr' => ⟨?_, fun l hl => ?_⟩⟩
        · rw [pick_eq]
          exact pickA_rs (rr.app (dVs_ok g3)) p
        · rw [hCc]
          exact callN_ok O FO n base' (fun p hp => tabB_up (TT p hp) up) r' none k1 d1 fd2 hr' (fun l z => by cases z) hd1 g2 g4 g5
        · rw [hCk]
          exact callN_ok O FO n base' (fun p hp => tabB_up (TT p hp) up) r' (some l) k1 d1 fd2 hr' (fun l2 z => by cases z; exact hl) hd1 g2 g4 g5
      have ok : Ok (ctOf (patsFrom 0 defs) bl d) X C := by
        refine ⟨⟨rfl, FS.nd, fun x hx => ?_⟩, rfl, rfl, ?_, O.bl, fun x n1 ks f1 p ds1 h => ?_, fun l hl => (lo l (by rw [← hCl]; exact hl)).ok hr, fun q hq => ?_⟩
        · have hx : isLoc (defScope d.st) x = true := hx
          refine ⟨?_, .inl rfl⟩
          unfold isLoc at hx
          split at hx
          · rename_i h; exact .inl h
          · rename_i h; exact .inr h
          · cases hx
        · show (A.deeper _).units + 65 < cLine
          have := hr.un
          omega
        · obtain ⟨addr, fd2, ps, g, gV, g1, g2, g3, g4, g5⟩ := (low _ _ _ _ _ _ h).ex
          exact ⟨addr, fd2, ps, r, g, gV, g1, g2, g3, (g5 base (fun _ _ e => e) r (by omega)).1, hr, g4⟩
        · obtain ⟨hln, rfl⟩ := lqOf_inv hq
          have hgl := O.gl d (List.mem_of_getElem? hd)
          obtain ⟨cA, rfl⟩ := He.codeIn_ref hcdi
          have hcA : He.codeOf K (d.name, none) = cA := He.codeOf_eq lk hcode
          have m1 : He.cT K (d.name, none) ∈ csOf K := List.mem_filterMap.mpr ⟨d.name, hln, by rw [hgl]⟩
          have m2 : ((He.cT K (d.name, none)).2, d.name ++ (".<locals>." : Str) ++ ("<lambda>" : Str)) ∈ tabsOf K := List.mem_filterMap.mpr ⟨d.name, hln, by rw [hgl]⟩
          have tb := TT _ m1
          have e1 : (He.cT K (d.name, none)).1 = cA := hcA
          rw [e1] at tb
          exact ⟨⟨cA, _, rfl, tb, m2, fun p hp e => exK_ok O.ex hp m2 e⟩, rfl, fun _ => rfl, 3 * n, hr.mono (by omega), low⟩
      have OS : OkS (ctOf (patsFrom 0 defs) bl d) X C := ⟨ok, FS.kind, rfl⟩
      refine ⟨_, ((s_ok OS nb).2 _ _ hb).nox, ?_⟩
      obtain ⟨⟨fl, ρ'⟩, m1, e1, e2⟩ := bind_inv e
      refine ⟨deepL bs L m.length, φ, _, m, fl, ρ', m1, by rw [hCb]; exact R.enter, ?_, e1, fun φ' σ' H' R' s' hE' => ?_⟩
      · rw [begin_none, nn, np, ← np, ← hln]
        have := relE_start (N := d.N) hds (by rw [← hds.length, hln, np]; exact hl)
        exact this
      · rw [hCb] at R'
        obtain ⟨R2, s2⟩ := R.leave s' R'
        have fin : ∀ dd v, close m.length dd m1 = .ok rd m' → RV K φ' H H' dd v → Q v H' := fun dd v e2 rv => by
          obtain ⟨rfl, rv2⟩ := RV.leave R s' R' rv e2
          exact q H' v R2 s2 rv2
        cases fl with
        | nx => exact fin .non _ e2 (.st .non)
        | ret dd => exact fun v rv => fin dd v e2 rv
        | brk => cases e2
        | cnt => cases e2
end Bell
end

section
set_option maxRecDepth 100000
/-! the law's end -/
namespace Bell
open PySem PySem.Spec PyProof.Rows L2
theorem allN {α : Type} {P : α → Prop} : ∀ q ∈ ([] : List α), P q := fun q h => by cases h
theorem allC {α : Type} {P : α → Prop} {a : α} {l : List α} (h : P a) (t : ∀ q ∈ l, P q) : ∀ q ∈ a :: l, P q := fun q hq => by
  rcases List.mem_cons.mp hq with e | e
  · rw [e]; exact h
  · exact t q e
/-- how the script may stand -/
def Scr (ns : List Int) (sv : D) (m : Hm) : Prop := (sv = .fro (ns.map .int) ∧ m = []) ∨ (sv = .adr 0 ∧ m = [.lst (ns.map .int)])
theorem tabs_start {K : PySem.W.Frag} {H : Hp} (h : ∀ p ∈ csOf K, H p.2 = some (.tbl #[])) : LamX.Tabs (tabsOf K) H := by
  intro p hp
  obtain ⟨x, hx, e⟩ := List.mem_filterMap.mp hp
  split at e
  · rename_i q
    cases e
    exact LamX.TabS.nil (h (He.cT K (x, none)) (List.mem_filterMap.mpr ⟨x, hx, by rw [q]⟩))
  · cases e
theorem law_sp {K : PySem.W.Frag} {F : Nat → Option Fd} {wf k i : Nat} {H : Hp} {a : Addr} {ns : List Int} (hT : LamX.Tabs (tabsOf K) H) (hS : SqL K H a (ns.map V.int)) (hM : ∀ sv m, Scr ns sv m → ∃ m', callN F wf k none i [sv] m = .ok (.bl true) m') :
    spF K (callN F wf k none i) [.ref a] H (fun v _ => v = .bl true) L2.E0 := by
  have core : ∀ {φ : List Addr} {sv : D} {m : Hm}, RelH K 0 (fun _ => 0) φ m H → RS K φ H sv (.ref a) → Scr ns sv m → spF K (callN F wf k none i) [.ref a] H (fun v _ => v = .bl true) L2.E0 := fun {φ sv m} R r s => by
    obtain ⟨m', e⟩ := hM sv m s
    exact ⟨0, fun _ => 0, φ, m, [sv], .bl true, m', R, .cons r .nil, e, fun H' v _ _ rv => rv.bl⟩
  have fr : FrL K H a (ns.map V.int) → spF K (callN F wf k none i) [.ref a] H (fun v _ => v = .bl true) L2.E0 := fun f =>
    core (φ := []) (m := []) ⟨rfl, List.nodup_nil, Nat.le_refl _, fun i hi => absurd hi (Nat.not_lt_zero _), fun i o hi => absurd hi (Nat.not_lt_zero _), fun i o _ e => by simp at e, hT⟩ (.fro f (RSs.ofI ns)) (.inl ⟨rfl, rfl⟩)
  rcases hS with (h | ⟨o, h⟩) | h
  · refine core (φ := [a]) (m := [.lst (ns.map .int)]) ⟨rfl, by simp, Nat.zero_le _, fun i hi => absurd hi (Nat.not_lt_zero _), fun i o hi => absurd hi (Nat.not_lt_zero _), fun i o _ e => ?_, hT⟩ (.adr rfl) (.inr ⟨rfl, rfl⟩)
    cases i with
    | zero =>
      simp at e
      subst e
      exact ⟨a, _, rfl, h, .lst (RSs.ofI ns)⟩
    | succ i => simp at e
  · exact fr (.inl ⟨o, h⟩)
  · exact fr (.inr fun _ => .inr h)
/-- the head's hook -/
def dvD : D → He.Dv
  | .bl b => .bl b
  | .int i => .int i
  | .str x => .str x
  | _ => .non
def defD (d : Def) : He.DefD := ⟨(d.name, none), d.name, d.name, defArgs d.st, defBody d.st, defScope d.st, d.dfl.map dvD, []⟩
theorem dvD_v (K : PySem.W.Frag) (d : D) : (dvD d).v K = dV d := by cases d <;> rfl
def facts (defs : List Def) (bl : List Str) (nol : List Str) : List He.Fa := defs.map (fun d => .glo d.name) ++ (bl ++ nol).map .free
/-- of the names of lambdas' makers: those that stand, those that don't -/
def lamOk (tf : List He.Defn) (nol : List Str) : Bool := lamNames.all fun x => decide ((x, none) ∈ tf) || nol.contains x
theorem law_at {l : PySem.W.OpenLaw} {w : World} {K : PySem.W.Frag} {mg : Str → Option Value} {fa : Addr} {h : Heap} {F : Nat → Option Fd} {defs : List Def} {bl nol : List Str} {ts : List He.Tab} {tf : List He.Defn} {wf k i : Nat} {d : Def}
    (X : K.In h) (G : h.Ns mainGlobals mg) (c : He.SaysX (facts defs bl nol) (defs.map defD) ts tf exK w h K) (hfa : mg d.name = some (.ref fa)) (hl : lamOk tf nol = true) (DS : ∀ d ∈ defs, DefS d) (FO : FOk F defs (patsFrom 0 defs) bl)
    (hi : defs[i]? = some d) (hd : d.dfl = []) (hps : d.ps = (["script"] : List Str)) (hb : (1, [], [0]) ∈ d.calls)
    (hM : ∀ ns : List Int, ns.length ≤ 63 → (∀ z ∈ ns, Builtin.Int.intBits z ≤ 1048576) → ∀ sv m, Scr ns sv m → ∃ m', callN F wf k none i [sv] m = .ok (.bl true) m') : LamX.LawAtS l w K L2.CX0 (3 * k) 63 "script" mg fa h := by
  have cD : He.SaysD (facts defs bl nol) (defs.map defD) K := c.t.d
  have fr : ∀ x, x ∈ bl ++ nol → (He.Fa.free x).ok K = true := fun x hx => cD.facts (List.mem_append_right _ (List.mem_map.mpr ⟨x, hx, rfl⟩))
  have fun_ : ∀ d ∈ defs, ∃ fd, mg d.name = some (.ref (He.fAd K (d.name, none))) ∧ FunOk K d (He.fAd K (d.name, none)) fd := fun d hd => by
    have h1 := He.glo_ok X G (cD.facts (List.mem_append_left _ (List.mem_map.mpr ⟨d, hd, rfl⟩) : He.Fa.glo d.name ∈ facts defs bl nol))
    obtain ⟨fd, h2⟩ := cD.defs (List.mem_map.mpr ⟨d, hd, rfl⟩ : defD d ∈ defs.map defD)
    refine ⟨fd, h1, ?_⟩
    have e1 : (defD d).dvs K = d.dfl.map dV := by
      unfold He.DefD.dvs defD
      simp [dvD_v]
    rw [e1] at h2
    exact h2
  have gl_ : ∀ d ∈ defs, PySem.W.nsIn K mainGlobals d.name = some (some (.ref (He.fAd K (d.name, none)))) := fun d hd =>
    He.eqO_ok (cD.facts (List.mem_append_left _ (List.mem_map.mpr ⟨d, hd, rfl⟩) : He.Fa.glo d.name ∈ facts defs bl nol))
  have P : ProgOk K mg defs bl := ⟨fun d hd => ⟨DS d hd, fun_ d hd⟩, fun x hx => He.free_ok X G (fr x (List.mem_append_left _ (by simpa using hx))), gl_, c.more⟩
  have cs_tf : ∀ p ∈ csOf K, ∃ q ∈ tf, p = He.cT K q := fun p hp => by
    obtain ⟨x, hx, e⟩ := List.mem_filterMap.mp hp
    have := List.all_eq_true.mp hl x hx
    rcases Bool.or_eq_true_iff.mp this with z | z
    · split at e
      · cases e
        exact ⟨_, of_decide_eq_true z, rfl⟩
      · cases e
    · have e2 := He.eqO_ok (fr x (List.mem_append_right _ (by simpa using z)))
      rw [e2] at e
      cases e
  obtain ⟨fd, g1, g2⟩ := fun_ d (List.mem_of_getElem? hi)
  rw [hfa] at g1
  cases g1
  obtain ⟨_, sc, len, pat⟩ := DS d (List.mem_of_getElem? hi)
  refine ⟨fd, csOf K, spF K (callN F wf k none i), fun p hp => ?_, fun p hp => ?_, fun p hp => ?_, fun s u => ?_, fun H a ns hl hb hT hS => ?_, fun base X2 G2 TT => ?_⟩
  · obtain ⟨q, hq, rfl⟩ := cs_tf p hp
    exact c.empty q hq
  · obtain ⟨q, hq, rfl⟩ := cs_tf p hp
    exact c.out q hq
  · obtain ⟨q, hq, rfl⟩ := cs_tf p hp
    exact PySem.W.codeHd_of_K X (c.hd q hq)
  · have := pat _ hb
    cases this with
    | plain a b =>
      obtain ⟨oc, od, dV0, kV, doc, pm, an, cdv, ct, osl, rfl, lk, hcd, hD, hK⟩ := g2.ex
      rw [hd] at hD
      rcases hD with ⟨_, rfl⟩ | ⟨e, _⟩
      · have := b kV doc pm an cdv ct [u] [] rfl rfl
        rw [hps] at this
        exact .of_eq this
      · exact absurd rfl e
    | dfl a b => exact absurd hd a
    | full a b => exact absurd hd a
  · exact law_sp (tabs_start hT) hS (hM ns hl hb)
  · have := callN_ok (P := l.prog) (w := w) (wf := wf) P FO k base TT (3 * k) none i d fd (Nat.le_refl _) (fun l z => by cases z) hi g2 sc len
    rw [hps] at this
    exact this
end Bell
end

section
set_option maxRecDepth 100000
/-! what a run of Mini ends with -/
namespace Bell
open PySem (Str)
def wp {α : Type} (x : Out α) (Q : α → Hm → Prop) : Prop := ∃ a m, x = .ok a m ∧ Q a m
def wpo (o : Option D) (m : Hm) (Q : D → Hm → Prop) : Prop := ∃ d, o = some d ∧ Q d m
def wpb (o : Option Bool) (m : Hm) (Q : D → Hm → Prop) : Prop := ∃ b, o = some b ∧ Q (.bl b) m
def wpt (o : Option Env) (P : Env → Prop) : Prop := ∃ ρ, o = some ρ ∧ P ρ
def wif (x : D) (P N : Prop) : Prop := (x = .bl true ∧ P) ∨ (x = .bl false ∧ N)
def wpa (x : D) (P : List D → Prop) : Prop := ∃ xs, x = .tup xs ∧ P xs
theorem wp.mono {α : Type} {x : Out α} {Q R : α → Hm → Prop} (h : wp x Q) (k : ∀ a m, Q a m → R a m) : wp x R := by
  obtain ⟨a, m, e, q⟩ := h
  exact ⟨a, m, e, k a m q⟩
theorem wp_ok {α : Type} (a : α) (m : Hm) (Q : α → Hm → Prop) : wp (.ok a m) Q ↔ Q a m := by
  constructor
  · rintro ⟨_, _, e, q⟩; cases e; exact q
  · intro q; exact ⟨a, m, rfl, q⟩
theorem wp_exc {α : Type} (c : Nat) (d : D) (m : Hm) (Q : α → Hm → Prop) : wp (.exc c d m) Q ↔ False := by
  constructor
  · rintro ⟨_, _, e, q⟩; cases e
  · exact False.elim
theorem wp_bad {α : Type} (Q : α → Hm → Prop) : wp .bad Q ↔ False := by
  constructor
  · rintro ⟨_, _, e, q⟩; cases e
  · exact False.elim
theorem wp_bind {α β : Type} (x : Out α) (f : α → Hm → Out β) (Q : β → Hm → Prop) : wp (x.bind f) Q ↔ wp x fun a m => wp (f a m) Q := by
  cases x with
  | ok a m => rw [bind_ok, wp_ok]
  | exc c d m => rw [bind_exc, wp_exc, wp_exc]
  | bad => rw [bind_bad, wp_bad, wp_bad]
theorem wp_okD (o : Option D) (m : Hm) (Q : D → Hm → Prop) : wp (okD o m) Q ↔ wpo o m Q := by
  cases o with
  | none => unfold okD; rw [wp_bad]; exact ⟨False.elim, fun ⟨_, e, _⟩ => by cases e⟩
  | some d => unfold okD; rw [wp_ok]; exact ⟨fun q => ⟨d, rfl, q⟩, fun ⟨_, e, q⟩ => by cases e; exact q⟩
theorem wp_okB (o : Option Bool) (m : Hm) (Q : D → Hm → Prop) : wp (okB o m) Q ↔ wpb o m Q := by
  cases o with
  | none => unfold okB; rw [wp_bad]; exact ⟨False.elim, fun ⟨_, e, _⟩ => by cases e⟩
  | some d => unfold okB; rw [wp_ok]; exact ⟨fun q => ⟨d, rfl, q⟩, fun ⟨_, e, q⟩ => by cases e; exact q⟩
theorem wp_args (d : D) (f : List D → Out D) (Q : D → Hm → Prop) : wp (withArgs d f) Q ↔ wpa d fun xs => wp (f xs) Q := by
  constructor
  · intro h
    unfold withArgs at h
    split at h
    · exact ⟨_, rfl, h⟩
    · rw [wp_bad] at h; exact h.elim
  · rintro ⟨xs, rfl, h⟩
    exact h
theorem wpo_some (d : D) (m : Hm) (Q : D → Hm → Prop) : wpo (some d) m Q ↔ Q d m := ⟨fun ⟨_, e, q⟩ => by cases e; exact q, fun q => ⟨d, rfl, q⟩⟩
theorem wpb_some (d : Bool) (m : Hm) (Q : D → Hm → Prop) : wpb (some d) m Q ↔ Q (.bl d) m := ⟨fun ⟨_, e, q⟩ => by cases e; exact q, fun q => ⟨d, rfl, q⟩⟩
theorem wpa_tup (xs : List D) (P : List D → Prop) : wpa (.tup xs) P ↔ P xs := ⟨fun ⟨_, e, q⟩ => by cases e; exact q, fun q => ⟨xs, rfl, q⟩⟩
theorem wp_ifB (b : Bool) (t e : Out D) (Q : D → Hm → Prop) : wp (ifB (.bl b) t e) Q ↔ (if b = true then wp t Q else wp e Q) := by cases b <;> exact Iff.rfl
/-! ### expressions -/
section
variable {C : Cf} {ρ : Env} {m : Hm} {Q : D → Hm → Prop}
theorem w_var (i : Nat) : wp (ev C (.var i) ρ m) Q ↔ wpo (get ρ i) m Q := by rw [show ev C (.var i) ρ m = okD (get ρ i) m from rfl, wp_okD]
theorem w_con (d : D) : wp (ev C (.con d) ρ m) Q ↔ Q d m := by rw [show ev C (.con d) ρ m = .ok d m from rfl, wp_ok]
theorem w_nil : wp (ev C .nil ρ m) Q ↔ Q (.tup []) m := by rw [show ev C .nil ρ m = .ok (.tup []) m from rfl, wp_ok]
theorem w_cons (a r : E) : wp (ev C (.cons a r) ρ m) Q ↔ wp (ev C a ρ m) fun x m => wp (ev C r ρ m) fun y m => wpa y fun ys => Q (.tup (x :: ys)) m := by
  rw [show ev C (.cons a r) ρ m = (ev C a ρ m).bind fun x m => (ev C r ρ m).bind fun y m => withArgs y fun ys => .ok (.tup (x :: ys)) m from rfl]
  simp only [wp_bind, wp_args, wp_ok]
theorem w_tup (a : E) : wp (ev C (.tup a) ρ m) Q ↔ wp (ev C a ρ m) fun x m => wpa x fun xs => Q (.tup (homes xs m).1) (homes xs m).2 := by
  rw [show ev C (.tup a) ρ m = (ev C a ρ m).bind fun x m => withArgs x fun xs => let p := homes xs m; .ok (.tup p.1) p.2 from rfl]
  simp only [wp_bind, wp_args, wp_ok]
theorem w_lst (a : E) : wp (ev C (.lst a) ρ m) Q ↔ wp (ev C a ρ m) fun x m => wpa x fun xs => Q (.lst (homes xs m).1) (homes xs m).2 := by
  rw [show ev C (.lst a) ρ m = (ev C a ρ m).bind fun x m => withArgs x fun xs => let p := homes xs m; .ok (.lst p.1) p.2 from rfl]
  simp only [wp_bind, wp_args, wp_ok]
theorem w_bin (op : Bop) (a b : E) : wp (ev C (.bin op a b) ρ m) Q ↔ wp (ev C a ρ m) fun x m => wp (ev C b ρ m) fun y m => wpo (binD op x y m) m Q := by
  rw [show ev C (.bin op a b) ρ m = (ev C a ρ m).bind fun x m => (ev C b ρ m).bind fun y m => okD (binD op x y m) m from rfl]
  simp only [wp_bind, wp_okD]
theorem w_cmp (op : Cop) (a b : E) : wp (ev C (.cmp op a b) ρ m) Q ↔ wp (ev C a ρ m) fun x m => wp (ev C b ρ m) fun y m => wpb (cmpD op m x y) m Q := by
  rw [show ev C (.cmp op a b) ρ m = (ev C a ρ m).bind fun x m => (ev C b ρ m).bind fun y m => okB (cmpD op m x y) m from rfl]
  simp only [wp_bind, wp_okB]
theorem w_tand (a b : E) : wp (ev C (.tand a b) ρ m) Q ↔ wp (ev C a ρ m) fun x m => wp (ifB x (ev C b ρ m) (.ok (.bl false) m)) Q := by
  rw [show ev C (.tand a b) ρ m = (ev C a ρ m).bind fun x m => ifB x (ev C b ρ m) (.ok (.bl false) m) from rfl, wp_bind]
theorem w_tor (a b : E) : wp (ev C (.tor a b) ρ m) Q ↔ wp (ev C a ρ m) fun x m => wp (ifB x (.ok (.bl true) m) (ev C b ρ m)) Q := by
  rw [show ev C (.tor a b) ρ m = (ev C a ρ m).bind fun x m => ifB x (.ok (.bl true) m) (ev C b ρ m) from rfl, wp_bind]
theorem w_tnot (a : E) : wp (ev C (.tnot a) ρ m) Q ↔ wp (ev C a ρ m) fun x m => wp (ifB x (.ok (.bl false) m) (.ok (.bl true) m)) Q := by
  rw [show ev C (.tnot a) ρ m = (ev C a ρ m).bind fun x m => ifB x (.ok (.bl false) m) (.ok (.bl true) m) from rfl, wp_bind]
theorem w_tru (a : E) : wp (ev C (.tru a) ρ m) Q ↔ wp (ev C a ρ m) fun x m => wpb (truth m x) m Q := by
  rw [show ev C (.tru a) ρ m = (ev C a ρ m).bind fun x m => okB (truth m x) m from rfl]
  simp only [wp_bind, wp_okB]
def wtr (o : Option Bool) (P N : Prop) : Prop := (o = some true ∧ P) ∨ (o = some false ∧ N)
theorem wtr_some (b : Bool) (P N : Prop) : wtr (some b) P N ↔ if b = true then P else N := by cases b <;> simp [wtr]
theorem w_vand (a b : E) : wp (ev C (.vand a b) ρ m) Q ↔ wp (ev C a ρ m) fun x m => wtr (truth m x) (wp (ev C b ρ m) Q) (Q x m) := by
  rw [show ev C (.vand a b) ρ m = (ev C a ρ m).bind fun x m => match truth m x with
    | some true => ev C b ρ m
    | some false => .ok x m
    | none => .bad from rfl, wp_bind]
  have e : ∀ (x : D) (m : Hm), wp (match truth m x with
    | some true => ev C b ρ m
    | some false => .ok x m
    | none => .bad) Q ↔ wtr (truth m x) (wp (ev C b ρ m) Q) (Q x m) := fun x m => by
    unfold wtr
    cases truth m x with
    | none => simp [wp_bad]
    | some b => cases b <;> simp [wp_ok]
  simp only [e]
theorem w_vor (a b : E) : wp (ev C (.vor a b) ρ m) Q ↔ wp (ev C a ρ m) fun x m => wtr (truth m x) (Q x m) (wp (ev C b ρ m) Q) := by
  rw [show ev C (.vor a b) ρ m = (ev C a ρ m).bind fun x m => match truth m x with
    | some true => .ok x m
    | some false => ev C b ρ m
    | none => .bad from rfl, wp_bind]
  have e : ∀ (x : D) (m : Hm), wp (match truth m x with
    | some true => .ok x m
    | some false => ev C b ρ m
    | none => .bad) Q ↔ wtr (truth m x) (Q x m) (wp (ev C b ρ m) Q) := fun x m => by
    unfold wtr
    cases truth m x with
    | none => simp [wp_bad]
    | some b => cases b <;> simp [wp_ok]
  simp only [e]
theorem w_vnot (a : E) : wp (ev C (.vnot a) ρ m) Q ↔ wp (ev C a ρ m) fun x m => wtr (truth m x) (Q (.bl false) m) (Q (.bl true) m) := by
  rw [show ev C (.vnot a) ρ m = (ev C a ρ m).bind fun x m => match truth m x with
    | some k => .ok (.bl !k) m
    | none => .bad from rfl, wp_bind]
  have e : ∀ (x : D) (m : Hm), wp (match truth m x with
    | some k => .ok (.bl !k) m
    | none => .bad) Q ↔ wtr (truth m x) (Q (.bl false) m) (Q (.bl true) m) := fun x m => by
    unfold wtr
    cases truth m x with
    | none => simp [wp_bad]
    | some b => cases b <;> simp [wp_ok]
  simp only [e]
theorem w_ife (t a b : E) : wp (ev C (.ife t a b) ρ m) Q ↔ wp (ev C t ρ m) fun x m => wp (ifB x (ev C a ρ m) (ev C b ρ m)) Q := by
  rw [show ev C (.ife t a b) ρ m = (ev C t ρ m).bind fun x m => ifB x (ev C a ρ m) (ev C b ρ m) from rfl, wp_bind]
theorem w_callp (f : Nat) (q : List Nat) (ds : List D) (a : E) : wp (ev C (.callp f q ds a) ρ m) Q ↔ wp (ev C a ρ m) fun x m => wpa x fun xs => wp (C.call f (pick ((homes xs m).1 ++ ds) q) (homes xs m).2) Q := by
  rw [show ev C (.callp f q ds a) ρ m = (ev C a ρ m).bind fun x m => withArgs x fun xs => let p := homes xs m; C.call f (pick (p.1 ++ ds) q) p.2 from rfl]
  simp only [wp_bind, wp_args]
theorem w_bi (b : Bi) (a : E) : wp (ev C (.bi b a) ρ m) Q ↔ wp (ev C a ρ m) fun x m => wpa x fun xs => wpo (biD b xs m) m Q := by
  rw [show ev C (.bi b a) ρ m = (ev C a ρ m).bind fun x m => withArgs x fun xs => okD (biD b xs m) m from rfl]
  simp only [wp_bind, wp_args, wp_okD]
theorem w_isin (a : E) (ts : List Ty) : wp (ev C (.isin a ts) ρ m) Q ↔ wp (ev C a ρ m) fun x m => wpb (isTys m x ts) m Q := by
  rw [show ev C (.isin a ts) ρ m = (ev C a ρ m).bind fun x m => okB (isTys m x ts) m from rfl]
  simp only [wp_bind, wp_okB]
theorem w_idx (a b : E) : wp (ev C (.idx a b) ρ m) Q ↔ wp (ev C a ρ m) fun x m => wp (ev C b ρ m) fun y m => wpo (idxD x y m) m Q := by
  rw [show ev C (.idx a b) ρ m = (ev C a ρ m).bind fun x m => (ev C b ρ m).bind fun y m => okD (idxD x y m) m from rfl]
  simp only [wp_bind, wp_okD]
theorem w_slc (a lo hi : E) : wp (ev C (.slc a lo hi) ρ m) Q ↔ wp (ev C a ρ m) fun x m => wp (ev C lo ρ m) fun l m => wp (ev C hi ρ m) fun h m => wpo (slcD x l h m) m Q := by
  rw [show ev C (.slc a lo hi) ρ m = (ev C a ρ m).bind fun x m => (ev C lo ρ m).bind fun l m => (ev C hi ρ m).bind fun h m => okD (slcD x l h m) m from rfl]
  simp only [wp_bind, wp_okD]
theorem w_nd (a : E) : wp (ev C (.nd a) ρ m) Q ↔ wp (ev C a ρ m) fun x m => ∃ i, x = .int i ∧ Q (.int i) m := by
  rw [show ev C (.nd a) ρ m = (ev C a ρ m).bind fun x m => match x with | .int i => .ok (.int i) m | _ => .bad from rfl, wp_bind]
  constructor
  · intro h
    refine h.mono fun x m q => ?_
    cases x <;> first | (rw [wp_bad] at q; exact q.elim) | exact ⟨_, rfl, (wp_ok _ _ _).mp q⟩
  · intro h
    refine h.mono fun x m q => ?_
    obtain ⟨i, rfl, q⟩ := q
    exact (wp_ok _ _ _).mpr q
theorem w_meth (me : Me) (o a : E) : wp (ev C (.meth me o a) ρ m) Q ↔ wp (ev C o ρ m) fun x m => recv me m x = true ∧ wp (ev C a ρ m) fun y m => wpa y fun ys => ∃ d m2, methD C.base me x (homes ys m).1 (homes ys m).2 = some (d, m2) ∧ Q d m2 := by
  rw [show ev C (.meth me o a) ρ m = (ev C o ρ m).bind fun x m => if recv me m x then (ev C a ρ m).bind fun y m => withArgs y fun ys => let p := homes ys m; match methD C.base me x p.1 p.2 with
    | some (d, m) => .ok d m
    | none => .bad
    else .bad from rfl, wp_bind]
  have e : ∀ (x : D) (m : Hm), wp (if recv me m x then (ev C a ρ m).bind fun y m => withArgs y fun ys => let p := homes ys m; match methD C.base me x p.1 p.2 with
    | some (d, m) => .ok d m
    | none => .bad
    else .bad) Q ↔ recv me m x = true ∧ wp (ev C a ρ m) fun y m => wpa y fun ys => ∃ d m2, methD C.base me x (homes ys m).1 (homes ys m).2 = some (d, m2) ∧ Q d m2 := by
    intro x m
    by_cases h : recv me m x = true
    · rw [if_pos h, wp_bind]
      simp only [wp_args, h, true_and]
      have e2 : ∀ (ys : List D) (m : Hm), wp (match methD C.base me x (homes ys m).1 (homes ys m).2 with
          | some (d, m) => Out.ok d m
          | none => .bad) Q ↔ ∃ d m2, methD C.base me x (homes ys m).1 (homes ys m).2 = some (d, m2) ∧ Q d m2 := by
        intro ys m
        cases q : methD C.base me x (homes ys m).1 (homes ys m).2 with
        | none => dsimp only; rw [wp_bad]; exact ⟨False.elim, fun ⟨_, _, e, _⟩ => by cases e⟩
        | some p => obtain ⟨d, m2⟩ := p; dsimp only; rw [wp_ok]; exact ⟨fun q => ⟨_, _, rfl, q⟩, fun ⟨_, _, e, q⟩ => by cases e; exact q⟩
      simp only [e2]
    · rw [if_neg h, wp_bad]
      simp [h]
  simp only [e]
/-- a comprehension's turn -/
noncomputable def oneCW (C : Cf) (tg : Tg) (c e : E) (own : List Nat) (ρ : Env) : D → List D → Hm → Out (List D) := fun d acc m => match assignT tg d (wipe ρ own) with
  | none => .bad
  | some ρ' => (ev C c ρ' m).bind fun t m => match t with
    | .bl true => (ev C e ρ' m).bind fun y m => let p := home y m; .ok (acc ++ [p.1]) p.2
    | .bl false => .ok acc m
    | _ => .bad
theorem w_one (tg : Tg) (c e : E) (own : List Nat) (d : D) (acc : List D) (P : List D → Hm → Prop) : wp (oneCW C tg c e own ρ d acc m) P ↔ wpt (assignT tg d (wipe ρ own)) fun ρ' => wp (ev C c ρ' m) fun t m => wif t (wp (ev C e ρ' m) fun y m => P (acc ++ [(home y m).1]) (home y m).2) (P acc m) := by
  unfold oneCW
  cases assignT tg d (wipe ρ own) with
  | none => dsimp only; rw [wp_bad]; exact ⟨False.elim, fun ⟨_, e, _⟩ => by cases e⟩
  | some ρ' =>
    dsimp only
    rw [wp_bind]
    have e2 : ∀ (t : D) (m : Hm), wp (match t with
      | .bl true => (ev C e ρ' m).bind fun y m => let p := home y m; .ok (acc ++ [p.1]) p.2
      | .bl false => .ok acc m
      | _ => .bad) P ↔ wif t (wp (ev C e ρ' m) fun y m => P (acc ++ [(home y m).1]) (home y m).2) (P acc m) := by
      intro t m
      unfold wif
      cases t with
      | bl b => cases b <;> simp [wp_bind, wp_ok]
      | _ => simp [wp_bad]
    simp only [e2]
    exact ⟨fun q => ⟨ρ', rfl, q⟩, fun ⟨_, e, q⟩ => by cases e; exact q⟩
theorem w_comp (k : Sk) (it : E) (tg : Tg) (c e : E) (own : List Nat) : wp (ev C (.comp k it tg c e own) ρ m) Q ↔ wp (ev C it ρ m) fun x m => wpa x fun xs => ∃ f n, src k xs m = some (f, n) ∧ isBig n = true ∧
    wp (turns f (oneCW C tg c e own ρ) n 0 [] m) fun acc m => Q (.lst acc) m := by
  rw [show ev C (.comp k it tg c e own) ρ m = (ev C it ρ m).bind fun x m => withArgs x fun xs => match src k xs m with
    | none => .bad
    | some (f, n) => if !isBig n then .bad else (turns f (oneCW C tg c e own ρ) n 0 [] m).bind fun acc m => .ok (.lst acc) m from rfl]
  simp only [wp_bind, wp_args]
  have e2 : ∀ (xs : List D) (m : Hm), wp (match src k xs m with
    | none => .bad
    | some (f, n) => if !isBig n then .bad else (turns f (oneCW C tg c e own ρ) n 0 [] m).bind fun acc m => .ok (.lst acc) m) Q ↔ ∃ f n, src k xs m = some (f, n) ∧ isBig n = true ∧
    wp (turns f (oneCW C tg c e own ρ) n 0 [] m) fun acc m => Q (.lst acc) m := by
    intro xs m
    cases q : src k xs m with
    | none => dsimp only; rw [wp_bad]; exact ⟨False.elim, fun ⟨_, _, e, _⟩ => by cases e⟩
    | some p =>
      obtain ⟨f, n⟩ := p
      dsimp only
      cases hb : isBig n with
      | false => simp [wp_bad, hb]
      | true =>
        rw [if_neg (by simp)]
        simp only [wp_bind, wp_ok]
        exact ⟨fun z => ⟨f, n, rfl, hb, z⟩, fun ⟨_, _, e, _, z⟩ => by cases e; exact z⟩
  simp only [e2]
/-! ### statements -/
variable {R : Fl × Env → Hm → Prop}
theorem w_snil : wp (ex C .nil ρ m) R ↔ R (.nx, ρ) m := by rw [show ex C .nil ρ m = .ok (.nx, ρ) m from rfl, wp_ok]
def seqQ (C : Cf) (r : S) (R : Fl × Env → Hm → Prop) : Fl × Env → Hm → Prop := fun p m => match p.1 with
  | .nx => wp (ex C r p.2 m) R
  | _ => R p m
theorem w_scons (s r : S) : wp (ex C (.cons s r) ρ m) R ↔ wp (ex C s ρ m) (seqQ C r R) := by
  rw [show ex C (.cons s r) ρ m = (ex C s ρ m).bind fun p m => match p.1 with | .nx => ex C r p.2 m | _ => .ok p m from rfl, wp_bind]
  have e : ∀ (p : Fl × Env) (m : Hm), wp (match p.1 with | .nx => ex C r p.2 m | _ => .ok p m) R ↔ seqQ C r R p m := by
    intro p m
    obtain ⟨f, ρ'⟩ := p
    cases f <;> simp [seqQ, wp_ok]
  simp only [e]
theorem seqQ_nx (r : S) (ρ' : Env) (m' : Hm) : seqQ C r R (.nx, ρ') m' ↔ wp (ex C r ρ' m') R := Iff.rfl
theorem seqQ_ret (r : S) (d : D) (ρ' : Env) (m' : Hm) : seqQ C r R (.ret d, ρ') m' ↔ R (.ret d, ρ') m' := Iff.rfl
theorem seqQ_brk (r : S) (ρ' : Env) (m' : Hm) : seqQ C r R (.brk, ρ') m' ↔ R (.brk, ρ') m' := Iff.rfl
theorem seqQ_cnt (r : S) (ρ' : Env) (m' : Hm) : seqQ C r R (.cnt, ρ') m' ↔ R (.cnt, ρ') m' := Iff.rfl
theorem wpt_some (ρ : Env) (P : Env → Prop) : wpt (some ρ) P ↔ P ρ := ⟨fun ⟨_, e, q⟩ => by cases e; exact q, fun q => ⟨ρ, rfl, q⟩⟩
theorem w_single (s : S) : wp (ex C (.cons s .nil) ρ m) R ↔ wp (ex C s ρ m) R := by
  rw [w_scons]
  constructor <;> intro h <;> refine h.mono fun p m q => ?_
  · obtain ⟨f, ρ'⟩ := p
    cases f with
    | nx => exact w_snil.mp q
    | _ => exact q
  · obtain ⟨f, ρ'⟩ := p
    cases f with
    | nx => exact w_snil.mpr q
    | _ => exact q
theorem w_asg (t : Tg) (e : E) : wp (ex C (.asg t e) ρ m) R ↔ wp (ev C e ρ m) fun d m => wpt (assignT t (home d m).1 ρ) fun ρ' => R (.nx, ρ') (home d m).2 := by
  rw [show ex C (.asg t e) ρ m = (ev C e ρ m).bind fun d m => let p := home d m; match assignT t p.1 ρ with
    | some ρ => .ok (.nx, ρ) p.2
    | none => .bad from rfl, wp_bind]
  have e2 : ∀ (d : D) (m : Hm), wp (match assignT t (home d m).1 ρ with
    | some ρ => Out.ok (Fl.nx, ρ) (home d m).2
    | none => .bad) R ↔ wpt (assignT t (home d m).1 ρ) fun ρ' => R (.nx, ρ') (home d m).2 := by
    intro d m
    cases q : assignT t (home d m).1 ρ with
    | none => dsimp only; rw [wp_bad]; exact ⟨False.elim, fun ⟨_, e, _⟩ => by cases e⟩
    | some ρ' => dsimp only; rw [wp_ok, wpt_some]
  simp only [e2]
theorem w_setix (o i e : E) : wp (ex C (.setix o i e) ρ m) R ↔ wp (ev C e ρ m) fun v m => wp (ev C o ρ (home v m).2) fun o m2 => wp (ev C i ρ m2) fun i m3 => ∃ m4, setD C.base o i (home v m).1 m3 = some m4 ∧ R (.nx, ρ) m4 := by
  rw [show ex C (.setix o i e) ρ m = (ev C e ρ m).bind fun v m => let p := home v m; (ev C o ρ p.2).bind fun o m => (ev C i ρ m).bind fun i m => match setD C.base o i p.1 m with
    | some m => .ok (.nx, ρ) m
    | none => .bad from rfl]
  have e2 : ∀ (o i v : D) (m3 : Hm), wp (match setD C.base o i v m3 with
    | some m => Out.ok (Fl.nx, ρ) m
    | none => .bad) R ↔ ∃ m4, setD C.base o i v m3 = some m4 ∧ R (.nx, ρ) m4 := by
    intro o i v m3
    cases q : setD C.base o i v m3 with
    | none => dsimp only; rw [wp_bad]; exact ⟨False.elim, fun ⟨_, e, _⟩ => by cases e⟩
    | some m4 => dsimp only; rw [wp_ok]; exact ⟨fun q => ⟨_, rfl, q⟩, fun ⟨_, e, q⟩ => by cases e; exact q⟩
  simp only [wp_bind, e2]
theorem w_aug (i : Nat) (op : Bop) (e : E) (a : Int) (h : get ρ i = some (.int a)) : wp (ex C (.aug i op e) ρ m) R ↔ wp (ev C e ρ m) fun y m => ∃ b c, y = .int b ∧ binI op a b = some c ∧ R (.nx, put ρ i (.int c)) m := by
  rw [show ex C (.aug i op e) ρ m = match get ρ i with
    | some x => (ev C e ρ m).bind fun y m => match x, y with
      | .int a, .int b => match binI op a b with
        | some c => .ok (.nx, put ρ i (.int c)) m
        | none => .bad
      | _, _ => .bad
    | none => .bad from rfl, h]
  dsimp only
  rw [wp_bind]
  constructor
  · intro h
    refine h.mono fun y m q => ?_
    cases y <;> first | (rw [wp_bad] at q; exact q.elim) | skip
    rename_i b
    dsimp only at q
    cases q2 : binI op a b with
    | none => rw [q2] at q; rw [wp_bad] at q; exact q.elim
    | some c => rw [q2] at q; exact ⟨b, c, rfl, q2, (wp_ok _ _ _).mp q⟩
  · intro h
    refine h.mono fun y m q => ?_
    obtain ⟨b, c, rfl, e, q⟩ := q
    dsimp only
    rw [e]
    exact (wp_ok _ _ _).mpr q
theorem w_exp (e : E) : wp (ex C (.exp e) ρ m) R ↔ wp (ev C e ρ m) fun _ m => R (.nx, ρ) m := by
  rw [show ex C (.exp e) ρ m = (ev C e ρ m).bind fun _ m => .ok (.nx, ρ) m from rfl]
  simp only [wp_bind, wp_ok]
theorem w_ret (e : E) : wp (ex C (.ret e) ρ m) R ↔ wp (ev C e ρ m) fun d m => R (.ret d, ρ) m := by
  rw [show ex C (.ret e) ρ m = (ev C e ρ m).bind fun d m => .ok (.ret d, ρ) m from rfl]
  simp only [wp_bind, wp_ok]
theorem wif_bl (b : Bool) (P N : Prop) : wif (.bl b) P N ↔ if b = true then P else N := by cases b <;> simp [wif]
theorem w_ifs (t : E) (a b : S) : wp (ex C (.ifs t a b) ρ m) R ↔ wp (ev C t ρ m) fun x m => wif x (wp (ex C a ρ m) R) (wp (ex C b ρ m) R) := by
  rw [show ex C (.ifs t a b) ρ m = (ev C t ρ m).bind fun x m => match x with
    | .bl true => ex C a ρ m
    | .bl false => ex C b ρ m
    | _ => .bad from rfl, wp_bind]
  have e : ∀ (x : D) (m : Hm), wp (match x with
    | .bl true => ex C a ρ m
    | .bl false => ex C b ρ m
    | _ => .bad) R ↔ wif x (wp (ex C a ρ m) R) (wp (ex C b ρ m) R) := by
    intro x m
    unfold wif
    cases x with
    | bl b => cases b <;> simp
    | _ => simp [wp_bad]
  simp only [e]
noncomputable def oneS (C : Cf) (t : Tg) (b : S) : D → Env → Hm → Out (Fl × Env) := fun d ρ m => match assignT t d ρ with
  | none => .bad
  | some ρ => ex C b ρ m
theorem w_turn (t : Tg) (b : S) (d : D) : wp (oneS C t b d ρ m) R ↔ wpt (assignT t d ρ) fun ρ' => wp (ex C b ρ' m) R := by
  unfold oneS
  cases assignT t d ρ with
  | none => dsimp only; rw [wp_bad]; exact ⟨False.elim, fun ⟨_, e, _⟩ => by cases e⟩
  | some ρ' => dsimp only; exact ⟨fun q => ⟨ρ', rfl, q⟩, fun ⟨_, e, q⟩ => by cases e; exact q⟩
theorem w_fors (k : Sk) (it : E) (t : Tg) (b : S) : wp (ex C (.fors k it t b) ρ m) R ↔ wp (ev C it ρ m) fun x m => wpa x fun xs => ∃ f n, src k xs m = some (f, n) ∧ wp (loop f (oneS C t b) n 0 ρ m) R := by
  rw [show ex C (.fors k it t b) ρ m = (ev C it ρ m).bind fun x m => match x with
    | .tup xs => match src k xs m with
      | none => .bad
      | some (f, n) => loop f (oneS C t b) n 0 ρ m
    | _ => .bad from rfl, wp_bind]
  have e : ∀ (x : D) (m : Hm), wp (match x with
    | .tup xs => match src k xs m with
      | none => .bad
      | some (f, n) => loop f (oneS C t b) n 0 ρ m
    | _ => .bad) R ↔ wpa x fun xs => ∃ f n, src k xs m = some (f, n) ∧ wp (loop f (oneS C t b) n 0 ρ m) R := by
    intro x m
    cases x with
    | tup xs =>
      rw [wpa_tup]
      dsimp only
      cases q : src k xs m with
      | none => dsimp only; rw [wp_bad]; exact ⟨False.elim, fun ⟨_, _, e, _⟩ => by cases e⟩
      | some p => obtain ⟨f, n⟩ := p; dsimp only; exact ⟨fun q => ⟨_, _, rfl, q⟩, fun ⟨_, _, e, q⟩ => by cases e; exact q⟩
    | _ => simp [wp_bad, wpa]
  simp only [e]
theorem w_whil (t : E) (b : S) : wp (ex C (.whil t b) ρ m) R ↔ wp (whl (fun ρ m => ev C t ρ m) (fun ρ m => ex C b ρ m) C.wf ρ m) R := Iff.rfl
theorem w_brk : wp (ex C .brk ρ m) R ↔ R (.brk, ρ) m := by rw [show ex C .brk ρ m = .ok (.brk, ρ) m from rfl, wp_ok]
theorem w_pass : wp (ex C .pass ρ m) R ↔ R (.nx, ρ) m := by rw [show ex C .pass ρ m = .ok (.nx, ρ) m from rfl, wp_ok]
end
/-! ### walks -/
theorem snap_at (xs : List D) (i : Nat) (m : Hm) : snap xs i m = some xs[i]? := rfl
/-- what stands after i turns -/
theorem turns_inv {f : Nx} {one : D → List D → Hm → Out (List D)} {xs : List D} (Inv : Nat → List D → Hm → Prop)
    (hf : ∀ i acc m, Inv i acc m → i ≤ xs.length → f i m = some xs[i]?)
    (h : ∀ i d acc m, xs[i]? = some d → Inv i acc m → wp (one d acc m) fun acc m => Inv (i + 1) acc m) :
    ∀ (n i : Nat) (acc : List D) (m : Hm), i ≤ xs.length → xs.length - i ≤ n → Inv i acc m → wp (turns f one n i acc m) fun acc m => Inv xs.length acc m := by
  intro n
  induction n with
  | zero =>
    intro i acc m hi hn I
    unfold turns
    rw [hf i acc m I hi, List.getElem?_eq_none (by omega)]
    have : i = xs.length := by omega
    subst this
    exact (wp_ok _ _ _).mpr I
  | succ n ih =>
    intro i acc m hi hn I
    unfold turns
    rw [hf i acc m I hi]
    by_cases hl : i < xs.length
    · rw [List.getElem?_eq_getElem hl]
      dsimp only
      rw [wp_bind]
      exact (h i xs[i] acc m (List.getElem?_eq_getElem hl) I).mono fun acc' m' I' => ih (i + 1) acc' m' hl (by omega) I'
    · rw [List.getElem?_eq_none (by omega)]
      have : i = xs.length := by omega
      subst this
      exact (wp_ok _ _ _).mpr I
/-- a comprehension that changes nothing -/
theorem turns_pure {f : Nx} {one : D → List D → Hm → Out (List D)} {xs : List D} {m : Hm} {n : Nat} {Q : List D → Hm → Prop} (p : D → Bool) (g : D → D) (hf : ∀ i, i ≤ xs.length → f i m = some xs[i]?) (hn : xs.length ≤ n)
    (h : ∀ d ∈ xs, ∀ acc, wp (one d acc m) fun acc' m' => m' = m ∧ acc' = if p d = true then acc ++ [g d] else acc) (q : Q ((xs.filter p).map g) m) : wp (turns f one n 0 [] m) Q := by
  refine (turns_inv (xs := xs) (fun i acc m' => m' = m ∧ acc = ((xs.take i).filter p).map g) (fun i acc m' I hi => by rw [I.1]; exact hf i hi) (fun i d acc m' hd I => ?_) n 0 [] m (Nat.zero_le _) (by omega) ⟨rfl, by simp⟩).mono fun acc m' I => ?_
  · obtain ⟨rfl, rfl⟩ := I
    refine (h d (List.mem_of_getElem? hd) _).mono fun acc' m' e => ?_
    obtain ⟨rfl, rfl⟩ := e
    refine ⟨rfl, ?_⟩
    have e1 : xs.take (i + 1) = xs.take i ++ [d] := by rw [List.take_succ, hd]; rfl
    rw [e1, List.filter_append, List.map_append]
    by_cases hp : p d = true
    · simp [hp]
    · simp [hp]
  · obtain ⟨rfl, rfl⟩ := I
    rw [List.take_length]
    exact q
/-- a loop that ends, or hands back something -/
theorem loop_inv {f : Nx} {one : D → Env → Hm → Out (Fl × Env)} {xs : List D} (Inv : Nat → Env → Hm → Prop) (R : Fl × Env → Hm → Prop)
    (hf : ∀ i ρ m, Inv i ρ m → i ≤ xs.length → f i m = some xs[i]?)
    (h : ∀ i d ρ m, xs[i]? = some d → Inv i ρ m → wp (one d ρ m) fun p m => match p.1 with
      | .nx => Inv (i + 1) p.2 m
      | .cnt => Inv (i + 1) p.2 m
      | .brk => R (.nx, p.2) m
      | .ret d => R (.ret d, p.2) m)
    (hR : ∀ ρ m, Inv xs.length ρ m → R (.nx, ρ) m) :
    ∀ (n i : Nat) (ρ : Env) (m : Hm), i ≤ xs.length → xs.length - i ≤ n → Inv i ρ m → wp (loop f one n i ρ m) R := by
  intro n
  induction n with
  | zero =>
    intro i ρ m hi hn I
    unfold loop
    rw [hf i ρ m I hi, List.getElem?_eq_none (by omega)]
    have : i = xs.length := by omega
    subst this
    exact (wp_ok _ _ _).mpr (hR _ _ I)
  | succ n ih =>
    intro i ρ m hi hn I
    unfold loop
    rw [hf i ρ m I hi]
    by_cases hl : i < xs.length
    · rw [List.getElem?_eq_getElem hl]
      dsimp only
      rw [wp_bind]
      refine (h i xs[i] ρ m (List.getElem?_eq_getElem hl) I).mono fun p m' I' => ?_
      obtain ⟨fl, ρ'⟩ := p
      cases fl with
      | nx => exact ih (i + 1) ρ' m' hl (by omega) I'
      | cnt => exact ih (i + 1) ρ' m' hl (by omega) I'
      | brk => exact (wp_ok _ _ _).mpr I'
      | ret d => exact (wp_ok _ _ _).mpr I'
    · rw [List.getElem?_eq_none (by omega)]
      have : i = xs.length := by omega
      subst this
      exact (wp_ok _ _ _).mpr (hR _ _ I)
/-- while, with a measure -/
theorem whl_inv {t : Env → Hm → Out D} {one : Env → Hm → Out (Fl × Env)} (Inv : Nat → Env → Hm → Prop) (R : Fl × Env → Hm → Prop)
    (h : ∀ k ρ m, Inv k ρ m → wp (t ρ m) fun b m => (b = .bl false ∧ R (.nx, ρ) m) ∨ (b = .bl true ∧ wp (one ρ m) fun p m => match p.1 with
      | .nx => ∃ j, j < k ∧ Inv j p.2 m
      | .cnt => ∃ j, j < k ∧ Inv j p.2 m
      | .brk => R (.nx, p.2) m
      | .ret d => R (.ret d, p.2) m)) :
    ∀ (n k : Nat) (ρ : Env) (m : Hm), k < n → Inv k ρ m → wp (whl t one n ρ m) R := by
  intro n
  induction n with
  | zero => intro k ρ m hk _; omega
  | succ n ih =>
    intro k ρ m hk I
    unfold whl
    rw [wp_bind]
    refine (h k ρ m I).mono fun b m' q => ?_
    rcases q with ⟨rfl, q⟩ | ⟨rfl, q⟩
    · exact (wp_ok _ _ _).mpr q
    · dsimp only
      rw [wp_bind]
      refine q.mono fun p m2 I' => ?_
      obtain ⟨fl, ρ'⟩ := p
      cases fl with
      | nx => obtain ⟨j, hj, I'⟩ := I'; exact ih j ρ' m2 (by omega) I'
      | cnt => obtain ⟨j, hj, I'⟩ := I'; exact ih j ρ' m2 (by omega) I'
      | brk => exact (wp_ok _ _ _).mpr I'
      | ret d => exact (wp_ok _ _ _).mpr I'
/-! ### calls -/
/-- the frame of a call -/
noncomputable abbrev cfN (F : Nat → Option Fd) (wf n : Nat) (m : Hm) : Cf := { call := callN F wf n none, callc := fun f a k g m => callN F wf n (some (k, g)) f a m, lam := none, base := m.length, wf := wf }
theorem w_call {F : Nat → Option Fd} {wf n f : Nat} {a : List D} {m : Hm} {Q : D → Hm → Prop} {fd : Fd} (hF : F f = some fd) (hl : a.length = fd.np)
    (h : wp (ex (cfN F wf n m) fd.body (a.map some ++ List.replicate (fd.nn - fd.np) none) m) fun p m' => wp (finD m.length p m') Q) : wp (callN F wf (n + 1) none f a m) Q := by
  unfold callN
  rw [hF]
  dsimp only
  rw [if_pos hl, wp_bind]
  exact h
/-- what is handed back is no object -/
theorem fin_ret {n : Nat} {d : D} {ρ : Env} {m : Hm} {Q : D → Hm → Prop} (h : below n d = true) (q : Q d (m.take n)) : wp (finD n (.ret d, ρ) m) Q := by
  show wp (close n d m) Q
  unfold close
  rw [if_pos h]
  exact (wp_ok _ _ _).mpr q
/-- .. is an object of the frame -/
theorem fin_adr {n k : Nat} {o : D} {ρ : Env} {m : Hm} {Q : D → Hm → Prop} (hk : n ≤ k) (e : m[k]? = some o) (hf : ∀ xs, o ≠ .fro xs) (h : below n o = true) (q : Q o (m.take n)) : wp (finD n (.ret (.adr k), ρ) m) Q := by
  show wp (close n (.adr k) m) Q
  unfold close
  rw [if_neg (by unfold below; simp; omega)]
  dsimp only
  rw [e]
  cases o with
  | fro xs => exact absurd rfl (hf xs)
  | _ => dsimp only; rw [if_pos h]; exact (wp_ok _ _ _).mpr q
theorem fin_nx {n : Nat} {ρ : Env} {m : Hm} {Q : D → Hm → Prop} (q : Q .non (m.take n)) : wp (finD n (.nx, ρ) m) Q := by
  show wp (close n .non m) Q
  unfold close
  rw [if_pos (by unfold below; rfl)]
  exact (wp_ok _ _ _).mpr q
end Bell
end

section
/-! lambdas in the wp calculus -/
namespace Bell
open PySem
variable {C : Cf} {ρ : Env} {m : Hm} {Q : D → Hm → Prop}
theorem agree_of {h : Nat → Nat → List L2.V → Out D} {d : D} {m : Hm} (e : ∀ f c vs, h f c vs = .ok d m) : agree h = .ok d m := by
  unfold agree
  rw [if_pos (fun f c vs => by rw [e f c vs, e 0 0 []]), e 0 0 []]
theorem w_callc {f : Nat} {a : E} {i : Nat} {q : Str} {js : List Nat} {r : Nat} {b : E} {xs cs : List D} {m1 m2 : Hm} {d : D} (ha : ev C a ρ m = .ok (.tup xs) m1) (hj : gets ρ js = some cs)
    (h : ∀ g c vs, C.callc f ((homes xs m1).1.take i ++ .fn g c q cs vs :: (homes xs m1).1.drop i) (g, c, q, vs) (lamG C r b) (homes xs m1).2 = .ok d m2) (k : Q d m2) : wp (ev C (.callc f a i q js r b) ρ m) Q := by
  have e : ev C (.callc f a i q js r b) ρ m = .ok d m2 := by
    rw [show ev C (.callc f a i q js r b) ρ m = (ev C a ρ m).bind fun x m => withArgs x fun xs => let p := homes xs m; match gets ρ js with
      | some cs => agree fun g c vs => C.callc f (p.1.take i ++ .fn g c q cs vs :: p.1.drop i) (g, c, q, vs) (lamG C r b) p.2
      | none => .bad from rfl, ha, bind_ok, hj]
    exact agree_of h
  rw [e]
  exact (wp_ok _ _ _).mpr k
theorem w_callv {i : Nat} {a : E} {g c : Nat} {q : Str} {cs : List D} {vs : List L2.V} {l : List D → List D → Hm → Out D} (hg : get ρ i = some (.fn g c q cs vs)) (hl : C.lam = some ((g, c, q, vs), l))
    (h : wp (ev C a ρ m) fun x m => wpa x fun xs => wp (l cs (homes xs m).1 (homes xs m).2) Q) : wp (ev C (.callv i a) ρ m) Q := by
  have e0 : ev C (.callv i a) ρ m = (ev C a ρ m).bind fun x m => withArgs x fun xs => l cs (homes xs m).1 (homes xs m).2 := by
    rw [show ev C (.callv i a) ρ m = (ev C a ρ m).bind fun x m => withArgs x fun xs => let p := homes xs m; match get ρ i, C.lam with
      | some (.fn g c q cs vs), some (k, l) => open Classical in if (g, c, q, vs) = k then l cs p.1 p.2 else .bad
      | _, _ => .bad from rfl, hg, hl]
    simp
  rw [e0, wp_bind]
  refine h.mono fun x m1 h1 => ?_
  obtain ⟨xs, rfl, h1⟩ := h1
  exact h1
/-! a comprehension over a dict -/
theorem agreeU_of {h : (Unit → PySem.Obj × List (L2.Key × L2.V)) → Out D} {d : D} {m : Hm} (e : ∀ u, h u = .ok d m) : agreeU h = .ok d m := by
  unfold agreeU
  have q : ∃ x, ∀ u, h u = x := ⟨_, e⟩
  rw [dif_pos q, ← q.choose_spec fun _ => (default, []), e]
theorem lkd_at {m : Hm} {k : Nat} {u : Unit → PySem.Obj × List (L2.Key × L2.V)} {ks : List D} (hk : k < m.length) (i : Nat) : lkd k u ks i (m.set k (.lck u)) = some ks[i]? := by
  unfold lkd
  rw [if_pos (List.getElem?_set_self hk)]
theorem w_compd {i k : Nat} {tg : Tg} {c e : E} {own : List Nat} {ks vs acc : List D} (hg : get ρ i = some (.adr k)) (hk : m[k]? = some (.dct ks vs)) (hb : isBig ks.length = true)
    (h : ∀ u, wp (turns (lkd k u ks) (oneCW C tg c e own ρ) ks.length 0 [] (m.set k (.lck u))) fun a m' => a = acc ∧ m' = m.set k (.lck u)) (q : Q (.lst acc) m) : wp (ev C (.compd i tg c e own) ρ m) Q := by
  have hl : k < m.length := (List.getElem?_eq_some_iff.mp hk).1
  have e : ev C (.compd i tg c e own) ρ m = .ok (.lst acc) m := by
    rw [show ev C (.compd i tg c e own) ρ m = match get ρ i with
      | some (.adr k) => match m[k]? with
        | some (.dct ks vs) => if !isBig ks.length then .bad else agreeU fun u => (turns (lkd k u ks) (oneCW C tg c e own ρ) ks.length 0 [] (m.set k (.lck u))).bind fun acc m' => unlk k u (.dct ks vs) (.lst acc) m'
        | _ => .bad
      | _ => .bad from rfl, hg]
    dsimp only
    rw [hk]
    dsimp only
    rw [hb]
    refine agreeU_of fun u => ?_
    obtain ⟨a, m', e1, rfl, rfl⟩ := h u
    rw [e1, bind_ok]
    unfold unlk
    rw [if_pos (List.getElem?_set_self hl), List.set_set]
    congr 1
    obtain ⟨_, e2⟩ := List.getElem?_eq_some_iff.mp hk
    rw [← e2, List.set_getElem_self]
  rw [e]
  exact (wp_ok _ _ _).mpr q
end Bell
end

section
set_option maxRecDepth 100000
/-! the laws' own helpers -/
namespace Bell
open PySem (Str)
def cBox : S := .cons (.asg (.nm 2) (.bin .add (.bin .mul (.con (.int 7919)) (.var 1)) (.con (.int 3407)))) (.cons (.ifs (.cmp .lt (.var 1) (.bi .len (.cons (.var 0) .nil))) (.cons (.asg (.nm 2) (.bi .abs (.cons (.bi .int (.cons (.idx (.var 0) (.var 1)) .nil)) .nil))) .nil) (.cons (.ifs (.cmp .gt (.bi .len (.cons (.var 0) .nil)) (.con (.int 0))) (.cons (.asg (.nm 2) (.bin .add (.var 2) (.bin .mul (.bin .mod (.bi .int (.cons (.bi .abs (.cons (.bi .int (.cons (.idx (.var 0) (.bin .mod (.bi .int (.cons (.var 1) .nil)) (.bi .len (.cons (.var 0) .nil)))) .nil)) .nil)) .nil)) (.con (.int 2147483563))) (.con (.int 48271))))) .nil) .nil) .nil)) (.cons (.asg (.nm 3) (.ife (.cmp .ge (.var 2) (.bin .pow (.con (.int 10)) (.con (.int 18)))) (.var 2) (.con (.int 0)))) (.cons (.ret (.lst (.cons (.var 3) (.cons (.bin .add (.bin .mod (.bi .int (.cons (.bin .add (.bin .mul (.bin .mod (.bi .int (.cons (.var 2) .nil)) (.con (.int 2147483563))) (.con (.int 40014))) (.bin .mul (.con (.int 3407)) (.var 1))) .nil)) (.con (.int 2147483563))) (.con (.int 1))) .nil)))) .nil)))
def cTake : S := .cons (.ifs (.cmp .gt (.idx (.var 0) (.con (.int 0))) (.con (.int 0))) (.cons (.asg (.nm 2) (.bin .mod (.bi .int (.cons (.idx (.var 0) (.con (.int 0))) .nil)) (.var 1))) (.cons (.setix (.var 0) (.con (.int 0)) (.bin .fdiv (.idx (.var 0) (.con (.int 0))) (.var 1))) (.cons (.ret (.var 2)) .nil))) .nil) (.cons (.asg (.nm 3) (.bin .mod (.bi .int (.cons (.bin .add (.bin .mul (.idx (.var 0) (.con (.int 1))) (.con (.int 39373))) (.con (.int 619))) .nil)) (.con (.int 2147483647)))) (.cons (.setix (.var 0) (.con (.int 1)) (.bin .add (.bin .mod (.bi .int (.cons (.bin .add (.bin .mul (.var 3) (.con (.int 40692))) (.con (.int 107))) .nil)) (.con (.int 2147483399))) (.con (.int 1)))) (.cons (.ret (.bin .mod (.bi .int (.cons (.bin .fdiv (.bin .add (.bin .mul (.var 3) (.con (.int 2147483629))) (.idx (.var 0) (.con (.int 1)))) (.con (.int 8231))) .nil)) (.var 1))) .nil)))
def cPick : S := .cons (.ret (.idx (.var 1) (.callp 1 [0, 1] [] (.cons (.var 0) (.cons (.bi .len (.cons (.var 1) .nil)) .nil))))) .nil
def cSame : S := .cons (.ifs (.tru (.isin (.var 1) [.tuple])) (.cons (.ifs (.tor (.tnot (.tru (.isin (.var 0) [.tuple]))) (.cmp .ne (.bi .len (.cons (.var 0) .nil)) (.bi .len (.cons (.var 1) .nil)))) (.cons (.ret (.con (.bl false))) .nil) .nil) (.cons (.fors .zip (.cons (.var 0) (.cons (.var 1) .nil)) (.tup (.cons (.nm 2) (.cons (.nm 3) .nil))) (.cons (.ifs (.tnot (.tru (.callp 3 [0, 1] [] (.cons (.var 2) (.cons (.var 3) .nil))))) (.cons (.ret (.con (.bl false))) .nil) .nil) .nil)) (.cons (.ret (.con (.bl true))) .nil))) .nil) (.cons (.ifs (.cmp .is (.var 1) (.con .non)) (.cons (.ret (.cmp .is (.var 0) (.con .non))) .nil) .nil) (.cons (.ifs (.tor (.cmp .is (.var 1) (.con (.bl true))) (.cmp .is (.var 1) (.con (.bl false)))) (.cons (.ret (.vand (.isin (.var 0) [.bool]) (.cmp .eq (.var 0) (.var 1)))) .nil) .nil) (.cons (.ifs (.tru (.isin (.var 1) [.int])) (.cons (.ret (.vand (.isin (.var 0) [.int]) (.vand (.vnot (.isin (.var 0) [.bool])) (.cmp .eq (.var 0) (.var 1))))) .nil) .nil) (.cons (.ret (.vand (.isin (.var 0) [.str]) (.vand (.isin (.var 1) [.str]) (.cmp .eq (.var 0) (.var 1))))) .nil))))
def cLots : S := .cons (.asg (.nm 1) (.lst (.cons (.tup .nil) .nil))) (.cons (.fors .rng (.cons (.var 0) .nil) (.nm 2) (.cons (.asg (.nm 1) (.bin .add (.var 1) (.comp .val (.cons (.var 1) .nil) (.nm 3) (.con (.bl true)) (.bin .add (.var 3) (.tup (.cons (.var 2) .nil))) [3]))) .nil)) (.cons (.ret (.slc (.bi .sorted (.cons (.var 1) .nil)) (.nd (.con (.int 1))) (.con .non))) .nil))
def cGiven : S := .cons (.ret (.cmp .eq (.comp .rng (.cons (.var 1) .nil) (.nm 2) (.tand (.cmp .inn (.bin .mul (.con (.int 2)) (.var 2)) (.var 0)) (.cmp .nin (.bin .add (.bin .mul (.con (.int 2)) (.var 2)) (.con (.int 1))) (.var 0))) (.con (.int 1)) [2]) (.lst .nil))) .nil
def cBy : S := .cons (.asg (.nm 3) (.callp 4 [0] [] (.cons (.var 0) .nil))) (.cons (.ifs (.cmp .eq (.var 1) (.con (.str ("all" : Str)))) (.cons (.ret (.tup (.cons (.var 0) (.cons (.bi .tuple (.cons (.comp .val (.cons (.var 3) .nil) (.nm 4) (.cmp .eq (.bi .len (.cons (.var 4) .nil)) (.var 0)) (.var 4) [4]) .nil)) .nil)))) .nil) .nil) (.cons (.ifs (.cmp .eq (.var 1) (.con (.str ("some" : Str)))) (.cons (.ret (.tup (.cons (.var 0) (.cons (.bi .tuple (.cons (.comp .val (.cons (.var 3) .nil) (.nm 4) (.cmp .ne (.comp .val (.cons (.var 4) .nil) (.nm 5) (.cmp .inn (.var 5) (.var 2)) (.con (.int 1)) [5]) (.lst .nil)) (.var 4) [4]) .nil)) .nil)))) .nil) .nil) (.cons (.ifs (.cmp .eq (.var 1) (.con (.str ("ranks" : Str)))) (.cons (.ret (.tup (.cons (.var 0) (.cons (.bi .tuple (.cons (.comp .val (.cons (.var 3) .nil) (.nm 4) (.cmp .eq (.bin .mod (.bi .int (.cons (.bi .min (.cons (.comp .val (.cons (.var 4) .nil) (.nm 5) (.con (.bl true)) (.idx (.var 2) (.var 5)) [5]) .nil)) .nil)) (.con (.int 2))) (.con (.int 0))) (.var 4) [4]) .nil)) .nil)))) .nil) .nil) (.cons (.ifs (.cmp .eq (.var 1) (.con (.str ("pairs" : Str)))) (.cons (.ret (.tup (.cons (.var 0) (.cons (.bi .tuple (.cons (.comp .val (.cons (.var 3) .nil) (.nm 4) (.tru (.callp 5 [0, 1] [] (.cons (.var 4) (.cons (.var 2) .nil)))) (.var 4) [4]) .nil)) .nil)))) .nil) .nil) (.cons (.ret (.tup (.cons (.var 0) (.cons (.bi .tuple (.cons (.comp .val (.cons (.var 3) .nil) (.nm 4) (.cmp .eq (.bi .len (.cons (.var 4) .nil)) (.var 2)) (.var 4) [4]) .nil)) .nil)))) .nil)))))
def cForm : S := .cons (.asg (.tup (.cons (.nm 2) (.cons (.nm 3) .nil))) (.tup (.cons (.bin .add (.con (.int 1)) (.callp 1 [0, 1] [] (.cons (.var 0) (.cons (.var 1) .nil)))) (.cons (.callp 2 [0, 1] [] (.cons (.var 0) (.cons (.lst (.cons (.con (.str ("all" : Str))) (.cons (.con (.str ("some" : Str))) (.cons (.con (.str ("ranks" : Str))) (.cons (.con (.str ("pairs" : Str))) (.cons (.con (.str ("just" : Str))) .nil)))))) .nil))) .nil)))) (.cons (.asg (.nm 4) (.con .non)) (.cons (.ifs (.cmp .eq (.var 3) (.con (.str ("some" : Str)))) (.cons (.asg (.nm 4) (.callp 2 [0, 1] [] (.cons (.var 0) (.cons (.callp 4 [0] [] (.cons (.var 2) .nil)) .nil)))) .nil) .nil) (.cons (.ifs (.cmp .eq (.var 3) (.con (.str ("ranks" : Str)))) (.cons (.asg (.nm 4) (.bi .tuple (.cons (.comp .rng (.cons (.var 2) .nil) (.nm 5) (.con (.bl true)) (.callp 1 [0, 1] [] (.cons (.var 0) (.cons (.con (.int 6)) .nil))) [5]) .nil))) .nil) .nil) (.cons (.ifs (.cmp .eq (.var 3) (.con (.str ("pairs" : Str)))) (.cons (.asg (.nm 2) (.bin .mul (.con (.int 2)) (.bi .max (.cons (.con (.int 1)) (.cons (.bin .fdiv (.var 2) (.con (.int 2))) .nil))))) (.cons (.asg (.nm 4) (.bin .fdiv (.var 2) (.con (.int 2)))) .nil)) .nil) (.cons (.ifs (.cmp .eq (.var 3) (.con (.str ("just" : Str)))) (.cons (.asg (.nm 4) (.bin .add (.con (.int 1)) (.callp 1 [0, 1] [] (.cons (.var 0) (.cons (.var 2) .nil))))) .nil) .nil) (.cons (.ret (.tup (.cons (.callp 6 [0, 1, 2] [] (.cons (.var 2) (.cons (.var 3) (.cons (.var 4) .nil)))) (.cons (.var 3) (.cons (.var 4) .nil))))) .nil))))))
def cOther : S := .cons (.ret (.tup (.cons (.idx (.var 0) (.con (.int 0))) (.cons (.bi .tuple (.cons (.comp .val (.cons (.callp 4 [0] [] (.cons (.idx (.var 0) (.con (.int 0))) .nil)) .nil) (.nm 1) (.cmp .nin (.var 1) (.idx (.var 0) (.con (.int 1)))) (.var 1) [1]) .nil)) .nil)))) .nil
def cCond : S := .cons (.asg (.nm 2) (.callp 1 [0, 1] [] (.cons (.var 0) (.cons (.con (.int 4)) .nil)))) (.cons (.ifs (.cmp .eq (.var 2) (.con (.int 0))) (.cons (.asg (.nm 3) (.idx (.callp 7 [0, 1] [] (.cons (.var 0) (.cons (.var 1) .nil))) (.con (.int 0)))) (.cons (.ret (.ife (.cmp .eq (.callp 1 [0, 1] [] (.cons (.var 0) (.cons (.con (.int 2)) .nil))) (.con (.int 0))) (.callp 8 [0] [] (.cons (.var 3) .nil)) (.var 3))) .nil)) .nil) (.cons (.ifs (.cmp .eq (.var 2) (.con (.int 1))) (.cons (.asg (.tup (.cons (.nm 4) (.cons (.nm 5) .nil))) (.idx (.callp 7 [0, 1] [] (.cons (.var 0) (.cons (.var 1) .nil))) (.con (.int 0)))) (.cons (.asg (.nm 6) (.comp .val (.cons (.callp 4 [0] [] (.cons (.var 4) .nil)) .nil) (.nm 7) (.cmp .ne (.cmp .inn (.var 7) (.var 5)) (.cmp .eq (.callp 1 [0, 1] [] (.cons (.var 0) (.cons (.con (.int 6)) .nil))) (.con (.int 0)))) (.var 7) [7])) (.cons (.ret (.tup (.cons (.var 4) (.cons (.bi .tuple (.cons (.var 6) .nil)) .nil)))) .nil))) .nil) (.cons (.asg (.tup (.cons (.nm 4) (.cons (.nm 8) .nil))) (.tup (.cons (.bin .add (.con (.int 1)) (.callp 1 [0, 1] [] (.cons (.var 0) (.cons (.var 1) .nil)))) (.cons (.callp 2 [0, 1] [] (.cons (.var 0) (.cons (.lst (.cons (.con (.int 2)) (.cons (.con (.int 2)) (.cons (.con (.int 3)) (.cons (.con (.int 5)) .nil))))) .nil))) .nil)))) (.cons (.ret (.tup (.cons (.var 4) (.cons (.bi .tuple (.cons (.comp .val (.cons (.callp 4 [0] [] (.cons (.var 4) .nil)) .nil) (.nm 7) (.cmp .eq (.cmp .eq (.callp 1 [0, 1] [] (.cons (.var 0) (.cons (.var 8) .nil))) (.con (.int 0))) (.cmp .eq (.var 2) (.con (.int 2)))) (.var 7) [7]) .nil)) .nil)))) .nil))))
/-- the helpers stand at the first places -/
structure ComT (F : Nat → Option Fd) : Prop where
  fBox : F 0 = some ⟨2, 4, cBox⟩
  fTake : F 1 = some ⟨2, 4, cTake⟩
structure ComL (F : Nat → Option Fd) : Prop extends ComT F where
  fPick : F 2 = some ⟨2, 2, cPick⟩
  fLots : F 4 = some ⟨1, 4, cLots⟩
structure ComA (F : Nat → Option Fd) : Prop extends ComL F where
  fGiven : F 5 = some ⟨2, 3, cGiven⟩
  fBy : F 6 = some ⟨3, 6, cBy⟩
structure Common (F : Nat → Option Fd) : Prop extends ComA F where
  fForm : F 7 = some ⟨2, 6, cForm⟩
  fOther : F 8 = some ⟨1, 2, cOther⟩
  fCond : F 9 = some ⟨2, 9, cCond⟩
instance {F : Nat → Option Fd} : CoeOut (ComL F) (ComT F) := ⟨fun h => h.toComT⟩
instance {F : Nat → Option Fd} : CoeOut (ComA F) (ComL F) := ⟨fun h => h.toComL⟩
instance {F : Nat → Option Fd} : CoeOut (Common F) (ComA F) := ⟨fun h => h.toComA⟩
theorem Common.of {F : Nat → Option Fd} (h0 : F 0 = some ⟨2, 4, cBox⟩) (h1 : F 1 = some ⟨2, 4, cTake⟩) (h2 : F 2 = some ⟨2, 2, cPick⟩) (h4 : F 4 = some ⟨1, 4, cLots⟩) (h5 : F 5 = some ⟨2, 3, cGiven⟩) (h6 : F 6 = some ⟨3, 6, cBy⟩) (h7 : F 7 = some ⟨2, 6, cForm⟩) (h8 : F 8 = some ⟨1, 2, cOther⟩) (h9 : F 9 = some ⟨2, 9, cCond⟩) : Common F := ⟨⟨⟨⟨h0, h1⟩, h2, h4⟩, h5, h6⟩, h7, h8, h9⟩
theorem home_int (i : Int) (m : Hm) : home (.int i) m = (.int i, m) := rfl
theorem home_bl (b : Bool) (m : Hm) : home (.bl b) m = (.bl b, m) := rfl
theorem home_non (m : Hm) : home .non m = (.non, m) := rfl
theorem home_str (b : Str) (m : Hm) : home (.str b) m = (.str b, m) := rfl
theorem home_tup (b : List D) (m : Hm) : home (.tup b) m = (.tup b, m) := rfl
theorem home_adr (b : Nat) (m : Hm) : home (.adr b) m = (.adr b, m) := rfl
theorem home_fro (b : List D) (m : Hm) : home (.fro b) m = (.fro b, m) := rfl
theorem home_lst (b : List D) (m : Hm) : home (.lst b) m = (.adr m.length, m ++ [.lst b]) := rfl
theorem b_add (i j : Int) (m : Hm) : binD .add (.int i) (.int j) m = some (.int (i + j)) := rfl
theorem b_sub (i j : Int) (m : Hm) : binD .sub (.int i) (.int j) m = some (.int (i - j)) := rfl
theorem b_mulR (i j : Int) (m : Hm) (h : j.natAbs < 2 ^ 64) : binD .mul (.int i) (.int j) m = some (.int (i * j)) := by
  show (if mulOk i j then some (i * j) else none).map D.int = _
  rw [if_pos (by unfold mulOk; simp [h])]
  rfl
theorem b_mulL (i j : Int) (m : Hm) (h : i.natAbs < 2 ^ 64) : binD .mul (.int i) (.int j) m = some (.int (i * j)) := by
  show (if mulOk i j then some (i * j) else none).map D.int = _
  rw [if_pos (by unfold mulOk; simp [h])]
  rfl
theorem b_mod (i j : Int) (m : Hm) (h : 0 < j) : binD .mod (.int i) (.int j) m = some (.int (i % j)) := by
  show (if 0 < j then some (i % j) else none).map D.int = _
  rw [if_pos h]
  rfl
theorem b_div (i j : Int) (m : Hm) (h : 0 < j) (h1 : j < 2 ^ 64) : binD .fdiv (.int i) (.int j) m = some (.int (i / j)) := by
  show (if 0 < j ∧ j < 2 ^ 64 then some (i / j) else none).map D.int = _
  rw [if_pos ⟨h, h1⟩]
  rfl
theorem b_int (i : Int) (m : Hm) : biD .int [.int i] m = some (.int i) := rfl
theorem b_abs (i : Int) (m : Hm) : biD .abs [.int i] m = some (.int (if i < 0 then -i else i)) := rfl
theorem b_max (i j : Int) (m : Hm) : biD .max [.int i, .int j] m = some (.int (if j > i then j else i)) := rfl
theorem b_min (i j : Int) (m : Hm) : biD .min [.int i, .int j] m = some (.int (if j < i then j else i)) := rfl
theorem c_gt (i j : Int) (m : Hm) : cmpD .gt m (.int i) (.int j) = some (decide (j < i)) := rfl
theorem c_ge (i j : Int) (m : Hm) : cmpD .ge m (.int i) (.int j) = some (decide (j ≤ i)) := rfl
theorem c_lt (i j : Int) (m : Hm) : cmpD .lt m (.int i) (.int j) = some (decide (i < j)) := rfl
theorem c_le (i j : Int) (m : Hm) : cmpD .le m (.int i) (.int j) = some (decide (i ≤ j)) := rfl
theorem c_eq (i j : Int) (m : Hm) : cmpD .eq m (.int i) (.int j) = some (i == j) := rfl
theorem c_ne (i j : Int) (m : Hm) : cmpD .ne m (.int i) (.int j) = some (!(i == j)) := rfl
theorem ix_lst {m : Hm} {k : Nat} {xs : List D} (i : Int) (h : m[k]? = some (.lst xs)) : idxD (.adr k) (.int i) m = (ixOf xs.length i).bind fun j => xs[j]? := by
  unfold idxD
  rw [show deref m (.adr k) = some (.lst xs) from h]
theorem ix_tup (m : Hm) (xs : List D) (i : Int) : idxD (.tup xs) (.int i) m = (ixOf xs.length i).bind fun j => xs[j]? := rfl
theorem ix_fro (m : Hm) (xs : List D) (i : Int) : idxD (.fro xs) (.int i) m = (ixOf xs.length i).bind fun j => xs[j]? := rfl
theorem ixOf_nat {n j : Nat} (h : j < n) : ixOf n (j : Int) = some j := by
  unfold ixOf
  rw [if_pos (by omega), if_pos (by omega)]
  simp
theorem set_lst {n k : Nat} {m : Hm} {xs : List D} (i : Int) (v : D) (h : m[k]? = some (.lst xs)) (hp : mayPut n k v = true) : setD n (.adr k) (.int i) v m = (ixOf xs.length i).map fun j => m.set k (.lst (xs.set j v)) := by
  unfold setD
  dsimp only
  rw [if_pos hp, h]
theorem may_int (n k : Nat) (i : Int) : mayPut n k (.int i) = true := by unfold mayPut below; simp
/-- the same: its place -/
abbrev SameF (F : Nat → Option Fd) : Prop := F 3 = some ⟨2, 4, cSame⟩
section
variable {F : Nat → Option Fd} {wf n : Nat} {m : Hm}
/-- a box of chance -/
def Valid (a b : Int) : Prop := 0 ≤ a ∧ 1 ≤ b ∧ b ≤ 2147483563
def BoxAt (m : Hm) (k : Nat) : Prop := ∃ a b, Valid a b ∧ m[k]? = some (.lst [.int a, .int b])
theorem take_ok (hC : ComT F) {k : Nat} {many : Int} (hb : BoxAt m k) (h0 : 0 < many) (h1 : many < 2 ^ 64) (Q : D → Hm → Prop)
    (h : ∀ t a b, 0 ≤ t → t < many → Valid a b → Q (.int t) (m.set k (.lst [.int a, .int b]))) : wp (callN F wf (n + 1) none 1 [.adr k, .int many] m) Q := by
  refine w_call hC.fTake rfl ?_
  obtain ⟨a, b, ⟨v0, v1, v2⟩, hb⟩ := hb
  have i0 : ixOf 2 0 = some 0 := rfl
  have i1 : ixOf 2 1 = some 1 := rfl
  have hk : k < m.length := (List.getElem?_eq_some_iff.mp hb).1
  dsimp only [cTake]
  simp only [w_var, w_con, w_nil, w_cons, w_tup, w_lst, w_bin, w_cmp, w_tand, w_tor, w_tnot, w_tru, w_vand, w_vor, w_vnot, w_one, w_turn, w_ife, w_callp, w_bi, w_isin, w_idx, w_slc, w_nd, w_meth, w_comp, w_snil, w_single, w_scons, seqQ_nx, seqQ_ret, seqQ_brk, seqQ_cnt, w_asg, w_setix, w_exp, w_ret, w_ifs, w_fors, w_whil, w_brk, w_pass, wpo_some, wpb_some, wpa_tup, wpt_some, wif_bl, wp_ifB, wp_ok, get, put, home_int, home_bl, home_non, home_str, home_tup, home_adr, home_fro, home_lst, homes, assignT, assignTs, pick, List.map, List.replicate, List.cons_append, List.nil_append, List.append_nil, List.getD_cons_zero, List.getD_cons_succ]
  simp only [wpo_some, wpb_some, wif_bl, ix_lst _ hb, List.length_cons, List.length_nil, Nat.zero_add, i0, i1, Option.bind_some, List.getElem?_cons_zero, List.getElem?_cons_succ, c_gt, b_int, home_int, set_lst _ _ hb (may_int _ _ _), Option.map_some, List.set_cons_zero, List.set_cons_succ, b_add, b_mod _ _ _ h0, b_div _ _ _ h0 h1,
    b_mulR _ 39373 _ (by decide), b_mulR _ 40692 _ (by decide), b_mulR _ 2147483629 _ (by decide), b_mod _ 2147483647 _ (by decide), b_mod _ 2147483399 _ (by decide), b_div _ 8231 _ (by decide) (by decide)]
  split
  · refine ⟨_, rfl, fin_ret (by unfold below; rfl) ?_⟩
    rw [List.take_of_length_le (by simp)]
    exact h _ _ _ (Int.emod_nonneg _ (by omega)) (Int.emod_lt_of_pos _ h0) ⟨Int.ediv_nonneg v0 (by omega), v1, v2⟩
  · refine ⟨_, rfl, ?_⟩
    generalize hb2 : ((b * 39373 + 619) % 2147483647 * 40692 + 107) % 2147483399 + 1 = b2
    have h2 : (m.set k (.lst [.int a, .int b2]))[k]? = some (.lst [.int a, .int b2]) := List.getElem?_set_self hk
    simp only [wpo_some, ix_lst _ h2, List.length_cons, List.length_nil, Nat.zero_add, i1, Option.bind_some, List.getElem?_cons_zero, List.getElem?_cons_succ, b_int, home_int, b_add, b_mod _ _ _ h0, b_mulR _ 2147483629 _ (by decide), b_div _ 8231 _ (by decide) (by decide)]
    refine fin_ret (by unfold below; rfl) ?_
    rw [List.take_of_length_le (by simp)]
    exact h _ _ _ (Int.emod_nonneg _ (by omega)) (Int.emod_lt_of_pos _ h0) ⟨v0, by omega, by omega⟩
/-- the box has moved on, all else stands -/
structure Bx (k : Nat) (m m' : Hm) : Prop where
  len : m'.length = m.length
  out : ∀ j, j ≠ k → m'[j]? = m[j]?
  box : BoxAt m' k
/-- .. and new things may have been laid -/
structure Px (k : Nat) (m m' : Hm) : Prop where
  len : m.length ≤ m'.length
  lt : k < m.length
  out : ∀ j, j < m.length → j ≠ k → m'[j]? = m[j]?
  box : BoxAt m' k
theorem BoxAt.lt {m : Hm} {k : Nat} (h : BoxAt m k) : k < m.length := by
  obtain ⟨a, b, _, h⟩ := h
  exact (List.getElem?_eq_some_iff.mp h).1
theorem BoxAt.app {m : Hm} {k : Nat} (h : BoxAt m k) (l : List D) : BoxAt (m ++ l) k := by
  have := h.lt
  obtain ⟨a, b, v, h⟩ := h
  exact ⟨a, b, v, by rw [List.getElem?_append_left this]; exact h⟩
theorem Px.refl {m : Hm} {k : Nat} (h : BoxAt m k) : Px k m m := ⟨Nat.le_refl _, h.lt, fun _ _ _ => rfl, h⟩
theorem Px.app {m m' : Hm} {k : Nat} (h : Px k m m') (l : List D) : Px k m (m' ++ l) := ⟨by have := h.len; simp; omega, h.lt, fun j hj hk => by rw [List.getElem?_append_left (by have := h.len; omega)]; exact h.out j hj hk, h.box.app l⟩
theorem Px.bx {m m' m2 : Hm} {k : Nat} (h : Px k m m') (b : Bx k m' m2) : Px k m m2 := ⟨by rw [b.len]; exact h.len, h.lt, fun j hj hk => by rw [b.out j hk]; exact h.out j hj hk, b.box⟩
theorem Px.fin {m m' : Hm} {k : Nat} (h : Px k m m') : Bx k m (m'.take m.length) := by
  refine ⟨by rw [List.length_take]; have := h.len; omega, fun j hj => ?_, ?_⟩
  · rw [List.getElem?_take]
    split
    · rename_i hl; exact h.out j hl hj
    · rename_i hl; exact (List.getElem?_eq_none (by omega)).symm
  · obtain ⟨a, b, v, e⟩ := h.box
    exact ⟨a, b, v, by rw [List.getElem?_take, if_pos h.lt]; exact e⟩
theorem Bx.trans {m m' m2 : Hm} {k : Nat} (h : Bx k m m') (b : Bx k m' m2) : Bx k m m2 := ⟨by rw [b.len, h.len], fun j hj => by rw [b.out j hj, h.out j hj], b.box⟩
theorem Bx.px {m m' : Hm} {k : Nat} (h : Bx k m m') : Px k m m' := ⟨by rw [h.len]; exact Nat.le_refl _, by rw [← h.len]; exact h.box.lt, fun j _ hk => h.out j hk, h.box⟩
theorem take_bx (hC : ComT F) {k : Nat} {many : Int} (hb : BoxAt m k) (h0 : 0 < many) (h1 : many < 2 ^ 64) (Q : D → Hm → Prop)
    (h : ∀ t m', 0 ≤ t → t < many → Bx k m m' → Q (.int t) m') : wp (callN F wf (n + 1) none 1 [.adr k, .int many] m) Q :=
  take_ok hC hb h0 h1 Q fun t a b t0 t1 v => h t _ t0 t1 ⟨by simp, fun j hj => List.getElem?_set_ne (Ne.symm hj), a, b, v, List.getElem?_set_self hb.lt⟩
/-- a sequence's look -/
theorem len_at {x : D} {xs : List D} (h : deref m x = some (.lst xs) ∨ deref m x = some (.tup xs) ∨ deref m x = some (.fro xs)) : lenD m x = some (.int xs.length) := by
  unfold lenD
  rcases h with h | h | h <;> rw [h]
theorem idx_at {x : D} {xs : List D} {j : Nat} {d : D} (h : deref m x = some (.lst xs) ∨ deref m x = some (.tup xs) ∨ deref m x = some (.fro xs)) (e : xs[j]? = some d) : idxD x (.int (j : Int)) m = some d := by
  have hj : j < xs.length := (List.getElem?_eq_some_iff.mp e).1
  unfold idxD
  rcases h with h | h | h <;> rw [h] <;> dsimp only <;> rw [ixOf_nat hj] <;> exact e
theorem bi_lenW (x : D) : biD .len [x] m = lenD m x := rfl
theorem belows_mem : ∀ {n : Nat} {xs : List D} {d : D}, belows n xs = true → d ∈ xs → below n d = true
  | n, x :: xs, d, h, hd => by
    unfold belows at h
    rw [Bool.and_eq_true] at h
    rcases List.mem_cons.mp hd with e | hd
    · rw [e]; exact h.1
    · exact belows_mem h.2 hd
theorem pick_bx (hC : ComL F) {k : Nat} {x : D} {xs : List D} (hb : BoxAt m k) (hx : (x = .tup xs) ∨ ∃ j, x = .adr j ∧ j ≠ k ∧ m[j]? = some (.lst xs)) (h0 : 0 < xs.length) (h1 : xs.length < 2 ^ 64) (hl : belows m.length xs = true) (Q : D → Hm → Prop)
    (h : ∀ d m', d ∈ xs → Bx k m m' → Q d m') : wp (callN F wf (n + 2) none 2 [.adr k, x] m) Q := by
  refine w_call hC.fPick rfl ?_
  dsimp only [cPick]
  have dx : deref m x = some (.lst xs) ∨ deref m x = some (.tup xs) ∨ deref m x = some (.fro xs) := by
    rcases hx with rfl | ⟨j, rfl, _, e⟩
    · exact .inr (.inl rfl)
    · exact .inl e
  have hh : ∀ m, home x m = (x, m) := by
    rcases hx with rfl | ⟨j, rfl, _, e⟩ <;> exact fun _ => rfl
  simp only [w_var, w_con, w_nil, w_cons, w_tup, w_lst, w_bin, w_cmp, w_tand, w_tor, w_tnot, w_tru, w_vand, w_vor, w_vnot, w_one, w_turn, w_ife, w_callp, w_bi, w_isin, w_idx, w_slc, w_nd, w_meth, w_comp, w_snil, w_single, w_scons, seqQ_nx, seqQ_ret, seqQ_brk, seqQ_cnt, w_asg, w_setix, w_exp, w_ret, w_ifs, w_fors, w_whil, w_brk, w_pass, wpo_some, wpb_some, wpa_tup, wpt_some, wif_bl, wp_ifB, wp_ok, get, put, home_int, home_bl, home_non, home_str, home_tup, home_adr, home_fro, home_lst, homes, assignT, assignTs, pick, List.map, List.replicate, List.cons_append, List.nil_append, List.append_nil, List.getD_cons_zero, List.getD_cons_succ]
  simp only [bi_lenW, len_at dx, wpo_some, hh, homes, home_int, pick, List.nil_append, List.cons_append, List.getD_cons_zero, List.getD_cons_succ]
  refine take_bx hC hb (by omega) (by omega) _ fun t m' t0 t1 B => ?_
  obtain ⟨t, rfl⟩ := Int.eq_ofNat_of_zero_le t0
  have ht : t < xs.length := by omega
  have dx' : deref m' x = some (.lst xs) ∨ deref m' x = some (.tup xs) ∨ deref m' x = some (.fro xs) := by
    rcases hx with rfl | ⟨j, rfl, hj, e⟩
    · exact .inr (.inl rfl)
    · exact .inl ((B.out j hj).trans e)
  rw [idx_at dx' (List.getElem?_eq_getElem ht)]
  simp only [wpo_some]
  refine fin_ret (belows_mem hl (List.getElem_mem ht)) ?_
  rw [List.take_of_length_le (by rw [B.len]; exact Nat.le_refl _)]
  exact h _ _ (List.getElem_mem ht) B
/-- how the script stands -/
structure ScrAt (ns : List Int) (sv : D) (m : Hm) : Prop where
  d : deref m sv = some (.lst (ns.map .int)) ∨ deref m sv = some (.tup (ns.map .int)) ∨ deref m sv = some (.fro (ns.map .int))
  h : ∀ m, home sv m = (sv, m)
theorem box_ok (hC : ComT F) {ns : List Int} {sv : D} (hs : ScrAt ns sv m) (hn : ns.length < 1000) {k : Nat} (hk : k < 1000) (Q : D → Hm → Prop)
    (h : ∀ a b, Valid a b → Q (.lst [.int a, .int b]) m) : wp (callN F wf (n + 1) none 0 [sv, .int k] m) Q := by
  refine w_call hC.fBox rfl ?_
  dsimp only [cBox]
  have fin : ∀ cell : Int, 0 ≤ cell → ∀ ρ, wp (finD m.length (.ret (.lst [.int (if cell ≥ 10 ^ 18 then cell else 0), .int ((cell % 2147483563 * 40014 + 3407 * k) % 2147483563 + 1)]), ρ) m) Q := fun cell h0 ρ => by
    refine fin_ret (by simp [below, belows]) ?_
    rw [List.take_of_length_le (Nat.le_refl _)]
    refine h _ _ ⟨by split <;> omega, by omega, by omega⟩
  have pw : binD .pow (.int 10) (.int 18) m = some (.int 1000000000000000000) := by rfl
  have tail : ∀ cell : Int, 0 ≤ cell → wp (ex (cfN F wf n m) (.cons (.asg (.nm 3) (.ife (.cmp .ge (.var 2) (.bin .pow (.con (.int 10)) (.con (.int 18)))) (.var 2) (.con (.int 0)))) (.cons (.ret (.lst (.cons (.var 3) (.cons (.bin .add (.bin .mod (.bi .int (.cons (.bin .add (.bin .mul (.bin .mod (.bi .int (.cons (.var 2) .nil)) (.con (.int 2147483563))) (.con (.int 40014))) (.bin .mul (.con (.int 3407)) (.var 1))) .nil)) (.con (.int 2147483563))) (.con (.int 1))) .nil)))) .nil)) [some sv, some (.int k), some (.int cell), none] m) fun p m' => wp (finD m.length p m') Q := fun cell h0 => by
    have := fin cell h0
    simp only [w_var, w_con, w_nil, w_cons, w_tup, w_lst, w_bin, w_cmp, w_tand, w_tor, w_tnot, w_tru, w_vand, w_vor, w_vnot, w_one, w_turn, w_ife, w_callp, w_bi, w_isin, w_idx, w_slc, w_nd, w_meth, w_comp, w_snil, w_single, w_scons, seqQ_nx, seqQ_ret, seqQ_brk, seqQ_cnt, w_asg, w_setix, w_exp, w_ret, w_ifs, w_fors, w_whil, w_brk, w_pass, wpo_some, wpb_some, wpa_tup, wpt_some, wif_bl, wp_ifB, wp_ok, get, put, home_int, home_bl, home_non, home_str, home_tup, home_adr, home_fro, home_lst, homes, assignT, assignTs, pick, List.map, List.replicate, List.cons_append, List.nil_append, List.append_nil, List.getD_cons_zero, List.getD_cons_succ]
    simp only [pw, wpo_some, wpb_some, wp_ifB, c_ge, b_int, home_int, homes, b_add, b_mulR _ 40014 _ (by decide), b_mulL 3407 _ _ (by decide), b_mod _ 2147483563 _ (by decide)]
    by_cases hc : (1000000000000000000 : Int) ≤ cell
    · simp only [hc, decide_true, if_true, w_var, wpo_some, get, put, w_con, home_int, b_int, b_add, b_mulR _ 40014 _ (by decide), b_mulL 3407 _ _ (by decide), b_mod _ 2147483563 _ (by decide), homes]
      have := fin cell h0
      rw [if_pos (by omega)] at this
      exact this _
    · simp only [hc, decide_false, Bool.false_eq_true, if_false, w_var, wpo_some, get, put, w_con, home_int, b_int, b_add, b_mulR _ 40014 _ (by decide), b_mulL 3407 _ _ (by decide), b_mod _ 2147483563 _ (by decide), homes]
      have := fin cell h0
      rw [if_neg (by omega)] at this
      exact this _
  have dx := hs.d
  rw [w_scons]
  simp only [w_var, w_con, w_nil, w_cons, w_tup, w_lst, w_bin, w_cmp, w_tand, w_tor, w_tnot, w_tru, w_vand, w_vor, w_vnot, w_one, w_turn, w_ife, w_callp, w_bi, w_isin, w_idx, w_slc, w_nd, w_meth, w_comp, w_snil, w_single, w_asg, w_setix, w_exp, w_ret, w_ifs, w_fors, w_whil, w_brk, w_pass, wpo_some, wpb_some, wpa_tup, wpt_some, wif_bl, wp_ifB, wp_ok, get, put, home_int, home_bl, home_non, home_str, home_tup, home_adr, home_fro, home_lst, homes, assignT, assignTs, pick, List.map, List.replicate, List.cons_append, List.nil_append, List.append_nil, List.getD_cons_zero, List.getD_cons_succ]
  simp only [b_mulL 7919 _ _ (by decide), b_add, wpo_some, home_int, put]
  rw [seqQ_nx, w_scons]
  simp only [w_var, w_con, w_nil, w_cons, w_tup, w_lst, w_bin, w_cmp, w_tand, w_tor, w_tnot, w_tru, w_vand, w_vor, w_vnot, w_one, w_turn, w_ife, w_callp, w_bi, w_isin, w_idx, w_slc, w_nd, w_meth, w_comp, w_snil, w_single, w_asg, w_setix, w_exp, w_ret, w_ifs, w_fors, w_whil, w_brk, w_pass, wpo_some, wpb_some, wpa_tup, wpt_some, wif_bl, wp_ifB, wp_ok, get, put, home_int, home_bl, home_non, home_str, home_tup, home_adr, home_fro, home_lst, homes, assignT, assignTs, pick, List.map, List.replicate, List.cons_append, List.nil_append, List.append_nil, List.getD_cons_zero, List.getD_cons_succ]
  simp only [bi_lenW, len_at dx, List.length_map, c_lt, c_gt, wpo_some, wpb_some, wif_bl]
  by_cases hk2 : (k : Int) < ns.length
  · simp only [hk2, decide_true, if_true]
    have hk3 : k < ns.length := by omega
    rw [idx_at dx (j := k) (d := .int ns[k]) (by rw [List.getElem?_map, List.getElem?_eq_getElem hk3]; rfl)]
    simp only [wpo_some, b_int, b_abs, home_int, put]
    rw [seqQ_nx]
    exact tail (if ns[k] < 0 then -ns[k] else ns[k]) (by split <;> omega)
  · simp only [hk2, decide_false, Bool.false_eq_true, if_false]
    by_cases h0 : (0 : Int) < ns.length
    · simp only [h0, decide_true, if_true, b_int, len_at dx, List.length_map, wpo_some, b_mod _ _ _ h0]
      obtain ⟨j, hj⟩ := Int.eq_ofNat_of_zero_le (Int.emod_nonneg (k : Int) (b := (ns.length : Int)) (by omega))
      have hj2 : j < ns.length := by have := Int.emod_lt_of_pos (k : Int) h0; omega
      rw [hj]
      rw [idx_at dx (j := j) (d := .int ns[j]) (by rw [List.getElem?_map, List.getElem?_eq_getElem hj2]; rfl)]
      simp only [wpo_some, b_int, b_abs, home_int, put, b_mod _ 2147483563 _ (by decide), b_mulR _ 48271 _ (by decide), b_add]
      rw [seqQ_nx]
      exact tail _ (by omega)
    · simp only [h0, decide_false, Bool.false_eq_true, if_false]
      rw [seqQ_nx]
      exact tail _ (by omega)
end
end Bell
end

section
set_option maxRecDepth 100000
/-! lots -/
namespace Bell
open PySem (Str)
abbrev Lot := List Int
def encs (xs : List Lot) : List D := xs.map encI
/-- all lots of the first i bells, as they are found -/
def rawI : Nat → List Lot
  | 0 => [[]]
  | i + 1 => rawI i ++ (rawI i).map fun x => x ++ [(i : Int)]
def lotsI (n : Nat) : List Lot := (isort lexLt (rawI n)).drop 1
theorem asInts_map : ∀ xs : List Int, asInts (xs.map .int) = some xs
  | [] => rfl
  | x :: xs => by simp [asInts, asInts_map xs]
theorem encI_inj {x y : Lot} (h : encI x = encI y) : x = y := by
  unfold encI at h
  have := congrArg asInts (D.tup.inj h)
  rw [asInts_map, asInts_map] at this
  exact Option.some.inj this
theorem eqbs_ints : ∀ x y : List Int, eqbs (x.map .int) (y.map .int) = decide (x = y)
  | [], [] => by simp [eqbs]
  | [], y :: ys => by simp [eqbs]
  | x :: xs, [] => by simp [eqbs]
  | x :: xs, y :: ys => by
    simp only [List.map_cons, eqbs, eqbs_ints xs ys, eqb]
    by_cases h : x = y <;> by_cases h2 : xs = ys <;> simp [h, h2]
theorem eqb_encI (x y : Lot) : eqb (encI x) (encI y) = decide (x = y) := by
  unfold encI
  rw [eqb, eqbs_ints]
theorem purs_ints (n : Nat) : ∀ x : List Int, purs n (x.map .int) = true
  | [] => by unfold purs; rfl
  | x :: xs => by
    rw [List.map_cons, purs, purs_ints n xs]
    unfold pur
    rfl
theorem pur_encI (n : Nat) (x : Lot) : pur (n + 1) (encI x) = true := by
  unfold encI
  rw [pur, purs_ints]
theorem purs_encs (n : Nat) : ∀ xs : List Lot, purs (n + 1) (encs xs) = true
  | [] => by unfold encs purs; rfl
  | x :: xs => by
    show purs (n + 1) (encI x :: encs xs) = true
    rw [purs, pur_encI, purs_encs n xs]
    rfl
theorem pur_tup (n : Nat) (xs : List D) : pur (n + 1) (.tup xs) = purs n xs := by rw [pur]
theorem belows_ints (n : Nat) : ∀ x : List Int, belows n (x.map .int) = true
  | [] => by unfold belows; rfl
  | x :: xs => by
    rw [List.map_cons, belows, belows_ints n xs]
    unfold below
    rfl
theorem below_encI (n : Nat) (x : Lot) : below n (encI x) = true := by
  unfold encI
  rw [below, belows_ints]
theorem belows_encs (n : Nat) : ∀ xs : List Lot, belows n (encs xs) = true
  | [] => by unfold encs belows; rfl
  | x :: xs => by
    show belows n (encI x :: encs xs) = true
    rw [belows, below_encI, belows_encs n xs]
    rfl
theorem below_tup (n : Nat) (xs : List D) : below n (.tup xs) = belows n xs := by rw [below]
theorem below_lst (n : Nat) (xs : List D) : below n (.lst xs) = belows n xs := by rw [below]
theorem encs_drop (n : Nat) (xs : List Lot) : (encs xs).drop n = encs (xs.drop n) := by unfold encs; rw [List.map_drop]
theorem asInts_encs : ∀ {xs : List Lot}, xs ≠ [] → asInts (encs xs) = none
  | [], h => absurd rfl h
  | x :: xs, _ => rfl
theorem asLexs_encs : ∀ xs : List Lot, asLexs (encs xs) = some xs
  | [] => rfl
  | x :: xs => by
    show asLexs (.tup (x.map .int) :: encs xs) = _
    rw [asLexs, asInts_map, asLexs_encs xs]
theorem isort_ne {α : Type} {lt : α → α → Bool} {xs : List α} : True := trivial
theorem sortD_encs (xs : List Lot) : sortD (encs xs) = some (encs (isort lexLt xs)) := by
  by_cases h : xs = []
  · subst h; rfl
  · unfold sortD
    rw [asInts_encs h, asLexs_encs]
    rfl
theorem any_encs (x : Lot) : ∀ ys : List Lot, ((encs ys).any fun y => eqb y (encI x)) = decide (x ∈ ys)
  | [] => by simp [encs]
  | y :: ys => by
    show (eqb (encI y) (encI x) || (encs ys).any fun y => eqb y (encI x)) = _
    rw [any_encs x ys, eqb_encI]
    by_cases h : y = x
    · simp [h]
    · have : ¬ x = y := fun e => h e.symm
      simp [h, this]
theorem any_ints (x : Int) : ∀ ys : List Int, ((ys.map D.int).any fun y => eqb y (.int x)) = decide (x ∈ ys)
  | [] => by simp
  | y :: ys => by
    show (eqb (.int y) (.int x) || (ys.map D.int).any fun y => eqb y (.int x)) = _
    rw [any_ints x ys, eqb]
    by_cases h : y = x
    · simp [h]
    · have : ¬ x = y := fun e => h e.symm
      simp [h, this]
section
variable {F : Nat → Option Fd} {wf n : Nat} {m : Hm}
theorem c_in (x : Lot) (ys : List Lot) : cmpD .inn m (encI x) (.tup (encs ys)) = some (decide (x ∈ ys)) := by
  show inD m (encI x) (.tup (encs ys)) = _
  unfold inD
  dsimp only [deref]
  rw [if_pos (by rw [pur_encI, purs_encs]; rfl), any_encs]
theorem c_nin (x : Lot) (ys : List Lot) : cmpD .nin m (encI x) (.tup (encs ys)) = some (!decide (x ∈ ys)) := by
  show (inD m (encI x) (.tup (encs ys))).map (!·) = _
  rw [show inD m (encI x) (.tup (encs ys)) = some (decide (x ∈ ys)) from c_in (m := m) x ys]
  rfl
theorem c_inI (x : Int) (ys : Lot) : cmpD .inn m (.int x) (encI ys) = some (decide (x ∈ ys)) := by
  show inD m (.int x) (.tup (ys.map .int)) = _
  unfold inD
  dsimp only [deref]
  rw [if_pos (by rw [purs_ints]; unfold pur; rfl), any_ints]
theorem c_ninI (x : Int) (ys : Lot) : cmpD .nin m (.int x) (encI ys) = some (!decide (x ∈ ys)) := by
  show (inD m (.int x) (encI ys)).map (!·) = _
  rw [show inD m (.int x) (encI ys) = some (decide (x ∈ ys)) from c_inI (m := m) x ys]
  rfl
theorem c_eqL (x y : Lot) : cmpD .eq m (encI x) (encI y) = some (decide (x = y)) := by
  show eqD m (encI x) (encI y) = _
  unfold eqD
  dsimp only [deref, encI]
  rw [if_pos (by rw [← encI, ← encI, pur_encI, pur_encI]; rfl)]
  rw [show eqb (.tup (x.map .int)) (.tup (y.map .int)) = decide (x = y) from eqb_encI x y]
theorem c_neL (x y : Lot) : cmpD .ne m (encI x) (encI y) = some (!decide (x = y)) := by
  show (eqD m (encI x) (encI y)).map (!·) = _
  rw [show eqD m (encI x) (encI y) = some (decide (x = y)) from c_eqL (m := m) x y]
  rfl
theorem c_neB (a b : Bool) : cmpD .ne m (.bl a) (.bl b) = some (!(a == b)) := rfl
theorem c_eqB (a b : Bool) : cmpD .eq m (.bl a) (.bl b) = some (a == b) := rfl
/-- a list of ones and the empty list -/
theorem c_eq0 (xs : List D) (h : purs 40 xs = true) : cmpD .eq m (.lst xs) (.lst []) = some xs.isEmpty := by
  show eqD m (.lst xs) (.lst []) = _
  unfold eqD
  dsimp only [deref]
  rw [if_pos (by rw [h]; rfl)]
  cases xs <;> simp [eqbs]
theorem c_ne0 (xs : List D) (h : purs 40 xs = true) : cmpD .ne m (.lst xs) (.lst []) = some (!xs.isEmpty) := by
  show (eqD m (.lst xs) (.lst [])).map (!·) = _
  rw [show eqD m (.lst xs) (.lst []) = some xs.isEmpty from c_eq0 (m := m) xs h]
  rfl
theorem src_tup (xs : List D) : src .val [.tup xs] m = some (snap xs, xs.length) := rfl
theorem src_lst (xs : List D) : src .val [.lst xs] m = some (snap xs, xs.length) := rfl
theorem src_adr {k : Nat} {xs : List D} (h : m[k]? = some (.lst xs)) : src .val [.adr k] m = some (live k, xs.length) := by
  show nxOf m (.adr k) = _
  unfold nxOf
  dsimp only
  rw [h]
theorem live_at' {k i : Nat} {xs : List D} (h : m[k]? = some (.lst xs)) : live k i m = some xs[i]? := by
  unfold live
  rw [h]
theorem src_rng {b : Int} (h : 0 ≤ b) (h1 : b < 2 ^ 62) : src .rng [.int b] m = some (snap (rangeL 0 b.toNat), b.toNat) := by
  have e : ∀ (n : Nat) (lo : Int), (rangeL lo n).length = n := fun n => by
    induction n with
    | zero => intro lo; rfl
    | succ n ih => intro lo; simp [rangeL, ih]
  show (rangeOf [.int b]).map (fun xs => (snap xs, xs.length)) = _
  unfold rangeOf
  dsimp only
  rw [if_pos ⟨by omega, h1⟩]
  simp [e]
theorem rangeL_eq : ∀ (n : Nat) (lo : Int), rangeL lo n = (List.range n).map fun i => .int (lo + (i : Int))
  | 0, lo => rfl
  | n + 1, lo => by
    rw [rangeL, rangeL_eq n (lo + 1), List.range_succ_eq_map]
    simp
    intro a _
    omega
theorem isBig_of {n : Nat} (h : n ≤ 16777216) : isBig n = true := by unfold isBig; simp [h]
theorem rawI_len : ∀ n, (rawI n).length = 2 ^ n
  | 0 => rfl
  | n + 1 => by simp [rawI, rawI_len n, Nat.pow_succ]; omega
theorem b_addT (xs ys : List D) (h : xs.length + ys.length ≤ 16777216) : binD .add (.tup xs) (.tup ys) m = some (.tup (xs ++ ys)) := by
  show (if isBig (xs.length + ys.length) then some (D.tup (xs ++ ys)) else none) = _
  rw [if_pos (isBig_of h)]
theorem rawI_mem : ∀ {n : Nat} {x : Lot}, x ∈ rawI n → x.length ≤ n
  | 0, x, h => by simp [rawI] at h; simp [h]
  | n + 1, x, h => by
    rw [rawI, List.mem_append] at h
    rcases h with h | h
    · have := rawI_mem h; omega
    · obtain ⟨y, hy, rfl⟩ := List.mem_map.mp h
      have := rawI_mem hy
      simp; omega
theorem b_addA {k : Nat} {xs ys : List D} (e : m[k]? = some (.lst xs)) (h : xs.length + ys.length ≤ 16777216) : binD .add (.adr k) (.lst ys) m = some (.lst (xs ++ ys)) := by
  unfold binD
  dsimp only
  rw [show deref m (.adr k) = some (.lst xs) from e, show deref m (.lst ys) = some (.lst ys) from rfl]
  unfold binL
  dsimp only
  rw [if_pos (isBig_of h)]
theorem bi_sortedW {k : Nat} {xs : List Lot} (e : m[k]? = some (.lst (encs xs))) : biD .sorted [.adr k] m = some (.lst (encs (isort lexLt xs))) := by
  show (itemsL m (.adr k)).bind (fun xs => (sortD xs).map D.lst) = _
  have : itemsL m (.adr k) = some (encs xs) := by
    unfold itemsL
    rw [show deref m (.adr k) = some (.lst (encs xs)) from e]
  rw [this]
  simp [sortD_encs]
theorem slc1 (xs : List D) : slcD (.lst xs) (.int 1) .non m = some (.lst (xs.drop 1)) := by
  show some (D.lst (cut xs (some 1) none)) = _
  unfold cut sIx
  simp only [show ¬ ((1 : Int) < 0) by decide, if_false]
  congr 2
  rw [show (1 : Int).toNat = 1 from rfl]
  by_cases h : xs.length = 0
  · have : xs = [] := List.eq_nil_of_length_eq_zero h
    subst this
    rfl
  · rw [Nat.min_eq_left (by omega), List.take_of_length_le (by simp)]
theorem lots_ok (hC : ComL F) {b : Nat} (hb : b ≤ 20) (Q : D → Hm → Prop) (h : Q (.lst (encs (lotsI b))) m) : wp (callN F wf (n + 1) none 4 [.int (b : Int)] m) Q := by
  refine w_call hC.fLots rfl ?_
  dsimp only [cLots]
  rw [w_scons]
  simp only [w_var, w_con, w_nil, w_cons, w_tup, w_lst, w_bin, w_cmp, w_tand, w_tor, w_tnot, w_tru, w_vand, w_vor, w_vnot, w_one, w_turn, w_ife, w_callp, w_bi, w_isin, w_idx, w_slc, w_nd, w_meth, w_comp, w_snil, w_single, w_asg, w_setix, w_exp, w_ret, w_ifs, w_fors, w_whil, w_brk, w_pass, wpo_some, wpb_some, wpa_tup, wpt_some, wif_bl, wp_ifB, wp_ok, get, put, home_int, home_bl, home_non, home_str, home_tup, home_adr, home_fro, home_lst, homes, assignT, assignTs, pick, List.map, List.replicate, List.cons_append, List.nil_append, List.append_nil, List.getD_cons_zero, List.getD_cons_succ]
  rw [seqQ_nx, w_scons]
  simp only [w_var, w_con, w_nil, w_cons, w_tup, w_lst, w_bin, w_cmp, w_tand, w_tor, w_tnot, w_tru, w_vand, w_vor, w_vnot, w_one, w_turn, w_ife, w_callp, w_bi, w_isin, w_idx, w_slc, w_nd, w_meth, w_comp, w_snil, w_single, w_asg, w_setix, w_exp, w_ret, w_ifs, w_fors, w_whil, w_brk, w_pass, wpo_some, wpb_some, wpa_tup, wpt_some, wif_bl, wp_ifB, wp_ok, get, put, home_int, home_bl, home_non, home_str, home_tup, home_adr, home_fro, home_lst, homes, assignT, assignTs, pick, List.map, List.replicate, List.cons_append, List.nil_append, List.append_nil, List.getD_cons_zero, List.getD_cons_succ]
  refine ⟨_, _, src_rng (by omega) (by omega), ?_⟩
  have hp : ∀ i, i ≤ b → 2 ^ i ≤ 2 ^ 20 := fun i hi => Nat.pow_le_pow_right (by decide) (by omega)
  refine loop_inv (xs := rangeL 0 (b : Int).toNat) (fun i ρ m' => ∃ l k o2 o3, m' = m ++ l ∧ ρ = [some (.int (b : Int)), some (.adr k), o2, o3] ∧ m'[k]? = some (.lst (encs (rawI i)))) _ (fun i ρ m' _ _ => snap_at _ _ _) (fun i d ρ m' hd I => ?_) (fun ρ m' I => ?_) _ 0 _ _ (Nat.zero_le _) ?_ ⟨_, m.length, none, none, rfl, rfl, ?_⟩
  · obtain ⟨l, k, o2, o3, rfl, rfl, e⟩ := I
    rw [rangeL_eq, List.getElem?_map] at hd
    cases q : (List.range (b : Int).toNat)[i]? with
    | none => rw [q] at hd; cases hd
    | some j =>
      rw [q] at hd
      obtain ⟨hi, rfl⟩ := List.getElem?_eq_some_iff.mp q
      rw [List.getElem_range] at hd
      cases hd
      have hi2 : i < b := by simp at hi; omega
      have l1 : (encs (rawI i)).length = 2 ^ i := by unfold encs; rw [List.length_map, rawI_len]
      have h20 := hp i (by omega)
      simp only [w_var, w_con, w_nil, w_cons, w_tup, w_lst, w_bin, w_cmp, w_tand, w_tor, w_tnot, w_tru, w_vand, w_vor, w_vnot, w_one, w_turn, w_ife, w_callp, w_bi, w_isin, w_idx, w_slc, w_nd, w_meth, w_comp, w_snil, w_single, w_asg, w_setix, w_exp, w_ret, w_ifs, w_fors, w_whil, w_brk, w_pass, wpo_some, wpb_some, wpa_tup, wpt_some, wif_bl, wp_ifB, wp_ok, get, put, home_int, home_bl, home_non, home_str, home_tup, home_adr, home_fro, home_lst, homes, assignT, assignTs, pick, List.map, List.replicate, List.cons_append, List.nil_append, List.append_nil, List.getD_cons_zero, List.getD_cons_succ]
      refine ⟨_, _, src_adr e, isBig_of (by rw [l1]; omega), turns_pure (xs := encs (rawI i)) (fun _ => true) (fun d => match d with | .tup xs => .tup (xs ++ [.int (0 + (i : Int))]) | d => d) (fun j _ => live_at' e) (Nat.le_refl _) (fun d hd acc => ?_) ?_⟩
      · obtain ⟨x, hx, rfl⟩ := List.mem_map.mp hd
        have hl := rawI_mem hx
        simp only [encI]
        simp only [w_var, w_con, w_nil, w_cons, w_tup, w_lst, w_bin, w_cmp, w_tand, w_tor, w_tnot, w_tru, w_vand, w_vor, w_vnot, w_one, w_turn, w_ife, w_callp, w_bi, w_isin, w_idx, w_slc, w_nd, w_meth, w_comp, w_snil, w_single, w_asg, w_setix, w_exp, w_ret, w_ifs, w_fors, w_whil, w_brk, w_pass, wpo_some, wpb_some, wpa_tup, wpt_some, wif_bl, wp_ifB, wp_ok, get, put, home_int, home_bl, home_non, home_str, home_tup, home_adr, home_fro, home_lst, homes, assignT, assignTs, pick, List.map, List.replicate, List.cons_append, List.nil_append, List.append_nil, List.getD_cons_zero, List.getD_cons_succ]
        simp only [wipe, clr, put, get, wpo_some, if_true, homes, home_int]
        rw [b_addT _ _ (by simp; omega)]
        simp only [wpo_some, home_tup]
        exact ⟨by trivial, by trivial⟩
      · rw [List.filter_eq_self.mpr (by simp)]
        have e2 : (encs (rawI i)).map (fun d => match d with | .tup xs => D.tup (xs ++ [.int (0 + (i : Int))]) | d => d) = encs ((rawI i).map fun x => x ++ [(i : Int)]) := by
          unfold encs
          rw [List.map_map, List.map_map]
          refine List.map_congr_left fun x _ => ?_
          simp [encI]
        rw [e2, b_addA e (by rw [l1]; unfold encs; simp [rawI_len]; omega)]
        have e3 : encs (rawI i) ++ encs ((rawI i).map fun x => x ++ [(i : Int)]) = encs (rawI (i + 1)) := by
          show _ = (rawI i ++ (rawI i).map fun x => x ++ [(i : Int)]).map encI
          rw [List.map_append]
          rfl
        rw [e3]
        simp only [wpo_some, home_lst, put]
        exact ⟨l ++ [.lst (encs (rawI (i + 1)))], (m ++ l).length, _, _, List.append_assoc _ _ _, rfl, List.getElem?_concat_length⟩
  · obtain ⟨l, k, o2, o3, rfl, rfl, e⟩ := I
    rw [seqQ_nx]
    simp only [w_var, w_con, w_nil, w_cons, w_tup, w_lst, w_bin, w_cmp, w_tand, w_tor, w_tnot, w_tru, w_vand, w_vor, w_vnot, w_one, w_turn, w_ife, w_callp, w_bi, w_isin, w_idx, w_slc, w_nd, w_meth, w_comp, w_snil, w_single, w_asg, w_setix, w_exp, w_ret, w_ifs, w_fors, w_whil, w_brk, w_pass, wpo_some, wpb_some, wpa_tup, wpt_some, wif_bl, wp_ifB, wp_ok, get, put, home_int, home_bl, home_non, home_str, home_tup, home_adr, home_fro, home_lst, homes, assignT, assignTs, pick, List.map, List.replicate, List.cons_append, List.nil_append, List.append_nil, List.getD_cons_zero, List.getD_cons_succ]
    have lb : (rangeL 0 (b : Int).toNat).length = b := by rw [rangeL_eq]; simp
    rw [lb] at e
    rw [bi_sortedW e]
    simp only [wpo_some]
    refine ⟨1, rfl, ?_⟩
    rw [slc1]
    simp only [wpo_some]
    refine fin_ret (by rw [below_lst, encs_drop]; exact belows_encs _ _) ?_
    rw [List.take_left, encs_drop]
    exact h
  · rw [rangeL_eq]; simp
  · rw [List.getElem?_concat_length]; rfl
end
end Bell
end

section
set_option maxRecDepth 100000
/-! forms of conditions -/
namespace Bell
open PySem (Str)
section
variable {F : Nat → Option Fd} {wf n : Nat} {m : Hm}
theorem turns_lots {f : Nx} {one : D → List D → Hm → Out (List D)} {ys : List Lot} {k : Nat} {Q : List D → Hm → Prop} (p : Lot → Bool) (hf : ∀ i, i ≤ (encs ys).length → f i m = some (encs ys)[i]?) (hk : (encs ys).length ≤ k)
    (h : ∀ x ∈ ys, ∀ acc, wp (one (encI x) acc m) fun acc' m' => m' = m ∧ acc' = if p x = true then acc ++ [encI x] else acc) (q : Q (encs (ys.filter p)) m) : wp (turns f one k 0 [] m) Q := by
  let p' : D → Bool := fun d => match d with | .tup xs => p ((asInts xs).getD []) | _ => false
  have hp : ∀ x : Lot, p' (encI x) = p x := fun x => by show p ((asInts (x.map .int)).getD []) = _; rw [asInts_map]; rfl
  refine turns_pure (xs := encs ys) p' id hf hk (fun d hd acc => ?_) ?_
  · obtain ⟨x, hx, rfl⟩ := List.mem_map.mp hd
    rw [hp]
    exact h x hx acc
  · have : ((encs ys).filter p').map id = encs (ys.filter p) := by
      unfold encs
      rw [List.map_id, List.filter_map]
      congr 1
      refine List.filter_congr fun x _ => ?_
      exact hp x
    rw [this]
    exact q
theorem encs_len (ys : List Lot) : (encs ys).length = ys.length := by unfold encs; simp
def givenB (x : Lot) (k : Nat) : Bool := ((rangeL 0 k).filter fun d => match d with | .int i => decide (2 * i ∈ x) && !decide (2 * i + 1 ∈ x) | _ => false).isEmpty
theorem purs_ones (xs : List D) : purs 40 (xs.map fun _ => D.int 1) = true := by
  induction xs with
  | nil => unfold purs; rfl
  | cons x xs ih => rw [List.map_cons, purs, ih]; unfold pur; rfl
theorem rangeL_lenW (lo : Int) (k : Nat) : (rangeL lo k).length = k := by rw [rangeL_eq]; simp
theorem given_ok (hC : ComA F) {k : Nat} (hk : k ≤ 100) (x : Lot) (Q : D → Hm → Prop) (h : Q (.bl (givenB x k)) m) : wp (callN F wf (n + 1) none 5 [encI x, .int (k : Int)] m) Q := by
  refine w_call hC.fGiven rfl ?_
  dsimp only [cGiven]
  simp only [w_var, w_con, w_nil, w_cons, w_tup, w_lst, w_bin, w_cmp, w_tand, w_tor, w_tnot, w_tru, w_vand, w_vor, w_vnot, w_one, w_turn, w_ife, w_callp, w_bi, w_isin, w_idx, w_slc, w_nd, w_meth, w_comp, w_snil, w_single, w_asg, w_setix, w_exp, w_ret, w_ifs, w_fors, w_whil, w_brk, w_pass, wpo_some, wpb_some, wpa_tup, wpt_some, wif_bl, wp_ifB, wp_ok, get, put, home_int, home_bl, home_non, home_str, home_tup, home_adr, home_fro, home_lst, homes, assignT, assignTs, pick, List.map, List.replicate, List.cons_append, List.nil_append, List.append_nil, List.getD_cons_zero, List.getD_cons_succ]
  refine ⟨_, _, src_rng (by omega) (by omega), isBig_of (by omega), turns_pure (xs := rangeL 0 (k : Int).toNat) (fun d => match d with | .int i => decide (2 * i ∈ x) && !decide (2 * i + 1 ∈ x) | _ => false) (fun _ => .int 1) (fun j _ => snap_at _ _ _) (by rw [rangeL_lenW]; exact Nat.le_refl _) (fun d hd acc => ?_) ?_⟩
  · rw [rangeL_eq] at hd
    obtain ⟨i, hi, rfl⟩ := List.mem_map.mp hd
    clear hd
    generalize (0 + (i : Int)) = z
    simp only [w_var, w_con, w_nil, w_cons, w_tup, w_lst, w_bin, w_cmp, w_tand, w_tor, w_tnot, w_tru, w_vand, w_vor, w_vnot, w_one, w_turn, w_ife, w_callp, w_bi, w_isin, w_idx, w_slc, w_nd, w_meth, w_comp, w_snil, w_single, w_asg, w_setix, w_exp, w_ret, w_ifs, w_fors, w_whil, w_brk, w_pass, wpo_some, wpb_some, wpa_tup, wpt_some, wif_bl, wp_ifB, wp_ok, get, put, home_int, home_bl, home_non, home_str, home_tup, home_adr, home_fro, home_lst, homes, assignT, assignTs, pick, List.map, List.replicate, List.cons_append, List.nil_append, List.append_nil, List.getD_cons_zero, List.getD_cons_succ]
    simp only [wipe, clr, put, get, wpo_some, b_mulL 2 _ _ (by decide), b_add, c_inI, c_ninI, wpb_some, wp_ifB, w_cmp, w_bin, w_con, w_var, wp_ok]
    by_cases h1 : 2 * z ∈ x
    · by_cases h2 : 2 * z + 1 ∈ x <;> simp [h1, h2, wif, home_int]
    · simp [h1, wif]
  · rw [c_eq0 _ (purs_ones _)]
    simp only [wpb_some]
    refine fin_ret (by unfold below; rfl) ?_
    rw [List.take_of_length_le (Nat.le_refl _)]
    rw [show (((rangeL 0 (k : Int).toNat).filter fun d => match d with | .int i => decide (2 * i ∈ x) && !decide (2 * i + 1 ∈ x) | _ => false).map (fun _ => D.int 1)).isEmpty = givenB x k by
      unfold givenB
      rw [Int.toNat_natCast]
      cases ((rangeL 0 k).filter fun d => match d with | .int i => decide (2 * i ∈ x) && !decide (2 * i + 1 ∈ x) | _ => false) <;> rfl]
    exact h
def kS : Nat → Str
  | 0 => "all" | 1 => "some" | 2 => "ranks" | 3 => "pairs" | _ => "just"
theorem kS_tab : ∀ i : Fin 5, ∀ j : Fin 5, (pur 40 (.str (kS i)) && pur 40 (.str (kS j))) = true ∧ eqb (.str (kS i)) (.str (kS j)) = decide (i.val = j.val) := by decide +kernel
theorem c_k {i : Nat} (hi : i < 5) (j : Nat) (hj : j < 5) : cmpD .eq m (.str (kS i)) (.str (kS j)) = some (decide (i = j)) := by
  obtain ⟨h1, h2⟩ := kS_tab ⟨i, hi⟩ ⟨j, hj⟩
  show (if pur 40 (.str (kS i)) && pur 40 (.str (kS j)) then some (eqb (.str (kS i)) (.str (kS j))) else none) = _
  rw [if_pos h1, h2]
/-- what is true of lots -/
theorem lots_tab : ∀ k : Fin 7, ((lotsI k).all fun x => decide (x ≠ []) && x.all fun b => decide (0 ≤ b) && decide (b < (k : Int))) = true ∧ ((lotsI k).length ≤ 63) ∧ (1 ≤ k.val → lotsI k ≠ []) := by decide +kernel
theorem lots_mem {k : Nat} (hk : k ≤ 6) {x : Lot} (hx : x ∈ lotsI k) : x ≠ [] ∧ ∀ b ∈ x, 0 ≤ b ∧ b < (k : Int) := by
  have h := List.all_eq_true.mp (lots_tab ⟨k, by omega⟩).1 x hx
  simp only [Bool.and_eq_true, decide_eq_true_eq, List.all_eq_true] at h
  exact h
theorem lots_len {k : Nat} (hk : k ≤ 6) : (lotsI k).length ≤ 63 := (lots_tab ⟨k, by omega⟩).2.1
/-- a condition -/
def cnd (k : Nat) (ys : List Lot) : D := .tup [.int (k : Int), .tup (encs ys)]
structure IsC (most k : Nat) (ys : List Lot) : Prop where
  pos : 1 ≤ k
  le : k ≤ most
  six : k ≤ 6
  sub : ys.Sublist (lotsI k)
/-- what a form needs -/
def WhatOk (i k : Nat) (what : D) : Prop := match i with
  | 0 => what = .non
  | 1 => ∃ w, what = encI w
  | 2 => ∃ w : Lot, what = encI w ∧ w.length = k
  | 3 => ∃ j : Nat, what = .int (j : Int) ∧ j ≤ 100
  | _ => ∃ j : Int, what = .int j
theorem bi_tupl {k : Nat} {xs : List D} (e : m[k]? = some (.lst xs)) : biD .tuple [.adr k] m = some (.tup xs) := by
  show (items m (.adr k)).map D.tup = _
  unfold items
  rw [show deref m (.adr k) = some (.lst xs) from e]
  rfl
theorem bi_tupT (xs : List D) : biD .tuple [.lst xs] m = some (.tup xs) := rfl
theorem len_enc (x : Lot) : lenD m (encI x) = some (.int x.length) := by
  show some (D.int ((x.map D.int).length : Nat)) = _
  rw [List.length_map]
theorem minI_some : ∀ {xs : List Int}, xs ≠ [] → ∃ z, minI xs = some z
  | [], h => absurd rfl h
  | x :: xs, _ => by
    unfold minI
    cases minI xs with
    | none => exact ⟨_, rfl⟩
    | some y => exact ⟨_, rfl⟩
theorem bi_minT (xs : List Int) : biD .min [.lst (xs.map .int)] m = (minI xs).map .int := by
  show (itemsL m (.lst (xs.map .int))).bind (fun xs => (asInts xs).bind fun a => (minI a).map D.int) = _
  rw [show itemsL m (.lst (xs.map .int)) = some (xs.map .int) from rfl]
  simp [asInts_map]
def wAt (w : Lot) : D → D
  | .int b => .int (w.getD b.toNat 0)
  | d => d
theorem home_enc (x : Lot) (m : Hm) : home (encI x) m = (encI x, m) := rfl
theorem src_enc (x : Lot) : src .val [encI x] m = some (snap (x.map .int), (x.map D.int).length) := rfl
theorem lots_len1 {k : Nat} (hk : k ≤ 6) {x : Lot} (hx : x ∈ lotsI k) : x.length ≤ 6 := by
  have : ∀ k : Fin 7, ((lotsI k).all fun x => decide (x.length ≤ 6)) = true := by decide +kernel
  have h := List.all_eq_true.mp (this ⟨k, by omega⟩) x hx
  exact of_decide_eq_true h
/-- which lots please by a form -/
def allP (k : Nat) (x : Lot) : Bool := decide ((x.length : Int) = (k : Int))
def someP (w x : Lot) : Bool := !(((x.map D.int).filter fun d => match d with | .int b => decide (b ∈ w) | _ => false).map fun _ => D.int 1).isEmpty
def ranksP (w x : Lot) : Bool := decide (((minI (x.map fun b => w.getD b.toNat 0)).getD 0) % 2 = 0)
def FormP (i k : Nat) (what : D) (p : Lot → Bool) : Prop := match i with
  | 0 => what = .non ∧ p = allP k
  | 1 => ∃ w, what = encI w ∧ p = someP w
  | 2 => ∃ w : Lot, what = encI w ∧ w.length = k ∧ p = ranksP w
  | 3 => ∃ j : Nat, what = .int (j : Int) ∧ j ≤ 100 ∧ p = fun x => givenB x j
  | _ => ∃ j : Int, what = .int j ∧ p = fun x => decide ((x.length : Int) = j)
theorem FormP.of {i k : Nat} (hi : i < 5) {what : D} (h : WhatOk i k what) : ∃ p, FormP i k what p := by
  match i, hi with
  | 0, _ => exact ⟨_, h, rfl⟩
  | 1, _ => obtain ⟨w, e⟩ := h; exact ⟨_, w, e, rfl⟩
  | 2, _ => obtain ⟨w, e, l⟩ := h; exact ⟨_, w, e, l, rfl⟩
  | 3, _ => obtain ⟨w, e, l⟩ := h; exact ⟨_, w, e, l, rfl⟩
  | 4, _ => obtain ⟨w, e⟩ := h; exact ⟨_, w, e, rfl⟩
theorem by_okP (hC : ComA F) {i k : Nat} (hi : i < 5) (h1 : 1 ≤ k) (hk : k ≤ 6) {what : D} {p : Lot → Bool} (hw : FormP i k what p) (Q : D → Hm → Prop) (h : Q (cnd k ((lotsI k).filter p)) m) : wp (callN F wf (n + 2) none 6 [.int (k : Int), .str (kS i), what] m) Q := by
  refine w_call hC.fBy rfl ?_
  dsimp only [cBy]
  rw [w_scons]
  simp only [w_var, w_con, w_nil, w_cons, w_tup, w_lst, w_bin, w_cmp, w_tand, w_tor, w_tnot, w_tru, w_vand, w_vor, w_vnot, w_one, w_turn, w_ife, w_callp, w_bi, w_isin, w_idx, w_slc, w_nd, w_meth, w_comp, w_snil, w_single, w_asg, w_setix, w_exp, w_ret, w_ifs, w_fors, w_whil, w_brk, w_pass, wpo_some, wpb_some, wpa_tup, wpt_some, wif_bl, wp_ifB, wp_ok, get, put, home_int, home_bl, home_non, home_str, home_tup, home_adr, home_fro, home_lst, homes, assignT, assignTs, pick, List.map, List.replicate, List.cons_append, List.nil_append, List.append_nil, List.getD_cons_zero, List.getD_cons_succ]
  refine lots_ok hC (by omega) _ ?_
  simp only [home_lst, put]
  rw [seqQ_nx]
  have ea : (m ++ [D.lst (encs (lotsI k))])[m.length]? = some (.lst (encs (lotsI k))) := List.getElem?_concat_length
  have fin : ∀ (ρ : Env), wp (finD m.length (.ret (.tup [.int (k : Int), .tup (encs ((lotsI k).filter p))]), ρ) (m ++ [D.lst (encs (lotsI k))])) Q := fun ρ => by
    refine fin_ret (by rw [below_tup, belows, belows, below_tup, belows_encs]; unfold below belows; rfl) ?_
    rw [List.take_left]
    exact h
  have go : ∀ (R : Fl × Env → Hm → Prop) (c : E) (ρ : Env), (∀ d ρ m', wp (finD m.length (.ret d, ρ) m') Q → R (.ret d, ρ) m') → get ρ 0 = some (.int (k : Int)) → get ρ 3 = some (.adr m.length) → (∀ x ∈ lotsI k, ∀ acc, wp (oneCW (cfN F wf (n + 1) m) (.nm 4) c (.var 4) [4] ρ (encI x) acc (m ++ [D.lst (encs (lotsI k))])) fun acc' m' => m' = m ++ [D.lst (encs (lotsI k))] ∧ acc' = if p x = true then acc ++ [encI x] else acc) →
      wp (ex (cfN F wf (n + 1) m) (.ret (.tup (.cons (.var 0) (.cons (.bi .tuple (.cons (.comp .val (.cons (.var 3) .nil) (.nm 4) c (.var 4) [4]) .nil)) .nil)))) ρ (m ++ [D.lst (encs (lotsI k))])) R := fun R c ρ hR e0 e3 ho => by
    simp only [w_var, w_con, w_nil, w_cons, w_tup, w_lst, w_bin, w_cmp, w_tand, w_tor, w_tnot, w_tru, w_vand, w_vor, w_vnot, w_one, w_turn, w_ife, w_callp, w_bi, w_isin, w_idx, w_slc, w_nd, w_meth, w_comp, w_snil, w_single, w_asg, w_setix, w_exp, w_ret, w_ifs, w_fors, w_whil, w_brk, w_pass, wpo_some, wpb_some, wpa_tup, wpt_some, wif_bl, wp_ifB, wp_ok, get, put, home_int, home_bl, home_non, home_str, home_tup, home_adr, home_fro, home_lst, homes, assignT, assignTs, pick, List.map, List.replicate, List.cons_append, List.nil_append, List.append_nil, List.getD_cons_zero, List.getD_cons_succ]
    rw [e0]
    simp only [wpo_some]
    rw [e3]
    simp only [wpo_some]
    refine ⟨_, _, src_adr ea, isBig_of (by rw [encs_len]; have := lots_len hk; omega), turns_lots p (fun j _ => live_at' ea) (Nat.le_refl _) ho ?_⟩
    rw [bi_tupT]
    simp only [wpo_some, home_tup, home_int]
    exact hR _ _ _ (fin _)
  rw [show (.str ("all" : Str) : D) = .str (kS 0) from rfl, show (.str ("some" : Str) : D) = .str (kS 1) from rfl, show (.str ("ranks" : Str) : D) = .str (kS 2) from rfl, show (.str ("pairs" : Str) : D) = .str (kS 3) from rfl]
  have ne : ∀ {x : Lot}, x ∈ lotsI k → x ≠ [] := fun hx => (lots_mem hk hx).1
  rw [w_scons, w_ifs]
  simp only [w_cmp, w_var, w_con, get, wpo_some]
  rw [c_k hi 0 (by decide)]
  simp only [wpb_some, wif_bl, w_snil, w_single]
  by_cases e0 : i = 0
  · subst e0
    simp only [decide_true, if_true]
    obtain ⟨rfl, rfl⟩ := hw
    refine go _ _ _ (fun _ _ _ h => h) (by rfl) (by rfl) (fun x hx acc => ?_)
    rw [w_one]
    simp only [assignT, wipe, clr, put, wpt_some, w_cmp, w_bi, w_cons, w_nil, w_var, get, wpo_some, wpa_tup, bi_lenW, len_enc, c_eq, wpb_some, wif_bl, home_enc]
    unfold allP
    by_cases e : ((x.length : Int) = (k : Int)) <;> simp [e]
  simp only [e0, decide_false, Bool.false_eq_true, if_false]
  rw [seqQ_nx, w_scons, w_ifs]
  simp only [w_cmp, w_var, w_con, get, wpo_some]
  rw [c_k hi 1 (by decide)]
  simp only [wpb_some, wif_bl, w_snil, w_single]
  by_cases e1 : i = 1
  · subst e1
    simp only [decide_true, if_true]
    obtain ⟨w, rfl, rfl⟩ := hw
    refine go _ _ _ (fun _ _ _ h => h) (by rfl) (by rfl) (fun x hx acc => ?_)
    rw [w_one]
    simp only [assignT, wipe, clr, put, wpt_some, w_cmp, w_comp, w_cons, w_nil, w_var, w_lst, w_con, get, wpo_some, wpa_tup]
    refine ⟨_, _, src_enc _, isBig_of ?_, turns_pure (fun d => match d with | .int b => decide (b ∈ w) | _ => false) (fun _ => .int 1) (fun j _ => snap_at _ _ _) (Nat.le_refl _) (fun d hd acc => ?_) ?_⟩
    · have := lots_len1 hk hx; simp; omega
    · obtain ⟨b, hb, rfl⟩ := List.mem_map.mp hd
      rw [w_one]
      simp only [assignT, wipe, clr, put, wpt_some, w_cmp, w_var, get, wpo_some, c_inI, wpb_some, wif_bl, w_con, home_int]
      by_cases h : b ∈ w <;> simp [h]
    · simp only [homes]
      rw [c_ne0 _ (purs_ones _)]
      simp only [wpb_some, wif_bl, w_var, get, wpo_some, home_enc]
      unfold someP
      cases (((x.map D.int).filter fun d => match d with | .int b => decide (b ∈ w) | _ => false).map fun _ => D.int 1).isEmpty <;> simp
  simp only [e1, decide_false, Bool.false_eq_true, if_false]
  rw [seqQ_nx, w_scons, w_ifs]
  simp only [w_cmp, w_var, w_con, get, wpo_some]
  rw [c_k hi 2 (by decide)]
  simp only [wpb_some, wif_bl, w_snil, w_single]
  by_cases e2 : i = 2
  · subst e2
    simp only [decide_true, if_true]
    obtain ⟨w, rfl, hw, rfl⟩ := hw
    refine go _ _ _ (fun _ _ _ h => h) (by rfl) (by rfl) (fun x hx acc => ?_)
    rw [w_one]
    simp only [assignT, wipe, clr, put, wpt_some, w_cmp, w_bin, w_bi, w_comp, w_cons, w_nil, w_var, w_lst, w_con, get, wpo_some, wpa_tup]
    refine ⟨_, _, src_enc _, isBig_of ?_, turns_pure (fun _ => true) (wAt w) (fun j _ => snap_at _ _ _) (Nat.le_refl _) (fun d hd acc => ?_) ?_⟩
    · have := lots_len1 hk hx; simp; omega
    · obtain ⟨b, hb, rfl⟩ := List.mem_map.mp hd
      rw [w_one]
      simp only [assignT, wipe, clr, put, wpt_some, w_idx, w_var, get, wpo_some, wif_bl, w_con, home_int, if_true]
      obtain ⟨b0, b1⟩ := (lots_mem hk hx).2 b hb
      obtain ⟨j, rfl⟩ := Int.eq_ofNat_of_zero_le b0
      have hj : j < w.length := by omega
      rw [idx_at (xs := w.map .int) (.inr (.inl rfl)) (j := j) (d := .int w[j]) (by rw [List.getElem?_map, List.getElem?_eq_getElem hj]; rfl)]
      simp only [wpo_some, home_int, wAt]
      simp [List.getD_eq_getElem?_getD, hj]
    · have e : ((x.map D.int).filter fun _ => true).map (wAt w) = (x.map fun b => w.getD b.toNat 0).map D.int := by
        rw [List.filter_eq_self.mpr (by simp), List.map_map, List.map_map]
        rfl
      rw [e, bi_minT]
      obtain ⟨z, hz⟩ := minI_some (xs := x.map fun b => w.getD b.toNat 0) (by simpa using ne hx)
      rw [hz]
      unfold ranksP
      rw [hz]
      simp only [Option.map_some, wpo_some, b_int, b_mod _ 2 _ (by decide), c_eq, wpb_some, wif_bl, Option.getD_some, w_var, get, home_enc]
      by_cases h : z % 2 = 0 <;> simp [h]
  simp only [e2, decide_false, Bool.false_eq_true, if_false]
  rw [seqQ_nx, w_scons, w_ifs]
  simp only [w_cmp, w_var, w_con, get, wpo_some]
  rw [c_k hi 3 (by decide)]
  simp only [wpb_some, wif_bl, w_snil, w_single]
  by_cases e3 : i = 3
  · subst e3
    simp only [decide_true, if_true]
    obtain ⟨j, rfl, hj, rfl⟩ := hw
    refine go _ _ _ (fun _ _ _ h => h) (by rfl) (by rfl) (fun x hx acc => ?_)
    rw [w_one]
    simp only [assignT, wipe, clr, put, wpt_some, w_tru, w_callp, w_cons, w_nil, w_var, get, wpo_some, wpa_tup, homes, home_enc, home_int, pick, List.append_nil, List.getD_cons_zero, List.getD_cons_succ]
    refine given_ok hC hj x _ ?_
    rw [show truth (m ++ [D.lst (encs (lotsI k))]) (.bl (givenB x j)) = some (givenB x j) from rfl]
    simp only [wpb_some, wif_bl, w_var, get, wpo_some, home_enc]
    by_cases e : givenB x j = true <;> simp [e]
  simp only [e3, decide_false, Bool.false_eq_true, if_false]
  rw [seqQ_nx, w_single]
  have hi4 : i = 4 := by omega
  subst hi4
  obtain ⟨j, rfl, rfl⟩ := hw
  refine go _ _ _ (fun _ _ _ h => h) (by rfl) (by rfl) (fun x hx acc => ?_)
  rw [w_one]
  simp only [assignT, wipe, clr, put, wpt_some, w_cmp, w_bi, w_cons, w_nil, w_var, get, wpo_some, wpa_tup, bi_lenW, len_enc, c_eq, wpb_some, wif_bl, home_enc]
  by_cases e : ((x.length : Int) = j) <;> simp [e]
theorem by_ok (hC : ComA F) {i k : Nat} (hi : i < 5) (h1 : 1 ≤ k) (hk : k ≤ 6) {what : D} (hw : WhatOk i k what) (Q : D → Hm → Prop) (h : ∀ ys, ys.Sublist (lotsI k) → Q (cnd k ys) m) : wp (callN F wf (n + 2) none 6 [.int (k : Int), .str (kS i), what] m) Q := by
  obtain ⟨p, hp⟩ := FormP.of hi hw
  exact by_okP hC hi h1 hk hp Q (h _ List.filter_sublist)
theorem cnd_0 (k : Nat) (ys : List Lot) : idxD (cnd k ys) (.int 0) m = some (.int (k : Int)) := rfl
theorem cnd_1 (k : Nat) (ys : List Lot) : idxD (cnd k ys) (.int 1) m = some (.tup (encs ys)) := rfl
theorem home_cnd (k : Nat) (ys : List Lot) (m : Hm) : home (cnd k ys) m = (cnd k ys, m) := rfl
theorem below_cnd (j k : Nat) (ys : List Lot) : below j (cnd k ys) = true := by
  unfold cnd
  rw [below_tup, belows, belows, below_tup, belows_encs]
  unfold below belows
  rfl
theorem other_ok (hC : Common F) {k : Nat} (hk : k ≤ 6) (ys : List Lot) (Q : D → Hm → Prop) (h : Q (cnd k ((lotsI k).filter fun x => !decide (x ∈ ys))) m) : wp (callN F wf (n + 2) none 8 [cnd k ys] m) Q := by
  refine w_call hC.fOther rfl ?_
  dsimp only [cOther]
  simp only [w_var, w_con, w_nil, w_cons, w_tup, w_lst, w_bin, w_cmp, w_tand, w_tor, w_tnot, w_tru, w_vand, w_vor, w_vnot, w_one, w_turn, w_ife, w_callp, w_bi, w_isin, w_idx, w_slc, w_nd, w_meth, w_comp, w_snil, w_single, w_asg, w_setix, w_exp, w_ret, w_ifs, w_fors, w_whil, w_brk, w_pass, wpo_some, wpb_some, wpa_tup, wpt_some, wif_bl, wp_ifB, wp_ok, get, put, home_int, home_bl, home_non, home_str, home_tup, home_adr, home_fro, home_lst, homes, assignT, assignTs, pick, List.map, List.replicate, List.cons_append, List.nil_append, List.append_nil, List.getD_cons_zero, List.getD_cons_succ]
  simp only [cnd_0, wpo_some, homes, home_int, pick, List.nil_append, List.cons_append, List.getD_cons_zero]
  refine lots_ok (b := k) hC (by omega) _ ?_
  refine ⟨_, _, src_lst _, isBig_of (by rw [encs_len]; have := lots_len hk; omega), turns_lots (fun x => !decide (x ∈ ys)) (fun j _ => snap_at _ _ _) (Nat.le_refl _) (fun x hx acc => ?_) ?_⟩
  · rw [w_one]
    simp only [assignT, wipe, clr, put, wpt_some, w_cmp, w_idx, w_con, w_var, get, wpo_some, cnd_1, c_nin, wpb_some, wif_bl, home_enc]
    by_cases h : x ∈ ys <;> simp [h]
  · rw [bi_tupT]
    simp only [wpo_some, home_tup]
    refine fin_ret (below_cnd m.length k _) ?_
    rw [List.take_of_length_le (Nat.le_refl _)]
    exact h
theorem form_ok (hC : Common F) {k most : Nat} (hb : BoxAt m k) (h2 : 2 ≤ most) (h6 : most ≤ 6) (Q : D → Hm → Prop)
    (h : ∀ j ys i what m', IsC most j ys → i < 5 → WhatOk i j what → Bx k m m' → Q (.tup [cnd j ys, .str (kS i), what]) m') : wp (callN F wf (n + 3) none 7 [.adr k, .int (most : Int)] m) Q := by
  refine w_call hC.fForm rfl ?_
  dsimp only [cForm]
  rw [w_scons]
  simp only [w_var, w_con, w_nil, w_cons, w_tup, w_lst, w_bin, w_cmp, w_tand, w_tor, w_tnot, w_tru, w_vand, w_vor, w_vnot, w_one, w_turn, w_ife, w_callp, w_bi, w_isin, w_idx, w_slc, w_nd, w_meth, w_comp, w_snil, w_single, w_asg, w_setix, w_exp, w_ret, w_ifs, w_fors, w_whil, w_brk, w_pass, wpo_some, wpb_some, wpa_tup, wpt_some, wif_bl, wp_ifB, wp_ok, get, put, home_int, home_bl, home_non, home_str, home_tup, home_adr, home_fro, home_lst, homes, assignT, assignTs, pick, List.map, List.replicate, List.cons_append, List.nil_append, List.append_nil, List.getD_cons_zero, List.getD_cons_succ]
  refine take_bx hC hb (by omega) (by omega) _ fun t m1 t0 t1 B1 => ?_
  obtain ⟨t, rfl⟩ := Int.eq_ofNat_of_zero_le t0
  simp only [b_add, wpo_some]
  have P1 : Px k m m1 := B1.px
  refine pick_bx hC (B1.box.app _) (.inr ⟨m1.length, rfl, by have := B1.box.lt; omega, List.getElem?_concat_length⟩) (by decide) (by decide) (by simp [belows, below]) _ fun d m2 hd B2 => ?_
  have P2 : Px k m m2 := (P1.app _).bx B2
  obtain ⟨i, hi, rfl⟩ : ∃ i, i < 5 ∧ d = .str (kS i) := by
    simp only [List.mem_cons, List.not_mem_nil, or_false] at hd
    rcases hd with rfl | rfl | rfl | rfl | rfl
    · exact ⟨0, by decide, rfl⟩
    · exact ⟨1, by decide, rfl⟩
    · exact ⟨2, by decide, rfl⟩
    · exact ⟨3, by decide, rfl⟩
    · exact ⟨4, by decide, rfl⟩
  simp only [home_int, home_str]
  let St (s : Nat) (m' : Hm) (ρ : Env) : Prop := ∃ (j : Nat) (what : D) (o5 : Option D), ρ = [some (.adr k), some (.int (most : Int)), some (.int (j : Int)), some (.str (kS i)), some what, o5] ∧ Px k m m' ∧ 1 ≤ j ∧ j ≤ most ∧ (if 1 ≤ i ∧ i ≤ s then WhatOk i j what else what = .non)
  rw [seqQ_nx, w_scons]
  simp only [w_var, w_con, w_nil, w_cons, w_tup, w_lst, w_bin, w_cmp, w_tand, w_tor, w_tnot, w_tru, w_vand, w_vor, w_vnot, w_one, w_turn, w_ife, w_callp, w_bi, w_isin, w_idx, w_slc, w_nd, w_meth, w_comp, w_snil, w_single, w_asg, w_setix, w_exp, w_ret, w_ifs, w_fors, w_whil, w_brk, w_pass, wpo_some, wpb_some, wpa_tup, wpt_some, wif_bl, wp_ifB, wp_ok, get, put, home_int, home_bl, home_non, home_str, home_tup, home_adr, home_fro, home_lst, homes, assignT, assignTs, pick, List.map, List.replicate, List.cons_append, List.nil_append, List.append_nil, List.getD_cons_zero, List.getD_cons_succ]
  rw [seqQ_nx, w_scons]
  have I0 : St 0 m2 [some (.adr k), some (.int (most : Int)), some (.int (1 + (t : Int))), some (.str (kS i)), some .non, none] := ⟨t + 1, .non, none, by rw [show ((t + 1 : Nat) : Int) = 1 + (t : Int) by omega], P2, by omega, by omega, by rw [if_neg (by omega)]⟩
  revert I0
  generalize ([some (.adr k), some (.int (most : Int)), some (.int (1 + (t : Int))), some (.str (kS i)), some .non, none] : Env) = ρ0
  intro I0
  rw [show (.str ("some" : Str) : D) = .str (kS 1) from rfl, show (.str ("ranks" : Str) : D) = .str (kS 2) from rfl, show (.str ("pairs" : Str) : D) = .str (kS 3) from rfl, show (.str ("just" : Str) : D) = .str (kS 4) from rfl]
  refine wp.mono (Q := fun p m' => ∃ ρ', p = (.nx, ρ') ∧ St 1 m' ρ') ?_ ?_
  · obtain ⟨j, what, o5, rfl, P, j1, j2, hw⟩ := I0
    rw [w_ifs]
    simp only [w_cmp, w_var, w_con, get, wpo_some]
    rw [c_k hi 1 (by decide)]
    simp only [wpb_some, wif_bl, w_snil]
    by_cases e : i = 1
    · subst e
      simp only [decide_true, if_true]
      simp only [w_var, w_con, w_nil, w_cons, w_tup, w_lst, w_bin, w_cmp, w_tand, w_tor, w_tnot, w_tru, w_vand, w_vor, w_vnot, w_one, w_turn, w_ife, w_callp, w_bi, w_isin, w_idx, w_slc, w_nd, w_meth, w_comp, w_snil, w_single, w_asg, w_setix, w_exp, w_ret, w_ifs, w_fors, w_whil, w_brk, w_pass, wpo_some, wpb_some, wpa_tup, wpt_some, wif_bl, wp_ifB, wp_ok, get, put, home_int, home_bl, home_non, home_str, home_tup, home_adr, home_fro, home_lst, homes, assignT, assignTs, pick, List.map, List.replicate, List.cons_append, List.nil_append, List.append_nil, List.getD_cons_zero, List.getD_cons_succ]
      refine lots_ok (b := j) hC (by omega) _ ?_
      simp only [home_lst, homes, pick, List.nil_append, List.cons_append, List.getD_cons_zero, List.getD_cons_succ]
      have hl : 0 < (encs (lotsI j)).length := by
        rw [encs_len]
        have := (lots_tab ⟨j, by omega⟩).2.2 j1
        exact List.length_pos_iff.mpr this
      refine pick_bx hC (P.box.app _) (.inr ⟨m2.length, rfl, by have := P.box.lt; omega, List.getElem?_concat_length⟩) hl (by rw [encs_len]; have := lots_len (k := j) (by omega); omega) (belows_encs _ _) _ fun d m3 hd B3 => ?_
      obtain ⟨x, hx, rfl⟩ := List.mem_map.mp hd
      simp only [home_enc, put]
      exact ⟨_, rfl, j, _, o5, rfl, (P.app _).bx B3, j1, j2, by rw [if_pos (by decide)]; exact ⟨x, rfl⟩⟩
    · simp only [e, decide_false, Bool.false_eq_true, if_false]
      exact ⟨_, rfl, j, what, o5, rfl, P, j1, j2, by rw [if_neg (by omega)] at hw ⊢; exact hw⟩
  rintro _ m3 ⟨ρ1, rfl, I1⟩
  rw [seqQ_nx, w_scons]
  refine wp.mono (Q := fun p m' => ∃ ρ', p = (.nx, ρ') ∧ St 2 m' ρ') ?_ ?_
  · obtain ⟨j, what, o5, rfl, P, j1, j2, hw⟩ := I1
    rw [w_ifs]
    simp only [w_cmp, w_var, w_con, get, wpo_some]
    rw [c_k hi 2 (by decide)]
    simp only [wpb_some, wif_bl, w_snil]
    by_cases e : i = 2
    · subst e
      simp only [decide_true, if_true]
      simp only [w_var, w_con, w_nil, w_cons, w_tup, w_lst, w_bin, w_cmp, w_tand, w_tor, w_tnot, w_tru, w_vand, w_vor, w_vnot, w_one, w_turn, w_ife, w_callp, w_bi, w_isin, w_idx, w_slc, w_nd, w_meth, w_comp, w_snil, w_single, w_asg, w_setix, w_exp, w_ret, w_ifs, w_fors, w_whil, w_brk, w_pass, wpo_some, wpb_some, wpa_tup, wpt_some, wif_bl, wp_ifB, wp_ok, get, put, home_int, home_bl, home_non, home_str, home_tup, home_adr, home_fro, home_lst, homes, assignT, assignTs, pick, List.map, List.replicate, List.cons_append, List.nil_append, List.append_nil, List.getD_cons_zero, List.getD_cons_succ]
      refine ⟨_, _, src_rng (by omega) (by omega), isBig_of (by omega), ?_⟩
      refine (turns_inv (xs := rangeL 0 (j : Int).toNat) (fun i acc m' => Px k m m' ∧ ∃ w : Lot, acc = w.map .int ∧ w.length = i) (fun _ _ _ _ _ => snap_at _ _ _) (fun i' d acc m' hd I => ?_) _ 0 [] m3 (Nat.zero_le _) (by rw [rangeL_lenW]; omega) ⟨P, [], rfl, rfl⟩).mono fun acc m' I => ?_
      · obtain ⟨P', w, rfl, hw'⟩ := I
        rw [w_one]
        simp only [assignT, wipe, clr, put, wpt_some, w_callp, w_cons, w_nil, w_con, w_var, get, wpo_some, wpa_tup, wif_bl, if_true, homes, home_int, home_adr, pick, List.append_nil, List.getD_cons_zero, List.getD_cons_succ]
        refine take_bx hC P'.box (by decide) (by decide) _ fun t m4 _ _ B => ?_
        simp only [home_int]
        exact ⟨P'.bx B, w ++ [t], by simp, by simp [hw']⟩
      · obtain ⟨P', w, rfl, hw'⟩ := I
        rw [bi_tupT]
        simp only [wpo_some, home_tup, put]
        exact ⟨_, rfl, j, _, o5, rfl, P', j1, j2, by rw [if_pos (by decide)]; exact ⟨w, rfl, by rw [hw', rangeL_lenW]; simp⟩⟩
    · simp only [e, decide_false, Bool.false_eq_true, if_false]
      exact ⟨_, rfl, j, what, o5, rfl, P, j1, j2, by
        by_cases h1 : 1 ≤ i ∧ i ≤ 1
        · rw [if_pos h1] at hw; rw [if_pos (by omega)]; exact hw
        · rw [if_neg h1] at hw; rw [if_neg (by omega)]; exact hw⟩
  rintro _ m4 ⟨ρ2, rfl, I2⟩
  rw [seqQ_nx, w_scons]
  refine wp.mono (Q := fun p m' => ∃ ρ', p = (.nx, ρ') ∧ St 3 m' ρ') ?_ ?_
  · obtain ⟨j, what, o5, rfl, P, j1, j2, hw⟩ := I2
    rw [w_ifs]
    simp only [w_cmp, w_var, w_con, get, wpo_some]
    rw [c_k hi 3 (by decide)]
    simp only [wpb_some, wif_bl, w_snil]
    by_cases e : i = 3
    · subst e
      simp only [decide_true, if_true]
      simp only [w_var, w_con, w_nil, w_cons, w_tup, w_lst, w_bin, w_cmp, w_tand, w_tor, w_tnot, w_tru, w_vand, w_vor, w_vnot, w_one, w_turn, w_ife, w_callp, w_bi, w_isin, w_idx, w_slc, w_nd, w_meth, w_comp, w_snil, w_single, w_scons, seqQ_nx, seqQ_ret, seqQ_brk, seqQ_cnt, w_asg, w_setix, w_exp, w_ret, w_ifs, w_fors, w_whil, w_brk, w_pass, wpo_some, wpb_some, wpa_tup, wpt_some, wif_bl, wp_ifB, wp_ok, get, put, home_int, home_bl, home_non, home_str, home_tup, home_adr, home_fro, home_lst, homes, assignT, assignTs, pick, List.map, List.replicate, List.cons_append, List.nil_append, List.append_nil, List.getD_cons_zero, List.getD_cons_succ]
      simp only [b_div _ 2 _ (by decide) (by decide), b_max, b_mulL 2 _ _ (by decide), wpo_some, home_int, put, get]
      obtain ⟨c, hc, c1⟩ : ∃ c : Nat, (2 * if (j : Int) / 2 > 1 then (j : Int) / 2 else 1) = ((2 * c : Nat) : Int) ∧ (1 ≤ c ∧ 2 * c ≤ most) := by
        by_cases hj : (j : Int) / 2 > 1
        · exact ⟨j / 2, by rw [if_pos hj]; omega, by omega, by omega⟩
        · exact ⟨1, by rw [if_neg hj]; rfl, by omega, by omega⟩
      rw [hc]
      refine ⟨_, rfl, 2 * c, .int ((c : Nat) : Int), o5, ?_, P, by omega, by omega, ?_⟩
      · rw [show (((2 * c : Nat) : Int) / 2) = (c : Int) by omega]
      · rw [if_pos (by decide)]
        exact ⟨c, rfl, by omega⟩
    · simp only [e, decide_false, Bool.false_eq_true, if_false]
      exact ⟨_, rfl, j, what, o5, rfl, P, j1, j2, by
        by_cases h1 : 1 ≤ i ∧ i ≤ 2
        · rw [if_pos h1] at hw; rw [if_pos (by omega)]; exact hw
        · rw [if_neg h1] at hw; rw [if_neg (by omega)]; exact hw⟩
  rintro _ m5 ⟨ρ3, rfl, I3⟩
  rw [seqQ_nx, w_scons]
  refine wp.mono (Q := fun p m' => ∃ ρ', p = (.nx, ρ') ∧ St 4 m' ρ') ?_ ?_
  · obtain ⟨j, what, o5, rfl, P, j1, j2, hw⟩ := I3
    rw [w_ifs]
    simp only [w_cmp, w_var, w_con, get, wpo_some]
    rw [c_k hi 4 (by decide)]
    simp only [wpb_some, wif_bl, w_snil]
    by_cases e : i = 4
    · subst e
      simp only [decide_true, if_true]
      simp only [w_var, w_con, w_nil, w_cons, w_tup, w_lst, w_bin, w_cmp, w_tand, w_tor, w_tnot, w_tru, w_vand, w_vor, w_vnot, w_one, w_turn, w_ife, w_callp, w_bi, w_isin, w_idx, w_slc, w_nd, w_meth, w_comp, w_snil, w_single, w_asg, w_setix, w_exp, w_ret, w_ifs, w_fors, w_whil, w_brk, w_pass, wpo_some, wpb_some, wpa_tup, wpt_some, wif_bl, wp_ifB, wp_ok, get, put, home_int, home_bl, home_non, home_str, home_tup, home_adr, home_fro, home_lst, homes, assignT, assignTs, pick, List.map, List.replicate, List.cons_append, List.nil_append, List.append_nil, List.getD_cons_zero, List.getD_cons_succ]
      refine take_bx hC P.box (by omega) (by omega) _ fun t m6 _ _ B => ?_
      simp only [b_add, wpo_some, home_int, put]
      exact ⟨_, rfl, j, _, o5, rfl, P.bx B, j1, j2, by rw [if_pos (by decide)]; exact ⟨_, rfl⟩⟩
    · simp only [e, decide_false, Bool.false_eq_true, if_false]
      exact ⟨_, rfl, j, what, o5, rfl, P, j1, j2, by
        by_cases h1 : 1 ≤ i ∧ i ≤ 3
        · rw [if_pos h1] at hw; rw [if_pos (by omega)]; exact hw
        · rw [if_neg h1] at hw; rw [if_neg (by omega)]; exact hw⟩
  rintro _ m6 ⟨ρ4, rfl, j, what, o5, rfl, P, j1, j2, hw⟩
  have hw' : WhatOk i j what := by
    by_cases e : i = 0
    · subst e; exact hw
    · rw [if_pos (by omega)] at hw; exact hw
  have hh : ∀ m, home what m = (what, m) := by
    unfold WhatOk at hw'
    split at hw'
    · subst hw'; exact fun _ => rfl
    · obtain ⟨w, rfl⟩ := hw'; exact fun _ => rfl
    · obtain ⟨w, rfl, _⟩ := hw'; exact fun _ => rfl
    · obtain ⟨w, rfl, _⟩ := hw'; exact fun _ => rfl
    · obtain ⟨w, rfl⟩ := hw'; exact fun _ => rfl
  have hbl : ∀ j, below j what = true := by
    unfold WhatOk at hw'
    split at hw'
    · subst hw'; intro j; unfold below; rfl
    · obtain ⟨w, rfl⟩ := hw'; exact fun j => below_encI j w
    · obtain ⟨w, rfl, _⟩ := hw'; exact fun j => below_encI j w
    · obtain ⟨w, rfl, _⟩ := hw'; intro j; unfold below; rfl
    · obtain ⟨w, rfl⟩ := hw'; intro j; unfold below; rfl
  rw [seqQ_nx]
  simp only [w_var, w_con, w_nil, w_cons, w_tup, w_lst, w_bin, w_cmp, w_tand, w_tor, w_tnot, w_tru, w_vand, w_vor, w_vnot, w_one, w_turn, w_ife, w_callp, w_bi, w_isin, w_idx, w_slc, w_nd, w_meth, w_comp, w_snil, w_single, w_asg, w_setix, w_exp, w_ret, w_ifs, w_fors, w_whil, w_brk, w_pass, wpo_some, wpb_some, wpa_tup, wpt_some, wif_bl, wp_ifB, wp_ok, get, put, home_int, home_bl, home_non, home_str, home_tup, home_adr, home_fro, home_lst, homes, assignT, assignTs, pick, List.map, List.replicate, List.cons_append, List.nil_append, List.append_nil, List.getD_cons_zero, List.getD_cons_succ]
  simp only [hh, homes, home_int, home_str, pick, List.nil_append, List.cons_append, List.append_nil, List.getD_cons_zero, List.getD_cons_succ]
  refine by_ok hC hi j1 (by omega) hw' _ fun ys hys => ?_
  simp only [hh, homes, home_cnd, home_str]
  refine fin_ret (by rw [below_tup, belows, belows, belows, below_cnd, hbl]; unfold below belows; rfl) ?_
  exact h j ys i what _ ⟨j1, j2, by omega, hys⟩ hi hw' P.fin
end
end Bell
end

section
set_option maxRecDepth 100000
/-! conditions; what is the same -/
namespace Bell
open PySem (Str)
section
variable {F : Nat → Option Fd} {wf n : Nat} {m : Hm}
/-- a comprehension over lots that draws from the box -/
theorem turns_box {k : Nat} {m0 : Hm} {f : Nx} {one : D → List D → Hm → Out (List D)} {ys : List Lot} {c : Nat} {Q : List D → Hm → Prop} (P : Px k m0 m) (hf : ∀ i m, i ≤ (encs ys).length → f i m = some (encs ys)[i]?) (hc : (encs ys).length ≤ c)
    (h : ∀ x ∈ ys, ∀ acc m', Px k m0 m' → wp (one (encI x) acc m') fun acc' m2 => Px k m0 m2 ∧ (acc' = acc ++ [encI x] ∨ acc' = acc)) (q : ∀ zs m', zs.Sublist ys → Px k m0 m' → Q (encs zs) m') : wp (turns f one c 0 [] m) Q := by
  refine (turns_inv (xs := encs ys) (fun i acc m' => Px k m0 m' ∧ ∃ zs : List Lot, acc = encs zs ∧ zs.Sublist (ys.take i)) (fun i acc m' I hi => hf i m' hi) (fun i d acc m' hd I => ?_) c 0 [] m (Nat.zero_le _) (by omega) ⟨P, [], rfl, List.Sublist.slnil⟩).mono fun acc m' I => ?_
  · obtain ⟨P', zs, rfl, hz⟩ := I
    unfold encs at hd
    rw [List.getElem?_map] at hd
    cases q : ys[i]? with
    | none => rw [q] at hd; cases hd
    | some x =>
      rw [q] at hd
      cases hd
      have e1 : ys.take (i + 1) = ys.take i ++ [x] := by rw [List.take_succ, q]; rfl
      refine (h x (List.mem_of_getElem? q) _ m' P').mono fun acc' m2 r => ?_
      obtain ⟨P2, rfl | rfl⟩ := r
      · exact ⟨P2, zs ++ [x], by unfold encs; simp, by rw [e1]; exact hz.append (List.Sublist.refl _)⟩
      · exact ⟨P2, zs, rfl, by rw [e1]; exact hz.trans (List.sublist_append_left _ _)⟩
  · obtain ⟨P', zs, rfl, hz⟩ := I
    rw [encs_len, List.take_length] at hz
    exact q zs m' hz P'
theorem cond_ok (hC : Common F) {k most : Nat} (hb : BoxAt m k) (h2 : 2 ≤ most) (h6 : most ≤ 6) (Q : D → Hm → Prop)
    (h : ∀ j ys m', IsC most j ys → Bx k m m' → Q (cnd j ys) m') : wp (callN F wf (n + 4) none 9 [.adr k, .int (most : Int)] m) Q := by
  have fin : ∀ j ys ρ m', IsC most j ys → Px k m m' → wp (finD m.length (.ret (cnd j ys), ρ) m') Q := fun j ys ρ m' hc P => fin_ret (below_cnd _ _ _) (h j ys _ hc P.fin)
  refine w_call hC.fCond rfl ?_
  dsimp only [cCond]
  rw [w_scons]
  simp only [w_var, w_con, w_nil, w_cons, w_tup, w_lst, w_bin, w_cmp, w_tand, w_tor, w_tnot, w_tru, w_vand, w_vor, w_vnot, w_one, w_turn, w_ife, w_callp, w_bi, w_isin, w_idx, w_slc, w_nd, w_meth, w_comp, w_snil, w_single, w_asg, w_setix, w_exp, w_ret, w_ifs, w_fors, w_whil, w_brk, w_pass, wpo_some, wpb_some, wpa_tup, wpt_some, wif_bl, wp_ifB, wp_ok, get, put, home_int, home_bl, home_non, home_str, home_tup, home_adr, home_fro, home_lst, homes, assignT, assignTs, pick, List.map, List.replicate, List.cons_append, List.nil_append, List.append_nil, List.getD_cons_zero, List.getD_cons_succ]
  refine take_bx hC hb (by decide) (by decide) _ fun t m1 t0 t1 B1 => ?_
  have P1 : Px k m m1 := B1.px
  simp only [home_int, put]
  rw [seqQ_nx, w_scons, w_ifs]
  simp only [w_cmp, w_var, w_con, get, wpo_some, c_eq, wpb_some, wif_bl, w_snil]
  by_cases e0 : t = 0
  · subst e0
    simp only [beq_self_eq_true, if_true]
    rw [w_scons]
    simp only [w_var, w_con, w_nil, w_cons, w_tup, w_lst, w_bin, w_cmp, w_tand, w_tor, w_tnot, w_tru, w_vand, w_vor, w_vnot, w_one, w_turn, w_ife, w_callp, w_bi, w_isin, w_idx, w_slc, w_nd, w_meth, w_comp, w_snil, w_single, w_asg, w_setix, w_exp, w_ret, w_ifs, w_fors, w_whil, w_brk, w_pass, wpo_some, wpb_some, wpa_tup, wpt_some, wif_bl, wp_ifB, wp_ok, get, put, home_int, home_bl, home_non, home_str, home_tup, home_adr, home_fro, home_lst, homes, assignT, assignTs, pick, List.map, List.replicate, List.cons_append, List.nil_append, List.append_nil, List.getD_cons_zero, List.getD_cons_succ]
    refine form_ok hC B1.box h2 h6 _ fun j ys i what m2 hc hi hw B2 => ?_
    have P2 := P1.bx B2
    rw [show idxD (.tup [cnd j ys, .str (kS i), what]) (.int 0) m2 = some (cnd j ys) from rfl]
    simp only [wpo_some, home_cnd, put]
    rw [seqQ_nx]
    simp only [w_var, w_con, w_nil, w_cons, w_tup, w_lst, w_bin, w_cmp, w_tand, w_tor, w_tnot, w_tru, w_vand, w_vor, w_vnot, w_one, w_turn, w_ife, w_callp, w_bi, w_isin, w_idx, w_slc, w_nd, w_meth, w_comp, w_snil, w_single, w_asg, w_setix, w_exp, w_ret, w_ifs, w_fors, w_whil, w_brk, w_pass, wpo_some, wpb_some, wpa_tup, wpt_some, wif_bl, wp_ifB, wp_ok, get, put, home_int, home_bl, home_non, home_str, home_tup, home_adr, home_fro, home_lst, homes, assignT, assignTs, pick, List.map, List.replicate, List.cons_append, List.nil_append, List.append_nil, List.getD_cons_zero, List.getD_cons_succ]
    refine take_bx hC P2.box (by decide) (by decide) _ fun t m3 t0 t1 B3 => ?_
    have P3 := P2.bx B3
    simp only [c_eq, wpb_some, wp_ifB, w_var, get, wpo_some, w_callp, w_cons, w_nil, wpa_tup, homes, home_cnd, pick, List.append_nil, List.getD_cons_zero]
    by_cases e : (t == 0) = true
    · rw [if_pos e]
      refine other_ok hC hc.six ys _ ?_
      exact fin j _ _ _ ⟨hc.pos, hc.le, hc.six, List.filter_sublist⟩ P3
    · rw [if_neg e]
      exact fin j ys _ _ hc P3
  rw [if_neg (by simpa using e0)]
  rw [seqQ_nx, w_scons, w_ifs]
  simp only [w_cmp, w_var, w_con, get, wpo_some, c_eq, wpb_some, wif_bl, w_snil]
  by_cases e1 : t = 1
  · subst e1
    simp only [beq_self_eq_true, if_true]
    rw [w_scons]
    simp only [w_var, w_con, w_nil, w_cons, w_tup, w_lst, w_bin, w_cmp, w_tand, w_tor, w_tnot, w_tru, w_vand, w_vor, w_vnot, w_one, w_turn, w_ife, w_callp, w_bi, w_isin, w_idx, w_slc, w_nd, w_meth, w_comp, w_snil, w_single, w_asg, w_setix, w_exp, w_ret, w_ifs, w_fors, w_whil, w_brk, w_pass, wpo_some, wpb_some, wpa_tup, wpt_some, wif_bl, wp_ifB, wp_ok, get, put, home_int, home_bl, home_non, home_str, home_tup, home_adr, home_fro, home_lst, homes, assignT, assignTs, pick, List.map, List.replicate, List.cons_append, List.nil_append, List.append_nil, List.getD_cons_zero, List.getD_cons_succ]
    refine form_ok hC B1.box h2 h6 _ fun j ys i what m2 hc hi hw B2 => ?_
    have P2 := P1.bx B2
    rw [show idxD (.tup [cnd j ys, .str (kS i), what]) (.int 0) m2 = some (cnd j ys) from rfl]
    simp only [wpo_some, home_cnd]
    refine ⟨[some (.adr k), some (.int (most : Int)), some (.int 1), none, some (.int (j : Int)), some (.tup (encs ys)), none, none, none], rfl, ?_⟩
    dsimp only
    rw [seqQ_nx, w_scons]
    simp only [w_var, w_con, w_nil, w_cons, w_tup, w_lst, w_bin, w_cmp, w_tand, w_tor, w_tnot, w_tru, w_vand, w_vor, w_vnot, w_one, w_turn, w_ife, w_callp, w_bi, w_isin, w_idx, w_slc, w_nd, w_meth, w_comp, w_snil, w_single, w_asg, w_setix, w_exp, w_ret, w_ifs, w_fors, w_whil, w_brk, w_pass, wpo_some, wpb_some, wpa_tup, wpt_some, wif_bl, wp_ifB, wp_ok, get, put, home_int, home_bl, home_non, home_str, home_tup, home_adr, home_fro, home_lst, homes, assignT, assignTs, pick, List.map, List.replicate, List.cons_append, List.nil_append, List.append_nil, List.getD_cons_zero, List.getD_cons_succ]
    refine lots_ok (b := j) hC (by have := hc.six; omega) _ ?_
    refine ⟨_, _, src_lst _, isBig_of (by rw [encs_len]; have := lots_len hc.six; omega), turns_box P2 (fun _ _ _ => snap_at _ _ _) (Nat.le_refl _) (fun x hx acc m' P' => ?_) fun zs m3 hz P3 => ?_⟩
    · rw [w_one]
      simp only [assignT, wipe, clr, put, wpt_some, w_cmp, w_callp, w_cons, w_nil, w_con, w_var, get, wpo_some, wpa_tup, c_in, wpb_some, homes, home_int, home_adr, pick, List.append_nil, List.getD_cons_zero, List.getD_cons_succ]
      refine take_bx hC P'.box (by decide) (by decide) _ fun t m4 _ _ B => ?_
      simp only [c_eq, c_neB, wpb_some, wpo_some, wif_bl, home_enc]
      split
      · exact ⟨P'.bx B, by simp⟩
      · exact ⟨P'.bx B, by simp⟩
    · rw [seqQ_nx]
      simp only [w_var, w_con, w_nil, w_cons, w_tup, w_lst, w_bin, w_cmp, w_tand, w_tor, w_tnot, w_tru, w_vand, w_vor, w_vnot, w_one, w_turn, w_ife, w_callp, w_bi, w_isin, w_idx, w_slc, w_nd, w_meth, w_comp, w_snil, w_single, w_asg, w_setix, w_exp, w_ret, w_ifs, w_fors, w_whil, w_brk, w_pass, wpo_some, wpb_some, wpa_tup, wpt_some, wif_bl, wp_ifB, wp_ok, get, put, home_int, home_bl, home_non, home_str, home_tup, home_adr, home_fro, home_lst, homes, assignT, assignTs, pick, List.map, List.replicate, List.cons_append, List.nil_append, List.append_nil, List.getD_cons_zero, List.getD_cons_succ]
      rw [bi_tupl (k := m3.length) (xs := encs zs) List.getElem?_concat_length]
      simp only [wpo_some, home_tup]
      exact fin j zs _ _ ⟨hc.pos, hc.le, hc.six, hz⟩ (P3.app _)
  rw [if_neg (by simpa using e1)]
  rw [seqQ_nx, w_scons]
  simp only [w_var, w_con, w_nil, w_cons, w_tup, w_lst, w_bin, w_cmp, w_tand, w_tor, w_tnot, w_tru, w_vand, w_vor, w_vnot, w_one, w_turn, w_ife, w_callp, w_bi, w_isin, w_idx, w_slc, w_nd, w_meth, w_comp, w_snil, w_single, w_asg, w_setix, w_exp, w_ret, w_ifs, w_fors, w_whil, w_brk, w_pass, wpo_some, wpb_some, wpa_tup, wpt_some, wif_bl, wp_ifB, wp_ok, get, put, home_int, home_bl, home_non, home_str, home_tup, home_adr, home_fro, home_lst, homes, assignT, assignTs, pick, List.map, List.replicate, List.cons_append, List.nil_append, List.append_nil, List.getD_cons_zero, List.getD_cons_succ]
  refine take_bx hC B1.box (by omega) (by omega) _ fun u m2 u0 u1 B2 => ?_
  have P2 := P1.bx B2
  obtain ⟨u, rfl⟩ := Int.eq_ofNat_of_zero_le u0
  simp only [b_add, wpo_some]
  refine pick_bx hC (B2.box.app _) (.inr ⟨m2.length, rfl, by have := B2.box.lt; omega, List.getElem?_concat_length⟩) (by decide) (by decide) (by simp [belows, below]) _ fun d m3 hd B3 => ?_
  have P3 := (P2.app _).bx B3
  obtain ⟨r, rfl, r0, r1⟩ : ∃ r : Int, d = .int r ∧ 0 < r ∧ r < 2 ^ 64 := by
    simp only [List.mem_cons, List.not_mem_nil, or_false] at hd
    rcases hd with rfl | rfl | rfl | rfl <;> exact ⟨_, rfl, by decide, by decide⟩
  simp only [home_int]
  rw [seqQ_nx]
  have e1 : (1 + (u : Int)) = ((u + 1 : Nat) : Int) := by omega
  rw [e1]
  simp only [w_var, w_con, w_nil, w_cons, w_tup, w_lst, w_bin, w_cmp, w_tand, w_tor, w_tnot, w_tru, w_vand, w_vor, w_vnot, w_one, w_turn, w_ife, w_callp, w_bi, w_isin, w_idx, w_slc, w_nd, w_meth, w_comp, w_snil, w_single, w_asg, w_setix, w_exp, w_ret, w_ifs, w_fors, w_whil, w_brk, w_pass, wpo_some, wpb_some, wpa_tup, wpt_some, wif_bl, wp_ifB, wp_ok, get, put, home_int, home_bl, home_non, home_str, home_tup, home_adr, home_fro, home_lst, homes, assignT, assignTs, pick, List.map, List.replicate, List.cons_append, List.nil_append, List.append_nil, List.getD_cons_zero, List.getD_cons_succ]
  refine lots_ok (b := u + 1) hC (by omega) _ ?_
  refine ⟨_, _, src_lst _, isBig_of (by rw [encs_len]; have := lots_len (k := u + 1) (by omega); omega), turns_box P3 (fun _ _ _ => snap_at _ _ _) (Nat.le_refl _) (fun x hx acc m' P' => ?_) fun zs m4 hz P4 => ?_⟩
  · rw [w_one]
    simp only [assignT, wipe, clr, put, wpt_some, w_cmp, w_callp, w_cons, w_nil, w_con, w_var, get, wpo_some, wpa_tup, homes, home_int, home_adr, pick, List.append_nil, List.getD_cons_zero, List.getD_cons_succ]
    refine take_bx hC P'.box r0 r1 _ fun t m5 _ _ B => ?_
    simp only [c_eq, c_eqB, wpb_some, wpo_some, wif_bl, home_enc]
    split
    · exact ⟨P'.bx B, by simp⟩
    · exact ⟨P'.bx B, by simp⟩
  · rw [bi_tupT]
    simp only [wpo_some, home_tup]
    exact fin (u + 1) zs _ _ ⟨by omega, by omega, by omega, hz⟩ P4
/-! ### the same -/
mutual
/-- data, at most n deep -/
def dat : Nat → D → Bool
  | _, .non => true | _, .bl _ => true | _, .int _ => true | _, .str x => x.cps.all fun c => decide (c < 0x110000)
  | 0, .tup _ => false
  | n + 1, .tup xs => dats n xs
  | _, .lst _ => false | _, .dct _ _ => false | _, .set _ => false | _, .fro _ => false | _, .adr _ => false | _, .fn _ _ _ _ _ => false | _, .lck _ => false
def dats : Nat → List D → Bool
  | _, [] => true
  | n, x :: xs => dat n x && dats n xs
end
theorem dats_mem : ∀ {n : Nat} {xs : List D} {d : D}, dats n xs = true → d ∈ xs → dat n d = true
  | n, x :: xs, d, h, hd => by
    unfold dats at h
    rw [Bool.and_eq_true] at h
    rcases List.mem_cons.mp hd with e | hd
    · rw [e]; exact h.1
    · exact dats_mem h.2 hd
theorem dat_home {n : Nat} {d : D} (h : dat n d = true) (m : Hm) : home d m = (d, m) := by
  cases d <;> first | rfl | (cases n <;> (unfold dat at h; cases h))
theorem zipL_self : ∀ (xs : List D), zipL xs xs = xs.map fun x => .tup [x, x]
  | [] => rfl
  | x :: xs => by rw [zipL, zipL_self xs]; rfl
theorem same_ok (hC : SameF F) : ∀ (k : Nat) (d : D) (m : Hm) (n : Nat) (Q : D → Hm → Prop), dat k d = true → Q (.bl true) m → wp (callN F wf (n + k + 1) none 3 [d, d] m) Q
  | k, d, m, n, Q, hd, q => by
    refine w_call hC rfl ?_
    dsimp only [cSame]
    simp only [List.map, List.replicate, List.cons_append, List.nil_append]
    have fin : ∀ ρ, wp (finD m.length (.ret (.bl true), ρ) m) Q := fun ρ => fin_ret (by unfold below; rfl) (by rw [List.take_of_length_le (Nat.le_refl _)]; exact q)
    cases d with
    | tup xs =>
      obtain ⟨k, rfl⟩ : ∃ j, k = j + 1 := by
        cases k with
        | zero => unfold dat at hd; cases hd
        | succ k => exact ⟨k, rfl⟩
      rw [dat] at hd
      rw [w_scons, w_ifs]
      simp only [w_tru, w_isin, w_var, get, wpo_some]
      rw [show isTys m (.tup xs) [.tuple] = some true from rfl]
      simp only [wpb_some]
      rw [show truth m (.bl true) = some true from rfl]
      simp only [wpb_some, wif_bl, if_true]
      rw [w_scons, w_ifs]
      simp only [w_tor, w_tnot, w_tru, w_isin, w_cmp, w_bi, w_cons, w_nil, w_var, get, wpo_some, wpa_tup]
      rw [show isTys m (.tup xs) [.tuple] = some true from rfl]
      simp only [wpb_some]
      rw [show truth m (.bl true) = some true from rfl]
      simp only [wpb_some, wp_ifB, if_true, wp_ok, Bool.false_eq_true, if_false, w_cmp, w_bi, w_cons, w_nil, w_var, get, wpo_some, wpa_tup, bi_lenW]
      have lt : ∀ m, lenD m (.tup xs) = some (.int xs.length) := fun _ => rfl
      simp only [lt, wpo_some, c_ne, beq_self_eq_true, Bool.not_true, wpb_some, wif_bl, Bool.false_eq_true, if_false, w_snil]
      rw [seqQ_nx, w_scons]
      simp only [w_var, w_con, w_nil, w_cons, w_tup, w_lst, w_bin, w_cmp, w_tand, w_tor, w_tnot, w_tru, w_vand, w_vor, w_vnot, w_one, w_turn, w_ife, w_callp, w_bi, w_isin, w_idx, w_slc, w_nd, w_meth, w_comp, w_snil, w_single, w_asg, w_setix, w_exp, w_ret, w_ifs, w_fors, w_whil, w_brk, w_pass, wpo_some, wpb_some, wpa_tup, wpt_some, wif_bl, wp_ifB, wp_ok, get, put, home_int, home_bl, home_non, home_str, home_tup, home_adr, home_fro, home_lst, homes, assignT, assignTs, pick, List.map, List.replicate, List.cons_append, List.nil_append, List.append_nil, List.getD_cons_zero, List.getD_cons_succ]
      refine ⟨_, _, rfl, ?_⟩
      refine loop_inv (xs := zipL xs xs) (fun i ρ m' => m' = m ∧ ∃ o2 o3, ρ = [some (.tup xs), some (.tup xs), o2, o3]) _ (fun _ _ _ _ _ => snap_at _ _ _) (fun i d ρ m' hd' I => ?_) (fun ρ m' I => ?_) _ 0 _ _ (Nat.zero_le _) (by rw [zipL_self]; simp) ⟨rfl, _, _, rfl⟩
      · obtain ⟨rfl, o2, o3, rfl⟩ := I
        rw [zipL_self] at hd'
        obtain ⟨x, hx, rfl⟩ := List.mem_map.mp (List.mem_of_getElem? hd')
        have hx' := dats_mem hd hx
        rw [w_turn]
        refine ⟨[some (.tup xs), some (.tup xs), some x, some x], rfl, ?_⟩
        dsimp only
        simp only [w_var, w_con, w_nil, w_cons, w_tup, w_lst, w_bin, w_cmp, w_tand, w_tor, w_tnot, w_tru, w_vand, w_vor, w_vnot, w_one, w_turn, w_ife, w_callp, w_bi, w_isin, w_idx, w_slc, w_nd, w_meth, w_comp, w_snil, w_single, w_asg, w_setix, w_exp, w_ret, w_ifs, w_fors, w_whil, w_brk, w_pass, wpo_some, wpb_some, wpa_tup, wpt_some, wif_bl, wp_ifB, wp_ok, get, put, home_int, home_bl, home_non, home_str, home_tup, home_adr, home_fro, home_lst, homes, assignT, assignTs, pick, List.map, List.replicate, List.cons_append, List.nil_append, List.append_nil, List.getD_cons_zero, List.getD_cons_succ]
        simp only [dat_home hx', homes, pick, List.append_nil, List.getD_cons_zero, List.getD_cons_succ]
        refine same_ok hC k x m' n _ hx' ?_
        rw [show truth m' (.bl true) = some true from rfl]
        simp only [wpb_some, wp_ifB, if_true, wp_ok, wif_bl, Bool.false_eq_true, if_false]
        exact ⟨trivial, _, _, rfl⟩
      · obtain ⟨rfl, o2, o3, rfl⟩ := I
        rw [seqQ_nx]
        simp only [w_var, w_con, w_nil, w_cons, w_tup, w_lst, w_bin, w_cmp, w_tand, w_tor, w_tnot, w_tru, w_vand, w_vor, w_vnot, w_one, w_turn, w_ife, w_callp, w_bi, w_isin, w_idx, w_slc, w_nd, w_meth, w_comp, w_snil, w_single, w_asg, w_setix, w_exp, w_ret, w_ifs, w_fors, w_whil, w_brk, w_pass, wpo_some, wpb_some, wpa_tup, wpt_some, wif_bl, wp_ifB, wp_ok, get, put, home_int, home_bl, home_non, home_str, home_tup, home_adr, home_fro, home_lst, homes, assignT, assignTs, pick, List.map, List.replicate, List.cons_append, List.nil_append, List.append_nil, List.getD_cons_zero, List.getD_cons_succ]
        exact fin _
    | non =>
      rw [w_scons, w_ifs]
      simp only [w_tru, w_isin, w_var, get, wpo_some]
      rw [show isTys m .non [.tuple] = some false from rfl]
      simp only [wpb_some]
      rw [show truth m (.bl false) = some false from rfl]
      simp only [wpb_some, wif_bl, Bool.false_eq_true, if_false, w_snil]
      rw [seqQ_nx, w_scons, w_ifs]
      simp only [w_cmp, w_var, w_con, get, wpo_some]
      rw [show cmpD .is m .non .non = some true from rfl]
      simp only [wpb_some, wif_bl, if_true]
      simp only [w_var, w_con, w_nil, w_cons, w_tup, w_lst, w_bin, w_cmp, w_tand, w_tor, w_tnot, w_tru, w_vand, w_vor, w_vnot, w_one, w_turn, w_ife, w_callp, w_bi, w_isin, w_idx, w_slc, w_nd, w_meth, w_comp, w_snil, w_single, w_asg, w_setix, w_exp, w_ret, w_ifs, w_fors, w_whil, w_brk, w_pass, wpo_some, wpb_some, wpa_tup, wpt_some, wif_bl, wp_ifB, wp_ok, get, put, home_int, home_bl, home_non, home_str, home_tup, home_adr, home_fro, home_lst, homes, assignT, assignTs, pick, List.map, List.replicate, List.cons_append, List.nil_append, List.append_nil, List.getD_cons_zero, List.getD_cons_succ]
      rw [show cmpD .is m .non .non = some true from rfl]
      simp only [wpb_some]
      exact fin _
    | bl b =>
      rw [w_scons, w_ifs]
      simp only [w_tru, w_isin, w_var, get, wpo_some]
      rw [show isTys m (.bl b) [.tuple] = some false from rfl]
      simp only [wpb_some]
      rw [show truth m (.bl false) = some false from rfl]
      simp only [wpb_some, wif_bl, Bool.false_eq_true, if_false, w_snil]
      rw [seqQ_nx, w_scons, w_ifs]
      simp only [w_cmp, w_var, w_con, get, wpo_some]
      rw [show cmpD .is m (.bl b) .non = some false from rfl]
      simp only [wpb_some, wif_bl, Bool.false_eq_true, if_false, w_snil]
      rw [seqQ_nx, w_scons, w_ifs]
      simp only [w_tor, w_cmp, w_var, w_con, get, wpo_some]
      rw [show cmpD .is m (.bl b) (.bl true) = some (b == true) from rfl]
      simp only [wpb_some, wp_ifB, wp_ok, w_cmp, w_var, w_con, get, wpo_some]
      rw [show cmpD .is m (.bl b) (.bl false) = some (b == false) from rfl]
      simp only [wpb_some, wif_bl]
      have e : isTys m (.bl b) [.bool] = some true := rfl
      have e2 : truth m (.bl true) = some true := rfl
      have e3 : cmpD .eq m (.bl b) (.bl b) = some true := by rw [c_eqB]; simp
      cases b
      · simp only [show (false == true) = false from rfl, show (false == false) = true from rfl, Bool.false_eq_true, if_false, if_true]
        simp only [w_var, w_con, w_nil, w_cons, w_tup, w_lst, w_bin, w_cmp, w_tand, w_tor, w_tnot, w_tru, w_vand, w_vor, w_vnot, w_one, w_turn, w_ife, w_callp, w_bi, w_isin, w_idx, w_slc, w_nd, w_meth, w_comp, w_snil, w_single, w_asg, w_setix, w_exp, w_ret, w_ifs, w_fors, w_whil, w_brk, w_pass, wpo_some, wpb_some, wpa_tup, wpt_some, wif_bl, wp_ifB, wp_ok, get, put, home_int, home_bl, home_non, home_str, home_tup, home_adr, home_fro, home_lst, homes, assignT, assignTs, pick, List.map, List.replicate, List.cons_append, List.nil_append, List.append_nil, List.getD_cons_zero, List.getD_cons_succ]
        simp only [e, e2, e3, wpb_some, wtr_some, if_true]
        exact fin _
      · simp only [show (true == true) = true from rfl, if_true]
        simp only [w_var, w_con, w_nil, w_cons, w_tup, w_lst, w_bin, w_cmp, w_tand, w_tor, w_tnot, w_tru, w_vand, w_vor, w_vnot, w_one, w_turn, w_ife, w_callp, w_bi, w_isin, w_idx, w_slc, w_nd, w_meth, w_comp, w_snil, w_single, w_asg, w_setix, w_exp, w_ret, w_ifs, w_fors, w_whil, w_brk, w_pass, wpo_some, wpb_some, wpa_tup, wpt_some, wif_bl, wp_ifB, wp_ok, get, put, home_int, home_bl, home_non, home_str, home_tup, home_adr, home_fro, home_lst, homes, assignT, assignTs, pick, List.map, List.replicate, List.cons_append, List.nil_append, List.append_nil, List.getD_cons_zero, List.getD_cons_succ]
        simp only [e, e2, e3, wpb_some, wtr_some, if_true]
        exact fin _
    | int b =>
      rw [w_scons, w_ifs]
      simp only [w_tru, w_isin, w_var, get, wpo_some]
      rw [show isTys m (.int b) [.tuple] = some false from rfl]
      simp only [wpb_some]
      rw [show truth m (.bl false) = some false from rfl]
      simp only [wpb_some, wif_bl, Bool.false_eq_true, if_false, w_snil]
      rw [seqQ_nx, w_scons, w_ifs]
      simp only [w_cmp, w_var, w_con, get, wpo_some]
      rw [show cmpD .is m (.int b) .non = some false from rfl]
      simp only [wpb_some, wif_bl, Bool.false_eq_true, if_false, w_snil]
      rw [seqQ_nx, w_scons, w_ifs]
      simp only [w_tor, w_cmp, w_var, w_con, get, wpo_some]
      rw [show cmpD .is m (.int b) (.bl true) = some false from rfl]
      simp only [wpb_some, wp_ifB, wp_ok, w_cmp, w_var, w_con, get, wpo_some, Bool.false_eq_true, if_false]
      rw [show cmpD .is m (.int b) (.bl false) = some false from rfl]
      simp only [wpb_some, wif_bl, Bool.false_eq_true, if_false, w_snil]
      rw [seqQ_nx, w_scons, w_ifs]
      simp only [w_tru, w_isin, w_var, get, wpo_some]
      rw [show isTys m (.int b) [.int] = some true from rfl]
      simp only [wpb_some]
      rw [show truth m (.bl true) = some true from rfl]
      simp only [wpb_some, wif_bl, if_true]
      simp only [w_var, w_con, w_nil, w_cons, w_tup, w_lst, w_bin, w_cmp, w_tand, w_tor, w_tnot, w_tru, w_vand, w_vor, w_vnot, w_one, w_turn, w_ife, w_callp, w_bi, w_isin, w_idx, w_slc, w_nd, w_meth, w_comp, w_snil, w_single, w_asg, w_setix, w_exp, w_ret, w_ifs, w_fors, w_whil, w_brk, w_pass, wpo_some, wpb_some, wpa_tup, wpt_some, wif_bl, wp_ifB, wp_ok, get, put, home_int, home_bl, home_non, home_str, home_tup, home_adr, home_fro, home_lst, homes, assignT, assignTs, pick, List.map, List.replicate, List.cons_append, List.nil_append, List.append_nil, List.getD_cons_zero, List.getD_cons_succ]
      have e : isTys m (.int b) [.int] = some true := rfl
      have e1 : isTys m (.int b) [.bool] = some false := rfl
      have e2 : truth m (.bl true) = some true := rfl
      have e4 : truth m (.bl false) = some false := rfl
      have e3 : cmpD .eq m (.int b) (.int b) = some true := by rw [c_eq]; simp
      simp only [e, e1, e2, e3, e4, wpb_some, wtr_some, if_true, Bool.false_eq_true, if_false]
      exact fin _
    | str b =>
      rw [w_scons, w_ifs]
      simp only [w_tru, w_isin, w_var, get, wpo_some]
      rw [show isTys m (.str b) [.tuple] = some false from rfl]
      simp only [wpb_some]
      rw [show truth m (.bl false) = some false from rfl]
      simp only [wpb_some, wif_bl, Bool.false_eq_true, if_false, w_snil]
      rw [seqQ_nx, w_scons, w_ifs]
      simp only [w_cmp, w_var, w_con, get, wpo_some]
      rw [show cmpD .is m (.str b) .non = some false from rfl]
      simp only [wpb_some, wif_bl, Bool.false_eq_true, if_false, w_snil]
      rw [seqQ_nx, w_scons, w_ifs]
      simp only [w_tor, w_cmp, w_var, w_con, get, wpo_some]
      rw [show cmpD .is m (.str b) (.bl true) = some false from rfl]
      simp only [wpb_some, wp_ifB, wp_ok, w_cmp, w_var, w_con, get, wpo_some, Bool.false_eq_true, if_false]
      rw [show cmpD .is m (.str b) (.bl false) = some false from rfl]
      simp only [wpb_some, wif_bl, Bool.false_eq_true, if_false, w_snil]
      rw [seqQ_nx, w_scons, w_ifs]
      simp only [w_tru, w_isin, w_var, get, wpo_some]
      rw [show isTys m (.str b) [.int] = some false from rfl]
      simp only [wpb_some]
      rw [show truth m (.bl false) = some false from rfl]
      simp only [wpb_some, wif_bl, Bool.false_eq_true, if_false, w_snil]
      rw [seqQ_nx]
      simp only [w_var, w_con, w_nil, w_cons, w_tup, w_lst, w_bin, w_cmp, w_tand, w_tor, w_tnot, w_tru, w_vand, w_vor, w_vnot, w_one, w_turn, w_ife, w_callp, w_bi, w_isin, w_idx, w_slc, w_nd, w_meth, w_comp, w_snil, w_single, w_asg, w_setix, w_exp, w_ret, w_ifs, w_fors, w_whil, w_brk, w_pass, wpo_some, wpb_some, wpa_tup, wpt_some, wif_bl, wp_ifB, wp_ok, get, put, home_int, home_bl, home_non, home_str, home_tup, home_adr, home_fro, home_lst, homes, assignT, assignTs, pick, List.map, List.replicate, List.cons_append, List.nil_append, List.append_nil, List.getD_cons_zero, List.getD_cons_succ]
      have e : isTys m (.str b) [.str] = some true := rfl
      have e2 : truth m (.bl true) = some true := rfl
      have hp : pur 40 (.str b) = true := by
        cases k <;> (unfold dat at hd; unfold pur; exact hd)
      have e3 : cmpD .eq m (.str b) (.str b) = some true := by
        show (if pur 40 (.str b) && pur 40 (.str b) then some (eqb (.str b) (.str b)) else none) = _
        rw [if_pos (by rw [hp]; rfl)]
        simp [eqb]
      simp only [e, e2, e3, wpb_some, wtr_some, if_true]
      exact fin _
    | lst xs => cases k <;> (unfold dat at hd; cases hd)
    | dct a b => cases k <;> (unfold dat at hd; cases hd)
    | set a => cases k <;> (unfold dat at hd; cases hd)
    | fro a => cases k <;> (unfold dat at hd; cases hd)
    | adr a => cases k <;> (unfold dat at hd; cases hd)
    | fn a b c d e => cases k <;> (unfold dat at hd; cases hd)
    | lck u => cases k <;> (unfold dat at hd; cases hd)
end
end Bell
end

section
set_option maxRecDepth 100000
/-! what laws share: their start -/
namespace Bell
open PySem (Str)
/-- a truth is asked -/
theorem t_blL (b : Bool) (m : Hm) : truth m (.bl b) = some b := rfl
theorem dats_encs : ∀ (n : Nat) (xs : List Lot), dats (n + 1) (encs xs) = true
  | n, [] => by unfold encs dats; rfl
  | n, x :: xs => by
    have hI : ∀ x : List Int, dats n (x.map .int) = true := fun x => by
      induction x with
      | nil => unfold dats; rfl
      | cons a x ih => rw [List.map_cons, dats, ih]; unfold dat; rfl
    have := dats_encs n xs
    unfold encs at this ⊢
    rw [List.map_cons, dats, this]
    unfold encI
    rw [dat, hI]
    rfl
theorem dat_encI (n : Nat) (x : Lot) : dat (n + 1) (encI x) = true := by
  have h : dats n (x.map D.int) = true := by
    induction x with
    | nil => unfold dats; rfl
    | cons a x ih => rw [List.map_cons, dats, ih]; unfold dat; rfl
  unfold encI
  rw [dat]
  exact h
theorem dat_cnd (k : Nat) (ys : List Lot) : dat 3 (cnd k ys) = true := by
  have h : dats 1 (encs ys) = true := dats_encs 0 ys
  unfold cnd
  simp [dat, dats, h]
theorem pre_of {m m' : Hm} (hl : m.length ≤ m'.length) (h : ∀ j, j < m.length → m'[j]? = m[j]?) : ∃ l, m' = m ++ l := by
  refine ⟨m'.drop m.length, ?_⟩
  have : m'.take m.length = m := by
    apply List.ext_getElem?
    intro j
    rw [List.getElem?_take]
    split
    · rename_i hj; exact h j hj
    · rename_i hj; exact (List.getElem?_eq_none (by omega)).symm
  conv => lhs; rw [← List.take_append_drop m.length m']
  rw [this]
theorem scr_at {ns : List Int} {sv : D} {m : Hm} (s : Scr ns sv m) (l : Hm) : ScrAt ns sv (m ++ l) := by
  rcases s with ⟨rfl, rfl⟩ | ⟨rfl, rfl⟩
  · exact ⟨.inr (.inr rfl), fun _ => rfl⟩
  · exact ⟨.inl rfl, fun _ => rfl⟩
/-- the same new frame stands on the old heap -/
theorem Px.pre {m m0 m' : Hm} {l : Hm} {k : Nat} (e : m0 = m ++ l) (hk : m.length ≤ k) (P : Px k m0 m') : ∃ l', m' = m ++ l' := by
  subst e
  refine pre_of (by have := P.len; simp at this; omega) fun j hj => ?_
  rw [P.out j (by simp; omega) (by omega), List.getElem?_append_left hj]
theorem lots_cnd {b : Nat} : D.tup [.int (b : Int), .tup (encs (lotsI b))] = cnd b (lotsI b) := rfl
/-- for k in range(max(4, min(len(script), 8))): box = _law_box(script, k); B -/
def cLaw (B : S) : S := .cons (.fors .rng (.cons (.bi .max (.cons (.con (.int 4)) (.cons (.bi .min (.cons (.bi .len (.cons (.var 0) .nil)) (.cons (.con (.int 8)) .nil))) .nil))) .nil) (.nm 1) (.cons (.asg (.nm 2) (.callp 0 [0, 1] [] (.cons (.var 0) (.cons (.var 1) .nil)))) B)) (.cons (.ret (.con (.bl true))) .nil)
/-- how a turn of a law ends -/
def Turn (m : Hm) (sv : D) (q : Nat) (p : Fl × Env) (m' : Hm) : Prop := (p.1 = .nx ∨ p.1 = .cnt) ∧ (∃ l, m' = m ++ l) ∧ ∃ o1 o2 os, p.2 = some sv :: o1 :: o2 :: os ∧ os.length = q
theorem law_start {F : Nat → Option Fd} {wf n fi q : Nat} (hC : ComT F) {B : S} (hF : F fi = some ⟨1, q + 3, cLaw B⟩) {ns : List Int} (hn : ns.length ≤ 63) {sv : D} {m : Hm} (s : Scr ns sv m)
    (h : ∀ (t : Nat) (l : Hm) (k : Nat) (os : List (Option D)), t < 8 → os.length = q → m.length ≤ k → BoxAt (m ++ l) k → wp (ex (cfN F wf (n + 1) m) B (some sv :: some (.int (t : Int)) :: some (.adr k) :: os) (m ++ l)) (Turn m sv q)) :
    wp (callN F wf (n + 2) none fi [sv] m) fun d _ => d = .bl true := by
  refine w_call (n := n + 1) hF rfl ?_
  dsimp only [cLaw]
  rw [w_scons]
  simp only [w_var, w_con, w_nil, w_cons, w_tup, w_lst, w_bin, w_cmp, w_tand, w_tor, w_tnot, w_tru, w_vand, w_vor, w_vnot, w_one, w_turn, w_ife, w_callp, w_bi, w_isin, w_idx, w_slc, w_nd, w_meth, w_comp, w_snil, w_single, w_asg, w_setix, w_exp, w_ret, w_ifs, w_fors, w_whil, w_brk, w_pass, wpo_some, wpb_some, wpa_tup, wpt_some, wif_bl, wp_ifB, wp_ok, get, put, home_int, home_bl, home_non, home_str, home_tup, home_adr, home_fro, home_lst, homes, assignT, assignTs, pick, List.map, List.replicate, List.cons_append, List.nil_append, List.append_nil, List.getD_cons_zero, List.getD_cons_succ]
  have s0 := scr_at s []
  rw [List.append_nil] at s0
  simp only [List.map_cons, List.map_nil, List.cons_append, List.nil_append, get, bi_lenW, len_at s0.d, List.length_map, wpo_some, b_min, b_max]
  generalize hc : (if (if (8 : Int) < (ns.length : Int) then (8 : Int) else (ns.length : Int)) > 4 then (if (8 : Int) < (ns.length : Int) then (8 : Int) else (ns.length : Int)) else 4) = c
  have hc0 : 0 ≤ c ∧ c ≤ 8 := by rw [← hc]; split <;> (try split) <;> omega
  refine ⟨_, _, src_rng hc0.1 (by omega), ?_⟩
  refine loop_inv (xs := rangeL 0 c.toNat) (fun t ρ m' => (∃ l, m' = m ++ l) ∧ ∃ o1 o2 os, ρ = some sv :: o1 :: o2 :: os ∧ os.length = q) _ (fun _ _ _ _ _ => snap_at _ _ _) (fun t d ρ m' hd I => ?_) (fun ρ m' I => ?_) _ 0 _ _ (Nat.zero_le _) (by rw [rangeL_lenW]; omega) ⟨⟨[], by simp⟩, none, none, List.replicate q none, ?_, by simp⟩
  · obtain ⟨⟨l, rfl⟩, o1, o2, os, rfl, hos⟩ := I
    obtain ⟨ht, hd2⟩ : t < c.toNat ∧ d = .int (t : Int) := by
      have h1 := (List.getElem?_eq_some_iff.mp hd).1
      rw [rangeL_lenW] at h1
      rw [rangeL_eq, List.getElem?_map, List.getElem?_range h1] at hd
      simp at hd
      exact ⟨h1, hd.symm⟩
    subst hd2
    have st := scr_at s l
    rw [w_turn]
    refine ⟨_, rfl, ?_⟩
    dsimp only [put]
    rw [w_scons, w_asg, w_callp]
    simp only [w_cons, w_nil, w_var, get, wpo_some, wpa_tup]
    simp only [st.h, homes, home_int, pick, List.nil_append, List.append_nil, List.getD_cons_zero, List.getD_cons_succ]
    refine box_ok (n := n) hC st (by omega) (by omega) _ fun a b v => ?_
    simp only [home_lst, assignT, put, wpt_some]
    rw [seqQ_nx]
    have hb : BoxAt (m ++ (l ++ [D.lst [.int a, .int b]])) (m ++ l).length := ⟨a, b, v, by rw [← List.append_assoc]; exact List.getElem?_concat_length⟩
    have := h t (l ++ [D.lst [.int a, .int b]]) (m ++ l).length os (by omega) hos (by simp) hb
    rw [List.append_assoc]
    refine this.mono fun p m' hT => ?_
    obtain ⟨hf, hm, o1, o2, os', e, ho⟩ := hT
    obtain ⟨fl, ρ'⟩ := p
    dsimp only at hf e
    rcases hf with rfl | rfl
    · exact ⟨hm, o1, o2, os', e, ho⟩
    · exact ⟨hm, o1, o2, os', e, ho⟩
  · obtain ⟨⟨l, rfl⟩, o1, o2, os, rfl, hos⟩ := I
    rw [seqQ_nx]
    simp only [w_var, w_con, w_nil, w_cons, w_tup, w_lst, w_bin, w_cmp, w_tand, w_tor, w_tnot, w_tru, w_vand, w_vor, w_vnot, w_one, w_turn, w_ife, w_callp, w_bi, w_isin, w_idx, w_slc, w_nd, w_meth, w_comp, w_snil, w_single, w_asg, w_setix, w_exp, w_ret, w_ifs, w_fors, w_whil, w_brk, w_pass, wpo_some, wpb_some, wpa_tup, wpt_some, wif_bl, wp_ifB, wp_ok, get, put, home_int, home_bl, home_non, home_str, home_tup, home_adr, home_fro, home_lst, homes, assignT, assignTs, pick, List.map, List.replicate, List.cons_append, List.nil_append, List.append_nil, List.getD_cons_zero, List.getD_cons_succ]
    refine fin_ret (by unfold below; rfl) rfl
  · rw [show q + 3 - 1 = q + 2 by omega]
    rfl
end Bell
end

section
set_option maxRecDepth 100000
/-! trees: how great they are -/
namespace Bell
def inside (a b : Lot) : Bool := a.all fun x => decide (x ∈ b)
/-- of the lots of the other sort within, those that lie in no other -/
def others (k : Nat) (ys : List Lot) (lot : Lot) : List Lot := (lotsI k).filter fun x => inside x lot && (decide (x ∈ ys) != decide (lot ∈ ys))
def kids (k : Nat) (ys : List Lot) (lot : Lot) : List Lot := (others k ys lot).filter fun a => !(others k ys lot).any fun b => !decide (a = b) && inside a b
theorem inside_iff {a b : Lot} : inside a b = true ↔ ∀ x ∈ a, x ∈ b := by
  unfold inside
  simp
theorem pairs_tab : ∀ k : Fin 7, ((lotsI k).all fun a => (lotsI k).all fun b => !(inside a b && inside b a) || decide (a = b)) = true := by decide +kernel
theorem nodup_tab : ∀ k : Fin 7, (lotsI k).Nodup ∧ ((lotsI k).all fun a => decide a.Nodup) = true ∧ (1 ≤ k.val → (List.range k.val).map (fun (i : Nat) => (i : Int)) ∈ lotsI k) := by decide +kernel
theorem inside_anti {k : Nat} (hk : k ≤ 6) {a b : Lot} (ha : a ∈ lotsI k) (hb : b ∈ lotsI k) (h1 : inside a b = true) (h2 : inside b a = true) : a = b := by
  have := List.all_eq_true.mp (List.all_eq_true.mp (pairs_tab ⟨k, by omega⟩) a ha) b hb
  simp only [h1, h2, Bool.and_self, Bool.not_true, Bool.false_or, decide_eq_true_eq] at this
  exact this
theorem lot_nodup {k : Nat} (hk : k ≤ 6) {a : Lot} (ha : a ∈ lotsI k) : a.Nodup := of_decide_eq_true (List.all_eq_true.mp (nodup_tab ⟨k, by omega⟩).2.1 a ha)
theorem len_le : ∀ {c A : List Int}, c.Nodup → (∀ x ∈ c, x ∈ A) → c.length ≤ A.length
  | [], A, _, _ => Nat.zero_le _
  | x :: c, A, hn, hs => by
    obtain ⟨h1, h2⟩ := List.nodup_cons.mp hn
    have hx : x ∈ A := hs x List.mem_cons_self
    have := len_le (c := c) (A := A.erase x) h2 fun y hy => (List.mem_erase_of_ne (fun e => h1 (by rw [← e]; exact hy))).mpr (hs y (List.mem_cons_of_mem _ hy))
    rw [List.length_erase_of_mem hx] at this
    have : 0 < A.length := List.length_pos_of_mem hx
    simp only [List.length_cons]
    omega
/-- how many rows a lot of so many bells has at most -/
def T : Nat → Nat
  | 0 => 1
  | n + 1 => 1 + (n + 1) * T n
theorem T_mono : ∀ {a b : Nat}, a ≤ b → T a ≤ T b := by
  intro a b h
  induction b with
  | zero => have : a = 0 := by omega
            subst this; exact Nat.le_refl _
  | succ b ih =>
    by_cases e : a = b + 1
    · subst e; exact Nat.le_refl _
    · have := ih (by omega)
      have e2 : T (b + 1) = 1 + (b + 1) * T b := rfl
      rw [e2]
      have h2 : 1 * T b ≤ (b + 1) * T b := Nat.mul_le_mul_right _ (by omega)
      omega
def sumT (S : List Lot) : Nat := (S.map fun c => T c.length).sum
theorem sumT_cons (c : Lot) (S : List Lot) : sumT (c :: S) = T c.length + sumT S := by unfold sumT; simp
theorem sumT_app (S U : List Lot) : sumT (S ++ U) = sumT S + sumT U := by unfold sumT; simp
def Anti (S : List Lot) : Prop := S.Pairwise fun a b => inside a b = false ∧ inside b a = false
theorem sumT_split (p : Lot → Bool) : ∀ S : List Lot, sumT S = sumT (S.filter p) + sumT (S.filter fun c => !p c)
  | [] => rfl
  | c :: S => by
    rw [sumT_cons, sumT_split p S]
    by_cases h : p c = true
    · rw [List.filter_cons_of_pos h, List.filter_cons_of_neg (by simp [h]), sumT_cons]; omega
    · rw [List.filter_cons_of_neg h, List.filter_cons_of_pos (by simp [h]), sumT_cons]; omega
theorem miss {B : Nat} {S : List Lot} : ∀ (X : List Int) (S : List Lot), Anti S → (∀ c ∈ S, ∃ x ∈ X, x ∉ c) → (∀ x ∈ X, ∀ S' : List Lot, Anti S' → (∀ c ∈ S', c ∈ S ∧ x ∉ c) → sumT S' ≤ B) → sumT S ≤ X.length * B
  | [], S, _, h, _ => by
    cases S with
    | nil => exact Nat.zero_le _
    | cons c S => obtain ⟨x, hx, _⟩ := h c List.mem_cons_self; cases hx
  | x :: X, S, hA, h, hB => by
    rw [sumT_split (fun c => !decide (x ∈ c)) S]
    have h1 := hB x List.mem_cons_self (S.filter fun c => !decide (x ∈ c)) (List.Pairwise.sublist List.filter_sublist hA) fun c hc => by
      obtain ⟨a, b⟩ := List.mem_filter.mp hc
      exact ⟨a, by simpa using b⟩
    have h2 := miss (S := S) X (S.filter fun c => !!decide (x ∈ c)) (List.Pairwise.sublist List.filter_sublist hA) (fun c hc => by
      obtain ⟨a, b⟩ := List.mem_filter.mp hc
      obtain ⟨y, hy, hn⟩ := h c a
      rcases List.mem_cons.mp hy with e | hy
      · subst e; simp at b; exact absurd b hn
      · exact ⟨y, hy, hn⟩) fun y hy S' hS' hc => hB y (List.mem_cons_of_mem _ hy) S' hS' fun c hcc => ⟨(List.mem_filter.mp (hc c hcc).1).1, (hc c hcc).2⟩
    simp only [List.length_cons]
    rw [Nat.add_mul, Nat.one_mul]
    omega
theorem anti_le : ∀ (n : Nat) (A : List Int) (S : List Lot), A.length = n → A.Nodup → Anti S → (∀ c ∈ S, c.Nodup ∧ ∀ x ∈ c, x ∈ A) → sumT S ≤ T n
  | n, A, S, hn, hA, hS, hc => by
    by_cases hf : ∃ c ∈ S, ∀ x ∈ A, x ∈ c
    · obtain ⟨c, hcS, hcA⟩ := hf
      obtain ⟨l1, l2, rfl⟩ := List.append_of_mem hcS
      have p1 := List.pairwise_append.mp hS
      have e1 : l1 = [] := by
        cases l1 with
        | nil => rfl
        | cons a l => 
          have := (p1.2.2 a List.mem_cons_self c List.mem_cons_self).1
          rw [inside_iff.mpr fun x hx => hcA x ((hc a (by simp)).2 x hx)] at this
          cases this
      have e2 : l2 = [] := by
        cases l2 with
        | nil => rfl
        | cons a l =>
          have := ((List.pairwise_cons.mp p1.2.1).1 a List.mem_cons_self).2
          rw [inside_iff.mpr fun x hx => hcA x ((hc a (by simp)).2 x hx)] at this
          cases this
      subst e1
      subst e2
      have := len_le (hc c hcS).1 (hc c hcS).2
      show sumT [c] ≤ _
      rw [sumT_cons]
      have := T_mono (a := c.length) (b := n) (by omega)
      have : sumT [] = 0 := rfl
      omega
    · have hm : ∀ c ∈ S, ∃ x ∈ A, x ∉ c := fun c hcS => by
        by_cases z : ∃ x ∈ A, x ∉ c
        · exact z
        · exact absurd ⟨c, hcS, fun x hx => by
            by_cases w : x ∈ c
            · exact w
            · exact absurd ⟨x, hx, w⟩ z⟩ hf
      cases n with
      | zero =>
        cases S with
        | nil => exact Nat.zero_le _
        | cons c S =>
          obtain ⟨x, hx, _⟩ := hm c List.mem_cons_self
          have := List.length_pos_of_mem hx
          omega
      | succ n =>
        have := miss (B := T n) (S := S) A S hS hm fun x hx S' hS' hcc => anti_le n (A.erase x) S' (by rw [List.length_erase_of_mem hx]; omega) (hA.erase x) hS' fun c h => ⟨(hc c (hcc c h).1).1, fun y hy => by
          have hne : y ≠ x := fun e => (hcc c h).2 (by rw [← e]; exact hy)
          exact (List.mem_erase_of_ne hne).mpr ((hc c (hcc c h).1).2 y hy)⟩
        rw [hn] at this
        unfold T
        omega
/-- .. of proper parts -/
theorem anti_lt {A : List Int} {S : List Lot} (hA : A.Nodup) (hS : Anti S) (hc : ∀ c ∈ S, c.Nodup ∧ ∀ x ∈ c, x ∈ A) (hm : ∀ c ∈ S, ∃ x ∈ A, x ∉ c) : sumT S + 1 ≤ T A.length := by
  cases hn : A.length with
  | zero =>
    cases S with
    | nil => exact Nat.le_refl _
    | cons c S =>
      obtain ⟨x, hx, _⟩ := hm c List.mem_cons_self
      have := List.length_pos_of_mem hx
      omega
  | succ n =>
    have := miss (B := T n) (S := S) A S hS hm fun x hx S' hS' hcc => anti_le n (A.erase x) S' (by rw [List.length_erase_of_mem hx]; omega) (hA.erase x) hS' fun c h => ⟨(hc c (hcc c h).1).1, fun y hy => by
      have hne : y ≠ x := fun e => (hcc c h).2 (by rw [← e]; exact hy)
      exact (List.mem_erase_of_ne hne).mpr ((hc c (hcc c h).1).2 y hy)⟩
    rw [hn] at this
    unfold T
    omega
theorem kids_sub {k : Nat} {ys : List Lot} {lot a : Lot} (h : a ∈ kids k ys lot) : a ∈ lotsI k ∧ inside a lot = true ∧ decide (a ∈ ys) ≠ decide (lot ∈ ys) := by
  have := List.mem_filter.mp (List.mem_filter.mp h).1
  refine ⟨this.1, ?_⟩
  simpa using this.2
theorem kids_anti {k : Nat} (hk : k ≤ 6) (ys : List Lot) (lot : Lot) : Anti (kids k ys lot) := by
  have hn : (kids k ys lot).Nodup := ((nodup_tab ⟨k, by omega⟩).1.filter _).filter _
  have key : ∀ a ∈ kids k ys lot, ∀ b ∈ kids k ys lot, a ≠ b → inside a b = false := fun a ha b hb hne => by
    have h1 := (List.mem_filter.mp ha).2
    have h2 := (List.mem_filter.mp hb).1
    simp only [Bool.not_eq_true', List.any_eq_false] at h1
    have := h1 b h2
    simpa [hne] using this
  exact (hn.imp_of_mem fun {a b} ha hb hne => ⟨key a ha b hb hne, key b hb a ha hne.symm⟩)
theorem kids_T {k : Nat} (hk : k ≤ 6) (ys : List Lot) {lot : Lot} (hl : lot ∈ lotsI k) : sumT (kids k ys lot) + 1 ≤ T lot.length := by
  refine anti_lt (lot_nodup hk hl) (kids_anti hk ys lot) (fun c hc => ⟨lot_nodup hk (kids_sub hc).1, inside_iff.mp (kids_sub hc).2.1⟩) fun c hc => ?_
  obtain ⟨h1, h2, h3⟩ := kids_sub hc
  by_cases z : ∃ x ∈ lot, x ∉ c
  · exact z
  · have : inside lot c = true := inside_iff.mpr fun x hx => by
      by_cases w : x ∈ c
      · exact w
      · exact absurd ⟨x, hx, w⟩ z
    have := inside_anti hk h1 hl h2 this
    subst this
    exact absurd rfl h3
/-! ### rows -/
structure Tr where
  L : List Lot
  P : List D
  C : List D
def full (k : Nat) : Lot := (List.range k).map fun (i : Nat) => (i : Int)
def Tr.step (k : Nat) (ys : List Lot) (s : Tr) : Tr :=
  let q := kids k ys (s.L.getD s.C.length [])
  ⟨s.L ++ q, s.P ++ q.map (fun _ => .int (s.C.length : Int)), s.C ++ [.tup (rangeL (s.L.length : Int) q.length)]⟩
def run (k : Nat) (ys : List Lot) : Nat → Tr
  | 0 => ⟨[full k], [.non], []⟩
  | t + 1 => (run k ys t).step k ys
theorem run_C (k : Nat) (ys : List Lot) : ∀ t, (run k ys t).C.length = t
  | 0 => rfl
  | t + 1 => by
    show ((run k ys t).C ++ [_]).length = _
    rw [List.length_append, run_C k ys t]
    rfl
theorem run_P (k : Nat) (ys : List Lot) : ∀ t, (run k ys t).P.length = (run k ys t).L.length
  | 0 => rfl
  | t + 1 => by
    show ((run k ys t).P ++ _).length = ((run k ys t).L ++ _).length
    rw [List.length_append, List.length_append, run_P k ys t, List.length_map]
/-- where the rows end -/
structure Ends (k : Nat) (ys : List Lot) (N : Nat) : Prop where
  at_ : (run k ys N).L.length = N
  lt : ∀ t, t < N → t < (run k ys t).L.length
  le : N ≤ 1957
  pos : 1 ≤ N
theorem run_lots {k : Nat} (h1 : 1 ≤ k) (hk : k ≤ 6) (ys : List Lot) : ∀ t, ∀ a ∈ (run k ys t).L, a ∈ lotsI k
  | 0, a, h => by
    have e : a = full k := List.mem_singleton.mp h
    rw [e]
    exact (nodup_tab ⟨k, by omega⟩).2.2 h1
  | t + 1, a, h => by
    rcases List.mem_append.mp h with h | h
    · exact run_lots h1 hk ys t a h
    · exact (kids_sub h).1
theorem run_T {k : Nat} (h1 : 1 ≤ k) (hk : k ≤ 6) (ys : List Lot) : ∀ t, (∀ u, u < t → u < (run k ys u).L.length) → t + sumT ((run k ys t).L.drop t) ≤ T k
  | 0, _ => by
    show 0 + sumT [full k] ≤ _
    rw [sumT_cons]
    have : (full k).length = k := by unfold full; simp
    rw [this]
    have : sumT [] = 0 := rfl
    omega
  | t + 1, h => by
    have ih := run_T h1 hk ys t fun u hu => h u (by omega)
    have ht := h t (by omega)
    show t + 1 + sumT (((run k ys t).L ++ kids k ys ((run k ys t).L.getD (run k ys t).C.length [])).drop (t + 1)) ≤ _
    rw [run_C, List.drop_append_of_le_length (by omega), sumT_app]
    have e : (run k ys t).L.drop t = (run k ys t).L[t] :: (run k ys t).L.drop (t + 1) := List.drop_eq_getElem_cons ht
    rw [e, sumT_cons] at ih
    have e2 : (run k ys t).L.getD t [] = (run k ys t).L[t] := by rw [List.getD_eq_getElem?_getD, List.getElem?_eq_getElem ht]; rfl
    rw [e2]
    have := kids_T hk ys (run_lots h1 hk ys t _ (List.getElem_mem ht))
    omega
theorem T_six {k : Nat} (hk : k ≤ 6) : T k ≤ 1957 := Nat.le_trans (T_mono hk) (by decide)
theorem ends {k : Nat} (h1 : 1 ≤ k) (hk : k ≤ 6) (ys : List Lot) : ∃ N, Ends k ys N := by
  have T6 := T_six hk
  have mono : ∀ t, t ≤ (run k ys t).L.length → (run k ys t).L.length ≤ t → (∀ u, u < t → u < (run k ys u).L.length) → Ends k ys t := fun t a b c => ⟨by omega, c, by have := run_T h1 hk ys t c; omega, by
    cases t with
    | zero => have : (run k ys 0).L.length = 1 := rfl
              omega
    | succ t => omega⟩
  have go : ∀ d t, d + t = 1958 → (∀ u, u < t → u < (run k ys u).L.length) → ∃ N, Ends k ys N := by
    intro d
    induction d with
    | zero =>
      intro t ht c
      have := run_T h1 hk ys t c
      omega
    | succ d ih =>
      intro t ht c
      by_cases z : t < (run k ys t).L.length
      · exact ih (t + 1) (by omega) fun u hu => by
          by_cases e : u = t
          · subst e; exact z
          · exact c u (by omega)
      · refine ⟨t, mono t ?_ (by omega) c⟩
        cases t with
        | zero => exact Nat.zero_le _
        | succ t =>
          have := c t (by omega)
          show t + 1 ≤ ((run k ys t).L ++ _).length
          rw [List.length_append]
          omega
  exact go 1958 0 rfl fun u hu => by omega
end Bell
end

section
set_option maxRecDepth 100000
/-! the defs that make trees -/
namespace Bell
open PySem (Str)
def cWithin : S := .cons (.fors .val (.cons (.var 0) .nil) (.nm 2) (.cons (.ifs (.cmp .nin (.var 2) (.var 1)) (.cons (.ret (.con (.bl false))) .nil) .nil) .nil)) (.cons (.ret (.con (.bl true))) .nil)
def cPleases : S := .cons (.ret (.cmp .inn (.var 1) (.idx (.var 0) (.con (.int 1))))) .nil
def cLotsW : S := .cons (.asg (.nm 1) (.lst (.cons (.tup .nil) .nil))) (.cons (.fors .val (.cons (.var 0) .nil) (.nm 2) (.cons (.asg (.nm 1) (.bin .add (.var 1) (.comp .val (.cons (.var 1) .nil) (.nm 3) (.con (.bl true)) (.bin .add (.var 3) (.tup (.cons (.var 2) .nil))) [3]))) .nil)) (.cons (.ret (.bi .tuple (.cons (.slc (.bi .sorted (.cons (.var 1) .nil)) (.nd (.con (.int 1))) (.con .non)) .nil))) .nil))
def cGreat : S := .cons (.asg (.nm 2) (.callp 11 [0, 1] [] (.cons (.var 0) (.cons (.var 1) .nil)))) (.cons (.asg (.nm 3) (.comp .val (.cons (.callp 12 [0] [] (.cons (.var 1) .nil)) .nil) (.nm 4) (.cmp .ne (.callp 11 [0, 1] [] (.cons (.var 0) (.cons (.var 4) .nil))) (.var 2)) (.var 4) [4])) (.cons (.ret (.bi .tuple (.cons (.comp .val (.cons (.var 3) .nil) (.nm 4) (.tnot (.tru (.bi .any (.cons (.comp .val (.cons (.var 3) .nil) (.nm 5) (.con (.bl true)) (.vand (.cmp .ne (.var 4) (.var 5)) (.callp 10 [0, 1] [] (.cons (.var 4) (.cons (.var 5) .nil)))) [5]) .nil)))) (.var 4) [4]) .nil))) .nil))
def cSplit : S := .cons (.asg (.tup (.cons (.nm 1) (.cons (.nm 2) (.cons (.nm 3) (.cons (.nm 4) .nil))))) (.tup (.cons (.lst (.cons (.bi .tupR (.cons (.idx (.var 0) (.con (.int 0))) .nil)) .nil)) (.cons (.lst (.cons (.con .non) .nil)) (.cons (.lst .nil) (.cons (.con (.int 0)) .nil)))))) (.cons (.whil (.cmp .lt (.var 4) (.bi .len (.cons (.var 1) .nil))) (.cons (.asg (.nm 5) (.callp 13 [0, 1] [] (.cons (.var 0) (.cons (.idx (.var 1) (.var 4)) .nil)))) (.cons (.exp (.meth .append (.var 3) (.cons (.bi .tupR (.cons (.bi .len (.cons (.var 1) .nil)) (.cons (.bin .add (.bi .len (.cons (.var 1) .nil)) (.bi .len (.cons (.var 5) .nil))) .nil))) .nil))) (.cons (.exp (.meth .extend (.var 1) (.cons (.bi .list (.cons (.var 5) .nil)) .nil))) (.cons (.exp (.meth .extend (.var 2) (.cons (.comp .val (.cons (.var 5) .nil) (.nm 6) (.con (.bl true)) (.var 4) [6]) .nil))) (.cons (.aug 4 .add (.con (.int 1))) .nil)))))) (.cons (.ret (.bi .tuple (.cons (.bi .z3 (.cons (.var 1) (.cons (.var 2) (.cons (.var 3) .nil)))) .nil))) .nil))
def cInside : S := .cons (.ret (.cmp .eq (.comp .val (.cons (.var 0) .nil) (.nm 2) (.cmp .nin (.var 2) (.var 1)) (.con (.int 1)) [2]) (.lst .nil))) .nil
def cKids : S := .cons (.asg (.nm 2) (.cmp .inn (.var 1) (.idx (.var 0) (.con (.int 1))))) (.cons (.asg (.nm 3) (.comp .val (.cons (.callp 4 [0] [] (.cons (.idx (.var 0) (.con (.int 0))) .nil)) .nil) (.nm 4) (.tand (.tru (.callp 15 [0, 1] [] (.cons (.var 4) (.cons (.var 1) .nil)))) (.cmp .ne (.cmp .inn (.var 4) (.idx (.var 0) (.con (.int 1)))) (.var 2))) (.var 4) [4])) (.cons (.ret (.comp .val (.cons (.var 3) .nil) (.nm 4) (.cmp .eq (.comp .val (.cons (.var 3) .nil) (.nm 5) (.tand (.cmp .ne (.var 5) (.var 4)) (.tru (.callp 15 [0, 1] [] (.cons (.var 4) (.cons (.var 5) .nil))))) (.con (.int 1)) [5]) (.lst .nil)) (.var 4) [4])) .nil))
def cTree : S := .cons (.asg (.tup (.cons (.nm 1) (.cons (.nm 2) .nil))) (.tup (.cons (.lst (.cons (.tup (.cons (.bi .tupR (.cons (.idx (.var 0) (.con (.int 0))) .nil)) (.cons (.con .non) .nil))) .nil)) (.cons (.lst .nil) .nil)))) (.cons (.fors .rng (.cons (.con (.int 2000)) .nil) (.nm 3) (.cons (.ifs (.cmp .eq (.var 3) (.bi .len (.cons (.var 1) .nil))) (.cons .brk .nil) .nil) (.cons (.asg (.nm 4) (.callp 16 [0, 1] [] (.cons (.var 0) (.cons (.idx (.idx (.var 1) (.var 3)) (.con (.int 0))) .nil)))) (.cons (.exp (.meth .append (.var 2) (.cons (.tup (.cons (.idx (.idx (.var 1) (.var 3)) (.con (.int 0))) (.cons (.idx (.idx (.var 1) (.var 3)) (.con (.int 1))) (.cons (.bi .tupR (.cons (.bi .len (.cons (.var 1) .nil)) (.cons (.bin .add (.bi .len (.cons (.var 1) .nil)) (.bi .len (.cons (.var 4) .nil))) .nil))) .nil)))) .nil))) (.cons (.asg (.nm 1) (.bin .add (.var 1) (.comp .val (.cons (.var 4) .nil) (.nm 5) (.con (.bl true)) (.tup (.cons (.var 5) (.cons (.bi .int (.cons (.var 3) .nil)) .nil))) [5]))) .nil))))) (.cons (.ret (.bi .tuple (.cons (.var 2) .nil))) .nil))
def cPaths : S := .cons (.asg (.nm 1) (.lst .nil)) (.cons (.fors .enum (.cons (.var 0) .nil) (.tup (.cons (.nm 2) (.cons (.nm 3) .nil))) (.cons (.exp (.meth .append (.var 1) (.cons (.ife (.cmp .is (.idx (.var 3) (.con (.int 1))) (.con .non)) (.tup (.cons (.var 2) .nil)) (.bin .add (.idx (.var 1) (.idx (.var 3) (.con (.int 1)))) (.tup (.cons (.var 2) .nil)))) .nil))) .nil)) (.cons (.ret (.var 1)) .nil))
def cLeaves : S := .cons (.ret (.bi .sorted (.cons (.comp .zip (.cons (.callp 18 [0] [] (.cons (.var 0) .nil)) (.cons (.var 0) .nil)) (.tup (.cons (.nm 1) (.cons (.nm 2) .nil))) (.cmp .eq (.idx (.var 2) (.con (.int 2))) (.tup .nil)) (.var 1) [1, 2]) .nil))) .nil
def cLight : S := .cons (.fors .rng (.cons (.con (.int 8)) .nil) (.nm 3) (.cons (.asg (.nm 4) (.callp 9 [0, 1] [] (.cons (.var 0) (.cons (.var 1) .nil)))) (.cons (.ifs (.cmp .le (.bi .len (.cons (.callp 19 [0] [] (.cons (.callp 17 [0] [] (.cons (.var 4) .nil)) .nil)) .nil)) (.var 2)) (.cons (.ret (.var 4)) .nil) .nil) .nil))) (.cons (.ret (.tup (.cons (.con (.int 2)) (.cons (.tup (.cons (.tup (.cons (.con (.int 0)) (.cons (.con (.int 1)) .nil))) .nil)) .nil)))) .nil)
structure TreeP (F : Nat → Option Fd) : Prop where
  fWithin : F 10 = some ⟨2, 3, cWithin⟩
  fPleases : F 11 = some ⟨2, 2, cPleases⟩
  fLotsW : F 12 = some ⟨1, 4, cLotsW⟩
  fGreat : F 13 = some ⟨2, 6, cGreat⟩
  fSplit : F 14 = some ⟨1, 7, cSplit⟩
structure TreeF (F : Nat → Option Fd) : Prop extends TreeP F where
  fInside : F 15 = some ⟨2, 3, cInside⟩
  fKids : F 16 = some ⟨2, 6, cKids⟩
  fTree : F 17 = some ⟨1, 6, cTree⟩
  fPaths : F 18 = some ⟨1, 4, cPaths⟩
  fLeaves : F 19 = some ⟨1, 3, cLeaves⟩
  fLight : F 20 = some ⟨3, 5, cLight⟩
instance {F : Nat → Option Fd} : CoeOut (TreeF F) (TreeP F) := ⟨fun h => h.toTreeP⟩
theorem TreeF.of {F : Nat → Option Fd} (fWithin : F 10 = some ⟨2, 3, cWithin⟩) (fPleases : F 11 = some ⟨2, 2, cPleases⟩) (fLotsW : F 12 = some ⟨1, 4, cLotsW⟩) (fGreat : F 13 = some ⟨2, 6, cGreat⟩) (fSplit : F 14 = some ⟨1, 7, cSplit⟩) (fInside : F 15 = some ⟨2, 3, cInside⟩) (fKids : F 16 = some ⟨2, 6, cKids⟩) (fTree : F 17 = some ⟨1, 6, cTree⟩) (fPaths : F 18 = some ⟨1, 4, cPaths⟩) (fLeaves : F 19 = some ⟨1, 3, cLeaves⟩) (fLight : F 20 = some ⟨3, 5, cLight⟩) : TreeF F := { fWithin := fWithin, fPleases := fPleases, fLotsW := fLotsW, fGreat := fGreat, fSplit := fSplit, fInside := fInside, fKids := fKids, fTree := fTree, fPaths := fPaths, fLeaves := fLeaves, fLight := fLight }
section
variable {F : Nat → Option Fd} {wf n : Nat} {m : Hm}
theorem inside_ok (hT : TreeF F) (a b : Lot) (ha : a.length ≤ 1000) (Q : D → Hm → Prop) (h : Q (.bl (inside a b)) m) : wp (callN F wf (n + 1) none 15 [encI a, encI b] m) Q := by
  refine w_call hT.fInside rfl ?_
  dsimp only [cInside]
  simp only [w_var, w_con, w_nil, w_cons, w_tup, w_lst, w_bin, w_cmp, w_tand, w_tor, w_tnot, w_tru, w_vand, w_vor, w_vnot, w_one, w_turn, w_ife, w_callp, w_bi, w_isin, w_idx, w_slc, w_nd, w_meth, w_comp, w_snil, w_single, w_asg, w_setix, w_exp, w_ret, w_ifs, w_fors, w_whil, w_brk, w_pass, wpo_some, wpb_some, wpa_tup, wpt_some, wif_bl, wp_ifB, wp_ok, get, put, home_int, home_bl, home_non, home_str, home_tup, home_adr, home_fro, home_lst, homes, assignT, assignTs, pick, List.map, List.replicate, List.cons_append, List.nil_append, List.append_nil, List.getD_cons_zero, List.getD_cons_succ]
  refine ⟨_, _, src_enc _, isBig_of (by simp; omega), turns_pure (xs := a.map .int) (fun d => match d with | .int i => !decide (i ∈ b) | _ => false) (fun _ => .int 1) (fun j _ => snap_at _ _ _) (Nat.le_refl _) (fun d hd acc => ?_) ?_⟩
  · obtain ⟨i, hi, rfl⟩ := List.mem_map.mp hd
    rw [w_one]
    simp only [assignT, wipe, clr, put, wpt_some, w_cmp, w_con, w_var, get, wpo_some, c_ninI, wpb_some, wif_bl, home_int]
    by_cases h : i ∈ b <;> simp [h]
  · rw [c_eq0 _ (purs_ones _)]
    simp only [wpb_some]
    refine fin_ret (by unfold below; rfl) ?_
    rw [List.take_of_length_le (Nat.le_refl _)]
    have e : (((a.map D.int).filter fun d => match d with | .int i => !decide (i ∈ b) | _ => false).map fun _ => D.int 1).isEmpty = inside a b := by
      rw [Bool.eq_iff_iff, List.isEmpty_iff, List.map_eq_nil_iff, List.filter_eq_nil_iff, inside_iff]
      simp
    rw [e]
    exact h
theorem within_ok (hT : TreeP F) (a b : Lot) (Q : D → Hm → Prop) (h : Q (.bl (inside a b)) m) : wp (callN F wf (n + 1) none 10 [encI a, encI b] m) Q := by
  refine w_call hT.fWithin rfl ?_
  dsimp only [cWithin]
  rw [w_scons]
  simp only [w_var, w_con, w_nil, w_cons, w_tup, w_lst, w_bin, w_cmp, w_tand, w_tor, w_tnot, w_tru, w_vand, w_vor, w_vnot, w_one, w_turn, w_ife, w_callp, w_bi, w_isin, w_idx, w_slc, w_nd, w_meth, w_comp, w_snil, w_single, w_asg, w_setix, w_exp, w_ret, w_ifs, w_fors, w_whil, w_brk, w_pass, wpo_some, wpb_some, wpa_tup, wpt_some, wif_bl, wp_ifB, wp_ok, get, put, home_int, home_bl, home_non, home_str, home_tup, home_adr, home_fro, home_lst, homes, assignT, assignTs, pick, List.map, List.replicate, List.cons_append, List.nil_append, List.append_nil, List.getD_cons_zero, List.getD_cons_succ]
  have fin : ∀ ρ r, r = inside a b → wp (finD m.length (.ret (.bl r), ρ) m) Q := fun ρ r e => fin_ret (by unfold below; rfl) (by rw [List.take_of_length_le (Nat.le_refl _), e]; exact h)
  refine ⟨_, _, src_enc _, loop_inv (xs := a.map .int) (fun i ρ m' => m' = m ∧ (∃ o, ρ = [some (encI a), some (encI b), o]) ∧ ∀ j z, j < i → a[j]? = some z → z ∈ b) _ (fun _ _ _ _ _ => snap_at _ _ _) (fun i d ρ m' hd I => ?_) (fun ρ m' I => ?_) _ 0 _ _ (Nat.zero_le _) (by omega) ⟨rfl, ⟨_, rfl⟩, fun j z hj => by omega⟩⟩
  · obtain ⟨rfl, ⟨o, rfl⟩, I⟩ := I
    rw [List.getElem?_map] at hd
    cases q : a[i]? with
    | none => rw [q] at hd; cases hd
    | some z =>
      rw [q] at hd
      cases hd
      rw [w_turn]
      refine ⟨_, rfl, ?_⟩
      dsimp only [put]
      simp only [w_var, w_con, w_nil, w_cons, w_tup, w_lst, w_bin, w_cmp, w_tand, w_tor, w_tnot, w_tru, w_vand, w_vor, w_vnot, w_one, w_turn, w_ife, w_callp, w_bi, w_isin, w_idx, w_slc, w_nd, w_meth, w_comp, w_snil, w_single, w_asg, w_setix, w_exp, w_ret, w_ifs, w_fors, w_whil, w_brk, w_pass, wpo_some, wpb_some, wpa_tup, wpt_some, wif_bl, wp_ifB, wp_ok, get, put, home_int, home_bl, home_non, home_str, home_tup, home_adr, home_fro, home_lst, homes, assignT, assignTs, pick, List.map, List.replicate, List.cons_append, List.nil_append, List.append_nil, List.getD_cons_zero, List.getD_cons_succ]
      rw [c_ninI]
      simp only [wpb_some, wif_bl]
      by_cases hz : z ∈ b
      · simp only [hz, decide_true, Bool.not_true, Bool.false_eq_true, if_false]
        refine ⟨trivial, ⟨_, rfl⟩, fun j y hj hy => ?_⟩
        by_cases e : j = i
        · subst e; rw [q] at hy; cases hy; exact hz
        · exact I j y (by omega) hy
      · simp only [hz, decide_false, Bool.not_false, if_true]
        refine fin _ _ ?_
        symm
        rw [Bool.eq_false_iff]
        intro w
        exact hz (inside_iff.mp w z (List.mem_of_getElem? q))
  · obtain ⟨rfl, ⟨o, rfl⟩, I⟩ := I
    rw [seqQ_nx]
    simp only [w_var, w_con, w_nil, w_cons, w_tup, w_lst, w_bin, w_cmp, w_tand, w_tor, w_tnot, w_tru, w_vand, w_vor, w_vnot, w_one, w_turn, w_ife, w_callp, w_bi, w_isin, w_idx, w_slc, w_nd, w_meth, w_comp, w_snil, w_single, w_asg, w_setix, w_exp, w_ret, w_ifs, w_fors, w_whil, w_brk, w_pass, wpo_some, wpb_some, wpa_tup, wpt_some, wif_bl, wp_ifB, wp_ok, get, put, home_int, home_bl, home_non, home_str, home_tup, home_adr, home_fro, home_lst, homes, assignT, assignTs, pick, List.map, List.replicate, List.cons_append, List.nil_append, List.append_nil, List.getD_cons_zero, List.getD_cons_succ]
    refine fin _ _ ?_
    symm
    rw [inside_iff]
    intro x hx
    obtain ⟨j, hj⟩ := List.mem_iff_getElem?.mp hx
    exact I j x (by rw [List.length_map]; exact (List.getElem?_eq_some_iff.mp hj).1) hj
theorem pleases_ok (hT : TreeP F) (k : Nat) (ys : List Lot) (x : Lot) (Q : D → Hm → Prop) (h : Q (.bl (decide (x ∈ ys))) m) : wp (callN F wf (n + 1) none 11 [cnd k ys, encI x] m) Q := by
  refine w_call hT.fPleases rfl ?_
  dsimp only [cPleases]
  simp only [w_var, w_con, w_nil, w_cons, w_tup, w_lst, w_bin, w_cmp, w_tand, w_tor, w_tnot, w_tru, w_vand, w_vor, w_vnot, w_one, w_turn, w_ife, w_callp, w_bi, w_isin, w_idx, w_slc, w_nd, w_meth, w_comp, w_snil, w_single, w_asg, w_setix, w_exp, w_ret, w_ifs, w_fors, w_whil, w_brk, w_pass, wpo_some, wpb_some, wpa_tup, wpt_some, wif_bl, wp_ifB, wp_ok, get, put, home_int, home_bl, home_non, home_str, home_tup, home_adr, home_fro, home_lst, homes, assignT, assignTs, pick, List.map, List.replicate, List.cons_append, List.nil_append, List.append_nil, List.getD_cons_zero, List.getD_cons_succ]
  rw [cnd_1]
  simp only [wpo_some]
  rw [c_in]
  simp only [wpb_some]
  exact fin_ret (by unfold below; rfl) (by rw [List.take_of_length_le (Nat.le_refl _)]; exact h)
/-- lots within, as they are found -/
def rawW (lot : Lot) : Nat → List Lot
  | 0 => [[]]
  | i + 1 => rawW lot i ++ (rawW lot i).map fun x => x ++ [lot.getD i 0]
theorem rawW_len (lot : Lot) : ∀ n, (rawW lot n).length = 2 ^ n
  | 0 => rfl
  | n + 1 => by simp [rawW, rawW_len lot n, Nat.pow_succ]; omega
theorem rawW_mem {lot : Lot} : ∀ {n : Nat} {x : Lot}, x ∈ rawW lot n → x.length ≤ n
  | 0, x, h => by simp [rawW] at h; simp [h]
  | n + 1, x, h => by
    rw [rawW, List.mem_append] at h
    rcases h with h | h
    · have := rawW_mem h; omega
    · obtain ⟨y, hy, rfl⟩ := List.mem_map.mp h
      have := rawW_mem hy
      simp; omega
theorem within_tab : ∀ k : Fin 7, ((lotsI k).all fun lot => decide ((isort lexLt (rawW lot lot.length)).drop 1 = (lotsI k).filter fun x => inside x lot)) = true := by decide +kernel
theorem bi_tupA (xs : List D) : biD .tuple [.lst xs] m = some (.tup xs) := rfl
theorem lotsw_ok (hT : TreeP F) {lot : Lot} (hl : lot.length ≤ 20) (Q : D → Hm → Prop) (h : Q (.tup (encs ((isort lexLt (rawW lot lot.length)).drop 1))) m) : wp (callN F wf (n + 1) none 12 [encI lot] m) Q := by
  refine w_call hT.fLotsW rfl ?_
  dsimp only [cLotsW]
  rw [w_scons]
  simp only [w_var, w_con, w_nil, w_cons, w_tup, w_lst, w_bin, w_cmp, w_tand, w_tor, w_tnot, w_tru, w_vand, w_vor, w_vnot, w_one, w_turn, w_ife, w_callp, w_bi, w_isin, w_idx, w_slc, w_nd, w_meth, w_comp, w_snil, w_single, w_asg, w_setix, w_exp, w_ret, w_ifs, w_fors, w_whil, w_brk, w_pass, wpo_some, wpb_some, wpa_tup, wpt_some, wif_bl, wp_ifB, wp_ok, get, put, home_int, home_bl, home_non, home_str, home_tup, home_adr, home_fro, home_lst, homes, assignT, assignTs, pick, List.map, List.replicate, List.cons_append, List.nil_append, List.append_nil, List.getD_cons_zero, List.getD_cons_succ]
  rw [seqQ_nx, w_scons]
  simp only [w_var, w_con, w_nil, w_cons, w_tup, w_lst, w_bin, w_cmp, w_tand, w_tor, w_tnot, w_tru, w_vand, w_vor, w_vnot, w_one, w_turn, w_ife, w_callp, w_bi, w_isin, w_idx, w_slc, w_nd, w_meth, w_comp, w_snil, w_single, w_asg, w_setix, w_exp, w_ret, w_ifs, w_fors, w_whil, w_brk, w_pass, wpo_some, wpb_some, wpa_tup, wpt_some, wif_bl, wp_ifB, wp_ok, get, put, home_int, home_bl, home_non, home_str, home_tup, home_adr, home_fro, home_lst, homes, assignT, assignTs, pick, List.map, List.replicate, List.cons_append, List.nil_append, List.append_nil, List.getD_cons_zero, List.getD_cons_succ]
  have hp : ∀ i, i ≤ lot.length → 2 ^ i ≤ 2 ^ 20 := fun i hi => Nat.pow_le_pow_right (by decide) (by omega)
  refine ⟨_, _, src_enc _, loop_inv (xs := lot.map .int) (fun i ρ m' => ∃ l k o2 o3, m' = m ++ l ∧ ρ = [some (encI lot), some (.adr k), o2, o3] ∧ m'[k]? = some (.lst (encs (rawW lot i)))) _ (fun i ρ m' _ _ => snap_at _ _ _) (fun i d ρ m' hd I => ?_) (fun ρ m' I => ?_) _ 0 _ _ (Nat.zero_le _) (by omega) ⟨_, m.length, none, none, rfl, rfl, ?_⟩⟩
  · obtain ⟨l, k, o2, o3, rfl, rfl, e⟩ := I
    rw [List.getElem?_map] at hd
    cases q : lot[i]? with
    | none => rw [q] at hd; cases hd
    | some z =>
      rw [q] at hd
      cases hd
      obtain ⟨hi2, _⟩ := List.getElem?_eq_some_iff.mp q
      have l1 : (encs (rawW lot i)).length = 2 ^ i := by unfold encs; rw [List.length_map, rawW_len]
      have h20 := hp i (by omega)
      have gz : lot.getD i 0 = z := by rw [List.getD_eq_getElem?_getD, q]; rfl
      simp only [w_var, w_con, w_nil, w_cons, w_tup, w_lst, w_bin, w_cmp, w_tand, w_tor, w_tnot, w_tru, w_vand, w_vor, w_vnot, w_one, w_turn, w_ife, w_callp, w_bi, w_isin, w_idx, w_slc, w_nd, w_meth, w_comp, w_snil, w_single, w_asg, w_setix, w_exp, w_ret, w_ifs, w_fors, w_whil, w_brk, w_pass, wpo_some, wpb_some, wpa_tup, wpt_some, wif_bl, wp_ifB, wp_ok, get, put, home_int, home_bl, home_non, home_str, home_tup, home_adr, home_fro, home_lst, homes, assignT, assignTs, pick, List.map, List.replicate, List.cons_append, List.nil_append, List.append_nil, List.getD_cons_zero, List.getD_cons_succ]
      refine ⟨_, _, src_adr e, isBig_of (by rw [l1]; omega), turns_pure (xs := encs (rawW lot i)) (fun _ => true) (fun d => match d with | .tup xs => .tup (xs ++ [.int z]) | d => d) (fun j _ => live_at' e) (Nat.le_refl _) (fun d hd acc => ?_) ?_⟩
      · obtain ⟨x, hx, rfl⟩ := List.mem_map.mp hd
        have hl := rawW_mem hx
        simp only [encI]
        simp only [w_var, w_con, w_nil, w_cons, w_tup, w_lst, w_bin, w_cmp, w_tand, w_tor, w_tnot, w_tru, w_vand, w_vor, w_vnot, w_one, w_turn, w_ife, w_callp, w_bi, w_isin, w_idx, w_slc, w_nd, w_meth, w_comp, w_snil, w_single, w_asg, w_setix, w_exp, w_ret, w_ifs, w_fors, w_whil, w_brk, w_pass, wpo_some, wpb_some, wpa_tup, wpt_some, wif_bl, wp_ifB, wp_ok, get, put, home_int, home_bl, home_non, home_str, home_tup, home_adr, home_fro, home_lst, homes, assignT, assignTs, pick, List.map, List.replicate, List.cons_append, List.nil_append, List.append_nil, List.getD_cons_zero, List.getD_cons_succ]
        simp only [wipe, clr, put, get, wpo_some, if_true, homes, home_int]
        rw [b_addT _ _ (by simp; omega)]
        simp only [wpo_some, home_tup]
        exact ⟨by trivial, by trivial⟩
      · rw [List.filter_eq_self.mpr (by simp)]
        have e2 : (encs (rawW lot i)).map (fun d => match d with | .tup xs => D.tup (xs ++ [.int z]) | d => d) = encs ((rawW lot i).map fun x => x ++ [lot.getD i 0]) := by
          unfold encs
          rw [List.map_map, List.map_map, gz]
          refine List.map_congr_left fun x _ => ?_
          simp [encI]
        rw [e2, b_addA e (by rw [l1]; unfold encs; simp [rawW_len]; omega)]
        have e3 : encs (rawW lot i) ++ encs ((rawW lot i).map fun x => x ++ [lot.getD i 0]) = encs (rawW lot (i + 1)) := by
          show _ = (rawW lot i ++ (rawW lot i).map fun x => x ++ [lot.getD i 0]).map encI
          rw [List.map_append]
          rfl
        rw [e3]
        simp only [wpo_some, home_lst, put]
        exact ⟨l ++ [.lst (encs (rawW lot (i + 1)))], (m ++ l).length, _, _, List.append_assoc _ _ _, rfl, List.getElem?_concat_length⟩
  · obtain ⟨l, k, o2, o3, rfl, rfl, e⟩ := I
    rw [seqQ_nx]
    simp only [w_var, w_con, w_nil, w_cons, w_tup, w_lst, w_bin, w_cmp, w_tand, w_tor, w_tnot, w_tru, w_vand, w_vor, w_vnot, w_one, w_turn, w_ife, w_callp, w_bi, w_isin, w_idx, w_slc, w_nd, w_meth, w_comp, w_snil, w_single, w_asg, w_setix, w_exp, w_ret, w_ifs, w_fors, w_whil, w_brk, w_pass, wpo_some, wpb_some, wpa_tup, wpt_some, wif_bl, wp_ifB, wp_ok, get, put, home_int, home_bl, home_non, home_str, home_tup, home_adr, home_fro, home_lst, homes, assignT, assignTs, pick, List.map, List.replicate, List.cons_append, List.nil_append, List.append_nil, List.getD_cons_zero, List.getD_cons_succ]
    rw [List.length_map] at e
    rw [bi_sortedW e]
    simp only [wpo_some]
    refine ⟨1, rfl, ?_⟩
    rw [slc1]
    simp only [wpo_some, bi_tupA]
    refine fin_ret (by rw [below_tup, encs_drop]; exact belows_encs _ _) ?_
    rw [List.take_left, encs_drop]
    exact h
  · rw [List.getElem?_concat_length]; rfl
theorem asBools_map {α : Type} (f : α → Bool) : ∀ xs : List α, asBools (xs.map fun x => D.bl (f x)) = some (xs.map f)
  | [] => rfl
  | x :: xs => by simp [asBools, asBools_map f xs]
theorem great_ok (hT : TreeP F) {k : Nat} (hk : k ≤ 6) (ys : List Lot) {lot : Lot} (hl : lot ∈ lotsI k) (Q : D → Hm → Prop) (h : Q (.tup (encs (kids k ys lot))) m) : wp (callN F wf (n + 2) none 13 [cnd k ys, encI lot] m) Q := by
  refine w_call hT.fGreat rfl ?_
  dsimp only [cGreat]
  rw [w_scons]
  simp only [w_var, w_con, w_nil, w_cons, w_tup, w_lst, w_bin, w_cmp, w_tand, w_tor, w_tnot, w_tru, w_vand, w_vor, w_vnot, w_one, w_turn, w_ife, w_callp, w_bi, w_isin, w_idx, w_slc, w_nd, w_meth, w_comp, w_snil, w_single, w_asg, w_setix, w_exp, w_ret, w_ifs, w_fors, w_whil, w_brk, w_pass, wpo_some, wpb_some, wpa_tup, wpt_some, wif_bl, wp_ifB, wp_ok, get, put, home_int, home_bl, home_non, home_str, home_tup, home_adr, home_fro, home_lst, homes, assignT, assignTs, pick, List.map, List.replicate, List.cons_append, List.nil_append, List.append_nil, List.getD_cons_zero, List.getD_cons_succ]
  simp only [homes, home_cnd, home_enc, pick, List.nil_append, List.getD_cons_zero, List.getD_cons_succ]
  refine pleases_ok hT k ys lot _ ?_
  simp only [home_bl, put]
  rw [seqQ_nx, w_scons]
  simp only [w_var, w_con, w_nil, w_cons, w_tup, w_lst, w_bin, w_cmp, w_tand, w_tor, w_tnot, w_tru, w_vand, w_vor, w_vnot, w_one, w_turn, w_ife, w_callp, w_bi, w_isin, w_idx, w_slc, w_nd, w_meth, w_comp, w_snil, w_single, w_asg, w_setix, w_exp, w_ret, w_ifs, w_fors, w_whil, w_brk, w_pass, wpo_some, wpb_some, wpa_tup, wpt_some, wif_bl, wp_ifB, wp_ok, get, put, home_int, home_bl, home_non, home_str, home_tup, home_adr, home_fro, home_lst, homes, assignT, assignTs, pick, List.map, List.replicate, List.cons_append, List.nil_append, List.append_nil, List.getD_cons_zero, List.getD_cons_succ]
  simp only [homes, home_cnd, home_enc, pick, List.nil_append, List.getD_cons_zero, List.getD_cons_succ]
  have ew : (isort lexLt (rawW lot lot.length)).drop 1 = (lotsI k).filter fun x => inside x lot := of_decide_eq_true (List.all_eq_true.mp (within_tab ⟨k, by omega⟩) lot hl)
  have l63 := lots_len hk
  have lo : (others k ys lot).length ≤ 63 := Nat.le_trans (List.length_filter_le _ _) l63
  refine lotsw_ok hT (by have := lots_len1 hk hl; omega) _ ?_
  rw [ew]
  refine ⟨_, _, src_tup _, isBig_of (by rw [encs_len]; have := List.length_filter_le (fun x => inside x lot) (lotsI k); omega), turns_lots (fun x => decide (x ∈ ys) != decide (lot ∈ ys)) (fun j _ => snap_at _ _ _) (Nat.le_refl _) (fun x hx acc => ?_) ?_⟩
  · rw [w_one]
    simp only [assignT, wipe, clr, put, wpt_some, w_cmp, w_callp, w_cons, w_nil, w_con, w_var, get, wpo_some, wpa_tup, homes, home_cnd, home_enc, pick, List.append_nil, List.getD_cons_zero, List.getD_cons_succ]
    refine pleases_ok hT k ys x _ ?_
    simp only [c_neB, wpb_some, wif_bl, home_enc]
    cases decide (x ∈ ys) <;> cases decide (lot ∈ ys) <;> simp
  · have eo : ((lotsI k).filter fun x => inside x lot).filter (fun x => decide (x ∈ ys) != decide (lot ∈ ys)) = others k ys lot := by
      unfold others
      rw [List.filter_filter]
      congr 1
      funext x
      rw [Bool.and_comm]
    rw [eo]
    rw [seqQ_nx]
    simp only [w_var, w_con, w_nil, w_cons, w_tup, w_lst, w_bin, w_cmp, w_tand, w_tor, w_tnot, w_tru, w_vand, w_vor, w_vnot, w_one, w_turn, w_ife, w_callp, w_bi, w_isin, w_idx, w_slc, w_nd, w_meth, w_comp, w_snil, w_single, w_asg, w_setix, w_exp, w_ret, w_ifs, w_fors, w_whil, w_brk, w_pass, wpo_some, wpb_some, wpa_tup, wpt_some, wif_bl, wp_ifB, wp_ok, get, put, home_int, home_bl, home_non, home_str, home_tup, home_adr, home_fro, home_lst, homes, assignT, assignTs, pick, List.map, List.replicate, List.cons_append, List.nil_append, List.append_nil, List.getD_cons_zero, List.getD_cons_succ]
    have ea : (m ++ [D.lst (encs (others k ys lot))])[m.length]? = some (.lst (encs (others k ys lot))) := List.getElem?_concat_length
    refine ⟨_, _, src_adr ea, isBig_of (by rw [encs_len]; omega), turns_lots (fun a => !(others k ys lot).any fun b => !decide (a = b) && inside a b) (fun j _ => live_at' ea) (Nat.le_refl _) (fun x hx acc => ?_) ?_⟩
    · rw [w_one]
      simp only [assignT, wipe, clr, put, wpt_some, w_tnot, w_tru, w_bi, w_comp, w_cons, w_nil, w_var, get, wpo_some, wpa_tup]
      refine ⟨_, _, src_adr ea, isBig_of (by rw [encs_len]; omega), turns_pure (xs := encs (others k ys lot)) (fun _ => true) (fun d => .bl (!(eqb (encI x) d) && match d with | .tup xs => inside x ((asInts xs).getD []) | _ => false)) (fun j _ => live_at' ea) (Nat.le_refl _) (fun d hd acc => ?_) ?_⟩
      · obtain ⟨b, hb, rfl⟩ := List.mem_map.mp hd
        rw [w_one]
        simp only [assignT, wipe, clr, put, wpt_some, w_con, wif_bl, if_true, w_vand, w_cmp, w_var, get, wpo_some, c_neL, wpb_some]
        have e1 : ∀ m z, truth m (.bl z) = some z := fun _ _ => rfl
        rw [e1, wtr_some, eqb_encI]
        have e2 : (asInts (b.map .int)).getD [] = b := by rw [asInts_map]; rfl
        by_cases hxb : x = b
        · simp only [hxb, decide_true, Bool.not_true, Bool.false_eq_true, if_false, home_bl, Bool.false_and]
          exact ⟨trivial, trivial⟩
        · simp only [hxb, decide_false, Bool.not_false, if_true, w_callp, w_cons, w_nil, w_var, get, wpo_some, wpa_tup, homes, home_enc, pick, List.append_nil, List.getD_cons_zero, List.getD_cons_succ]
          refine within_ok hT x b _ ?_
          simp only [home_bl, Bool.true_and, encI, e2]
          exact ⟨trivial, trivial⟩
      · rw [List.filter_eq_self.mpr (by simp)]
        have e3 : (encs (others k ys lot)).map (fun d => D.bl (!(eqb (encI x) d) && match d with | .tup xs => inside x ((asInts xs).getD []) | _ => false)) = (others k ys lot).map fun b => D.bl (!decide (x = b) && inside x b) := by
          unfold encs
          rw [List.map_map]
          refine List.map_congr_left fun b _ => ?_
          show D.bl (!(eqb (encI x) (encI b)) && inside x ((asInts (b.map .int)).getD [])) = _
          rw [eqb_encI, asInts_map]
          rfl
        rw [e3]
        have e4 : ∀ m, biD .any [.lst ((others k ys lot).map fun b => D.bl (!decide (x = b) && inside x b))] m = some (.bl ((others k ys lot).any fun b => !decide (x = b) && inside x b)) := fun m => by
          show (itemsL m (.lst ((others k ys lot).map fun b => D.bl (!decide (x = b) && inside x b)))).bind (fun xs => (asBools xs).bind fun a => some (D.bl (a.any id))) = _
          rw [show itemsL m (.lst ((others k ys lot).map fun b => D.bl (!decide (x = b) && inside x b))) = some ((others k ys lot).map fun b => D.bl (!decide (x = b) && inside x b)) from rfl]
          simp only [Option.bind_some, asBools_map]
          rw [List.any_map]
          rfl
        rw [e4]
        simp only [wpo_some]
        have e1 : ∀ m z, truth m (.bl z) = some z := fun _ _ => rfl
        rw [e1]
        simp only [wpb_some, wp_ifB, wp_ok, wif_bl, w_var, get, wpo_some, home_enc]
        cases (others k ys lot).any fun b => !decide (x = b) && inside x b <;> simp [wif]
    · rw [bi_tupT]
      simp only [wpo_some]
      refine fin_ret (by rw [below_tup]; exact belows_encs _ _) ?_
      rw [List.take_left]
      exact h
end
end Bell
end

section
set_option maxRecDepth 100000
/-! trees, by the program and by the law -/
namespace Bell
open PySem (Str)
section
variable {F : Nat → Option Fd} {wf n : Nat} {m : Hm}
theorem t_bl (m : Hm) (z : Bool) : truth m (.bl z) = some z := rfl
theorem kids_ok (hC : Common F) (hT : TreeF F) {k : Nat} (hk : k ≤ 6) (ys : List Lot) {lot : Lot} (Q : D → Hm → Prop) (h : Q (.lst (encs (kids k ys lot))) m) : wp (callN F wf (n + 2) none 16 [cnd k ys, encI lot] m) Q := by
  refine w_call hT.fKids rfl ?_
  dsimp only [cKids]
  have l63 := lots_len hk
  have lo : (others k ys lot).length ≤ 63 := Nat.le_trans (List.length_filter_le _ _) l63
  rw [w_scons]
  simp only [w_var, w_con, w_nil, w_cons, w_tup, w_lst, w_bin, w_cmp, w_tand, w_tor, w_tnot, w_tru, w_vand, w_vor, w_vnot, w_one, w_turn, w_ife, w_callp, w_bi, w_isin, w_idx, w_slc, w_nd, w_meth, w_comp, w_snil, w_single, w_asg, w_setix, w_exp, w_ret, w_ifs, w_fors, w_whil, w_brk, w_pass, wpo_some, wpb_some, wpa_tup, wpt_some, wif_bl, wp_ifB, wp_ok, get, put, home_int, home_bl, home_non, home_str, home_tup, home_adr, home_fro, home_lst, homes, assignT, assignTs, pick, List.map, List.replicate, List.cons_append, List.nil_append, List.append_nil, List.getD_cons_zero, List.getD_cons_succ]
  rw [cnd_1]
  simp only [wpo_some]
  rw [c_in]
  simp only [wpb_some, home_bl, put]
  rw [seqQ_nx, w_scons]
  simp only [w_var, w_con, w_nil, w_cons, w_tup, w_lst, w_bin, w_cmp, w_tand, w_tor, w_tnot, w_tru, w_vand, w_vor, w_vnot, w_one, w_turn, w_ife, w_callp, w_bi, w_isin, w_idx, w_slc, w_nd, w_meth, w_comp, w_snil, w_single, w_asg, w_setix, w_exp, w_ret, w_ifs, w_fors, w_whil, w_brk, w_pass, wpo_some, wpb_some, wpa_tup, wpt_some, wif_bl, wp_ifB, wp_ok, get, put, home_int, home_bl, home_non, home_str, home_tup, home_adr, home_fro, home_lst, homes, assignT, assignTs, pick, List.map, List.replicate, List.cons_append, List.nil_append, List.append_nil, List.getD_cons_zero, List.getD_cons_succ]
  simp only [cnd_0, wpo_some, homes, home_int, pick, List.nil_append, List.getD_cons_zero]
  refine lots_ok (b := k) hC (by omega) _ ?_
  refine ⟨_, _, src_lst _, isBig_of (by rw [encs_len]; omega), turns_lots (fun x => inside x lot && (decide (x ∈ ys) != decide (lot ∈ ys))) (fun j _ => snap_at _ _ _) (Nat.le_refl _) (fun x hx acc => ?_) ?_⟩
  · rw [w_one]
    simp only [assignT, wipe, clr, put, wpt_some, w_tand, w_tru, w_cmp, w_idx, w_callp, w_cons, w_nil, w_con, w_var, get, wpo_some, wpa_tup, homes, home_cnd, home_enc, pick, List.append_nil, List.getD_cons_zero, List.getD_cons_succ]
    refine inside_ok hT x lot (by have := lots_len1 hk hx; omega) _ ?_
    simp only [t_bl, wpb_some, wp_ifB, wp_ok, w_cmp, w_idx, w_con, w_var, get, wpo_some, cnd_1, c_in, c_neB, wif_bl, home_enc]
    cases inside x lot
    · simp [wif]
    · cases decide (x ∈ ys) <;> cases decide (lot ∈ ys) <;> simp [wif]
  · rw [show (lotsI k).filter (fun x => inside x lot && (decide (x ∈ ys) != decide (lot ∈ ys))) = others k ys lot from rfl]
    rw [seqQ_nx]
    simp only [w_var, w_con, w_nil, w_cons, w_tup, w_lst, w_bin, w_cmp, w_tand, w_tor, w_tnot, w_tru, w_vand, w_vor, w_vnot, w_one, w_turn, w_ife, w_callp, w_bi, w_isin, w_idx, w_slc, w_nd, w_meth, w_comp, w_snil, w_single, w_asg, w_setix, w_exp, w_ret, w_ifs, w_fors, w_whil, w_brk, w_pass, wpo_some, wpb_some, wpa_tup, wpt_some, wif_bl, wp_ifB, wp_ok, get, put, home_int, home_bl, home_non, home_str, home_tup, home_adr, home_fro, home_lst, homes, assignT, assignTs, pick, List.map, List.replicate, List.cons_append, List.nil_append, List.append_nil, List.getD_cons_zero, List.getD_cons_succ]
    have ea : (m ++ [D.lst (encs (others k ys lot))])[m.length]? = some (.lst (encs (others k ys lot))) := List.getElem?_concat_length
    refine ⟨_, _, src_adr ea, isBig_of (by rw [encs_len]; omega), turns_lots (fun a => !(others k ys lot).any fun b => !decide (a = b) && inside a b) (fun j _ => live_at' ea) (Nat.le_refl _) (fun x hx acc => ?_) ?_⟩
    · rw [w_one]
      simp only [assignT, wipe, clr, put, wpt_some, w_cmp, w_comp, w_cons, w_nil, w_lst, w_var, get, wpo_some, wpa_tup]
      have hxl : x.length ≤ 1000 := by have := lots_len1 hk (List.mem_filter.mp hx).1; omega
      refine ⟨_, _, src_adr ea, isBig_of (by rw [encs_len]; omega), turns_pure (xs := encs (others k ys lot)) (fun d => !(eqb d (encI x)) && match d with | .tup xs => inside x ((asInts xs).getD []) | _ => false) (fun _ => .int 1) (fun j _ => live_at' ea) (Nat.le_refl _) (fun d hd acc => ?_) ?_⟩
      · obtain ⟨b, hb, rfl⟩ := List.mem_map.mp hd
        rw [w_one]
        have e2 : (match encI b with | .tup xs => inside x ((asInts xs).getD []) | _ => false) = inside x b := by
          show inside x ((asInts (b.map .int)).getD []) = _
          rw [asInts_map]; rfl
        rw [e2, eqb_encI]
        simp only [assignT, wipe, clr, put, wpt_some, w_con, w_tand, w_tru, w_cmp, w_var, get, wpo_some, c_neL, wpb_some, wp_ifB, wp_ok, w_callp, w_cons, w_nil, wpa_tup, homes, home_enc, pick, List.append_nil, List.getD_cons_zero, List.getD_cons_succ]
        by_cases hxb : b = x
        · simp [hxb, wif]
        · simp only [hxb, decide_false, Bool.not_false, if_true]
          refine inside_ok hT x b hxl _ ?_
          simp only [t_bl, wpb_some, wif_bl, home_int, Bool.true_and]
          cases inside x b <;> simp
      · simp only [homes]
        rw [c_eq0 _ (purs_ones _)]
        simp only [wpb_some, wif_bl, w_var, get, wpo_some, home_enc]
        have e5 : (((encs (others k ys lot)).filter fun d => !(eqb d (encI x)) && match d with | .tup xs => inside x ((asInts xs).getD []) | _ => false).map fun _ => D.int 1).isEmpty = !(others k ys lot).any fun b => !decide (x = b) && inside x b := by
          rw [Bool.eq_iff_iff, List.isEmpty_iff, List.map_eq_nil_iff, List.filter_eq_nil_iff, Bool.not_eq_true', List.any_eq_false]
          constructor
          · intro h b hb
            have := h (encI b) (List.mem_map_of_mem hb)
            rw [eqb_encI, show (match encI b with | .tup xs => inside x ((asInts xs).getD []) | _ => false) = inside x b by show inside x ((asInts (b.map .int)).getD []) = _; rw [asInts_map]; rfl] at this
            by_cases e : x = b
            · simp [e]
            · have e' : ¬ b = x := fun z => e z.symm
              simpa [e, e'] using this
          · intro h d hd
            obtain ⟨b, hb, rfl⟩ := List.mem_map.mp hd
            have := h b hb
            rw [eqb_encI, show (match encI b with | .tup xs => inside x ((asInts xs).getD []) | _ => false) = inside x b by show inside x ((asInts (b.map .int)).getD []) = _; rw [asInts_map]; rfl]
            by_cases e : x = b
            · simp [e]
            · have e' : ¬ b = x := fun z => e z.symm
              simpa [e, e'] using this
        rw [e5]
        cases (others k ys lot).any fun b => !decide (x = b) && inside x b <;> simp
    · refine fin_ret (by rw [below_lst]; exact belows_encs _ _) ?_
      rw [List.take_left]
      exact h
/-! ### rows -/
theorem rangeL0 (k : Nat) : rangeL 0 k = (full k).map D.int := by
  rw [rangeL_eq]
  unfold full
  rw [List.map_map]
  refine List.map_congr_left fun i _ => ?_
  simp
theorem tupR1 (k : Nat) (hk : k ≤ 1000) : biD .tupR [.int (k : Int)] m = some (encI (full k)) := by
  show (rangeOf [.int (k : Int)]).bind (fun xs => if isBig xs.length then some (D.tup xs) else none) = _
  unfold rangeOf
  dsimp only
  rw [if_pos ⟨by omega, by omega⟩]
  simp only [Option.bind_some, Int.toNat_natCast]
  rw [if_pos (isBig_of (by rw [rangeL_lenW]; omega)), rangeL0]
  rfl
theorem tupR2 (a b : Nat) (ha : a ≤ 100000) (hb : b ≤ 100000) : biD .tupR [.int (a : Int), .int ((a : Int) + (b : Int))] m = some (.tup (rangeL (a : Int) b)) := by
  show (rangeOf [.int (a : Int), .int ((a : Int) + (b : Int))]).bind (fun xs => if isBig xs.length then some (D.tup xs) else none) = _
  unfold rangeOf
  dsimp only
  rw [if_pos ⟨by omega, by omega, by omega, by omega⟩]
  have : ((a : Int) + (b : Int) - (a : Int)).toNat = b := by omega
  simp only [Option.bind_some, this]
  rw [if_pos (isBig_of (by rw [rangeL_lenW]; omega))]
theorem zip3_app : ∀ (L P C : List D) (L2 P2 : List D) (x y z : D), L.length = P.length → C.length < L.length → L[C.length]? = some x → P[C.length]? = some y → zip3L (L ++ L2) (P ++ P2) (C ++ [z]) = zip3L L P C ++ [.tup [x, y, z]]
  | [], P, C, _, _, _, _, _, _, h, _, _ => by simp at h
  | a :: L, [], C, _, _, _, _, _, h, _, _, _ => by simp at h
  | a :: L, b :: P, [], L2, P2, x, y, z, h1, h2, e1, e2 => by
    simp at e1 e2
    subst e1
    subst e2
    have e0 : ∀ L P : List D, zip3L L P [] = [] := fun L P => by cases L <;> cases P <;> rfl
    simp [zip3L, e0]
  | a :: L, b :: P, c :: C, L2, P2, x, y, z, h1, h2, e1, e2 => by
    have := zip3_app L P C L2 P2 x y z (by simpa using h1) (by simpa using h2) (by simpa using e1) (by simpa using e2)
    simp [zip3L, this]
/-- the rows told so far -/
def Tr.told (s : Tr) : List D := zip3L (encs s.L) s.P s.C
theorem told_step (k : Nat) (ys : List Lot) (t : Nat) (ht : t < (run k ys t).L.length) : (run k ys (t + 1)).told = (run k ys t).told ++ [.tup [encI ((run k ys t).L.getD t []), (run k ys t).P.getD t .non, .tup (rangeL ((run k ys t).L.length : Int) (kids k ys ((run k ys t).L.getD t [])).length)]] := by
  have hc := run_C k ys t
  have hp := run_P k ys t
  show zip3L (encs ((run k ys t).L ++ _)) ((run k ys t).P ++ _) ((run k ys t).C ++ [_]) = _
  rw [show ∀ a b : List Lot, encs (a ++ b) = encs a ++ encs b from fun a b => by unfold encs; rw [List.map_append]]
  rw [zip3_app (encs (run k ys t).L) (run k ys t).P (run k ys t).C _ _ (encI ((run k ys t).L.getD t [])) ((run k ys t).P.getD t .non) _ (by rw [encs_len, hp]) (by rw [encs_len, hc]; exact ht)
    (by rw [hc]; unfold encs; rw [List.getElem?_map, List.getD_eq_getElem?_getD, List.getElem?_eq_getElem ht]; rfl) (by rw [hc, List.getD_eq_getElem?_getD, List.getElem?_eq_getElem (by omega)]; rfl)]
  rw [hc]
  rfl
theorem run_le {k : Nat} (h1 : 1 ≤ k) (hk : k ≤ 6) (ys : List Lot) {N : Nat} (E : Ends k ys N) : ∀ t, t ≤ N → (run k ys t).L.length ≤ N := by
  have mono : ∀ t, (run k ys t).L.length ≤ (run k ys (t + 1)).L.length := fun t => by
    show _ ≤ ((run k ys t).L ++ _).length
    rw [List.length_append]
    omega
  intro t ht
  have : ∀ d, (run k ys t).L.length ≤ (run k ys (t + d)).L.length := fun d => by
    induction d with
    | zero => exact Nat.le_refl _
    | succ d ih => exact Nat.le_trans ih (mono (t + d))
  have h := this (N - t)
  rw [show t + (N - t) = N by omega, E.at_] at h
  exact h
/-- data below all -/
def Flat (d : D) : Prop := ∀ j, below j d = true
theorem flat_P (k : Nat) (ys : List Lot) : ∀ t, ∀ d ∈ (run k ys t).P, ∀ j, below j d = true
  | 0, d, h, j => by
    rw [List.mem_singleton.mp h]; unfold below; rfl
  | t + 1, d, h, j => by
    rcases List.mem_append.mp h with h | h
    · exact flat_P k ys t d h j
    · obtain ⟨_, _, rfl⟩ := List.mem_map.mp h
      unfold below; rfl
theorem below_range (j : Nat) (a : Int) (n : Nat) : belows j (rangeL a n) = true := by
  rw [rangeL_eq]
  generalize List.range n = l
  induction l with
  | nil => unfold belows; rfl
  | cons x l ih => rw [List.map_cons, belows, ih]; unfold below; rfl
theorem belows_app (j : Nat) : ∀ a b : List D, belows j (a ++ b) = (belows j a && belows j b)
  | [], b => by show belows j b = _; rw [show belows j [] = true by unfold belows; rfl]; rfl
  | x :: a, b => by
    show belows j (x :: (a ++ b)) = _
    rw [belows, belows, belows_app j a b, Bool.and_assoc]
theorem below_told (k : Nat) (ys : List Lot) (j : Nat) {N : Nat} (E : Ends k ys N) : ∀ t, t ≤ N → belows j (run k ys t).told = true
  | 0, _ => by show belows j (zip3L (encs [full k]) [.non] []) = true; simp [encs, zip3L, belows]
  | t + 1, h => by
    have ht := E.lt t (by omega)
    rw [told_step k ys t ht, belows_app, below_told k ys j E t (by omega)]
    have hp : t < (run k ys t).P.length := by rw [run_P]; exact ht
    have e : (run k ys t).P.getD t .non = (run k ys t).P[t] := by rw [List.getD_eq_getElem?_getD, List.getElem?_eq_getElem hp]; rfl
    have hf := flat_P k ys t _ (List.getElem_mem hp) j
    simp only [Bool.true_and, belows, below_tup, below_encI, below_range, e, hf, Bool.and_self]
theorem len_adr {j : Nat} {xs : List D} (e : m[j]? = some (.lst xs)) : lenD m (.adr j) = some (.int xs.length) := len_at (.inl e)
theorem meth_app {b j : Nat} {xs : List D} {d : D} (hb : b ≤ j) (e : m[j]? = some (.lst xs)) (hl : xs.length ≤ 100000) : methD b .append (.adr j) [d] m = some (.non, m.set j (.lst (xs ++ [d]))) := by
  show appendD b (.adr j) [d] m = _
  unfold appendD
  dsimp only
  rw [if_pos (by unfold mayPut; simp [hb]), e]
  dsimp only
  rw [if_pos (isBig_of (by omega))]
theorem meth_ext {b j i : Nat} {xs ys : List D} (hb : b ≤ j) (e : m[j]? = some (.lst xs)) (e2 : m[i]? = some (.lst ys)) (hl : xs.length + ys.length ≤ 100000) : methD b .extend (.adr j) [.adr i] m = some (.non, m.set j (.lst (xs ++ ys))) := by
  show extendD b (.adr j) [.adr i] m = _
  unfold extendD
  dsimp only
  rw [e, e2]
  dsimp only
  rw [if_pos (by unfold mayPut; simp [hb, isBig_of (show xs.length + ys.length ≤ 16777216 by omega)])]
theorem recv_lstW {me : Me} (hm : me = .append ∨ me = .extend) {j : Nat} {xs : List D} (e : m[j]? = some (.lst xs)) : recv me m (.adr j) = true := by
  rcases hm with rfl | rfl <;> (unfold recv; dsimp only; rw [show deref m (.adr j) = some (.lst xs) from e])
theorem bi_listT (xs : List D) : biD .list [.tup xs] m = some (.lst xs) := rfl
theorem idx_lst {j i : Nat} {xs : List D} {d : D} (e : m[j]? = some (.lst xs)) (hd : xs[i]? = some d) : idxD (.adr j) (.int (i : Int)) m = some d := idx_at (.inl e) hd
theorem split_ok (hT : TreeP F) {k : Nat} (h1 : 1 ≤ k) (hk : k ≤ 6) (ys : List Lot) {N : Nat} (E : Ends k ys N) (hw : 2000 ≤ wf) (Q : D → Hm → Prop) (h : Q (.tup (run k ys N).told) m) : wp (callN F wf (n + 3) none 14 [cnd k ys] m) Q := by
  refine w_call hT.fSplit rfl ?_
  dsimp only [cSplit]
  rw [w_scons]
  simp only [w_var, w_con, w_nil, w_cons, w_tup, w_lst, w_bin, w_cmp, w_tand, w_tor, w_tnot, w_tru, w_vand, w_vor, w_vnot, w_one, w_turn, w_ife, w_callp, w_bi, w_isin, w_idx, w_slc, w_nd, w_meth, w_comp, w_snil, w_single, w_asg, w_setix, w_exp, w_ret, w_ifs, w_fors, w_whil, w_brk, w_pass, wpo_some, wpb_some, wpa_tup, wpt_some, wif_bl, wp_ifB, wp_ok, get, put, home_int, home_bl, home_non, home_str, home_tup, home_adr, home_fro, home_lst, homes, assignT, assignTs, pick, List.map, List.replicate, List.cons_append, List.nil_append, List.append_nil, List.getD_cons_zero, List.getD_cons_succ]
  simp only [cnd_0, wpo_some, tupR1 k (by omega), homes, home_enc, home_non, home_lst, home_int]
  rw [seqQ_nx, w_scons, w_whil]
  -- four objects of the frame
  have hd0 : (run k ys 0).L = [full k] := rfl
  refine whl_inv (fun c ρ m' => ∃ t a b cc o5 o6 l, c = N - t ∧ t ≤ N ∧ m' = m ++ l ∧ ρ = [some (cnd k ys), some (.adr a), some (.adr b), some (.adr cc), some (.int (t : Int)), o5, o6] ∧ m.length ≤ a ∧ m.length ≤ b ∧ m.length ≤ cc ∧ a ≠ b ∧ a ≠ cc ∧ b ≠ cc ∧ m'[a]? = some (.lst (encs (run k ys t).L)) ∧ m'[b]? = some (.lst (run k ys t).P) ∧ m'[cc]? = some (.lst (run k ys t).C)) _ (fun c ρ m' I => ?_) wf N _ _ (by have := E.le; omega) ?_
  · obtain ⟨t, a, b, cc, o5, o6, l, rfl, htN, rfl, rfl, ha, hb, hcc, hab, hac, hbc, ea, eb, ec⟩ := I
    have hLN := run_le h1 hk ys E t htN
    have hN := E.le
    simp only [w_var, w_con, w_nil, w_cons, w_tup, w_lst, w_bin, w_cmp, w_tand, w_tor, w_tnot, w_tru, w_vand, w_vor, w_vnot, w_one, w_turn, w_ife, w_callp, w_bi, w_isin, w_idx, w_slc, w_nd, w_meth, w_comp, w_snil, w_single, w_asg, w_setix, w_exp, w_ret, w_ifs, w_fors, w_whil, w_brk, w_pass, wpo_some, wpb_some, wpa_tup, wpt_some, wif_bl, wp_ifB, wp_ok, get, put, home_int, home_bl, home_non, home_str, home_tup, home_adr, home_fro, home_lst, homes, assignT, assignTs, pick, List.map, List.replicate, List.cons_append, List.nil_append, List.append_nil, List.getD_cons_zero, List.getD_cons_succ]
    simp only [bi_lenW, len_adr ea, wpo_some, c_lt, wpb_some, encs_len]
    by_cases ht : t < (run k ys t).L.length
    · right
      refine ⟨by simp; omega, ?_⟩
      have htN' : t < N := by
        by_cases z : t = N
        · subst z; rw [E.at_] at ht; omega
        · omega
      have hL1 := run_le h1 hk ys E (t + 1) htN'
      generalize hlot : (run k ys t).L.getD t [] = lot
      have hlm : lot ∈ lotsI k := by
        rw [← hlot, List.getD_eq_getElem?_getD, List.getElem?_eq_getElem ht]
        exact run_lots h1 hk ys t _ (List.getElem_mem ht)
      have eL : (run k ys (t + 1)).L = (run k ys t).L ++ kids k ys lot := by
        show (run k ys t).L ++ kids k ys ((run k ys t).L.getD (run k ys t).C.length []) = _
        rw [run_C, hlot]
      have eP : (run k ys (t + 1)).P = (run k ys t).P ++ (kids k ys lot).map fun _ => D.int (t : Int) := by
        show (run k ys t).P ++ (kids k ys ((run k ys t).L.getD (run k ys t).C.length [])).map (fun _ => D.int ((run k ys t).C.length : Int)) = _
        rw [run_C, hlot]
      have eC : (run k ys (t + 1)).C = (run k ys t).C ++ [.tup (rangeL ((run k ys t).L.length : Int) (kids k ys lot).length)] := by
        show (run k ys t).C ++ [.tup (rangeL ((run k ys t).L.length : Int) (kids k ys ((run k ys t).L.getD (run k ys t).C.length [])).length)] = _
        rw [run_C, hlot]
      have hq : (kids k ys lot).length ≤ 63 := Nat.le_trans (Nat.le_trans (List.length_filter_le _ _) (List.length_filter_le _ _)) (lots_len hk)
      rw [w_scons]
      simp only [w_var, w_con, w_nil, w_cons, w_tup, w_lst, w_bin, w_cmp, w_tand, w_tor, w_tnot, w_tru, w_vand, w_vor, w_vnot, w_one, w_turn, w_ife, w_callp, w_bi, w_isin, w_idx, w_slc, w_nd, w_meth, w_comp, w_snil, w_single, w_asg, w_setix, w_exp, w_ret, w_ifs, w_fors, w_whil, w_brk, w_pass, wpo_some, wpb_some, wpa_tup, wpt_some, wif_bl, wp_ifB, wp_ok, get, put, home_int, home_bl, home_non, home_str, home_tup, home_adr, home_fro, home_lst, homes, assignT, assignTs, pick, List.map, List.replicate, List.cons_append, List.nil_append, List.append_nil, List.getD_cons_zero, List.getD_cons_succ]
      rw [idx_lst ea (i := t) (d := encI lot) (by unfold encs; rw [List.getElem?_map, List.getElem?_eq_getElem ht, ← hlot, List.getD_eq_getElem?_getD, List.getElem?_eq_getElem ht]; rfl)]
      simp only [wpo_some, homes, home_cnd, home_enc, pick, List.nil_append, List.getD_cons_zero, List.getD_cons_succ]
      refine great_ok hT hk ys hlm _ ?_
      simp only [home_tup, put]
      rw [seqQ_nx, w_scons]
      simp only [w_var, w_con, w_nil, w_cons, w_tup, w_lst, w_bin, w_cmp, w_tand, w_tor, w_tnot, w_tru, w_vand, w_vor, w_vnot, w_one, w_turn, w_ife, w_callp, w_bi, w_isin, w_idx, w_slc, w_nd, w_meth, w_comp, w_snil, w_single, w_asg, w_setix, w_exp, w_ret, w_ifs, w_fors, w_whil, w_brk, w_pass, wpo_some, wpb_some, wpa_tup, wpt_some, wif_bl, wp_ifB, wp_ok, get, put, home_int, home_bl, home_non, home_str, home_tup, home_adr, home_fro, home_lst, homes, assignT, assignTs, pick, List.map, List.replicate, List.cons_append, List.nil_append, List.append_nil, List.getD_cons_zero, List.getD_cons_succ]
      refine ⟨recv_lstW (.inl rfl) ec, ?_⟩
      simp only [bi_lenW, len_adr ea, wpo_some, encs_len]
      rw [show ∀ m, lenD m (.tup (encs (kids k ys lot))) = some (.int ((kids k ys lot).length : Int)) from fun m => by rw [len_at (.inr (.inl rfl)), encs_len]]
      simp only [wpo_some, b_add]
      rw [tupR2 _ _ (by omega) (by omega)]
      simp only [wpo_some, homes, home_tup]
      refine ⟨_, _, meth_app (b := m.length) hcc ec (by rw [run_C]; omega), ?_⟩
      rw [← eC]
      generalize hm1 : (m ++ l).set cc (.lst (run k ys (t + 1)).C) = m1
      have a1 : m1[a]? = some (.lst (encs (run k ys t).L)) := by rw [← hm1, List.getElem?_set_ne (Ne.symm hac)]; exact ea
      have b1 : m1[b]? = some (.lst (run k ys t).P) := by rw [← hm1, List.getElem?_set_ne (Ne.symm hbc)]; exact eb
      have c1 : m1[cc]? = some (.lst (run k ys (t + 1)).C) := by rw [← hm1, List.getElem?_set_self (List.getElem?_eq_some_iff.mp ec).1]
      have p1 : m <+: m1 := by rw [← hm1, List.set_append_right _ _ hcc]; exact List.prefix_append _ _
      have la1 := (List.getElem?_eq_some_iff.mp a1).1
      have lb1 := (List.getElem?_eq_some_iff.mp b1).1
      have lc1 := (List.getElem?_eq_some_iff.mp c1).1
      rw [seqQ_nx, w_scons]
      simp only [w_var, w_con, w_nil, w_cons, w_tup, w_lst, w_bin, w_cmp, w_tand, w_tor, w_tnot, w_tru, w_vand, w_vor, w_vnot, w_one, w_turn, w_ife, w_callp, w_bi, w_isin, w_idx, w_slc, w_nd, w_meth, w_comp, w_snil, w_single, w_asg, w_setix, w_exp, w_ret, w_ifs, w_fors, w_whil, w_brk, w_pass, wpo_some, wpb_some, wpa_tup, wpt_some, wif_bl, wp_ifB, wp_ok, get, put, home_int, home_bl, home_non, home_str, home_tup, home_adr, home_fro, home_lst, homes, assignT, assignTs, pick, List.map, List.replicate, List.cons_append, List.nil_append, List.append_nil, List.getD_cons_zero, List.getD_cons_succ]
      refine ⟨recv_lstW (.inr rfl) a1, ?_⟩
      rw [bi_listT]
      simp only [wpo_some, homes, home_lst]
      have a2 : (m1 ++ [D.lst (encs (kids k ys lot))])[a]? = some (.lst (encs (run k ys t).L)) := by rw [List.getElem?_append_left la1]; exact a1
      refine ⟨_, _, meth_ext (b := m.length) ha a2 List.getElem?_concat_length (by rw [encs_len, encs_len]; omega), ?_⟩
      rw [show encs (run k ys t).L ++ encs (kids k ys lot) = encs (run k ys (t + 1)).L by rw [eL]; unfold encs; rw [List.map_append]]
      generalize hm2 : (m1 ++ [D.lst (encs (kids k ys lot))]).set a (.lst (encs (run k ys (t + 1)).L)) = m2
      have la2 : a < (m1 ++ [D.lst (encs (kids k ys lot))]).length := (List.getElem?_eq_some_iff.mp a2).1
      have a3 : m2[a]? = some (.lst (encs (run k ys (t + 1)).L)) := by rw [← hm2, List.getElem?_set_self la2]
      have b3 : m2[b]? = some (.lst (run k ys t).P) := by rw [← hm2, List.getElem?_set_ne hab, List.getElem?_append_left lb1]; exact b1
      have c3 : m2[cc]? = some (.lst (run k ys (t + 1)).C) := by rw [← hm2, List.getElem?_set_ne hac, List.getElem?_append_left lc1]; exact c1
      have p2 : m <+: m2 := by
        obtain ⟨r, hr⟩ := p1
        rw [← hm2, ← hr, List.append_assoc, List.set_append_right _ _ ha]
        exact List.prefix_append _ _
      have lb3 := (List.getElem?_eq_some_iff.mp b3).1
      have la3 := (List.getElem?_eq_some_iff.mp a3).1
      have lc3 := (List.getElem?_eq_some_iff.mp c3).1
      rw [seqQ_nx, w_scons]
      simp only [w_var, w_con, w_nil, w_cons, w_tup, w_lst, w_bin, w_cmp, w_tand, w_tor, w_tnot, w_tru, w_vand, w_vor, w_vnot, w_one, w_turn, w_ife, w_callp, w_bi, w_isin, w_idx, w_slc, w_nd, w_meth, w_comp, w_snil, w_single, w_asg, w_setix, w_exp, w_ret, w_ifs, w_fors, w_whil, w_brk, w_pass, wpo_some, wpb_some, wpa_tup, wpt_some, wif_bl, wp_ifB, wp_ok, get, put, home_int, home_bl, home_non, home_str, home_tup, home_adr, home_fro, home_lst, homes, assignT, assignTs, pick, List.map, List.replicate, List.cons_append, List.nil_append, List.append_nil, List.getD_cons_zero, List.getD_cons_succ]
      refine ⟨recv_lstW (.inr rfl) b3, ?_⟩
      refine ⟨_, _, src_tup _, isBig_of (by rw [encs_len]; omega), turns_pure (xs := encs (kids k ys lot)) (fun _ => true) (fun _ => .int (t : Int)) (fun j _ => snap_at _ _ _) (Nat.le_refl _) (fun d hd acc => ?_) ?_⟩
      · rw [w_one]
        simp only [assignT, wipe, clr, put, wpt_some, w_con, wif_bl, if_true, w_var, get, wpo_some, home_int]
        exact ⟨trivial, trivial⟩
      · rw [List.filter_eq_self.mpr (by simp)]
        have eq1 : (encs (kids k ys lot)).map (fun _ => D.int (t : Int)) = (kids k ys lot).map fun _ => D.int (t : Int) := by
          unfold encs
          rw [List.map_map]
          rfl
        rw [eq1]
        have b4 : (m2 ++ [D.lst ((kids k ys lot).map fun _ => D.int (t : Int))])[b]? = some (.lst (run k ys t).P) := by rw [List.getElem?_append_left lb3]; exact b3
        refine ⟨_, _, meth_ext (b := m.length) hb b4 List.getElem?_concat_length (by rw [run_P, List.length_map]; omega), ?_⟩
        rw [← eP]
        generalize hm3 : (m2 ++ [D.lst ((kids k ys lot).map fun _ => D.int (t : Int))]).set b (.lst (run k ys (t + 1)).P) = m3
        have b5 : m3[b]? = some (.lst (run k ys (t + 1)).P) := by rw [← hm3, List.getElem?_set_self (List.getElem?_eq_some_iff.mp b4).1]
        have a5 : m3[a]? = some (.lst (encs (run k ys (t + 1)).L)) := by rw [← hm3, List.getElem?_set_ne (Ne.symm hab), List.getElem?_append_left la3]; exact a3
        have c5 : m3[cc]? = some (.lst (run k ys (t + 1)).C) := by rw [← hm3, List.getElem?_set_ne hbc, List.getElem?_append_left lc3]; exact c3
        have p3 : m <+: m3 := by
          obtain ⟨r, hr⟩ := p2
          rw [← hm3, ← hr, List.append_assoc, List.set_append_right _ _ hb]
          exact List.prefix_append _ _
        rw [seqQ_nx, w_single]
        rw [w_aug 4 .add _ (t : Int) rfl]
        simp only [w_var, w_con, w_nil, w_cons, w_tup, w_lst, w_bin, w_cmp, w_tand, w_tor, w_tnot, w_tru, w_vand, w_vor, w_vnot, w_one, w_turn, w_ife, w_callp, w_bi, w_isin, w_idx, w_slc, w_nd, w_meth, w_comp, w_snil, w_single, w_asg, w_setix, w_exp, w_ret, w_ifs, w_fors, w_whil, w_brk, w_pass, wpo_some, wpb_some, wpa_tup, wpt_some, wif_bl, wp_ifB, wp_ok, get, put, home_int, home_bl, home_non, home_str, home_tup, home_adr, home_fro, home_lst, homes, assignT, assignTs, pick, List.map, List.replicate, List.cons_append, List.nil_append, List.append_nil, List.getD_cons_zero, List.getD_cons_succ]
        refine ⟨1, (t : Int) + 1, rfl, rfl, ?_⟩
        obtain ⟨r, hr⟩ := p3
        refine ⟨N - (t + 1), by omega, t + 1, a, b, cc, _, _, r, rfl, by omega, hr.symm, rfl, ha, hb, hcc, hab, hac, hbc, a5, b5, c5⟩
    · left
      refine ⟨by simp; omega, ?_⟩
      have etN : t = N := by
        by_cases z : t = N
        · exact z
        · have := E.lt t (by omega); omega
      subst etN
      rw [seqQ_nx]
      simp only [w_var, w_con, w_nil, w_cons, w_tup, w_lst, w_bin, w_cmp, w_tand, w_tor, w_tnot, w_tru, w_vand, w_vor, w_vnot, w_one, w_turn, w_ife, w_callp, w_bi, w_isin, w_idx, w_slc, w_nd, w_meth, w_comp, w_snil, w_single, w_asg, w_setix, w_exp, w_ret, w_ifs, w_fors, w_whil, w_brk, w_pass, wpo_some, wpb_some, wpa_tup, wpt_some, wif_bl, wp_ifB, wp_ok, get, put, home_int, home_bl, home_non, home_str, home_tup, home_adr, home_fro, home_lst, homes, assignT, assignTs, pick, List.map, List.replicate, List.cons_append, List.nil_append, List.append_nil, List.getD_cons_zero, List.getD_cons_succ]
      have ez : biD .z3 [.adr a, .adr b, .adr cc] (m ++ l) = some (.lst (run k ys t).told) := by
        have il : ∀ {j xs}, (m ++ l)[j]? = some (.lst xs) → itemsL (m ++ l) (.adr j) = some xs := fun {j xs} e => by
          unfold itemsL
          rw [show deref (m ++ l) (.adr j) = some (.lst xs) from e]
        show z3D (itemsL (m ++ l) (.adr a)) (itemsL (m ++ l) (.adr b)) (itemsL (m ++ l) (.adr cc)) = _
        rw [il ea, il eb, il ec]
        unfold z3D
        dsimp only
        rw [if_pos ⟨by rw [run_P, encs_len], by rw [run_C, encs_len, E.at_], by rw [encs_len, E.at_]; exact E.pos⟩]
        rfl
      rw [ez]
      simp only [wpo_some, bi_tupT]
      refine fin_ret (by rw [below_tup]; exact below_told k ys _ E t (Nat.le_refl _)) ?_
      rw [List.take_left]
      exact h
  · refine ⟨0, m.length, m.length + 1, m.length + 2, none, none, [.lst [encI (full k)], .lst [.non], .lst []], rfl, Nat.zero_le _, by simp, by simp, by omega, by omega, by omega, by omega, by omega, by omega, by simp [hd0, encs], ?_, ?_⟩
    · simp [run]
    · simp [run]
end
end Bell
end

section
set_option maxRecDepth 100000
/-! the law's own tree -/
namespace Bell
open PySem (Str)
def prs : List Lot → List D → List D
  | x :: L, p :: P => .tup [encI x, p] :: prs L P
  | _, _ => []
theorem prs_len : ∀ {L : List Lot} {P : List D}, P.length = L.length → (prs L P).length = L.length
  | [], _, _ => by unfold prs; rfl
  | x :: L, [], h => by simp at h
  | x :: L, p :: P, h => by simp [prs, prs_len (L := L) (P := P) (by simpa using h)]
theorem prs_get : ∀ {L : List Lot} {P : List D} {t : Nat}, P.length = L.length → t < L.length → (prs L P)[t]? = some (.tup [encI (L.getD t []), P.getD t .non])
  | [], _, _, _, h => by simp at h
  | x :: L, [], _, h, _ => by simp at h
  | x :: L, p :: P, 0, _, _ => by simp [prs]
  | x :: L, p :: P, t + 1, h, ht => by
    have := prs_get (L := L) (P := P) (t := t) (by simpa using h) (by simpa using ht)
    simpa [prs] using this
theorem prs_app : ∀ {L : List Lot} {P : List D} (L2 : List Lot) (P2 : List D), P.length = L.length → prs (L ++ L2) (P ++ P2) = prs L P ++ prs L2 P2
  | [], [], _, _, _ => rfl
  | [], p :: P, _, _, h => by simp at h
  | x :: L, [], _, _, h => by simp at h
  | x :: L, p :: P, L2, P2, h => by simp [prs, prs_app (L := L) (P := P) L2 P2 (by simpa using h)]
theorem prs_map (d : D) : ∀ q : List Lot, prs q (q.map fun _ => d) = (encs q).map fun x => .tup [x, d]
  | [] => rfl
  | x :: q => by
    show .tup [encI x, d] :: prs q (q.map fun _ => d) = .tup [encI x, d] :: (encs q).map fun x => .tup [x, d]
    rw [prs_map d q]
theorem told_len {k : Nat} {ys : List Lot} {N : Nat} (E : Ends k ys N) : ∀ t, t ≤ N → (run k ys t).told.length = t
  | 0, _ => rfl
  | t + 1, h => by
    rw [told_step k ys t (E.lt t (by omega)), List.length_append, told_len E t (by omega)]
    rfl
section
variable {F : Nat → Option Fd} {wf n : Nat} {m : Hm}
theorem tree_ok (hC : Common F) (hT : TreeF F) {k : Nat} (h1 : 1 ≤ k) (hk : k ≤ 6) (ys : List Lot) {N : Nat} (E : Ends k ys N) (Q : D → Hm → Prop) (h : Q (.tup (run k ys N).told) m) : wp (callN F wf (n + 3) none 17 [cnd k ys] m) Q := by
  refine w_call hT.fTree rfl ?_
  dsimp only [cTree]
  have hN := E.le
  rw [w_scons]
  simp only [w_var, w_con, w_nil, w_cons, w_tup, w_lst, w_bin, w_cmp, w_tand, w_tor, w_tnot, w_tru, w_vand, w_vor, w_vnot, w_one, w_turn, w_ife, w_callp, w_bi, w_isin, w_idx, w_slc, w_nd, w_meth, w_comp, w_snil, w_single, w_asg, w_setix, w_exp, w_ret, w_ifs, w_fors, w_whil, w_brk, w_pass, wpo_some, wpb_some, wpa_tup, wpt_some, wif_bl, wp_ifB, wp_ok, get, put, home_int, home_bl, home_non, home_str, home_tup, home_adr, home_fro, home_lst, homes, assignT, assignTs, pick, List.map, List.replicate, List.cons_append, List.nil_append, List.append_nil, List.getD_cons_zero, List.getD_cons_succ]
  simp only [cnd_0, wpo_some, tupR1 k (by omega), homes, home_enc, home_non, home_lst, home_tup]
  rw [seqQ_nx, w_scons]
  simp only [w_var, w_con, w_nil, w_cons, w_tup, w_lst, w_bin, w_cmp, w_tand, w_tor, w_tnot, w_tru, w_vand, w_vor, w_vnot, w_one, w_turn, w_ife, w_callp, w_bi, w_isin, w_idx, w_slc, w_nd, w_meth, w_comp, w_snil, w_single, w_asg, w_setix, w_exp, w_ret, w_ifs, w_fors, w_whil, w_brk, w_pass, wpo_some, wpb_some, wpa_tup, wpt_some, wif_bl, wp_ifB, wp_ok, get, put, home_int, home_bl, home_non, home_str, home_tup, home_adr, home_fro, home_lst, homes, assignT, assignTs, pick, List.map, List.replicate, List.cons_append, List.nil_append, List.append_nil, List.getD_cons_zero, List.getD_cons_succ]
  refine ⟨_, _, src_rng (b := 2000) (by decide) (by decide), ?_⟩
  refine loop_inv (xs := rangeL 0 (2000 : Int).toNat) (fun t ρ m' => ∃ a b o3 o4 o5 l, t ≤ N ∧ m' = m ++ l ∧ ρ = [some (cnd k ys), some (.adr a), some (.adr b), o3, o4, o5] ∧ m.length ≤ a ∧ m.length ≤ b ∧ a ≠ b ∧ m'[a]? = some (.lst (prs (run k ys t).L (run k ys t).P)) ∧ m'[b]? = some (.lst (run k ys t).told)) _ (fun _ _ _ _ _ => snap_at _ _ _) (fun t d ρ m' hd I => ?_) (fun ρ m' I => ?_) _ 0 _ _ (Nat.zero_le _) (by rw [rangeL_lenW]; exact Nat.le_refl _) ?_
  · obtain ⟨a, b, o3, o4, o5, l, htN, rfl, rfl, ha, hb, hab, ea, eb⟩ := I
    have hLN := run_le h1 hk ys E t htN
    have hpl := run_P k ys t
    have hd2 : d = .int (t : Int) := by
      rw [rangeL_eq, List.getElem?_map] at hd
      cases q : (List.range (2000 : Int).toNat)[t]? with
      | none => rw [q] at hd; cases hd
      | some j =>
        rw [q] at hd
        obtain ⟨hi, rfl⟩ := List.getElem?_eq_some_iff.mp q
        rw [List.getElem_range] at hd
        cases hd
        simp
    subst hd2
    rw [w_turn]
    refine ⟨_, rfl, ?_⟩
    dsimp only [put]
    rw [w_scons, w_ifs]
    simp only [w_cmp, w_bi, w_cons, w_nil, w_var, get, wpo_some, wpa_tup, bi_lenW, len_adr ea, prs_len hpl, c_eq, wpb_some, wif_bl, w_snil]
    by_cases ht : t < (run k ys t).L.length
    · have hne : ((t : Int) == ((run k ys t).L.length : Int)) = false := by simp; omega
      rw [hne]
      simp only [Bool.false_eq_true, if_false]
      have htN' : t < N := by
        by_cases z : t = N
        · subst z; rw [E.at_] at ht; omega
        · omega
      have hL1 := run_le h1 hk ys E (t + 1) htN'
      have eP := prs_get hpl ht
      have tl := told_len E t htN
      have ts := told_step k ys t ht
      generalize hlot : (run k ys t).L.getD t [] = lot at eP ts
      generalize hpar : (run k ys t).P.getD t .non = par at eP ts
      have hpar2 : ∀ m, home par m = (par, m) := by
        have hp : t < (run k ys t).P.length := by omega
        have e : (run k ys t).P.getD t .non = (run k ys t).P[t] := by rw [List.getD_eq_getElem?_getD, List.getElem?_eq_getElem hp]; rfl
        have hm := List.getElem_mem hp
        rw [← e, hpar] at hm
        have : ∀ t, ∀ d ∈ (run k ys t).P, ∀ m, home d m = (d, m) := fun t => by
          induction t with
          | zero => intro d h; rw [List.mem_singleton.mp h]; exact fun _ => rfl
          | succ t ih =>
            intro d h
            rcases List.mem_append.mp h with h | h
            · exact ih d h
            · obtain ⟨_, _, rfl⟩ := List.mem_map.mp h; exact fun _ => rfl
        exact this t _ hm
      have hq : (kids k ys lot).length ≤ 63 := Nat.le_trans (Nat.le_trans (List.length_filter_le _ _) (List.length_filter_le _ _)) (lots_len hk)
      have e0 : ∀ m, idxD (.tup [encI lot, par]) (.int 0) m = some (encI lot) := fun _ => rfl
      have e1 : ∀ m, idxD (.tup [encI lot, par]) (.int 1) m = some par := fun _ => rfl
      rw [seqQ_nx, w_scons]
      simp only [w_var, w_con, w_nil, w_cons, w_tup, w_lst, w_bin, w_cmp, w_tand, w_tor, w_tnot, w_tru, w_vand, w_vor, w_vnot, w_one, w_turn, w_ife, w_callp, w_bi, w_isin, w_idx, w_slc, w_nd, w_meth, w_comp, w_snil, w_single, w_asg, w_setix, w_exp, w_ret, w_ifs, w_fors, w_whil, w_brk, w_pass, wpo_some, wpb_some, wpa_tup, wpt_some, wif_bl, wp_ifB, wp_ok, get, put, home_int, home_bl, home_non, home_str, home_tup, home_adr, home_fro, home_lst, homes, assignT, assignTs, pick, List.map, List.replicate, List.cons_append, List.nil_append, List.append_nil, List.getD_cons_zero, List.getD_cons_succ]
      rw [idx_lst ea eP]
      simp only [wpo_some, e0, homes, home_cnd, home_enc, pick, List.nil_append, List.getD_cons_zero, List.getD_cons_succ]
      refine kids_ok hC hT hk ys _ ?_
      simp only [home_lst, put]
      generalize hm1 : m ++ l ++ [D.lst (encs (kids k ys lot))] = m1
      have a1 : m1[a]? = some (.lst (prs (run k ys t).L (run k ys t).P)) := by rw [← hm1, List.getElem?_append_left (List.getElem?_eq_some_iff.mp ea).1]; exact ea
      have b1 : m1[b]? = some (.lst (run k ys t).told) := by rw [← hm1, List.getElem?_append_left (List.getElem?_eq_some_iff.mp eb).1]; exact eb
      have s1 : m1[(m ++ l).length]? = some (.lst (encs (kids k ys lot))) := by rw [← hm1]; exact List.getElem?_concat_length
      rw [seqQ_nx, w_scons]
      simp only [w_var, w_con, w_nil, w_cons, w_tup, w_lst, w_bin, w_cmp, w_tand, w_tor, w_tnot, w_tru, w_vand, w_vor, w_vnot, w_one, w_turn, w_ife, w_callp, w_bi, w_isin, w_idx, w_slc, w_nd, w_meth, w_comp, w_snil, w_single, w_asg, w_setix, w_exp, w_ret, w_ifs, w_fors, w_whil, w_brk, w_pass, wpo_some, wpb_some, wpa_tup, wpt_some, wif_bl, wp_ifB, wp_ok, get, put, home_int, home_bl, home_non, home_str, home_tup, home_adr, home_fro, home_lst, homes, assignT, assignTs, pick, List.map, List.replicate, List.cons_append, List.nil_append, List.append_nil, List.getD_cons_zero, List.getD_cons_succ]
      refine ⟨recv_lstW (.inl rfl) b1, ?_⟩
      rw [idx_lst a1 eP]
      simp only [wpo_some, e0]
      rw [idx_lst a1 eP]
      simp only [wpo_some, e1, bi_lenW, len_adr a1, len_adr s1, prs_len hpl, encs_len, b_add]
      rw [tupR2 _ _ (by omega) (by omega)]
      simp only [wpo_some, homes, home_enc, hpar2, home_tup]
      refine ⟨_, _, meth_app (b := m.length) hb b1 (by omega), ?_⟩
      rw [← ts]
      generalize hm2 : m1.set b (.lst (run k ys (t + 1)).told) = m2
      have a2 : m2[a]? = some (.lst (prs (run k ys t).L (run k ys t).P)) := by rw [← hm2, List.getElem?_set_ne (Ne.symm hab)]; exact a1
      have b2 : m2[b]? = some (.lst (run k ys (t + 1)).told) := by rw [← hm2, List.getElem?_set_self (List.getElem?_eq_some_iff.mp b1).1]
      have hsb : b ≠ (m ++ l).length := Nat.ne_of_lt (List.getElem?_eq_some_iff.mp eb).1
      have s2 : m2[(m ++ l).length]? = some (.lst (encs (kids k ys lot))) := by rw [← hm2, List.getElem?_set_ne hsb]; exact s1
      have p2 : m <+: m2 := by
        rw [← hm2, ← hm1, List.append_assoc, List.set_append_right _ _ hb]
        exact List.prefix_append _ _
      rw [seqQ_nx]
      simp only [w_var, w_con, w_nil, w_cons, w_tup, w_lst, w_bin, w_cmp, w_tand, w_tor, w_tnot, w_tru, w_vand, w_vor, w_vnot, w_one, w_turn, w_ife, w_callp, w_bi, w_isin, w_idx, w_slc, w_nd, w_meth, w_comp, w_snil, w_single, w_asg, w_setix, w_exp, w_ret, w_ifs, w_fors, w_whil, w_brk, w_pass, wpo_some, wpb_some, wpa_tup, wpt_some, wif_bl, wp_ifB, wp_ok, get, put, home_int, home_bl, home_non, home_str, home_tup, home_adr, home_fro, home_lst, homes, assignT, assignTs, pick, List.map, List.replicate, List.cons_append, List.nil_append, List.append_nil, List.getD_cons_zero, List.getD_cons_succ]
      refine ⟨_, _, src_adr s2, isBig_of (by rw [encs_len]; omega), turns_pure (xs := encs (kids k ys lot)) (fun _ => true) (fun d => .tup [d, .int (t : Int)]) (fun j _ => live_at' s2) (Nat.le_refl _) (fun d hd acc => ?_) ?_⟩
      · obtain ⟨x, hx, rfl⟩ := List.mem_map.mp hd
        rw [w_one]
        simp only [assignT, wipe, clr, put, wpt_some, w_con, wif_bl, if_true, w_tup, w_bi, w_cons, w_nil, w_var, get, wpo_some, wpa_tup, b_int, homes, home_enc, home_int, home_tup]
        exact ⟨trivial, trivial⟩
      · rw [List.filter_eq_self.mpr (by simp), ← prs_map]
        have eL' : (run k ys (t + 1)).L = (run k ys t).L ++ kids k ys lot := by
          show (run k ys t).L ++ kids k ys ((run k ys t).L.getD (run k ys t).C.length []) = _
          rw [run_C, hlot]
        have eP' : (run k ys (t + 1)).P = (run k ys t).P ++ (kids k ys lot).map fun _ => D.int (t : Int) := by
          show (run k ys t).P ++ (kids k ys ((run k ys t).L.getD (run k ys t).C.length [])).map (fun _ => D.int ((run k ys t).C.length : Int)) = _
          rw [run_C, hlot]
        rw [b_addA a2 (by rw [prs_len hpl, prs_len (by simp)]; omega)]
        rw [← prs_app _ _ hpl, ← eL', ← eP']
        simp only [wpo_some, home_lst, put]
        obtain ⟨r, hr⟩ := p2
        have lb2 := (List.getElem?_eq_some_iff.mp b2).1
        refine ⟨m2.length, b, _, _, _, r ++ [.lst (prs (run k ys (t + 1)).L (run k ys (t + 1)).P)], by omega, by rw [← hr, List.append_assoc], rfl, by rw [← hr, List.length_append]; omega, hb, by omega, List.getElem?_concat_length, by rw [List.getElem?_append_left lb2]; exact b2⟩
    · have etN : t = N := by
        by_cases z : t = N
        · exact z
        · have := E.lt t (by omega); omega
      subst etN
      have hne : ((t : Int) == ((run k ys t).L.length : Int)) = true := by rw [E.at_]; simp
      rw [hne]
      simp only [if_true, w_single, w_brk]
      show seqQ _ _ _ (.nx, _) _
      rw [seqQ_nx]
      simp only [w_var, w_con, w_nil, w_cons, w_tup, w_lst, w_bin, w_cmp, w_tand, w_tor, w_tnot, w_tru, w_vand, w_vor, w_vnot, w_one, w_turn, w_ife, w_callp, w_bi, w_isin, w_idx, w_slc, w_nd, w_meth, w_comp, w_snil, w_single, w_asg, w_setix, w_exp, w_ret, w_ifs, w_fors, w_whil, w_brk, w_pass, wpo_some, wpb_some, wpa_tup, wpt_some, wif_bl, wp_ifB, wp_ok, get, put, home_int, home_bl, home_non, home_str, home_tup, home_adr, home_fro, home_lst, homes, assignT, assignTs, pick, List.map, List.replicate, List.cons_append, List.nil_append, List.append_nil, List.getD_cons_zero, List.getD_cons_succ]
      rw [bi_tupl eb]
      simp only [wpo_some]
      refine fin_ret (by rw [below_tup]; exact below_told k ys _ E t (Nat.le_refl _)) ?_
      rw [List.take_left]
      exact h
  · obtain ⟨a, b, o3, o4, o5, l, htN, _⟩ := I
    rw [rangeL_lenW] at htN
    have : (2000 : Int).toNat = 2000 := rfl
    omega
  · exact ⟨m.length, m.length + 1, none, none, none, [.lst [.tup [encI (full k), .non]], .lst []], Nat.zero_le _, by simp, by simp, by omega, by omega, by omega, by simp [run, prs], by simp [run, Tr.told, zip3L, encs]⟩
/-! ### paths, leaves -/
def parN : D → Option Nat
  | .int t => some t.toNat
  | _ => none
/-- the next path -/
def pathOf (acc : List Lot) (p : D) : Lot := match p with
  | .int t => acc.getD t.toNat [] ++ [(acc.length : Int)]
  | _ => [(acc.length : Int)]
def pathsI : List Lot → List D → List Lot
  | acc, [] => acc
  | acc, p :: P => pathsI (acc ++ [pathOf acc p]) P
theorem pathsI_len : ∀ (P : List D) (acc : List Lot), (pathsI acc P).length = acc.length + P.length
  | [], acc => rfl
  | p :: P, acc => by rw [pathsI, pathsI_len P]; simp; omega
theorem pathsI_snoc : ∀ (P : List D) (acc : List Lot) (p : D), pathsI acc (P ++ [p]) = pathsI acc P ++ [pathOf (pathsI acc P) p]
  | [], acc, p => rfl
  | q :: P, acc, p => by
    show pathsI (acc ++ [pathOf acc q]) (P ++ [p]) = _
    rw [pathsI_snoc P]
    rfl
/-- parents stand before -/
theorem par_ok {k : Nat} (ys : List Lot) : ∀ t, (∀ u, u < t → u < (run k ys u).L.length) → ∀ (j : Nat) (p : D), (run k ys t).P[j]? = some p → p = .non ∨ ∃ i : Nat, p = .int (i : Int) ∧ i < j
  | 0, _, j, p, h => by
    cases j with
    | zero => left; simp [run] at h; exact h.symm
    | succ j => simp [run] at h
  | t + 1, hl, j, p, h => by
    have hlt := hl t (by omega)
    have hpl := run_P k ys t
    by_cases hj : j < (run k ys t).P.length
    · refine par_ok ys t (fun u hu => hl u (by omega)) j p ?_
      have e : (run k ys (t + 1)).P = (run k ys t).P ++ _ := rfl
      rw [e, List.getElem?_append_left hj] at h
      exact h
    · have e : (run k ys (t + 1)).P = (run k ys t).P ++ (kids k ys ((run k ys t).L.getD (run k ys t).C.length [])).map fun _ => D.int ((run k ys t).C.length : Int) := rfl
      rw [e, List.getElem?_append_right (by omega)] at h
      have hm := List.mem_of_getElem? h
      obtain ⟨_, _, rfl⟩ := List.mem_map.mp hm
      right
      exact ⟨t, by rw [run_C], by omega⟩
theorem zip3_get : ∀ {L P C : List D} {j : Nat} {d : D}, (zip3L L P C)[j]? = some d → ∃ x y z, L[j]? = some x ∧ P[j]? = some y ∧ C[j]? = some z ∧ d = .tup [x, y, z]
  | [], _, _, j, d, h => by simp [zip3L] at h
  | x :: L, [], _, j, d, h => by simp [zip3L] at h
  | x :: L, y :: P, [], j, d, h => by simp [zip3L] at h
  | x :: L, y :: P, z :: C, 0, d, h => by simp [zip3L] at h; exact ⟨x, y, z, rfl, rfl, rfl, h.symm⟩
  | x :: L, y :: P, z :: C, j + 1, d, h => by
    obtain ⟨a, b, c, h1, h2, h3, h4⟩ := zip3_get (L := L) (P := P) (C := C) (j := j) (d := d) (by simpa [zip3L] using h)
    exact ⟨a, b, c, by simpa using h1, by simpa using h2, by simpa using h3, h4⟩
theorem bnd_at {xs : List D} {i : Nat} (h : i ≤ xs.length) : bnd xs i m = some xs[i]? := by
  unfold bnd
  by_cases e : i < xs.length
  · rw [if_pos e]
  · rw [if_neg e, if_pos (by omega), List.getElem?_eq_none (by omega)]
theorem enumL_get' : ∀ (xs : List D) (j i : Nat), (enumL j xs)[i]? = (xs[i]?).map fun x => .tup [.int ((j + i : Nat) : Int), x]
  | [], j, i => by simp [enumL]
  | x :: xs, j, 0 => by simp [enumL]
  | x :: xs, j, i + 1 => by
    show (enumL (j + 1) xs)[i]? = _
    rw [enumL_get' xs (j + 1) i]
    have : j + 1 + i = j + (i + 1) := by omega
    rw [this]
    simp
theorem enumL_len' : ∀ (xs : List D) (j : Nat), (enumL j xs).length = xs.length
  | [], _ => rfl
  | x :: xs, j => by simp [enumL, enumL_len' xs]
theorem paths_ok (hT : TreeF F) {k : Nat} (h1 : 1 ≤ k) (hk : k ≤ 6) (ys : List Lot) {N : Nat} (E : Ends k ys N) (Q : D → Hm → Prop) (h : Q (.lst (encs (pathsI [] (run k ys N).P))) m) : wp (callN F wf (n + 1) none 18 [.tup (run k ys N).told] m) Q := by
  refine w_call hT.fPaths rfl ?_
  dsimp only [cPaths]
  have hN := E.le
  have tl := told_len E N (Nat.le_refl _)
  have hpl : (run k ys N).P.length = N := by rw [run_P, E.at_]
  rw [w_scons]
  simp only [w_var, w_con, w_nil, w_cons, w_tup, w_lst, w_bin, w_cmp, w_tand, w_tor, w_tnot, w_tru, w_vand, w_vor, w_vnot, w_one, w_turn, w_ife, w_callp, w_bi, w_isin, w_idx, w_slc, w_nd, w_meth, w_comp, w_snil, w_single, w_asg, w_setix, w_exp, w_ret, w_ifs, w_fors, w_whil, w_brk, w_pass, wpo_some, wpb_some, wpa_tup, wpt_some, wif_bl, wp_ifB, wp_ok, get, put, home_int, home_bl, home_non, home_str, home_tup, home_adr, home_fro, home_lst, homes, assignT, assignTs, pick, List.map, List.replicate, List.cons_append, List.nil_append, List.append_nil, List.getD_cons_zero, List.getD_cons_succ]
  rw [seqQ_nx, w_scons]
  simp only [w_var, w_con, w_nil, w_cons, w_tup, w_lst, w_bin, w_cmp, w_tand, w_tor, w_tnot, w_tru, w_vand, w_vor, w_vnot, w_one, w_turn, w_ife, w_callp, w_bi, w_isin, w_idx, w_slc, w_nd, w_meth, w_comp, w_snil, w_single, w_asg, w_setix, w_exp, w_ret, w_ifs, w_fors, w_whil, w_brk, w_pass, wpo_some, wpb_some, wpa_tup, wpt_some, wif_bl, wp_ifB, wp_ok, get, put, home_int, home_bl, home_non, home_str, home_tup, home_adr, home_fro, home_lst, homes, assignT, assignTs, pick, List.map, List.replicate, List.cons_append, List.nil_append, List.append_nil, List.getD_cons_zero, List.getD_cons_succ]
  refine ⟨_, _, rfl, ?_⟩
  have bI : ∀ (i : Nat) (ρ : Env) (m' : Hm), i ≤ (enumL 0 (run k ys N).told).length → bnd (enumL 0 (run k ys N).told) i m' = some (enumL 0 (run k ys N).told)[i]? := fun i ρ m' hi => bnd_at hi
  refine loop_inv (xs := enumL 0 (run k ys N).told) (fun t ρ m' => ∃ o2 o3, ρ = [some (.tup (run k ys N).told), some (.adr m.length), o2, o3] ∧ m' = m ++ [.lst (encs (pathsI [] ((run k ys N).P.take t)))]) _ (fun i ρ m' _ hi => bI i ρ m' hi) (fun t d ρ m' hd I => ?_) (fun ρ m' I => ?_) _ 0 _ _ (Nat.zero_le _) (by rw [enumL_len']; exact Nat.le_refl _) ⟨none, none, rfl, rfl⟩
  · obtain ⟨o2, o3, rfl, rfl⟩ := I
    rw [enumL_get'] at hd
    cases q : (run k ys N).told[t]? with
    | none => rw [q] at hd; cases hd
    | some row =>
      rw [q] at hd
      cases hd
      obtain ⟨x, p, c, _, hp, _, rfl⟩ := zip3_get q
      have htN : t < N := by have := (List.getElem?_eq_some_iff.mp q).1; omega
      rw [w_turn]
      refine ⟨[some (.tup (run k ys N).told), some (.adr m.length), some (.int ((0 + t : Nat) : Int)), some (.tup [x, p, c])], rfl, ?_⟩
      dsimp only
      rw [Nat.zero_add]
      have ep : (m ++ [D.lst (encs (pathsI [] ((run k ys N).P.take t)))])[m.length]? = some (.lst (encs (pathsI [] ((run k ys N).P.take t)))) := List.getElem?_concat_length
      have e1 : ∀ m, idxD (.tup [x, p, c]) (.int 1) m = some p := fun _ => rfl
      have pl : (pathsI [] ((run k ys N).P.take t)).length = t := by rw [pathsI_len, List.length_take]; simp; omega
      have pt : (run k ys N).P.take (t + 1) = (run k ys N).P.take t ++ [p] := by rw [List.take_succ, hp]; rfl
      simp only [w_var, w_con, w_nil, w_cons, w_tup, w_lst, w_bin, w_cmp, w_tand, w_tor, w_tnot, w_tru, w_vand, w_vor, w_vnot, w_one, w_turn, w_ife, w_callp, w_bi, w_isin, w_idx, w_slc, w_nd, w_meth, w_comp, w_snil, w_single, w_asg, w_setix, w_exp, w_ret, w_ifs, w_fors, w_whil, w_brk, w_pass, wpo_some, wpb_some, wpa_tup, wpt_some, wif_bl, wp_ifB, wp_ok, get, put, home_int, home_bl, home_non, home_str, home_tup, home_adr, home_fro, home_lst, homes, assignT, assignTs, pick, List.map, List.replicate, List.cons_append, List.nil_append, List.append_nil, List.getD_cons_zero, List.getD_cons_succ]
      refine ⟨recv_lstW (.inl rfl) ep, ?_⟩
      simp only [e1, wpo_some]
      have fin : ∀ v : Lot, v = pathOf (pathsI [] ((run k ys N).P.take t)) p → ∃ d m2, methD m.length .append (.adr m.length) (homes [encI v] (m ++ [D.lst (encs (pathsI [] ((run k ys N).P.take t)))])).1 (homes [encI v] (m ++ [D.lst (encs (pathsI [] ((run k ys N).P.take t)))])).2 = some (d, m2) ∧ m2 = m ++ [D.lst (encs (pathsI [] ((run k ys N).P.take (t + 1))))] := fun v hv => by
        refine ⟨_, _, meth_app (b := m.length) (Nat.le_refl _) ep (by rw [encs_len, pl]; omega), ?_⟩
        show List.set (m ++ [D.lst (encs (pathsI [] ((run k ys N).P.take t)))]) m.length (D.lst (encs (pathsI [] ((run k ys N).P.take t)) ++ [encI v])) = _
        rw [List.set_append_right _ _ (Nat.le_refl _), Nat.sub_self]
        rw [pt, pathsI_snoc, ← hv]
        show m ++ [D.lst (encs _ ++ [encI v])] = _
        unfold encs
        rw [List.map_append]
        rfl
      rcases par_ok ys N E.lt t p hp with rfl | ⟨i, rfl, hi⟩
      · rw [show cmpD .is (m ++ [D.lst (encs (pathsI [] ((run k ys N).P.take t)))]) .non .non = some true from rfl]
        simp only [wpb_some, wp_ifB, if_true, w_tup, w_cons, w_nil, w_var, get, wpo_some, wpa_tup]
        obtain ⟨d, m2, f1, f2⟩ := fin [(t : Int)] (by unfold pathOf; rw [pl])
        exact ⟨d, m2, f1, _, _, rfl, f2⟩
      · rw [show cmpD .is (m ++ [D.lst (encs (pathsI [] ((run k ys N).P.take t)))]) (.int (i : Int)) .non = some false from rfl]
        simp only [wpb_some, wp_ifB, Bool.false_eq_true, if_false, w_bin, w_idx, w_con, w_tup, w_cons, w_nil, w_var, get, wpo_some, wpa_tup, e1]
        have hil : i < (pathsI [] ((run k ys N).P.take t)).length := by omega
        rw [idx_lst ep (i := i) (d := encI (pathsI [] ((run k ys N).P.take t))[i]) (by unfold encs; rw [List.getElem?_map, List.getElem?_eq_getElem hil]; rfl)]
        simp only [wpo_some, homes, home_int]
        have sz : ∀ (P : List D) (acc : List Lot), (∀ v ∈ acc, v.length ≤ acc.length) → ∀ v ∈ pathsI acc P, v.length ≤ (pathsI acc P).length := fun P => by
          induction P with
          | nil => intro acc h v hv; exact h v hv
          | cons p P ih =>
            intro acc h
            refine ih _ fun v hv => ?_
            rw [List.length_append]
            rcases List.mem_append.mp hv with hv | hv
            · have := h v hv; omega
            · rw [List.mem_singleton.mp hv]
              have g : ∀ j : Nat, (acc.getD j []).length ≤ acc.length := fun j => by
                rw [List.getD_eq_getElem?_getD]
                cases q : acc[j]? with
                | none => simp
                | some w => have := h w (List.mem_of_getElem? q); simpa using this
              cases p with
              | int t =>
                have := g t.toNat
                show (acc.getD t.toNat [] ++ [(acc.length : Int)]).length ≤ _
                rw [List.length_append]
                simp only [List.length_cons, List.length_nil]
                omega
              | _ => show [(acc.length : Int)].length ≤ _; simp
        have s1 := sz ((run k ys N).P.take t) [] (fun v hv => by cases hv) _ (List.getElem_mem hil)
        rw [show encI (pathsI [] ((run k ys N).P.take t))[i] = .tup ((pathsI [] ((run k ys N).P.take t))[i].map D.int) from rfl, b_addT _ _ (by simp; omega)]
        simp only [wpo_some]
        obtain ⟨d, m2, f1, f2⟩ := fin ((pathsI [] ((run k ys N).P.take t))[i] ++ [(t : Int)]) (by
          show _ = (pathsI [] ((run k ys N).P.take t)).getD (i : Int).toNat [] ++ [((pathsI [] ((run k ys N).P.take t)).length : Int)]
          rw [pl, List.getD_eq_getElem?_getD, Int.toNat_natCast, List.getElem?_eq_getElem hil]
          rfl)
        rw [show encI ((pathsI [] ((run k ys N).P.take t))[i] ++ [(t : Int)]) = .tup ((pathsI [] ((run k ys N).P.take t))[i].map D.int ++ [.int (t : Int)]) by unfold encI; rw [List.map_append]; rfl] at f1
        exact ⟨d, m2, f1, _, _, rfl, f2⟩
  · obtain ⟨o2, o3, rfl, rfl⟩ := I
    rw [enumL_len', tl, List.take_of_length_le (by omega)]
    rw [seqQ_nx]
    simp only [w_var, w_con, w_nil, w_cons, w_tup, w_lst, w_bin, w_cmp, w_tand, w_tor, w_tnot, w_tru, w_vand, w_vor, w_vnot, w_one, w_turn, w_ife, w_callp, w_bi, w_isin, w_idx, w_slc, w_nd, w_meth, w_comp, w_snil, w_single, w_asg, w_setix, w_exp, w_ret, w_ifs, w_fors, w_whil, w_brk, w_pass, wpo_some, wpb_some, wpa_tup, wpt_some, wif_bl, wp_ifB, wp_ok, get, put, home_int, home_bl, home_non, home_str, home_tup, home_adr, home_fro, home_lst, homes, assignT, assignTs, pick, List.map, List.replicate, List.cons_append, List.nil_append, List.append_nil, List.getD_cons_zero, List.getD_cons_succ]
    refine fin_adr (Nat.le_refl _) List.getElem?_concat_length (fun _ z => by cases z) (by rw [below_lst]; exact belows_encs _ _) ?_
    rw [List.take_left]
    exact h
end
end Bell
end

section
set_option maxRecDepth 100000
/-! leaves; light conditions -/
namespace Bell
open PySem (Str)
theorem zipL_get' : ∀ (xs ys : List D) (i : Nat) (d : D), (zipL xs ys)[i]? = some d → ∃ x y, xs[i]? = some x ∧ ys[i]? = some y ∧ d = .tup [x, y]
  | [], _, i, d, h => by simp [zipL] at h
  | x :: xs, [], i, d, h => by simp [zipL] at h
  | x :: xs, y :: ys, 0, d, h => by simp [zipL] at h; exact ⟨x, y, rfl, rfl, h.symm⟩
  | x :: xs, y :: ys, i + 1, d, h => by
    obtain ⟨a, b, h1, h2, h3⟩ := zipL_get' xs ys i d (by simpa [zipL] using h)
    exact ⟨a, b, by simpa using h1, by simpa using h2, h3⟩
theorem zipL_len' : ∀ (xs ys : List D), (zipL xs ys).length = min xs.length ys.length
  | [], _ => by simp [zipL]
  | x :: xs, [] => by simp [zipL]
  | x :: xs, y :: ys => by simp [zipL, zipL_len' xs ys]
/-- has the row no children -/
def noKids : D → Bool
  | .tup [_, _, .tup c] => c.isEmpty
  | _ => false
def zipRow : D → Bool
  | .tup [_, r] => noKids r
  | _ => false
def zipPath : D → D
  | .tup [p, _] => p
  | d => d
/-- the leaves' paths, as they stand -/
def leavesR : List Lot → List D → List Lot
  | p :: ps, r :: rs => if noKids r then p :: leavesR ps rs else leavesR ps rs
  | _, _ => []
def leavesI (k : Nat) (ys : List Lot) (N : Nat) : List Lot := isort lexLt (leavesR (pathsI [] (run k ys N).P) (run k ys N).told)
def rowOk (d : D) : Prop := ∃ x p c, d = .tup [x, p, .tup c] ∧ purs 39 c = true
theorem leaves_zip : ∀ (ps : List Lot) (rs : List D), ((zipL (encs ps) rs).filter zipRow).map zipPath = encs (leavesR ps rs)
  | [], rs => by simp [encs, zipL, leavesR]
  | p :: ps, [] => by simp [encs, zipL, leavesR]
  | p :: ps, r :: rs => by
    show ((D.tup [encI p, r] :: zipL (encs ps) rs).filter _).map _ = encs (leavesR (p :: ps) (r :: rs))
    rw [leavesR]
    by_cases h : noKids r = true
    · rw [List.filter_cons_of_pos (by simpa [zipRow] using h), if_pos h, List.map_cons, leaves_zip ps rs]
      rfl
    · rw [List.filter_cons_of_neg (by simpa [zipRow] using h), if_neg h, leaves_zip ps rs]
section
variable {F : Nat → Option Fd} {wf n : Nat} {m : Hm}
theorem told_ok {k : Nat} {ys : List Lot} {N : Nat} (E : Ends k ys N) : ∀ t, t ≤ N → ∀ d ∈ (run k ys t).told, rowOk d
  | 0, _, d, h => by
    have : (run k ys 0).told = [] := by simp [Tr.told, run, encs, zip3L]
    rw [this] at h; cases h
  | t + 1, ht, d, h => by
    rw [told_step k ys t (E.lt t (by omega))] at h
    rcases List.mem_append.mp h with h | h
    · exact told_ok E t (by omega) d h
    · rw [List.mem_singleton.mp h]
      refine ⟨_, _, _, rfl, ?_⟩
      rw [rangeL_eq]
      generalize List.range (kids k ys ((run k ys t).L.getD t [])).length = l
      induction l with
      | nil => unfold purs; rfl
      | cons x l ih => rw [List.map_cons, purs, ih]; unfold pur; rfl
theorem leaves_ok (hT : TreeF F) {k : Nat} (h1 : 1 ≤ k) (hk : k ≤ 6) (ys : List Lot) {N : Nat} (E : Ends k ys N) (Q : D → Hm → Prop) (h : Q (.lst (encs (leavesI k ys N))) m) : wp (callN F wf (n + 2) none 19 [.tup (run k ys N).told] m) Q := by
  refine w_call hT.fLeaves rfl ?_
  dsimp only [cLeaves]
  have hN := E.le
  have tl := told_len E N (Nat.le_refl _)
  have hpl : (run k ys N).P.length = N := by rw [run_P, E.at_]
  simp only [w_var, w_con, w_nil, w_cons, w_tup, w_lst, w_bin, w_cmp, w_tand, w_tor, w_tnot, w_tru, w_vand, w_vor, w_vnot, w_one, w_turn, w_ife, w_callp, w_bi, w_isin, w_idx, w_slc, w_nd, w_meth, w_comp, w_snil, w_single, w_asg, w_setix, w_exp, w_ret, w_ifs, w_fors, w_whil, w_brk, w_pass, wpo_some, wpb_some, wpa_tup, wpt_some, wif_bl, wp_ifB, wp_ok, get, put, home_int, home_bl, home_non, home_str, home_tup, home_adr, home_fro, home_lst, homes, assignT, assignTs, pick, List.map, List.replicate, List.cons_append, List.nil_append, List.append_nil, List.getD_cons_zero, List.getD_cons_succ]
  refine paths_ok hT h1 hk ys E _ ?_
  generalize hps : pathsI [] (run k ys N).P = ps
  have lps : (encs ps).length = N := by rw [encs_len, ← hps, pathsI_len, hpl]; simp
  generalize hrs : (run k ys N).told = rs at tl
  refine ⟨_, _, rfl, isBig_of (by rw [lps, tl]; omega), turns_pure (xs := zipL (encs ps) rs) zipRow zipPath (fun j hj => bnd_at hj) (by rw [zipL_len']; exact Nat.le_refl _) (fun d hd acc => ?_) ?_⟩
  · obtain ⟨i, hi⟩ := List.mem_iff_getElem?.mp hd
    obtain ⟨x, y, hx, hy, rfl⟩ := zipL_get' _ _ _ _ hi
    obtain ⟨p, _, rfl⟩ := List.mem_map.mp (List.mem_of_getElem? hx)
    obtain ⟨a, b, c, rfl, hc⟩ := told_ok E N (Nat.le_refl _) y (by rw [hrs]; exact List.mem_of_getElem? hy)
    rw [w_one]
    refine ⟨[some (.tup rs), some (encI p), some (.tup [a, b, .tup c])], rfl, ?_⟩
    have e1 : ∀ m, idxD (.tup [a, b, .tup c]) (.int 2) m = some (.tup c) := fun _ => rfl
    have e2 : ∀ m, cmpD .eq m (.tup c) (.tup []) = some c.isEmpty := fun m => by
      show (if pur 40 (.tup c) && pur 40 (.tup []) then some (eqb (.tup c) (.tup [])) else none) = _
      have hp : pur 40 (.tup c) = true := by
        rw [pur_tup 39]
        exact hc
      rw [if_pos (by rw [hp, pur_tup 39]; unfold purs; rfl)]
      cases c <;> simp [eqb, eqbs]
    dsimp only
    simp only [w_cmp, w_idx, w_tup, w_con, w_nil, w_var, get, wpo_some, wpa_tup, e1, homes, e2, wpb_some, wif_bl, home_enc]
    show if c.isEmpty = true then _ else _
    by_cases h : c.isEmpty = true
    · simp [h, noKids, zipRow, zipPath]
    · simp [h, noKids, zipRow, zipPath]
  · rw [leaves_zip]
    have e3 : biD .sorted [.lst (encs (leavesR ps rs))] m = some (.lst (encs (isort lexLt (leavesR ps rs)))) := by
      show (itemsL m (.lst (encs (leavesR ps rs)))).bind (fun xs => (sortD xs).map D.lst) = _
      rw [show itemsL m (.lst (encs (leavesR ps rs))) = some (encs (leavesR ps rs)) from rfl]
      simp [sortD_encs]
    rw [e3]
    simp only [wpo_some]
    refine fin_ret (by rw [below_lst]; exact belows_encs _ _) ?_
    rw [List.take_of_length_le (Nat.le_refl _)]
    unfold leavesI at h
    rw [hps, hrs] at h
    exact h
theorem light_ok (hC : Common F) (hT : TreeF F) {k most : Nat} (hb : BoxAt m k) (h2 : 2 ≤ most) (h6 : most ≤ 6) {c : Nat} (Q : D → Hm → Prop)
    (h : ∀ j ys m', IsC most j ys → Bx k m m' → Q (cnd j ys) m') : wp (callN F wf (n + 6) none 20 [.adr k, .int (most : Int), .int (c : Int)] m) Q := by
  refine w_call hT.fLight rfl ?_
  dsimp only [cLight]
  have fin : ∀ j ys ρ m', IsC most j ys → Px k m m' → wp (finD m.length (.ret (cnd j ys), ρ) m') Q := fun j ys ρ m' hc P => fin_ret (below_cnd _ _ _) (h j ys _ hc P.fin)
  rw [w_scons]
  simp only [w_var, w_con, w_nil, w_cons, w_tup, w_lst, w_bin, w_cmp, w_tand, w_tor, w_tnot, w_tru, w_vand, w_vor, w_vnot, w_one, w_turn, w_ife, w_callp, w_bi, w_isin, w_idx, w_slc, w_nd, w_meth, w_comp, w_snil, w_single, w_asg, w_setix, w_exp, w_ret, w_ifs, w_fors, w_whil, w_brk, w_pass, wpo_some, wpb_some, wpa_tup, wpt_some, wif_bl, wp_ifB, wp_ok, get, put, home_int, home_bl, home_non, home_str, home_tup, home_adr, home_fro, home_lst, homes, assignT, assignTs, pick, List.map, List.replicate, List.cons_append, List.nil_append, List.append_nil, List.getD_cons_zero, List.getD_cons_succ]
  refine ⟨_, _, src_rng (b := 8) (by decide) (by decide), ?_⟩
  refine loop_inv (xs := rangeL 0 (8 : Int).toNat) (fun t ρ m' => Px k m m' ∧ ∃ o3 o4, ρ = [some (.adr k), some (.int (most : Int)), some (.int (c : Int)), o3, o4]) _ (fun _ _ _ _ _ => snap_at _ _ _) (fun t d ρ m' hd I => ?_) (fun ρ m' I => ?_) _ 0 _ _ (Nat.zero_le _) (by rw [rangeL_lenW]; exact Nat.le_refl _) ⟨Px.refl hb, _, _, rfl⟩
  · obtain ⟨P, o3, o4, rfl⟩ := I
    rw [w_turn]
    refine ⟨_, rfl, ?_⟩
    dsimp only [put]
    rw [w_scons]
    simp only [w_var, w_con, w_nil, w_cons, w_tup, w_lst, w_bin, w_cmp, w_tand, w_tor, w_tnot, w_tru, w_vand, w_vor, w_vnot, w_one, w_turn, w_ife, w_callp, w_bi, w_isin, w_idx, w_slc, w_nd, w_meth, w_comp, w_snil, w_single, w_asg, w_setix, w_exp, w_ret, w_ifs, w_fors, w_whil, w_brk, w_pass, wpo_some, wpb_some, wpa_tup, wpt_some, wif_bl, wp_ifB, wp_ok, get, put, home_int, home_bl, home_non, home_str, home_tup, home_adr, home_fro, home_lst, homes, assignT, assignTs, pick, List.map, List.replicate, List.cons_append, List.nil_append, List.append_nil, List.getD_cons_zero, List.getD_cons_succ]
    refine cond_ok hC P.box h2 h6 _ fun j ys m2 hc B => ?_
    have P2 := P.bx B
    obtain ⟨N, E⟩ := ends hc.pos hc.six ys
    simp only [home_cnd, put]
    rw [seqQ_nx, w_single, w_ifs]
    simp only [w_cmp, w_bi, w_callp, w_cons, w_nil, w_var, get, wpo_some, wpa_tup, homes, home_cnd, pick, List.append_nil, List.getD_cons_zero]
    refine tree_ok hC hT hc.pos hc.six ys E _ ?_
    simp only [homes, home_tup, pick, List.append_nil, List.getD_cons_zero]
    refine leaves_ok hT hc.pos hc.six ys E _ ?_
    simp only [bi_lenW]
    rw [len_at (x := .lst (encs (leavesI j ys N))) (.inl rfl)]
    simp only [wpo_some, c_le, wpb_some, wif_bl, w_snil, w_single]
    split
    · simp only [w_var, w_con, w_nil, w_cons, w_tup, w_lst, w_bin, w_cmp, w_tand, w_tor, w_tnot, w_tru, w_vand, w_vor, w_vnot, w_one, w_turn, w_ife, w_callp, w_bi, w_isin, w_idx, w_slc, w_nd, w_meth, w_comp, w_snil, w_single, w_asg, w_setix, w_exp, w_ret, w_ifs, w_fors, w_whil, w_brk, w_pass, wpo_some, wpb_some, wpa_tup, wpt_some, wif_bl, wp_ifB, wp_ok, get, put, home_int, home_bl, home_non, home_str, home_tup, home_adr, home_fro, home_lst, homes, assignT, assignTs, pick, List.map, List.replicate, List.cons_append, List.nil_append, List.append_nil, List.getD_cons_zero, List.getD_cons_succ]
      exact fin j ys _ _ hc P2
    · exact ⟨P2, _, _, rfl⟩
  · obtain ⟨P, o3, o4, rfl⟩ := I
    rw [seqQ_nx]
    simp only [w_var, w_con, w_nil, w_cons, w_tup, w_lst, w_bin, w_cmp, w_tand, w_tor, w_tnot, w_tru, w_vand, w_vor, w_vnot, w_one, w_turn, w_ife, w_callp, w_bi, w_isin, w_idx, w_slc, w_nd, w_meth, w_comp, w_snil, w_single, w_asg, w_setix, w_exp, w_ret, w_ifs, w_fors, w_whil, w_brk, w_pass, wpo_some, wpb_some, wpa_tup, wpt_some, wif_bl, wp_ifB, wp_ok, get, put, home_int, home_bl, home_non, home_str, home_tup, home_adr, home_fro, home_lst, homes, assignT, assignTs, pick, List.map, List.replicate, List.cons_append, List.nil_append, List.append_nil, List.getD_cons_zero, List.getD_cons_succ]
    exact fin 2 [[0, 1]] _ _ ⟨by decide, h2, by decide, by decide +kernel⟩ P
end
end Bell
end

section
set_option maxRecDepth 100000
/-! leaf_paths, tree_height -/
namespace Bell
open PySem (Str)
def cRowP : S := .cons (.asg (.nm 1) (.lst .nil)) (.cons (.fors .enum (.cons (.var 0) .nil) (.tup (.cons (.nm 2) (.cons (.tup (.cons (.nm 3) (.cons (.nm 4) (.cons (.nm 5) .nil)))) .nil))) (.cons (.exp (.meth .append (.var 1) (.cons (.ife (.cmp .is (.var 4) (.con .non)) (.tup (.cons (.var 2) .nil)) (.bin .add (.idx (.var 1) (.var 4)) (.tup (.cons (.var 2) .nil)))) .nil))) .nil)) (.cons (.ret (.var 1)) .nil))
def cLeafP (r : Nat) : S := .cons (.asg (.nm 1) (.callp 14 [0] [] (.cons (.var 0) .nil))) (.cons (.ret (.bi .tuple (.cons (.bi .sorted (.cons (.comp .zip (.cons (.callp r [0] [] (.cons (.var 1) .nil)) (.cons (.var 1) .nil)) (.tup (.cons (.nm 2) (.cons (.nm 3) .nil))) (.cmp .eq (.bi .len (.cons (.idx (.var 3) (.con (.int 2))) .nil)) (.con (.int 0))) (.var 2) [2, 3]) .nil)) .nil))) .nil)
def cHeight (l : Nat) : S := .cons (.ret (.bi .max (.cons (.comp .val (.cons (.callp l [0] [] (.cons (.var 0) .nil)) .nil) (.nm 1) (.con (.bl true)) (.bi .len (.cons (.var 1) .nil)) [1]) .nil))) .nil
theorem paths_size : ∀ (P : List D) (acc : List Lot), (∀ v ∈ acc, v.length ≤ acc.length) → ∀ v ∈ pathsI acc P, v.length ≤ (pathsI acc P).length := fun P => by
  induction P with
  | nil => intro acc h v hv; exact h v hv
  | cons p P ih =>
    intro acc h
    refine ih _ fun v hv => ?_
    rw [List.length_append]
    rcases List.mem_append.mp hv with hv | hv
    · have := h v hv; omega
    · rw [List.mem_singleton.mp hv]
      have g : ∀ j : Nat, (acc.getD j []).length ≤ acc.length := fun j => by
        rw [List.getD_eq_getElem?_getD]
        cases q : acc[j]? with
        | none => simp
        | some w => have := h w (List.mem_of_getElem? q); simpa using this
      cases p with
      | int t =>
        have := g t.toNat
        show (acc.getD t.toNat [] ++ [(acc.length : Int)]).length ≤ _
        rw [List.length_append]
        simp only [List.length_cons, List.length_nil]
        omega
      | _ => show [(acc.length : Int)].length ≤ _; simp
section
variable {F : Nat → Option Fd} {wf n : Nat} {m : Hm}
theorem rowp_ok {r : Nat} (hF : F r = some ⟨1, 6, cRowP⟩) {k : Nat} (h1 : 1 ≤ k) (hk : k ≤ 6) (ys : List Lot) {N : Nat} (E : Ends k ys N) (Q : D → Hm → Prop) (h : Q (.lst (encs (pathsI [] (run k ys N).P))) m) : wp (callN F wf (n + 1) none r [.tup (run k ys N).told] m) Q := by
  refine w_call hF rfl ?_
  dsimp only [cRowP]
  have hN := E.le
  have tl := told_len E N (Nat.le_refl _)
  have hpl : (run k ys N).P.length = N := by rw [run_P, E.at_]
  rw [w_scons]
  simp only [w_var, w_con, w_nil, w_cons, w_tup, w_lst, w_bin, w_cmp, w_tand, w_tor, w_tnot, w_tru, w_vand, w_vor, w_vnot, w_one, w_turn, w_ife, w_callp, w_bi, w_isin, w_idx, w_slc, w_nd, w_meth, w_comp, w_snil, w_single, w_asg, w_setix, w_exp, w_ret, w_ifs, w_fors, w_whil, w_brk, w_pass, wpo_some, wpb_some, wpa_tup, wpt_some, wif_bl, wp_ifB, wp_ok, get, put, home_int, home_bl, home_non, home_str, home_tup, home_adr, home_fro, home_lst, homes, assignT, assignTs, pick, List.map, List.replicate, List.cons_append, List.nil_append, List.append_nil, List.getD_cons_zero, List.getD_cons_succ]
  rw [seqQ_nx, w_scons]
  simp only [w_var, w_con, w_nil, w_cons, w_tup, w_lst, w_bin, w_cmp, w_tand, w_tor, w_tnot, w_tru, w_vand, w_vor, w_vnot, w_one, w_turn, w_ife, w_callp, w_bi, w_isin, w_idx, w_slc, w_nd, w_meth, w_comp, w_snil, w_single, w_asg, w_setix, w_exp, w_ret, w_ifs, w_fors, w_whil, w_brk, w_pass, wpo_some, wpb_some, wpa_tup, wpt_some, wif_bl, wp_ifB, wp_ok, get, put, home_int, home_bl, home_non, home_str, home_tup, home_adr, home_fro, home_lst, homes, assignT, assignTs, pick, List.map, List.replicate, List.cons_append, List.nil_append, List.append_nil, List.getD_cons_zero, List.getD_cons_succ]
  refine ⟨_, _, rfl, ?_⟩
  have bI : ∀ (i : Nat) (ρ : Env) (m' : Hm), i ≤ (enumL 0 (run k ys N).told).length → bnd (enumL 0 (run k ys N).told) i m' = some (enumL 0 (run k ys N).told)[i]? := fun i ρ m' hi => bnd_at hi
  refine loop_inv (xs := enumL 0 (run k ys N).told) (fun t ρ m' => ∃ o2 o3 o4 o5, ρ = [some (.tup (run k ys N).told), some (.adr m.length), o2, o3, o4, o5] ∧ m' = m ++ [.lst (encs (pathsI [] ((run k ys N).P.take t)))]) _ (fun i ρ m' _ hi => bI i ρ m' hi) (fun t d ρ m' hd I => ?_) (fun ρ m' I => ?_) _ 0 _ _ (Nat.zero_le _) (by rw [enumL_len']; exact Nat.le_refl _) ⟨none, none, none, none, rfl, rfl⟩
  · obtain ⟨o2, o3, o4, o5, rfl, rfl⟩ := I
    rw [enumL_get'] at hd
    cases q : (run k ys N).told[t]? with
    | none => rw [q] at hd; cases hd
    | some row =>
      rw [q] at hd
      cases hd
      obtain ⟨x, p, c, _, hp, _, rfl⟩ := zip3_get q
      have htN : t < N := by have := (List.getElem?_eq_some_iff.mp q).1; omega
      rw [w_turn]
      refine ⟨[some (.tup (run k ys N).told), some (.adr m.length), some (.int ((0 + t : Nat) : Int)), some x, some p, some c], rfl, ?_⟩
      dsimp only
      rw [Nat.zero_add]
      have ep : (m ++ [D.lst (encs (pathsI [] ((run k ys N).P.take t)))])[m.length]? = some (.lst (encs (pathsI [] ((run k ys N).P.take t)))) := List.getElem?_concat_length
      have pl : (pathsI [] ((run k ys N).P.take t)).length = t := by rw [pathsI_len, List.length_take]; simp; omega
      have pt : (run k ys N).P.take (t + 1) = (run k ys N).P.take t ++ [p] := by rw [List.take_succ, hp]; rfl
      simp only [w_var, w_con, w_nil, w_cons, w_tup, w_lst, w_bin, w_cmp, w_tand, w_tor, w_tnot, w_tru, w_vand, w_vor, w_vnot, w_one, w_turn, w_ife, w_callp, w_bi, w_isin, w_idx, w_slc, w_nd, w_meth, w_comp, w_snil, w_single, w_asg, w_setix, w_exp, w_ret, w_ifs, w_fors, w_whil, w_brk, w_pass, wpo_some, wpb_some, wpa_tup, wpt_some, wif_bl, wp_ifB, wp_ok, get, put, home_int, home_bl, home_non, home_str, home_tup, home_adr, home_fro, home_lst, homes, assignT, assignTs, pick, List.map, List.replicate, List.cons_append, List.nil_append, List.append_nil, List.getD_cons_zero, List.getD_cons_succ]
      refine ⟨recv_lstW (.inl rfl) ep, ?_⟩
      have fin : ∀ v : Lot, v = pathOf (pathsI [] ((run k ys N).P.take t)) p → ∃ d m2, methD m.length .append (.adr m.length) (homes [encI v] (m ++ [D.lst (encs (pathsI [] ((run k ys N).P.take t)))])).1 (homes [encI v] (m ++ [D.lst (encs (pathsI [] ((run k ys N).P.take t)))])).2 = some (d, m2) ∧ m2 = m ++ [D.lst (encs (pathsI [] ((run k ys N).P.take (t + 1))))] := fun v hv => by
        refine ⟨_, _, meth_app (b := m.length) (Nat.le_refl _) ep (by rw [encs_len, pl]; omega), ?_⟩
        show List.set (m ++ [D.lst (encs (pathsI [] ((run k ys N).P.take t)))]) m.length (D.lst (encs (pathsI [] ((run k ys N).P.take t)) ++ [encI v])) = _
        rw [List.set_append_right _ _ (Nat.le_refl _), Nat.sub_self]
        rw [pt, pathsI_snoc, ← hv]
        show m ++ [D.lst (encs _ ++ [encI v])] = _
        unfold encs
        rw [List.map_append]
        rfl
      rcases par_ok ys N E.lt t p hp with rfl | ⟨i, rfl, hi⟩
      · rw [show cmpD .is (m ++ [D.lst (encs (pathsI [] ((run k ys N).P.take t)))]) .non .non = some true from rfl]
        simp only [wpb_some, wp_ifB, if_true, w_tup, w_cons, w_nil, w_var, get, wpo_some, wpa_tup]
        obtain ⟨d, m2, f1, f2⟩ := fin [(t : Int)] (by unfold pathOf; rw [pl])
        exact ⟨d, m2, f1, _, _, _, _, rfl, f2⟩
      · rw [show cmpD .is (m ++ [D.lst (encs (pathsI [] ((run k ys N).P.take t)))]) (.int (i : Int)) .non = some false from rfl]
        simp only [wpb_some, wp_ifB, Bool.false_eq_true, if_false, w_bin, w_idx, w_con, w_tup, w_cons, w_nil, w_var, get, wpo_some, wpa_tup]
        have hil : i < (pathsI [] ((run k ys N).P.take t)).length := by omega
        rw [idx_lst ep (i := i) (d := encI (pathsI [] ((run k ys N).P.take t))[i]) (by unfold encs; rw [List.getElem?_map, List.getElem?_eq_getElem hil]; rfl)]
        simp only [wpo_some, homes, home_int]
        have s1 := paths_size ((run k ys N).P.take t) [] (fun v hv => by cases hv) _ (List.getElem_mem hil)
        rw [show encI (pathsI [] ((run k ys N).P.take t))[i] = .tup ((pathsI [] ((run k ys N).P.take t))[i].map D.int) from rfl, b_addT _ _ (by simp; omega)]
        simp only [wpo_some]
        obtain ⟨d, m2, f1, f2⟩ := fin ((pathsI [] ((run k ys N).P.take t))[i] ++ [(t : Int)]) (by
          show _ = (pathsI [] ((run k ys N).P.take t)).getD (i : Int).toNat [] ++ [((pathsI [] ((run k ys N).P.take t)).length : Int)]
          rw [pl, List.getD_eq_getElem?_getD, Int.toNat_natCast, List.getElem?_eq_getElem hil]
          rfl)
        rw [show encI ((pathsI [] ((run k ys N).P.take t))[i] ++ [(t : Int)]) = .tup ((pathsI [] ((run k ys N).P.take t))[i].map D.int ++ [.int (t : Int)]) by unfold encI; rw [List.map_append]; rfl] at f1
        exact ⟨d, m2, f1, _, _, _, _, rfl, f2⟩
  · obtain ⟨o2, o3, o4, o5, rfl, rfl⟩ := I
    rw [enumL_len', tl, List.take_of_length_le (by omega)]
    rw [seqQ_nx]
    simp only [w_var, w_con, w_nil, w_cons, w_tup, w_lst, w_bin, w_cmp, w_tand, w_tor, w_tnot, w_tru, w_vand, w_vor, w_vnot, w_one, w_turn, w_ife, w_callp, w_bi, w_isin, w_idx, w_slc, w_nd, w_meth, w_comp, w_snil, w_single, w_asg, w_setix, w_exp, w_ret, w_ifs, w_fors, w_whil, w_brk, w_pass, wpo_some, wpb_some, wpa_tup, wpt_some, wif_bl, wp_ifB, wp_ok, get, put, home_int, home_bl, home_non, home_str, home_tup, home_adr, home_fro, home_lst, homes, assignT, assignTs, pick, List.map, List.replicate, List.cons_append, List.nil_append, List.append_nil, List.getD_cons_zero, List.getD_cons_succ]
    refine fin_adr (Nat.le_refl _) List.getElem?_concat_length (fun _ z => by cases z) (by rw [below_lst]; exact belows_encs _ _) ?_
    rw [List.take_left]
    exact h
theorem leafp_ok {r l : Nat} (hT : TreeP F) (hF : F r = some ⟨1, 6, cRowP⟩) (hL : F l = some ⟨1, 4, cLeafP r⟩) {k : Nat} (h1 : 1 ≤ k) (hk : k ≤ 6) (ys : List Lot) {N : Nat} (E : Ends k ys N) (hw : 2000 ≤ wf) (Q : D → Hm → Prop) (h : Q (.tup (encs (leavesI k ys N))) m) : wp (callN F wf (n + 4) none l [cnd k ys] m) Q := by
  refine w_call hL rfl ?_
  dsimp only [cLeafP]
  have hN := E.le
  have tl := told_len E N (Nat.le_refl _)
  have hpl : (run k ys N).P.length = N := by rw [run_P, E.at_]
  rw [w_scons]
  simp only [w_var, w_con, w_nil, w_cons, w_tup, w_lst, w_bin, w_cmp, w_tand, w_tor, w_tnot, w_tru, w_vand, w_vor, w_vnot, w_one, w_turn, w_ife, w_callp, w_bi, w_isin, w_idx, w_slc, w_nd, w_meth, w_comp, w_snil, w_single, w_asg, w_setix, w_exp, w_ret, w_ifs, w_fors, w_whil, w_brk, w_pass, wpo_some, wpb_some, wpa_tup, wpt_some, wif_bl, wp_ifB, wp_ok, get, put, home_int, home_bl, home_non, home_str, home_tup, home_adr, home_fro, home_lst, homes, assignT, assignTs, pick, List.map, List.replicate, List.cons_append, List.nil_append, List.append_nil, List.getD_cons_zero, List.getD_cons_succ]
  simp only [homes, home_cnd, pick, List.nil_append, List.append_nil, List.getD_cons_zero]
  refine split_ok (n := n) hT h1 hk ys E hw _ ?_
  simp only [home_tup]
  rw [seqQ_nx]
  simp only [w_var, w_con, w_nil, w_cons, w_tup, w_lst, w_bin, w_cmp, w_tand, w_tor, w_tnot, w_tru, w_vand, w_vor, w_vnot, w_one, w_turn, w_ife, w_callp, w_bi, w_isin, w_idx, w_slc, w_nd, w_meth, w_comp, w_snil, w_single, w_asg, w_setix, w_exp, w_ret, w_ifs, w_fors, w_whil, w_brk, w_pass, wpo_some, wpb_some, wpa_tup, wpt_some, wif_bl, wp_ifB, wp_ok, get, put, home_int, home_bl, home_non, home_str, home_tup, home_adr, home_fro, home_lst, homes, assignT, assignTs, pick, List.map, List.replicate, List.cons_append, List.nil_append, List.append_nil, List.getD_cons_zero, List.getD_cons_succ]
  refine rowp_ok (n := n + 2) hF h1 hk ys E _ ?_
  generalize hps : pathsI [] (run k ys N).P = ps
  have lps : (encs ps).length = N := by rw [encs_len, ← hps, pathsI_len, hpl]; simp
  generalize hrs : (run k ys N).told = rs at tl
  refine ⟨_, _, rfl, isBig_of (by rw [lps, tl]; omega), turns_pure (xs := zipL (encs ps) rs) zipRow zipPath (fun j hj => bnd_at hj) (by rw [zipL_len']; exact Nat.le_refl _) (fun d hd acc => ?_) ?_⟩
  · obtain ⟨i, hi⟩ := List.mem_iff_getElem?.mp hd
    obtain ⟨x, y, hx, hy, rfl⟩ := zipL_get' _ _ _ _ hi
    obtain ⟨p, _, rfl⟩ := List.mem_map.mp (List.mem_of_getElem? hx)
    obtain ⟨a, b, c, rfl, hc⟩ := told_ok E N (Nat.le_refl _) y (by rw [hrs]; exact List.mem_of_getElem? hy)
    rw [w_one]
    refine ⟨[some (cnd k ys), some (.tup rs), some (encI p), some (.tup [a, b, .tup c])], rfl, ?_⟩
    have e1 : ∀ m, idxD (.tup [a, b, .tup c]) (.int 2) m = some (.tup c) := fun _ => rfl
    have e2 : ∀ m, lenD m (.tup c) = some (.int c.length) := fun _ => rfl
    dsimp only
    simp only [w_cmp, w_bi, w_idx, w_con, w_cons, w_nil, w_var, get, wpo_some, wpa_tup, e1, bi_lenW, e2, c_eq, wpb_some, wif_bl, home_enc]
    show if ((c.length : Int) == 0) = true then _ else _
    cases c with
    | nil => simp [noKids, zipRow, zipPath]
    | cons z c =>
      have : ((((z :: c).length : Nat) : Int) == 0) = false := by simp; omega
      rw [this]
      simp [noKids, zipRow, zipPath]
  · rw [leaves_zip]
    have e3 : biD .sorted [.lst (encs (leavesR ps rs))] m = some (.lst (encs (isort lexLt (leavesR ps rs)))) := by
      show (itemsL m (.lst (encs (leavesR ps rs)))).bind (fun xs => (sortD xs).map D.lst) = _
      rw [show itemsL m (.lst (encs (leavesR ps rs))) = some (encs (leavesR ps rs)) from rfl]
      simp [sortD_encs]
    rw [e3]
    simp only [wpo_some, bi_tupT]
    refine fin_ret (by rw [below_tup]; exact belows_encs _ _) ?_
    rw [List.take_of_length_le (Nat.le_refl _)]
    unfold leavesI at h
    rw [hps, hrs] at h
    exact h
/-- how long -/
def lens (ps : List Lot) : List Int := ps.map fun p => (p.length : Int)
theorem bi_maxT (xs : List Int) : biD .max [.lst (xs.map .int)] m = (maxI xs).map .int := by
  show (itemsL m (.lst (xs.map .int))).bind (fun xs => (asInts xs).bind fun a => (maxI a).map D.int) = _
  rw [show itemsL m (.lst (xs.map .int)) = some (xs.map .int) from rfl]
  simp [asInts_map]
theorem height_ok {r l g : Nat} (hT : TreeP F) (hF : F r = some ⟨1, 6, cRowP⟩) (hL : F l = some ⟨1, 4, cLeafP r⟩) (hG : F g = some ⟨1, 2, cHeight l⟩) {k : Nat} (h1 : 1 ≤ k) (hk : k ≤ 6) (ys : List Lot) {N : Nat} (E : Ends k ys N) (hw : 2000 ≤ wf) {z : Int} (hz : maxI (lens (leavesI k ys N)) = some z) (hb : (leavesI k ys N).length ≤ 10000) (Q : D → Hm → Prop) (h : Q (.int z) m) : wp (callN F wf (n + 5) none g [cnd k ys] m) Q := by
  refine w_call hG rfl ?_
  dsimp only [cHeight]
  simp only [w_var, w_con, w_nil, w_cons, w_tup, w_lst, w_bin, w_cmp, w_tand, w_tor, w_tnot, w_tru, w_vand, w_vor, w_vnot, w_one, w_turn, w_ife, w_callp, w_bi, w_isin, w_idx, w_slc, w_nd, w_meth, w_comp, w_snil, w_single, w_asg, w_setix, w_exp, w_ret, w_ifs, w_fors, w_whil, w_brk, w_pass, wpo_some, wpb_some, wpa_tup, wpt_some, wif_bl, wp_ifB, wp_ok, get, put, home_int, home_bl, home_non, home_str, home_tup, home_adr, home_fro, home_lst, homes, assignT, assignTs, pick, List.map, List.replicate, List.cons_append, List.nil_append, List.append_nil, List.getD_cons_zero, List.getD_cons_succ]
  simp only [homes, home_cnd, pick, List.nil_append, List.append_nil, List.getD_cons_zero]
  refine leafp_ok (n := n) hT hF hL h1 hk ys E hw _ ?_
  refine ⟨_, _, src_tup _, isBig_of (by rw [encs_len]; omega), turns_pure (xs := encs (leavesI k ys N)) (fun _ => true) (fun d => match d with | .tup xs => .int (xs.length : Int) | d => d) (fun j _ => snap_at _ _ _) (Nat.le_refl _) (fun d hd acc => ?_) ?_⟩
  · obtain ⟨x, hx, rfl⟩ := List.mem_map.mp hd
    rw [w_one]
    simp only [assignT, wipe, clr, put, wpt_some, w_con, wif_bl, if_true, w_bi, w_cons, w_nil, w_var, get, wpo_some, wpa_tup, bi_lenW, len_enc, home_int]
    refine ⟨trivial, ?_⟩
    simp [encI]
  · rw [List.filter_eq_self.mpr (by simp)]
    have e : (encs (leavesI k ys N)).map (fun d => match d with | .tup xs => D.int (xs.length : Int) | d => d) = (lens (leavesI k ys N)).map .int := by
      unfold encs lens
      rw [List.map_map, List.map_map]
      refine List.map_congr_left fun x _ => ?_
      simp [encI]
    rw [e, bi_maxT, hz]
    simp only [Option.map_some, wpo_some]
    refine fin_ret (by unfold below; rfl) ?_
    rw [List.take_of_length_le (Nat.le_refl _)]
    exact h
end
/-! ### how leaves are -/
theorem mem_ins {α : Type} {lt : α → α → Bool} {x z : α} : ∀ {l : List α}, z ∈ ins lt x l ↔ z = x ∨ z ∈ l
  | [] => by simp [ins]
  | y :: l => by
    unfold ins
    split
    · rw [List.mem_cons, mem_ins, List.mem_cons]
      constructor <;> intro h
      · rcases h with h | h | h
        · exact .inr (.inl h)
        · exact .inl h
        · exact .inr (.inr h)
      · rcases h with h | h | h
        · exact .inr (.inl h)
        · exact .inl h
        · exact .inr (.inr h)
    · simp
theorem mem_isort {α : Type} {lt : α → α → Bool} {z : α} : ∀ {l : List α}, z ∈ isort lt l ↔ z ∈ l
  | [] => Iff.rfl
  | y :: l => by unfold isort; rw [mem_ins, mem_isort, List.mem_cons]
theorem ins_len {α : Type} {lt : α → α → Bool} {x : α} : ∀ {l : List α}, (ins lt x l).length = l.length + 1
  | [] => rfl
  | y :: l => by
    unfold ins
    split
    · simp [ins_len (l := l)]
    · simp
theorem isort_len {α : Type} {lt : α → α → Bool} : ∀ {l : List α}, (isort lt l).length = l.length
  | [] => rfl
  | y :: l => by unfold isort; rw [ins_len, isort_len]; rfl
theorem leavesR_mem : ∀ {ps : List Lot} {rs : List D} {p : Lot}, p ∈ leavesR ps rs ↔ ∃ (j : Nat) (r : D), ps[j]? = some p ∧ rs[j]? = some r ∧ noKids r = true
  | [], rs, p => by simp [leavesR]
  | q :: ps, [], p => by simp [leavesR]
  | q :: ps, r :: rs, p => by
    have ih := leavesR_mem (ps := ps) (rs := rs) (p := p)
    rw [leavesR]
    constructor
    · intro h
      have h' : (noKids r = true ∧ p = q) ∨ p ∈ leavesR ps rs := by
        by_cases hr : noKids r = true
        · rw [if_pos hr] at h
          rcases List.mem_cons.mp h with h | h
          · exact .inl ⟨hr, h⟩
          · exact .inr h
        · rw [if_neg hr] at h; exact .inr h
      rcases h' with ⟨hr, rfl⟩ | h'
      · exact ⟨0, r, rfl, rfl, hr⟩
      · obtain ⟨j, s, a, b, c⟩ := ih.mp h'
        exact ⟨j + 1, s, by simpa using a, by simpa using b, c⟩
    · rintro ⟨j, s, a, b, c⟩
      cases j with
      | zero =>
        simp at a b
        subst a
        subst b
        rw [if_pos c]
        exact List.mem_cons_self
      | succ j =>
        have := ih.mpr ⟨j, s, by simpa using a, by simpa using b, c⟩
        split
        · exact List.mem_cons_of_mem _ this
        · exact this
theorem leavesR_len : ∀ (ps : List Lot) (rs : List D), (leavesR ps rs).length ≤ ps.length
  | [], rs => by simp [leavesR]
  | q :: ps, [] => by simp [leavesR]
  | q :: ps, r :: rs => by
    rw [leavesR]
    have := leavesR_len ps rs
    split <;> simp <;> omega
theorem leaves_len {k : Nat} {ys : List Lot} {N : Nat} (E : Ends k ys N) : (leavesI k ys N).length ≤ N := by
  unfold leavesI
  rw [isort_len]
  refine Nat.le_trans (leavesR_len _ _) ?_
  rw [pathsI_len, run_P, E.at_]
  simp
/-- the last row has no children -/
theorem last_row {k : Nat} {ys : List Lot} {N : Nat} (E : Ends k ys N) : ∃ r, (run k ys N).told[N - 1]? = some r ∧ noKids r = true := by
  have hp := E.pos
  obtain ⟨t, rfl⟩ : ∃ t, N = t + 1 := ⟨N - 1, by omega⟩
  have hl := E.lt t (by omega)
  have ha := E.at_
  have e : (run k ys (t + 1)).L = (run k ys t).L ++ kids k ys ((run k ys t).L.getD (run k ys t).C.length []) := rfl
  rw [e, run_C, List.length_append] at ha
  have hk : kids k ys ((run k ys t).L.getD t []) = [] := List.eq_nil_of_length_eq_zero (by omega)
  have tl := told_len E t (by omega)
  rw [told_step k ys t hl, hk]
  refine ⟨.tup [encI ((run k ys t).L.getD t []), (run k ys t).P.getD t .non, .tup (rangeL ((run k ys t).L.length : Int) 0)], ?_, rfl⟩
  rw [List.getElem?_append_right (by omega), tl]
  simp
theorem leaves_ne {k : Nat} {ys : List Lot} {N : Nat} (E : Ends k ys N) : leavesI k ys N ≠ [] := by
  obtain ⟨r, h1, h2⟩ := last_row E
  have hl : (pathsI [] (run k ys N).P).length = N := by rw [pathsI_len, run_P, E.at_]; simp
  have hp := E.pos
  have : (pathsI [] (run k ys N).P)[N - 1]? = some (pathsI [] (run k ys N).P)[N - 1] := List.getElem?_eq_getElem (by omega)
  have hm : (pathsI [] (run k ys N).P)[N - 1] ∈ leavesI k ys N := by
    unfold leavesI
    exact mem_isort.mpr (leavesR_mem.mpr ⟨N - 1, r, this, h1, h2⟩)
  intro z
  rw [z] at hm
  cases hm
theorem maxI_some : ∀ {xs : List Int}, xs ≠ [] → ∃ z, maxI xs = some z ∧ z ∈ xs
  | [], h => absurd rfl h
  | x :: xs, _ => by
    unfold maxI
    by_cases e : xs = []
    · subst e; exact ⟨x, rfl, List.mem_cons_self⟩
    · obtain ⟨y, h1, h2⟩ := maxI_some e
      rw [h1]
      dsimp only
      split
      · exact ⟨y, rfl, List.mem_cons_of_mem _ h2⟩
      · exact ⟨x, rfl, List.mem_cons_self⟩
/-- each row's lot is a child of its parent's -/
theorem par_lot {k : Nat} (ys : List Lot) : ∀ t, (∀ u, u < t → u < (run k ys u).L.length) → ∀ (j : Nat) (p : D) (lot : Lot), (run k ys t).P[j]? = some p → (run k ys t).L[j]? = some lot → (p = .non ∧ j = 0 ∧ lot = full k) ∨ ∃ (i : Nat) (lot' : Lot), p = .int (i : Int) ∧ i < j ∧ (run k ys t).L[i]? = some lot' ∧ lot ∈ kids k ys lot'
  | 0, _, j, p, lot, h, h2 => by
    cases j with
    | zero => left; simp [run] at h h2; exact ⟨h.symm, rfl, h2.symm⟩
    | succ j => simp [run] at h
  | t + 1, hl, j, p, lot, h, h2 => by
    have hlt := hl t (by omega)
    have hpl := run_P k ys t
    have eP : (run k ys (t + 1)).P = (run k ys t).P ++ (kids k ys ((run k ys t).L.getD (run k ys t).C.length [])).map fun _ => D.int ((run k ys t).C.length : Int) := rfl
    have eL : (run k ys (t + 1)).L = (run k ys t).L ++ kids k ys ((run k ys t).L.getD (run k ys t).C.length []) := rfl
    by_cases hj : j < (run k ys t).L.length
    · rw [eP, List.getElem?_append_left (by omega)] at h
      rw [eL, List.getElem?_append_left hj] at h2
      rcases par_lot ys t (fun u hu => hl u (by omega)) j p lot h h2 with z | ⟨i, lot', a, b, c, d⟩
      · exact .inl z
      · refine .inr ⟨i, lot', a, b, ?_, d⟩
        rw [eL, List.getElem?_append_left (by omega)]
        exact c
    · rw [eP, List.getElem?_append_right (by omega)] at h
      rw [eL, List.getElem?_append_right (by omega)] at h2
      obtain ⟨_, _, rfl⟩ := List.mem_map.mp (List.mem_of_getElem? h)
      refine .inr ⟨t, (run k ys t).L[t], by rw [run_C], by omega, by rw [eL, List.getElem?_append_left hlt, List.getElem?_eq_getElem hlt], ?_⟩
      have := List.mem_of_getElem? h2
      rw [run_C, List.getD_eq_getElem?_getD, List.getElem?_eq_getElem hlt] at this
      exact this
theorem kid_len {k : Nat} (hk : k ≤ 6) {ys : List Lot} {lot a : Lot} (hl : lot ∈ lotsI k) (h : a ∈ kids k ys lot) : a.length < lot.length := by
  obtain ⟨h1, h2, h3⟩ := kids_sub h
  have hx : ∃ x ∈ lot, x ∉ a := by
    by_cases z : ∃ x ∈ lot, x ∉ a
    · exact z
    · have : inside lot a = true := inside_iff.mpr fun x hx => by
        by_cases w : x ∈ a
        · exact w
        · exact absurd ⟨x, hx, w⟩ z
      have := inside_anti hk h1 hl h2 this
      subst this
      exact absurd rfl h3
  obtain ⟨x, hx, hn⟩ := hx
  have := len_le (lot_nodup hk h1) (A := lot.erase x) fun y hy => (List.mem_erase_of_ne (fun e => hn (by rw [← e]; exact hy))).mpr (inside_iff.mp h2 y hy)
  rw [List.length_erase_of_mem hx] at this
  have := List.length_pos_of_mem hx
  omega
theorem pathsI_get : ∀ (P : List D) (acc : List Lot) (j : Nat) (p : D), P[j]? = some p → (pathsI acc P)[acc.length + j]? = some (pathOf ((pathsI acc P).take (acc.length + j)) p) ∧ (pathsI acc P).take acc.length = acc
  | [], acc, j, p, h => by simp at h
  | q :: P, acc, j, p, h => by
    have tk : (pathsI acc (q :: P)).take acc.length = acc := by
      show (pathsI (acc ++ [pathOf acc q]) P).take acc.length = acc
      have e : ∀ (P : List D) (acc : List Lot), (pathsI acc P).take acc.length = acc := fun P => by
        induction P with
        | nil => intro acc; exact List.take_length
        | cons q P ih =>
          intro acc
          have := ih (acc ++ [pathOf acc q])
          show (pathsI (acc ++ [pathOf acc q]) P).take acc.length = acc
          have h2 := congrArg (List.take acc.length) this
          rw [List.take_take, List.length_append, Nat.min_eq_left (by simp)] at h2
          rw [h2, List.take_left]
      have := e P (acc ++ [pathOf acc q])
      have h2 := congrArg (List.take acc.length) this
      rw [List.take_take, List.length_append, Nat.min_eq_left (by simp)] at h2
      rw [h2, List.take_left]
    refine ⟨?_, tk⟩
    cases j with
    | zero =>
      simp at h
      subst h
      rw [Nat.add_zero, tk]
      show (pathsI (acc ++ [pathOf acc q]) P)[acc.length]? = _
      have e : ∀ (P : List D) (acc : List Lot), (pathsI acc P).take acc.length = acc := fun P => by
        induction P with
        | nil => intro acc; exact List.take_length
        | cons q P ih =>
          intro acc
          have := ih (acc ++ [pathOf acc q])
          show (pathsI (acc ++ [pathOf acc q]) P).take acc.length = acc
          have h2 := congrArg (List.take acc.length) this
          rw [List.take_take, List.length_append, Nat.min_eq_left (by simp)] at h2
          rw [h2, List.take_left]
      have h3 := e P (acc ++ [pathOf acc q])
      have h4 : ((pathsI (acc ++ [pathOf acc q]) P).take (acc ++ [pathOf acc q]).length)[acc.length]? = some (pathOf acc q) := by rw [h3]; exact List.getElem?_concat_length
      rw [List.getElem?_take, if_pos (by simp)] at h4
      exact h4
    | succ j =>
      have := (pathsI_get P (acc ++ [pathOf acc q]) j p (by simpa using h)).1
      rw [List.length_append] at this
      have e : acc.length + [pathOf acc q].length + j = acc.length + (j + 1) := by simp; omega
      rw [e] at this
      exact this
theorem path_le {k : Nat} (h1 : 1 ≤ k) (hk : k ≤ 6) (ys : List Lot) {N : Nat} (E : Ends k ys N) : ∀ (c j : Nat), j ≤ c → ∀ (lot v : Lot), (run k ys N).L[j]? = some lot → (pathsI [] (run k ys N).P)[j]? = some v → lot.length + v.length ≤ k + 1
  | c, j, hc, lot, v, hl, hv => by
    have hj := (List.getElem?_eq_some_iff.mp hl).1
    have hpl : (run k ys N).P.length = N := by rw [run_P, E.at_]
    rw [E.at_] at hj
    have hp : (run k ys N).P[j]? = some (run k ys N).P[j] := List.getElem?_eq_getElem (by omega)
    generalize (run k ys N).P[j]'(by omega) = p at hp
    have hg := (pathsI_get (run k ys N).P [] j p hp).1
    simp only [List.length_nil, Nat.zero_add] at hg
    rw [hv] at hg
    have hvv := Option.some.inj hg
    rcases par_lot ys N E.lt j p lot hp hl with ⟨rfl, rfl, rfl⟩ | ⟨i, lot', rfl, hi, hl', hkid⟩
    · have : v = [((((pathsI [] (run k ys N).P).take 0).length : Nat) : Int)] := hvv
      rw [this]
      unfold full
      simp
    · cases c with
      | zero => omega
      | succ c =>
        have hil : i < (pathsI [] (run k ys N).P).length := by rw [pathsI_len]; simp; omega
        have ih := path_le h1 hk ys E c i (by omega) lot' (pathsI [] (run k ys N).P)[i] hl' (List.getElem?_eq_getElem hil)
        have := kid_len hk (run_lots h1 hk ys N lot' (List.mem_of_getElem? hl')) hkid
        have hv2 : v = ((pathsI [] (run k ys N).P).take j).getD (i : Int).toNat [] ++ [((((pathsI [] (run k ys N).P).take j).length : Nat) : Int)] := hvv
        have e : ((pathsI [] (run k ys N).P).take j).getD (i : Int).toNat [] = (pathsI [] (run k ys N).P)[i] := by
          rw [List.getD_eq_getElem?_getD, Int.toNat_natCast, List.getElem?_take, if_pos hi, List.getElem?_eq_getElem hil]
          rfl
        rw [hv2, e, List.length_append]
        simp only [List.length_cons, List.length_nil]
        omega
theorem leaf_len {k : Nat} (h1 : 1 ≤ k) (hk : k ≤ 6) (ys : List Lot) {N : Nat} (E : Ends k ys N) {v : Lot} (h : v ∈ leavesI k ys N) : v.length ≤ k := by
  unfold leavesI at h
  obtain ⟨j, r, a, b, c⟩ := leavesR_mem.mp (mem_isort.mp h)
  have hj : j < N := by have := (List.getElem?_eq_some_iff.mp b).1; rw [told_len E N (Nat.le_refl _)] at this; exact this
  have hjl : j < (run k ys N).L.length := by rw [E.at_]; exact hj
  have hl : (run k ys N).L[j]? = some (run k ys N).L[j] := List.getElem?_eq_getElem hjl
  have := path_le h1 hk ys E j j (Nat.le_refl _) _ v hl a
  have hne := (lots_mem hk (run_lots h1 hk ys N _ (List.mem_of_getElem? hl))).1
  have := List.length_pos_iff.mpr hne
  omega
/-- one sort alone: one row -/
theorem one_row {k : Nat} {ys : List Lot} (h : kids k ys (full k) = []) : Ends k ys 1 ∧ leavesI k ys 1 = [[0]] := by
  have eL : (run k ys 1).L = [full k] ++ kids k ys ([full k].getD 0 []) := rfl
  have eP : (run k ys 1).P = [D.non] ++ (kids k ys ([full k].getD 0 [])).map (fun _ => D.int 0) := rfl
  have e0 : [full k].getD 0 [] = full k := rfl
  rw [e0, h] at eL eP
  refine ⟨⟨by rw [eL]; rfl, fun t ht => by have : t = 0 := by omega
                                           subst this; exact Nat.zero_lt_one, by decide, by decide⟩, ?_⟩
  have et : (run k ys 1).told = [.tup [encI (full k), .non, .tup (rangeL 1 (kids k ys ([full k].getD 0 [])).length)]] := by
    rw [told_step k ys 0 Nat.zero_lt_one]
    rfl
  rw [e0, h] at et
  unfold leavesI
  rw [eP, et]
  rfl
theorem kids_none {k : Nat} {ys : List Lot} {lot : Lot} (h : (∀ x ∈ lotsI k, x ∈ ys) ∨ ∀ x, x ∉ ys) (hl : lot ∈ lotsI k) : kids k ys lot = [] := by
  have : others k ys lot = [] := by
    unfold others
    rw [List.filter_eq_nil_iff]
    intro x hx
    rcases h with h | h
    · simp [h x hx, h lot hl]
    · simp [h x, h lot]
  unfold kids
  rw [this]
  rfl
end Bell
end

section
set_option maxRecDepth 100000
/-! minds -/
namespace Bell
open PySem (Str)
def lotAt (k : Nat) (ys : List Lot) (t : Nat) : Lot := (run k ys t).L.getD t []
def qAt (k : Nat) (ys : List Lot) (t : Nat) : Nat := (kids k ys (lotAt k ys t)).length
def aAt (k : Nat) (ys : List Lot) (t : Nat) : Nat := (run k ys t).L.length
theorem aAt_succ (k : Nat) (ys : List Lot) (t : Nat) : aAt k ys (t + 1) = aAt k ys t + qAt k ys t := by
  show ((run k ys t).L ++ kids k ys ((run k ys t).L.getD (run k ys t).C.length [])).length = _
  rw [run_C, List.length_append]
  rfl
theorem told_at {k : Nat} {ys : List Lot} {N : Nat} (E : Ends k ys N) : ∀ (u : Nat), u ≤ N → ∀ t, t < u → ∃ p, (run k ys u).told[t]? = some (.tup [encI (lotAt k ys t), p, .tup (rangeL (aAt k ys t : Int) (qAt k ys t))])
  | 0, _, t, h => by omega
  | u + 1, hu, t, h => by
    rw [told_step k ys u (E.lt u (by omega))]
    have tl := told_len E u (by omega)
    by_cases e : t = u
    · subst e
      refine ⟨(run k ys t).P.getD t .non, ?_⟩
      rw [List.getElem?_append_right (by omega), tl]
      simp only [Nat.sub_self, List.getElem?_cons_zero]
      rfl
    · rw [List.getElem?_append_left (by omega)]
      exact told_at E u (by omega) t (by omega)
def valOf (w : Bool) (s : List Int) : Int := if s = [] then 1 else if w then s.sum else (maxI s).getD 0
def seg (k : Nat) (ys : List Lot) (t : Nat) (vs : List Int) : List Int := (vs.drop (aAt k ys t - (t + 1))).take (qAt k ys t)
/-- the last i rows' minds -/
def vals (k : Nat) (ys : List Lot) (N : Nat) (w : Nat → Bool) : Nat → List Int
  | 0 => []
  | i + 1 => valOf (w (N - 1 - i)) (seg k ys (N - 1 - i) (vals k ys N w i)) :: vals k ys N w i
theorem vals_len (k : Nat) (ys : List Lot) (N : Nat) (w : Nat → Bool) : ∀ i, (vals k ys N w i).length = i
  | 0 => rfl
  | i + 1 => by show _ + 1 = _; rw [vals_len k ys N w i]
theorem aq_le {k : Nat} {ys : List Lot} (h1 : 1 ≤ k) (hk : k ≤ 6) {N : Nat} (E : Ends k ys N) {t : Nat} (ht : t < N) : t < aAt k ys t ∧ aAt k ys t + qAt k ys t ≤ N := by
  refine ⟨E.lt t ht, ?_⟩
  rw [← aAt_succ]
  exact run_le h1 hk ys E (t + 1) ht
theorem seg_len {k : Nat} {ys : List Lot} (h1 : 1 ≤ k) (hk : k ≤ 6) {N : Nat} (E : Ends k ys N) (w : Nat → Bool) {i : Nat} (hi : i < N) : (seg k ys (N - 1 - i) (vals k ys N w i)).length = qAt k ys (N - 1 - i) := by
  obtain ⟨a, b⟩ := aq_le h1 hk E (t := N - 1 - i) (by omega)
  unfold seg
  rw [List.length_take, List.length_drop, vals_len]
  omega
section
variable {F : Nat → Option Fd} {wf n : Nat} {m : Hm}
def cWant : S := .cons (.ret (.cmp .eq (.callp 11 [0, 1] [] (.cons (.var 0) (.cons (.var 2) .nil))) (.cmp .eq (.var 1) (.con (.int 0))))) .nil
def cRowM (w : Nat) : S := .cons (.asg (.nm 3) (.comp .val (.cons (.var 1) .nil) (.nm 4) (.con (.bl true)) (.con (.int 1)) [4])) (.cons (.fors .rng (.cons (.bin .sub (.bi .len (.cons (.var 1) .nil)) (.con (.int 1))) (.cons (.neg (.con (.int 1))) (.cons (.neg (.con (.int 1))) .nil))) (.nm 5) (.cons (.asg (.tup (.cons (.nm 6) (.cons (.nm 7) (.cons (.nm 8) .nil)))) (.idx (.var 1) (.var 5))) (.cons (.ifs (.cmp .gt (.bi .len (.cons (.var 8) .nil)) (.con (.int 0))) (.cons (.asg (.nm 9) (.comp .val (.cons (.var 8) .nil) (.nm 10) (.con (.bl true)) (.idx (.var 3) (.var 10)) [10])) (.cons (.setix (.var 3) (.var 5) (.ife (.tru (.callp w [0, 1, 2] [] (.cons (.var 0) (.cons (.var 2) (.cons (.var 6) .nil))))) (.bi .sum (.cons (.var 9) .nil)) (.bi .max (.cons (.var 9) .nil)))) .nil)) .nil) .nil))) (.cons (.ret (.var 3)) .nil))
def cMind (r : Nat) : S := .cons (.ret (.idx (.callp r [0, 1, 2] [] (.cons (.var 0) (.cons (.callp 14 [0] [] (.cons (.var 0) .nil)) (.cons (.var 1) .nil)))) (.con (.int 0)))) .nil
def cLawM : S := .cons (.asg (.nm 3) (.bin .mul (.lst (.cons (.con (.int 1)) .nil)) (.bi .len (.cons (.var 1) .nil)))) (.cons (.fors .rng (.cons (.bin .sub (.bi .len (.cons (.var 1) .nil)) (.con (.int 1))) (.cons (.neg (.con (.int 1))) (.cons (.neg (.con (.int 1))) .nil))) (.nm 4) (.cons (.asg (.tup (.cons (.nm 5) (.cons (.nm 6) (.cons (.nm 7) .nil)))) (.idx (.var 1) (.var 4))) (.cons (.ifs (.cmp .ne (.var 7) (.tup .nil)) (.cons (.asg (.nm 8) (.comp .val (.cons (.var 7) .nil) (.nm 9) (.con (.bl true)) (.idx (.var 3) (.var 9)) [9])) (.cons (.setix (.var 3) (.var 4) (.ife (.cmp .eq (.cmp .inn (.var 5) (.idx (.var 0) (.con (.int 1)))) (.cmp .eq (.var 2) (.con (.int 0)))) (.bi .sum (.cons (.var 8) .nil)) (.bi .max (.cons (.var 8) .nil)))) .nil)) .nil) .nil))) (.cons (.ret (.var 3)) .nil))
theorem w_neg {C : Cf} {ρ : Env} {m : Hm} {Q : D → Hm → Prop} (a : E) : wp (ev C (.neg a) ρ m) Q ↔ wp (ev C a ρ m) fun x m => ∃ i, x = .int i ∧ Q (.int (-i)) m := by
  rw [show ev C (.neg a) ρ m = (ev C a ρ m).bind fun x m => match x with | .int i => .ok (.int (-i)) m | _ => .bad from rfl, wp_bind]
  constructor
  · intro h
    refine h.mono fun x m q => ?_
    cases x <;> first | (rw [wp_bad] at q; exact q.elim) | exact ⟨_, rfl, (wp_ok _ _ _).mp q⟩
  · intro h
    refine h.mono fun x m q => ?_
    obtain ⟨i, rfl, q⟩ := q
    exact (wp_ok _ _ _).mpr q
theorem rangeS_eq : ∀ (n : Nat) (lo : Int), rangeS lo (-1) n = (List.range n).map fun i => .int (lo - (i : Int))
  | 0, lo => rfl
  | n + 1, lo => by
    rw [rangeS, rangeS_eq n (lo + -1), List.range_succ_eq_map]
    simp
    intro a _
    omega
theorem src_down {N : Nat} (h1 : 1 ≤ N) (hN : N ≤ 100000) : src .rng [.int ((N : Int) - 1), .int (-1), .int (-1)] m = some (snap (rangeS ((N : Int) - 1) (-1) N), N) := by
  show (rangeOf [.int ((N : Int) - 1), .int (-1), .int (-1)]).map (fun xs => (snap xs, xs.length)) = _
  unfold rangeOf
  dsimp only
  rw [if_pos ⟨by omega, by omega, by omega, by omega, rfl⟩]
  have e : ((N : Int) - 1 - -1).toNat = N := by omega
  rw [e, Option.map_some, rangeS_eq]
  simp
theorem bi_sumA {k : Nat} {xs : List Int} (e : m[k]? = some (.lst (xs.map .int))) : biD .sum [.adr k] m = some (.int xs.sum) := by
  show (itemsL m (.adr k)).bind (fun xs => (asInts xs).bind fun a => some (D.int a.sum)) = _
  rw [show itemsL m (.adr k) = some (xs.map .int) by unfold itemsL; rw [show deref m (.adr k) = some (.lst (xs.map .int)) from e]]
  simp [asInts_map]
theorem bi_maxA {k : Nat} {xs : List Int} (e : m[k]? = some (.lst (xs.map .int))) : biD .max [.adr k] m = (maxI xs).map .int := by
  show (itemsL m (.adr k)).bind (fun xs => (asInts xs).bind fun a => (maxI a).map D.int) = _
  rw [show itemsL m (.adr k) = some (xs.map .int) by unfold itemsL; rw [show deref m (.adr k) = some (.lst (xs.map .int)) from e]]
  simp [asInts_map]
theorem want_ok (hT : TreeP F) {w : Nat} (hW : F w = some ⟨3, 3, cWant⟩) (k : Nat) (ys : List Lot) (x : Lot) (hand : Int) (Q : D → Hm → Prop) (h : Q (.bl (decide (x ∈ ys) == (hand == 0))) m) : wp (callN F wf (n + 2) none w [cnd k ys, .int hand, encI x] m) Q := by
  refine w_call hW rfl ?_
  dsimp only [cWant]
  simp only [w_var, w_con, w_nil, w_cons, w_tup, w_lst, w_bin, w_cmp, w_tand, w_tor, w_tnot, w_tru, w_vand, w_vor, w_vnot, w_one, w_turn, w_ife, w_callp, w_bi, w_isin, w_idx, w_slc, w_nd, w_meth, w_comp, w_snil, w_single, w_asg, w_setix, w_exp, w_ret, w_ifs, w_fors, w_whil, w_brk, w_pass, wpo_some, wpb_some, wpa_tup, wpt_some, wif_bl, wp_ifB, wp_ok, get, put, home_int, home_bl, home_non, home_str, home_tup, home_adr, home_fro, home_lst, homes, assignT, assignTs, pick, List.map, List.replicate, List.cons_append, List.nil_append, List.append_nil, List.getD_cons_zero, List.getD_cons_succ]
  simp only [homes, home_cnd, home_enc, pick, List.nil_append, List.append_nil, List.getD_cons_zero, List.getD_cons_succ]
  refine pleases_ok hT k ys x _ ?_
  simp only [c_eq, wpb_some, c_eqB]
  refine fin_ret (by unfold below; rfl) ?_
  rw [List.take_of_length_le (Nat.le_refl _)]
  exact h
/-- the list while it is filled -/
def mst (k : Nat) (ys : List Lot) (N : Nat) (w : Nat → Bool) (i : Nat) : List Int := List.replicate (N - i) 1 ++ vals k ys N w i
theorem mst_len {k : Nat} {ys : List Lot} {N : Nat} {w : Nat → Bool} {i : Nat} (hi : i ≤ N) : (mst k ys N w i).length = N := by
  unfold mst
  rw [List.length_append, List.length_replicate, vals_len]
  omega
theorem mst_step {k : Nat} {ys : List Lot} {N : Nat} {w : Nat → Bool} {i : Nat} (hi : i < N) : mst k ys N w (i + 1) = (mst k ys N w i).set (N - 1 - i) (valOf (w (N - 1 - i)) (seg k ys (N - 1 - i) (vals k ys N w i))) := by
  unfold mst
  have e : N - i = (N - 1 - i) + 1 := by omega
  rw [e, List.replicate_succ', List.append_assoc, List.set_append_right _ _ (by simp), List.length_replicate, Nat.sub_self]
  rw [show N - (i + 1) = N - 1 - i by omega]
  rfl
theorem mst_get {k : Nat} {ys : List Lot} {N : Nat} {w : Nat → Bool} (h1 : 1 ≤ k) (hk : k ≤ 6) (E : Ends k ys N) {i : Nat} (hi : i < N) : ((List.range (qAt k ys (N - 1 - i))).map fun c => (mst k ys N w i).getD (aAt k ys (N - 1 - i) + c) 0) = seg k ys (N - 1 - i) (vals k ys N w i) := by
  obtain ⟨a, b⟩ := aq_le h1 hk E (t := N - 1 - i) (by omega)
  apply List.ext_getElem?
  intro c
  by_cases hc : c < qAt k ys (N - 1 - i)
  · rw [List.getElem?_map, List.getElem?_range hc]
    unfold seg mst
    rw [List.getElem?_take, if_pos hc, List.getElem?_drop]
    have hin : aAt k ys (N - 1 - i) - (N - 1 - i + 1) + c < (vals k ys N w i).length := by rw [vals_len]; omega
    rw [List.getElem?_eq_getElem hin]
    simp only [Option.map_some]
    rw [List.getD_eq_getElem?_getD, List.getElem?_append_right (by simp; omega), List.length_replicate]
    have e : aAt k ys (N - 1 - i) + c - (N - i) = aAt k ys (N - 1 - i) - (N - 1 - i + 1) + c := by omega
    rw [e, List.getElem?_eq_getElem hin]
    rfl
  · rw [List.getElem?_eq_none (by simp; omega), List.getElem?_eq_none (by rw [seg_len h1 hk E w hi]; omega)]
theorem set_map (xs : List Int) (j : Nat) (v : Int) : (xs.map D.int).set j (.int v) = (xs.set j v).map D.int := by
  rw [List.map_set]
/-- the comprehension over a row's children -/
theorem kids_comp {C : Cf} {ρ : Env} {k : Nat} {ys : List Lot} {N : Nat} {w : Nat → Bool} (h1 : 1 ≤ k) (hk : k ≤ 6) (E : Ends k ys N) {i a vt vc : Nat} (hi : i < N) (ea : m[a]? = some (.lst ((mst k ys N w i).map .int)))
    (hρ : ∀ d, get (put (wipe ρ [vc]) vc d) vt = some (.adr a) ∧ get (put (wipe ρ [vc]) vc d) vc = some d) {Q : List D → Hm → Prop} (q : Q ((seg k ys (N - 1 - i) (vals k ys N w i)).map .int) m) :
    ∃ f c, src .val [.tup (rangeL (aAt k ys (N - 1 - i) : Int) (qAt k ys (N - 1 - i)))] m = some (f, c) ∧ isBig c = true ∧ wp (turns f (oneCW C (.nm vc) (.con (.bl true)) (.idx (.var vt) (.var vc)) [vc] ρ) c 0 [] m) Q := by
  obtain ⟨a1, b1⟩ := aq_le h1 hk E (t := N - 1 - i) (by omega)
  have hN := E.le
  refine ⟨_, _, src_tup _, isBig_of (by rw [rangeL_lenW]; omega), turns_pure (xs := rangeL (aAt k ys (N - 1 - i) : Int) (qAt k ys (N - 1 - i))) (fun _ => true) (fun d => match d with | .int z => .int ((mst k ys N w i).getD z.toNat 0) | d => d) (fun j _ => snap_at _ _ _) (Nat.le_refl _) (fun d hd acc => ?_) ?_⟩
  · rw [rangeL_eq] at hd
    obtain ⟨c, hc, rfl⟩ := List.mem_map.mp hd
    have hc2 := List.mem_range.mp hc
    rw [w_one]
    obtain ⟨g1, g2⟩ := hρ (.int ((aAt k ys (N - 1 - i) : Int) + (c : Int)))
    refine ⟨_, rfl, ?_⟩
    show wp (ev C (.con (.bl true)) (put (wipe ρ [vc]) vc (.int ((aAt k ys (N - 1 - i) : Int) + (c : Int)))) m) _
    rw [w_con, wif_bl, if_pos rfl, w_idx, w_var, g1, wpo_some, w_var, g2, wpo_some]
    have e : ((aAt k ys (N - 1 - i) : Int) + (c : Int)) = ((aAt k ys (N - 1 - i) + c : Nat) : Int) := by omega
    have hl : aAt k ys (N - 1 - i) + c < (mst k ys N w i).length := by rw [mst_len (by omega)]; omega
    rw [e, idx_lst ea (i := aAt k ys (N - 1 - i) + c) (d := .int (mst k ys N w i)[aAt k ys (N - 1 - i) + c]) (by rw [List.getElem?_map, List.getElem?_eq_getElem hl]; rfl), wpo_some]
    refine ⟨rfl, ?_⟩
    rw [if_pos rfl]
    simp only [home_int, Int.toNat_natCast]
    rw [List.getD_eq_getElem?_getD, List.getElem?_eq_getElem hl]
    rfl
  · rw [List.filter_eq_self.mpr (by simp), rangeL_eq, List.map_map]
    rw [← mst_get h1 hk E hi] at q
    rw [List.map_map] at q
    have e : ∀ c ∈ List.range (qAt k ys (N - 1 - i)), ((fun d => match d with | D.int z => D.int ((mst k ys N w i).getD z.toNat 0) | d => d) ∘ fun (j : Nat) => D.int ((aAt k ys (N - 1 - i) : Int) + (j : Int))) c = (D.int ∘ fun c => (mst k ys N w i).getD (aAt k ys (N - 1 - i) + c) 0) c := fun c _ => by
      show D.int ((mst k ys N w i).getD ((aAt k ys (N - 1 - i) : Int) + (c : Int)).toNat 0) = D.int _
      congr 2
    rw [List.map_congr_left e]
    exact q
theorem rowm_ok (hT : TreeP F) {w r : Nat} (hW : F w = some ⟨3, 3, cWant⟩) (hR : F r = some ⟨3, 11, cRowM w⟩) {k : Nat} (h1 : 1 ≤ k) (hk : k ≤ 6) (ys : List Lot) {N : Nat} (E : Ends k ys N) (hand : Int) (Q : D → Hm → Prop)
    (h : Q (.lst ((vals k ys N (fun t => decide (lotAt k ys t ∈ ys) == (hand == 0)) N).map .int)) m) : wp (callN F wf (n + 3) none r [cnd k ys, .tup (run k ys N).told, .int hand] m) Q := by
  refine w_call hR rfl ?_
  dsimp only [cRowM]
  generalize hwf : (fun t => decide (lotAt k ys t ∈ ys) == (hand == 0)) = W at h
  have hN := E.le
  have hp := E.pos
  have tl := told_len E N (Nat.le_refl _)
  have ta := told_at E N (Nat.le_refl _)
  rw [w_scons]
  simp only [w_var, w_con, w_nil, w_cons, w_tup, w_lst, w_bin, w_cmp, w_tand, w_tor, w_tnot, w_tru, w_vand, w_vor, w_vnot, w_one, w_turn, w_ife, w_callp, w_bi, w_isin, w_idx, w_slc, w_nd, w_meth, w_comp, w_snil, w_single, w_asg, w_setix, w_exp, w_ret, w_ifs, w_fors, w_whil, w_brk, w_pass, wpo_some, wpb_some, wpa_tup, wpt_some, wif_bl, wp_ifB, wp_ok, get, put, home_int, home_bl, home_non, home_str, home_tup, home_adr, home_fro, home_lst, homes, assignT, assignTs, pick, List.map, List.replicate, List.cons_append, List.nil_append, List.append_nil, List.getD_cons_zero, List.getD_cons_succ]
  refine ⟨_, _, src_tup _, isBig_of (by rw [tl]; omega), turns_pure (xs := (run k ys N).told) (fun _ => true) (fun _ => .int 1) (fun j _ => snap_at _ _ _) (Nat.le_refl _) (fun d hd acc => ?_) ?_⟩
  · rw [w_one]
    simp only [assignT, wipe, clr, put, wpt_some, w_con, wif_bl, if_true, home_int]
    exact ⟨trivial, trivial⟩
  · rw [List.filter_eq_self.mpr (by simp)]
    have e0 : (run k ys N).told.map (fun _ => D.int 1) = (mst k ys N W 0).map .int := by
      rw [List.map_const', tl]
      unfold mst vals
      rw [List.append_nil, List.map_replicate, Nat.sub_zero]
    rw [e0]
    rw [seqQ_nx, w_scons, w_fors]
    simp only [w_cons, w_nil, w_neg, w_bin, w_bi, w_con, w_var, get, wpo_some, wpa_tup, bi_lenW]
    rw [len_at (.inr (.inl rfl)), tl]
    simp only [wpo_some, b_sub]
    refine ⟨1, rfl, 1, rfl, ?_⟩
    refine ⟨_, _, src_down hp (by omega), ?_⟩
    refine loop_inv (xs := rangeS ((N : Int) - 1) (-1) N) (fun i ρ m' => ∃ o4 o5 o6 o7 o8 o9 o10 l, ρ = [some (cnd k ys), some (.tup (run k ys N).told), some (.int hand), some (.adr m.length), o4, o5, o6, o7, o8, o9, o10] ∧ m' = m ++ l ∧ m'[m.length]? = some (.lst ((mst k ys N W i).map .int))) _ (fun _ _ _ _ _ => snap_at _ _ _) (fun i d ρ m' hd I => ?_) (fun ρ m' I => ?_) _ 0 _ _ (Nat.zero_le _) (by rw [rangeS_eq]; simp) ⟨none, none, none, none, none, none, none, _, rfl, rfl, List.getElem?_concat_length⟩
    · obtain ⟨o4, o5, o6, o7, o8, o9, o10, l, rfl, rfl, ea⟩ := I
      have hi : i < N := by have := (List.getElem?_eq_some_iff.mp hd).1; rw [rangeS_eq] at this; simpa using this
      have hd2 : d = .int ((N - 1 - i : Nat) : Int) := by
        rw [rangeS_eq, List.getElem?_map, List.getElem?_range hi] at hd
        simp at hd
        rw [← hd]
        congr 1
        omega
      subst hd2
      obtain ⟨par, et⟩ := ta (N - 1 - i) (by omega)
      obtain ⟨a1, b1⟩ := aq_le h1 hk E (t := N - 1 - i) (by omega)
      rw [w_turn]
      refine ⟨_, rfl, ?_⟩
      dsimp only [put]
      rw [w_scons, w_asg]
      simp only [w_idx, w_var, get, wpo_some]
      rw [idx_at (x := .tup (run k ys N).told) (.inr (.inl rfl)) et]
      simp only [wpo_some, home_tup]
      refine ⟨[some (cnd k ys), some (.tup (run k ys N).told), some (.int hand), some (.adr m.length), o4, some (.int ((N - 1 - i : Nat) : Int)), some (encI (lotAt k ys (N - 1 - i))), some par, some (.tup (rangeL (aAt k ys (N - 1 - i) : Int) (qAt k ys (N - 1 - i)))), o9, o10], rfl, ?_⟩
      dsimp only
      rw [seqQ_nx, w_single, w_ifs]
      simp only [w_cmp, w_bi, w_cons, w_nil, w_con, w_var, get, wpo_some, wpa_tup, bi_lenW]
      rw [len_at (x := .tup (rangeL (aAt k ys (N - 1 - i) : Int) (qAt k ys (N - 1 - i)))) (.inr (.inl rfl)), rangeL_lenW]
      simp only [wpo_some, c_gt, wpb_some, wif_bl, w_snil]
      have sl := seg_len h1 hk E W hi
      have ms := mst_step (k := k) (ys := ys) (w := W) hi
      by_cases hq : (0 : Int) < (qAt k ys (N - 1 - i) : Int)
      · simp only [hq, decide_true, if_true]
        rw [w_scons, w_asg, w_comp]
        simp only [w_cons, w_nil, w_var, get, wpo_some, wpa_tup]
        refine kids_comp h1 hk E hi ea (fun d => ⟨rfl, rfl⟩) ?_
        simp only [home_lst]
        refine ⟨_, rfl, ?_⟩
        dsimp only [put]
        generalize hsg : seg k ys (N - 1 - i) (vals k ys N W i) = sg at sl ms
        have es : (m ++ l ++ [D.lst (sg.map .int)])[(m ++ l).length]? = some (.lst (sg.map .int)) := List.getElem?_concat_length
        have ea2 : (m ++ l ++ [D.lst (sg.map .int)])[m.length]? = some (.lst ((mst k ys N W i).map .int)) := by rw [List.getElem?_append_left (List.getElem?_eq_some_iff.mp ea).1]; exact ea
        have hsn : sg ≠ [] := by intro z; rw [z] at sl; simp at sl; omega
        obtain ⟨z, hz, _⟩ := maxI_some hsn
        rw [seqQ_nx, w_single, w_setix, w_ife]
        simp only [w_tru, w_callp, w_bi, w_cons, w_nil, w_var, get, wpo_some, wpa_tup, homes, home_cnd, home_int, home_enc, pick, List.nil_append, List.append_nil, List.getD_cons_zero, List.getD_cons_succ]
        refine want_ok (n := n) hT hW k ys _ hand _ ?_
        have eW : (decide (lotAt k ys (N - 1 - i) ∈ ys) == (hand == 0)) = W (N - 1 - i) := by rw [← hwf]
        rw [eW, t_bl]
        simp only [wpb_some, wp_ifB]
        have fin : ∀ v : Int, v = valOf (W (N - 1 - i)) sg → ∃ m4, setD m.length (.adr m.length) (.int ((N - 1 - i : Nat) : Int)) (.int v) (m ++ l ++ [D.lst (sg.map .int)]) = some m4 ∧ ∃ l', m4 = m ++ l' ∧ m4[m.length]? = some (.lst ((mst k ys N W (i + 1)).map .int)) := fun v hv => by
          have hlt : N - 1 - i < ((mst k ys N W i).map D.int).length := by rw [List.length_map, mst_len (by omega)]; omega
          rw [set_lst _ _ ea2 (may_int _ _ _), ixOf_nat hlt]
          refine ⟨_, rfl, ?_⟩
          dsimp only
          rw [set_map, hv, ← ms]
          refine ⟨(l ++ [D.lst (sg.map .int)]).set 0 (.lst ((mst k ys N W (i + 1)).map .int)), ?_, ?_⟩
          · rw [List.append_assoc, List.set_append_right _ _ (Nat.le_refl _), Nat.sub_self]
          · rw [List.getElem?_set_self (List.getElem?_eq_some_iff.mp ea2).1]
        by_cases hw : W (N - 1 - i) = true
        · rw [if_pos hw, w_bi]
          simp only [w_cons, w_nil, w_var, get, wpo_some, wpa_tup]
          rw [bi_sumA es]
          simp only [wpo_some, home_int, w_var, get]
          obtain ⟨m4, f1, l', f2, f3⟩ := fin sg.sum (by unfold valOf; rw [if_neg hsn, if_pos hw])
          exact ⟨m4, f1, _, _, _, _, _, _, _, l', rfl, f2, f3⟩
        · rw [if_neg hw, w_bi]
          simp only [w_cons, w_nil, w_var, get, wpo_some, wpa_tup]
          rw [bi_maxA es, hz]
          simp only [Option.map_some, wpo_some, home_int, w_var, get]
          obtain ⟨m4, f1, l', f2, f3⟩ := fin z (by unfold valOf; rw [if_neg hsn, if_neg hw, hz]; rfl)
          exact ⟨m4, f1, _, _, _, _, _, _, _, l', rfl, f2, f3⟩
      · simp only [hq, decide_false, Bool.false_eq_true, if_false]
        have hsg : seg k ys (N - 1 - i) (vals k ys N W i) = [] := List.eq_nil_of_length_eq_zero (by omega)
        refine ⟨_, _, _, _, _, _, _, l, rfl, rfl, ?_⟩
        rw [ms, hsg]
        have : (mst k ys N W i).set (N - 1 - i) (valOf (W (N - 1 - i)) []) = mst k ys N W i := by
          show (mst k ys N W i).set (N - 1 - i) 1 = _
          apply List.ext_getElem?
          intro c
          by_cases hc : N - 1 - i = c
          · subst hc
            rw [List.getElem?_set_self (by rw [mst_len (by omega)]; omega)]
            unfold mst
            rw [List.getElem?_append_left (by simp; omega), List.getElem?_replicate, if_pos (by omega)]
          · rw [List.getElem?_set_ne hc]
        rw [this]
        exact ea
    · obtain ⟨o4, o5, o6, o7, o8, o9, o10, l, rfl, rfl, ea⟩ := I
      rw [rangeS_eq, List.length_map, List.length_range] at ea
      rw [seqQ_nx]
      simp only [w_var, w_con, w_nil, w_cons, w_tup, w_lst, w_bin, w_cmp, w_tand, w_tor, w_tnot, w_tru, w_vand, w_vor, w_vnot, w_one, w_turn, w_ife, w_callp, w_bi, w_isin, w_idx, w_slc, w_nd, w_meth, w_comp, w_snil, w_single, w_asg, w_setix, w_exp, w_ret, w_ifs, w_fors, w_whil, w_brk, w_pass, wpo_some, wpb_some, wpa_tup, wpt_some, wif_bl, wp_ifB, wp_ok, get, put, home_int, home_bl, home_non, home_str, home_tup, home_adr, home_fro, home_lst, homes, assignT, assignTs, pick, List.map, List.replicate, List.cons_append, List.nil_append, List.append_nil, List.getD_cons_zero, List.getD_cons_succ]
      have ib : ∀ (xs : List Int) j, belows j (xs.map D.int) = true := fun xs j => belows_ints j xs
      refine fin_adr (Nat.le_refl _) ea (fun _ z => by cases z) (by rw [below_lst]; exact ib _ _) ?_
      rw [List.take_left]
      unfold mst at *
      rw [Nat.sub_self]
      exact h
theorem purs_range (a : Int) (q : Nat) : purs 39 (rangeL a q) = true := by
  rw [rangeL_eq]
  generalize List.range q = l
  induction l with
  | nil => unfold purs; rfl
  | cons x l ih => rw [List.map_cons, purs, ih]; unfold pur; rfl
theorem lawm_ok {r : Nat} (hR : F r = some ⟨3, 10, cLawM⟩) {k : Nat} (h1 : 1 ≤ k) (hk : k ≤ 6) (ys : List Lot) {N : Nat} (E : Ends k ys N) (hand : Int) (Q : D → Hm → Prop)
    (h : Q (.lst ((vals k ys N (fun t => decide (lotAt k ys t ∈ ys) == (hand == 0)) N).map .int)) m) : wp (callN F wf (n + 1) none r [cnd k ys, .tup (run k ys N).told, .int hand] m) Q := by
  refine w_call hR rfl ?_
  dsimp only [cLawM]
  generalize hwf : (fun t => decide (lotAt k ys t ∈ ys) == (hand == 0)) = W at h
  have hN := E.le
  have hp := E.pos
  have tl := told_len E N (Nat.le_refl _)
  have ta := told_at E N (Nat.le_refl _)
  have mulL : ∀ m, binD .mul (.lst [.int 1]) (.int (N : Int)) m = some (.lst ((mst k ys N W 0).map .int)) := fun m => by
    show binL .mul (some (.lst [.int 1])) (some (.int (N : Int))) = _
    unfold binL
    dsimp only
    rw [if_pos ⟨by omega, by omega, isBig_of (by simp; omega)⟩]
    congr 2
    unfold mst vals
    rw [List.append_nil, List.map_replicate, Nat.sub_zero, Int.toNat_natCast]
    generalize N = c
    induction c with
    | zero => rfl
    | succ c ih => rw [List.replicate_succ, List.replicate_succ, List.flatten_cons, ih]; rfl
  rw [w_scons]
  simp only [w_var, w_con, w_nil, w_cons, w_tup, w_lst, w_bin, w_cmp, w_tand, w_tor, w_tnot, w_tru, w_vand, w_vor, w_vnot, w_one, w_turn, w_ife, w_callp, w_bi, w_isin, w_idx, w_slc, w_nd, w_meth, w_comp, w_snil, w_single, w_asg, w_setix, w_exp, w_ret, w_ifs, w_fors, w_whil, w_brk, w_pass, wpo_some, wpb_some, wpa_tup, wpt_some, wif_bl, wp_ifB, wp_ok, get, put, home_int, home_bl, home_non, home_str, home_tup, home_adr, home_fro, home_lst, homes, assignT, assignTs, pick, List.map, List.replicate, List.cons_append, List.nil_append, List.append_nil, List.getD_cons_zero, List.getD_cons_succ]
  rw [bi_lenW, len_at (.inr (.inl rfl)), tl]
  simp only [wpo_some]
  rw [mulL]
  simp only [wpo_some, home_lst]
  · rw [seqQ_nx, w_scons, w_fors]
    simp only [w_cons, w_nil, w_neg, w_bin, w_bi, w_con, w_var, get, wpo_some, wpa_tup, bi_lenW]
    rw [len_at (.inr (.inl rfl)), tl]
    simp only [wpo_some, b_sub]
    refine ⟨1, rfl, 1, rfl, ?_⟩
    refine ⟨_, _, src_down hp (by omega), ?_⟩
    refine loop_inv (xs := rangeS ((N : Int) - 1) (-1) N) (fun i ρ m' => ∃ o5 o6 o7 o8 o9 o10 l, ρ = [some (cnd k ys), some (.tup (run k ys N).told), some (.int hand), some (.adr m.length), o5, o6, o7, o8, o9, o10] ∧ m' = m ++ l ∧ m'[m.length]? = some (.lst ((mst k ys N W i).map .int))) _ (fun _ _ _ _ _ => snap_at _ _ _) (fun i d ρ m' hd I => ?_) (fun ρ m' I => ?_) _ 0 _ _ (Nat.zero_le _) (by rw [rangeS_eq]; simp) ⟨none, none, none, none, none, none, _, rfl, rfl, List.getElem?_concat_length⟩
    · obtain ⟨o5, o6, o7, o8, o9, o10, l, rfl, rfl, ea⟩ := I
      have hi : i < N := by have := (List.getElem?_eq_some_iff.mp hd).1; rw [rangeS_eq] at this; simpa using this
      have hd2 : d = .int ((N - 1 - i : Nat) : Int) := by
        rw [rangeS_eq, List.getElem?_map, List.getElem?_range hi] at hd
        simp at hd
        rw [← hd]
        congr 1
        omega
      subst hd2
      obtain ⟨par, et⟩ := ta (N - 1 - i) (by omega)
      obtain ⟨a1, b1⟩ := aq_le h1 hk E (t := N - 1 - i) (by omega)
      rw [w_turn]
      refine ⟨_, rfl, ?_⟩
      dsimp only [put]
      rw [w_scons, w_asg]
      simp only [w_idx, w_var, get, wpo_some]
      rw [idx_at (x := .tup (run k ys N).told) (.inr (.inl rfl)) et]
      simp only [wpo_some, home_tup]
      refine ⟨[some (cnd k ys), some (.tup (run k ys N).told), some (.int hand), some (.adr m.length), some (.int ((N - 1 - i : Nat) : Int)), some (encI (lotAt k ys (N - 1 - i))), some par, some (.tup (rangeL (aAt k ys (N - 1 - i) : Int) (qAt k ys (N - 1 - i)))), o9, o10], rfl, ?_⟩
      dsimp only
      rw [seqQ_nx, w_single, w_ifs]
      simp only [w_cmp, w_tup, w_nil, w_var, get, wpo_some, wpa_tup, homes]
      have ne0 : ∀ m, cmpD .ne m (.tup (rangeL (aAt k ys (N - 1 - i) : Int) (qAt k ys (N - 1 - i)))) (.tup []) = some (decide ((0 : Int) < (qAt k ys (N - 1 - i) : Int))) := fun m => by
        show (if pur 40 (.tup (rangeL (aAt k ys (N - 1 - i) : Int) (qAt k ys (N - 1 - i)))) && pur 40 (.tup []) then some (eqb (.tup (rangeL (aAt k ys (N - 1 - i) : Int) (qAt k ys (N - 1 - i)))) (.tup [])) else none).map (!·) = _
        rw [if_pos (by rw [pur_tup 39, pur_tup 39, purs_range]; unfold purs; rfl)]
        cases qAt k ys (N - 1 - i) with
        | zero => rfl
        | succ q => simp [rangeL, eqb, eqbs]
      rw [ne0]
      simp only [wpb_some, wif_bl, w_snil]
      have sl := seg_len h1 hk E W hi
      have ms := mst_step (k := k) (ys := ys) (w := W) hi
      by_cases hq : (0 : Int) < (qAt k ys (N - 1 - i) : Int)
      · simp only [hq, decide_true, if_true]
        rw [w_scons, w_asg, w_comp]
        simp only [w_cons, w_nil, w_var, get, wpo_some, wpa_tup]
        refine kids_comp h1 hk E hi ea (fun d => ⟨rfl, rfl⟩) ?_
        simp only [home_lst]
        refine ⟨_, rfl, ?_⟩
        dsimp only [put]
        generalize hsg : seg k ys (N - 1 - i) (vals k ys N W i) = sg at sl ms
        have es : (m ++ l ++ [D.lst (sg.map .int)])[(m ++ l).length]? = some (.lst (sg.map .int)) := List.getElem?_concat_length
        have ea2 : (m ++ l ++ [D.lst (sg.map .int)])[m.length]? = some (.lst ((mst k ys N W i).map .int)) := by rw [List.getElem?_append_left (List.getElem?_eq_some_iff.mp ea).1]; exact ea
        have hsn : sg ≠ [] := by intro z; rw [z] at sl; simp at sl; omega
        obtain ⟨z, hz, _⟩ := maxI_some hsn
        rw [seqQ_nx, w_single, w_setix, w_ife]
        have eW : (decide (lotAt k ys (N - 1 - i) ∈ ys) == (hand == 0)) = W (N - 1 - i) := by rw [← hwf]
        simp only [w_cmp, w_idx, w_con, w_var, get, wpo_some, cnd_1, c_in, wpb_some, c_eq, c_eqB, eW, wp_ifB]
        have fin : ∀ v : Int, v = valOf (W (N - 1 - i)) sg → ∃ m4, setD m.length (.adr m.length) (.int ((N - 1 - i : Nat) : Int)) (.int v) (m ++ l ++ [D.lst (sg.map .int)]) = some m4 ∧ ∃ l', m4 = m ++ l' ∧ m4[m.length]? = some (.lst ((mst k ys N W (i + 1)).map .int)) := fun v hv => by
          have hlt : N - 1 - i < ((mst k ys N W i).map D.int).length := by rw [List.length_map, mst_len (by omega)]; omega
          rw [set_lst _ _ ea2 (may_int _ _ _), ixOf_nat hlt]
          refine ⟨_, rfl, ?_⟩
          dsimp only
          rw [set_map, hv, ← ms]
          refine ⟨(l ++ [D.lst (sg.map .int)]).set 0 (.lst ((mst k ys N W (i + 1)).map .int)), ?_, ?_⟩
          · rw [List.append_assoc, List.set_append_right _ _ (Nat.le_refl _), Nat.sub_self]
          · rw [List.getElem?_set_self (List.getElem?_eq_some_iff.mp ea2).1]
        by_cases hw : W (N - 1 - i) = true
        · rw [if_pos hw, w_bi]
          simp only [w_cons, w_nil, w_var, get, wpo_some, wpa_tup]
          rw [bi_sumA es]
          simp only [wpo_some, home_int, w_var, get]
          obtain ⟨m4, f1, l', f2, f3⟩ := fin sg.sum (by unfold valOf; rw [if_neg hsn, if_pos hw])
          exact ⟨m4, f1, _, _, _, _, _, _, l', rfl, f2, f3⟩
        · rw [if_neg hw, w_bi]
          simp only [w_cons, w_nil, w_var, get, wpo_some, wpa_tup]
          rw [bi_maxA es, hz]
          simp only [Option.map_some, wpo_some, home_int, w_var, get]
          obtain ⟨m4, f1, l', f2, f3⟩ := fin z (by unfold valOf; rw [if_neg hsn, if_neg hw, hz]; rfl)
          exact ⟨m4, f1, _, _, _, _, _, _, l', rfl, f2, f3⟩
      · simp only [hq, decide_false, Bool.false_eq_true, if_false]
        have hsg : seg k ys (N - 1 - i) (vals k ys N W i) = [] := List.eq_nil_of_length_eq_zero (by omega)
        refine ⟨_, _, _, _, _, _, l, rfl, rfl, ?_⟩
        rw [ms, hsg]
        have : (mst k ys N W i).set (N - 1 - i) (valOf (W (N - 1 - i)) []) = mst k ys N W i := by
          show (mst k ys N W i).set (N - 1 - i) 1 = _
          apply List.ext_getElem?
          intro c
          by_cases hc : N - 1 - i = c
          · subst hc
            rw [List.getElem?_set_self (by rw [mst_len (by omega)]; omega)]
            unfold mst
            rw [List.getElem?_append_left (by simp; omega), List.getElem?_replicate, if_pos (by omega)]
          · rw [List.getElem?_set_ne hc]
        rw [this]
        exact ea
    · obtain ⟨o5, o6, o7, o8, o9, o10, l, rfl, rfl, ea⟩ := I
      rw [rangeS_eq, List.length_map, List.length_range] at ea
      rw [seqQ_nx]
      simp only [w_var, w_con, w_nil, w_cons, w_tup, w_lst, w_bin, w_cmp, w_tand, w_tor, w_tnot, w_tru, w_vand, w_vor, w_vnot, w_one, w_turn, w_ife, w_callp, w_bi, w_isin, w_idx, w_slc, w_nd, w_meth, w_comp, w_snil, w_single, w_asg, w_setix, w_exp, w_ret, w_ifs, w_fors, w_whil, w_brk, w_pass, wpo_some, wpb_some, wpa_tup, wpt_some, wif_bl, wp_ifB, wp_ok, get, put, home_int, home_bl, home_non, home_str, home_tup, home_adr, home_fro, home_lst, homes, assignT, assignTs, pick, List.map, List.replicate, List.cons_append, List.nil_append, List.append_nil, List.getD_cons_zero, List.getD_cons_succ]
      have ib : ∀ (xs : List Int) j, belows j (xs.map D.int) = true := fun xs j => belows_ints j xs
      refine fin_adr (Nat.le_refl _) ea (fun _ z => by cases z) (by rw [below_lst]; exact ib _ _) ?_
      rw [List.take_left]
      unfold mst at *
      rw [Nat.sub_self]
      exact h
theorem mind_ok (hT : TreeP F) {w r c : Nat} (hW : F w = some ⟨3, 3, cWant⟩) (hR : F r = some ⟨3, 11, cRowM w⟩) (hM : F c = some ⟨2, 2, cMind r⟩) {k : Nat} (h1 : 1 ≤ k) (hk : k ≤ 6) (ys : List Lot) {N : Nat} (E : Ends k ys N) (hwf : 2000 ≤ wf) (hand : Int) (Q : D → Hm → Prop)
    (h : Q (.int ((vals k ys N (fun t => decide (lotAt k ys t ∈ ys) == (hand == 0)) N).getD 0 0)) m) : wp (callN F wf (n + 4) none c [cnd k ys, .int hand] m) Q := by
  refine w_call hM rfl ?_
  dsimp only [cMind]
  simp only [w_var, w_con, w_nil, w_cons, w_tup, w_lst, w_bin, w_cmp, w_tand, w_tor, w_tnot, w_tru, w_vand, w_vor, w_vnot, w_one, w_turn, w_ife, w_callp, w_bi, w_isin, w_idx, w_slc, w_nd, w_meth, w_comp, w_snil, w_single, w_asg, w_setix, w_exp, w_ret, w_ifs, w_fors, w_whil, w_brk, w_pass, wpo_some, wpb_some, wpa_tup, wpt_some, wif_bl, wp_ifB, wp_ok, get, put, home_int, home_bl, home_non, home_str, home_tup, home_adr, home_fro, home_lst, homes, assignT, assignTs, pick, List.map, List.replicate, List.cons_append, List.nil_append, List.append_nil, List.getD_cons_zero, List.getD_cons_succ]
  simp only [homes, home_cnd, pick, List.nil_append, List.append_nil, List.getD_cons_zero]
  refine split_ok (n := n) hT h1 hk ys E hwf _ ?_
  simp only [homes, home_cnd, home_tup, home_int, pick, List.nil_append, List.append_nil, List.getD_cons_zero, List.getD_cons_succ]
  refine rowm_ok (n := n) hT hW hR h1 hk ys E hand _ ?_
  have hl : 0 < (vals k ys N (fun t => decide (lotAt k ys t ∈ ys) == (hand == 0)) N).length := by rw [vals_len]; exact E.pos
  rw [show (D.int 0) = .int ((0 : Nat) : Int) from rfl, idx_at (x := .lst ((vals k ys N (fun t => decide (lotAt k ys t ∈ ys) == (hand == 0)) N).map .int)) (.inl rfl) (j := 0) (d := .int (vals k ys N (fun t => decide (lotAt k ys t ∈ ys) == (hand == 0)) N)[0]) (by rw [List.getElem?_map, List.getElem?_eq_getElem hl]; rfl)]
  simp only [wpo_some]
  refine fin_ret (by unfold below; rfl) ?_
  rw [List.take_of_length_le (Nat.le_refl _)]
  rw [List.getD_eq_getElem?_getD, List.getElem?_eq_getElem hl] at h
  exact h
end
end Bell
end

section
set_option maxRecDepth 100000
/-! how many minds -/
namespace Bell
section
variable {k : Nat} {ys : List Lot} {N : Nat}
def vAt (k : Nat) (ys : List Lot) (N : Nat) (w : Nat → Bool) (t : Nat) : Int := (vals k ys N w N).getD t 0
def kidV (k : Nat) (ys : List Lot) (f : Nat → Int) (t : Nat) : List Int := (List.range (qAt k ys t)).map fun c => f (aAt k ys t + c)
theorem vals_drop (w : Nat → Bool) : ∀ (d i : Nat), (vals k ys N w (i + d)).drop d = vals k ys N w i
  | 0, i => rfl
  | d + 1, i => by
    show (valOf _ _ :: vals k ys N w (i + d)).drop (d + 1) = _
    rw [List.drop_succ_cons, vals_drop w d i]
theorem v_eq (h1 : 1 ≤ k) (hk : k ≤ 6) (E : Ends k ys N) (w : Nat → Bool) {t : Nat} (ht : t < N) : vAt k ys N w t = valOf (w t) (kidV k ys (vAt k ys N w) t) := by
  have e1 := vals_drop (k := k) (ys := ys) (N := N) w t (N - t)
  rw [show N - t + t = N by omega, show N - t = (N - 1 - t) + 1 by omega] at e1
  have e2 : (vals k ys N w N).drop t = valOf (w (N - 1 - (N - 1 - t))) (seg k ys (N - 1 - (N - 1 - t)) (vals k ys N w (N - 1 - t))) :: vals k ys N w (N - 1 - t) := e1
  rw [show N - 1 - (N - 1 - t) = t by omega] at e2
  have e3 : vAt k ys N w t = valOf (w t) (seg k ys t (vals k ys N w (N - 1 - t))) := by
    unfold vAt
    rw [List.getD_eq_getElem?_getD]
    have := congrArg (fun l => l[0]?) e2
    simp only [List.getElem?_drop, Nat.add_zero, List.getElem?_cons_zero] at this
    rw [this]
    rfl
  rw [e3]
  congr 1
  obtain ⟨a, b⟩ := aq_le h1 hk E ht
  have e4 : vals k ys N w (N - 1 - t) = (vals k ys N w N).drop (t + 1) := by
    have := vals_drop (k := k) (ys := ys) (N := N) w (t + 1) (N - 1 - t)
    rw [show N - 1 - t + (t + 1) = N by omega] at this
    exact this.symm
  unfold seg kidV
  rw [e4, List.drop_drop, show t + 1 + (aAt k ys t - (t + 1)) = aAt k ys t by omega]
  apply List.ext_getElem?
  intro c
  by_cases hc : c < qAt k ys t
  · rw [List.getElem?_take, if_pos hc, List.getElem?_drop, List.getElem?_map, List.getElem?_range hc]
    have : aAt k ys t + c < (vals k ys N w N).length := by rw [vals_len]; omega
    unfold vAt
    rw [Option.map_some, List.getD_eq_getElem?_getD, List.getElem?_eq_getElem this]
    rfl
  · rw [List.getElem?_eq_none (by simp [vals_len]; omega), List.getElem?_eq_none (by simp; omega)]
theorem sum_ge : ∀ {xs : List Int}, (∀ x ∈ xs, 0 ≤ x) → 0 ≤ xs.sum ∧ ∀ x ∈ xs, x ≤ xs.sum
  | [], _ => ⟨by simp, fun x h => by cases h⟩
  | y :: xs, h => by
    obtain ⟨h1, h2⟩ := sum_ge (xs := xs) fun x hx => h x (List.mem_cons_of_mem _ hx)
    have hy := h y List.mem_cons_self
    rw [List.sum_cons]
    refine ⟨by omega, fun x hx => ?_⟩
    rcases List.mem_cons.mp hx with rfl | hx
    · omega
    · have := h2 x hx; omega
theorem val_pos (w : Bool) {s : List Int} (h : ∀ x ∈ s, 1 ≤ x) : 1 ≤ valOf w s := by
  unfold valOf
  by_cases e : s = []
  · rw [if_pos e]; exact Int.le_refl _
  · rw [if_neg e]
    obtain ⟨z, hz, hm⟩ := maxI_some e
    cases w with
    | false => rw [if_neg (by simp), hz]; exact h z hm
    | true =>
      rw [if_pos rfl]
      have := (sum_ge fun x hx => by have := h x hx; omega).2 z hm
      have := h z hm
      omega
theorem v_pos (h1 : 1 ≤ k) (hk : k ≤ 6) (E : Ends k ys N) (w : Nat → Bool) : ∀ (d t : Nat), t < N → N - t ≤ d → 1 ≤ vAt k ys N w t
  | 0, t, ht, hd => by omega
  | d + 1, t, ht, hd => by
    rw [v_eq h1 hk E w ht]
    refine val_pos _ fun x hx => ?_
    obtain ⟨c, hc, rfl⟩ := List.mem_map.mp hx
    have := List.mem_range.mp hc
    obtain ⟨a, b⟩ := aq_le h1 hk E ht
    exact v_pos h1 hk E w d (aAt k ys t + c) (by omega) (by omega)
theorem sum_le : ∀ {n : Nat} {f g : Nat → Int}, (∀ c, c < n → f c ≤ g c) → ((List.range n).map f).sum ≤ ((List.range n).map g).sum
  | 0, f, g, _ => by simp
  | n + 1, f, g, h => by
    rw [List.range_succ, List.map_append, List.map_append, List.sum_append, List.sum_append]
    have := sum_le (n := n) (f := f) (g := g) fun c hc => h c (by omega)
    have := h n (by omega)
    simp
    omega
theorem v_le (h1 : 1 ≤ k) (hk : k ≤ 6) (E : Ends k ys N) (w : Nat → Bool) : ∀ (d t : Nat), t < N → N - t ≤ d → vAt k ys N w t ≤ vAt k ys N (fun _ => true) t
  | 0, t, ht, hd => by omega
  | d + 1, t, ht, hd => by
    have hp := fun c (hc : c < qAt k ys t) => by
      obtain ⟨a, b⟩ := aq_le h1 hk E ht
      exact v_pos h1 hk E w N (aAt k ys t + c) (by omega) (by omega)
    have hl := fun c (hc : c < qAt k ys t) => by
      obtain ⟨a, b⟩ := aq_le h1 hk E ht
      exact v_le h1 hk E w d (aAt k ys t + c) (by omega) (by omega)
    rw [v_eq h1 hk E w ht, v_eq h1 hk E (fun _ => true) ht]
    have hs : (kidV k ys (vAt k ys N w) t).sum ≤ (kidV k ys (vAt k ys N fun _ => true) t).sum := sum_le hl
    unfold valOf
    have en : kidV k ys (vAt k ys N w) t = [] ↔ kidV k ys (vAt k ys N fun _ => true) t = [] := by unfold kidV; simp
    by_cases e : kidV k ys (vAt k ys N w) t = []
    · rw [if_pos e, if_pos (en.mp e)]; exact Int.le_refl _
    · rw [if_neg e, if_neg (fun z => e (en.mpr z)), if_pos rfl]
      cases w t with
      | true => rw [if_pos rfl]; exact hs
      | false =>
        rw [if_neg (by simp)]
        obtain ⟨z, hz, hm⟩ := maxI_some e
        rw [hz]
        have := (sum_ge (xs := kidV k ys (vAt k ys N w) t) fun x hx => by
          obtain ⟨c, hc, rfl⟩ := List.mem_map.mp hx
          have := hp c (List.mem_range.mp hc)
          omega).2 z hm
        show z ≤ _
        omega
def sumAt (f : Nat → Int) (lo n : Nat) : Int := ((List.range n).map fun c => f (lo + c)).sum
theorem sumAt_cons (f : Nat → Int) (lo n : Nat) : sumAt f lo (n + 1) = f lo + sumAt f (lo + 1) n := by
  unfold sumAt
  rw [List.range_succ_eq_map, List.map_cons, List.sum_cons, List.map_map]
  congr 2
  refine List.map_congr_left fun c _ => ?_
  show f (lo + (c + 1)) = f (lo + 1 + c)
  congr 1
  omega
theorem sumAt_app (f : Nat → Int) : ∀ (n lo m : Nat), sumAt f lo (n + m) = sumAt f lo n + sumAt f (lo + n) m
  | 0, lo, m => by show sumAt f lo (0 + m) = 0 + sumAt f (lo + 0) m; rw [Nat.zero_add, Nat.add_zero, Int.zero_add]
  | n + 1, lo, m => by
    rw [show n + 1 + m = (n + m) + 1 by omega, sumAt_cons, sumAt_cons, sumAt_app f n, show lo + 1 + n = lo + (n + 1) by omega]
    omega
def leafN (k : Nat) (ys : List Lot) : Nat → Nat
  | 0 => 0
  | t + 1 => leafN k ys t + (if qAt k ys t = 0 then 1 else 0)
theorem leaf_sum (h1 : 1 ≤ k) (hk : k ≤ 6) (E : Ends k ys N) : ∀ t, t ≤ N → (leafN k ys t : Int) + sumAt (vAt k ys N fun _ => true) t (aAt k ys t - t) = vAt k ys N (fun _ => true) 0
  | 0, _ => by
    have : aAt k ys 0 = 1 := rfl
    rw [this]
    show (0 : Int) + sumAt _ 0 1 = _
    rw [sumAt_cons]
    have : sumAt (vAt k ys N fun _ => true) (0 + 1) 0 = 0 := rfl
    rw [this]
    omega
  | t + 1, h => by
    have ih := leaf_sum h1 hk E t (by omega)
    obtain ⟨a, b⟩ := aq_le h1 hk E (t := t) (by omega)
    rw [show aAt k ys t - t = (aAt k ys t - t - 1) + 1 by omega, sumAt_cons] at ih
    have hv := v_eq h1 hk E (fun _ => true) (t := t) (by omega)
    rw [aAt_succ]
    unfold leafN
    by_cases hq : qAt k ys t = 0
    · rw [if_pos hq, hq]
      have : vAt k ys N (fun _ => true) t = 1 := by
        rw [hv]
        unfold valOf kidV
        rw [hq]
        rfl
      rw [this] at ih
      rw [show aAt k ys t + 0 - (t + 1) = aAt k ys t - t - 1 by omega]
      omega
    · rw [if_neg hq]
      have e : vAt k ys N (fun _ => true) t = sumAt (vAt k ys N fun _ => true) (aAt k ys t) (qAt k ys t) := by
        rw [hv]
        unfold valOf
        rw [if_neg (by unfold kidV; simpa using hq), if_pos rfl]
        rfl
      rw [e] at ih
      rw [show aAt k ys t + qAt k ys t - (t + 1) = (aAt k ys t - t - 1) + qAt k ys t by omega, sumAt_app, show t + 1 + (aAt k ys t - t - 1) = aAt k ys t by omega]
      omega
theorem leaf_all (h1 : 1 ≤ k) (hk : k ≤ 6) (E : Ends k ys N) : vAt k ys N (fun _ => true) 0 = (leafN k ys N : Int) := by
  have := leaf_sum h1 hk E N (Nat.le_refl _)
  have e : aAt k ys N = N := E.at_
  rw [e, Nat.sub_self] at this
  have z : sumAt (vAt k ys N fun _ => true) N 0 = 0 := rfl
  rw [z] at this
  omega
theorem leavesR_count : ∀ (ps : List Lot) (rs : List D), rs.length ≤ ps.length → (leavesR ps rs).length = (rs.filter noKids).length
  | ps, [], _ => by cases ps <;> rfl
  | [], r :: rs, h => by simp at h
  | p :: ps, r :: rs, h => by
    rw [leavesR]
    have := leavesR_count ps rs (by simpa using h)
    by_cases hr : noKids r = true
    · rw [if_pos hr, List.filter_cons_of_pos hr]; simp [this]
    · rw [if_neg hr, List.filter_cons_of_neg hr]; exact this
theorem leaves_count (E : Ends k ys N) : (leavesI k ys N).length = leafN k ys N := by
  unfold leavesI
  rw [isort_len, leavesR_count _ _ (by rw [pathsI_len, told_len E N (Nat.le_refl _), run_P, E.at_]; simp)]
  have : ∀ t, t ≤ N → ((run k ys t).told.filter noKids).length = leafN k ys t := fun t => by
    induction t with
    | zero => intro _; show ((zip3L (encs [full k]) [.non] []).filter noKids).length = 0; simp [encs, zip3L]
    | succ t ih =>
      intro ht
      rw [told_step k ys t (E.lt t (by omega)), List.filter_append, List.length_append, ih (by omega)]
      have eL : leafN k ys (t + 1) = leafN k ys t + (if qAt k ys t = 0 then 1 else 0) := rfl
      rw [eL]
      congr 1
      have e : (kids k ys ((run k ys t).L.getD t [])).length = qAt k ys t := rfl
      rw [e]
      cases hq : qAt k ys t with
      | zero => rfl
      | succ q => rfl
  exact this N (Nat.le_refl _)
theorem leafN_le (hq : qAt k ys 0 ≠ 0) : ∀ t, 1 ≤ t → leafN k ys t ≤ t - 1
  | 0, h => by omega
  | 1, _ => by
    show leafN k ys 0 + (if qAt k ys 0 = 0 then 1 else 0) ≤ _
    rw [if_neg hq]
    exact Nat.le_refl _
  | t + 2, _ => by
    have := leafN_le hq (t + 1) (by omega)
    show leafN k ys (t + 1) + (if qAt k ys (t + 1) = 0 then 1 else 0) ≤ _
    split <;> omega
/-- one inner row alone -/
theorem flat_q (E : Ends k ys N) (h : N = leafN k ys N + 1) (h2 : 2 ≤ N) : qAt k ys 0 = N - 1 ∧ ∀ t, 1 ≤ t → t < N → qAt k ys t = 0 := by
  have a1 : aAt k ys 1 = 1 + qAt k ys 0 := aAt_succ k ys 0
  have hq : qAt k ys 0 ≠ 0 := by
    intro z
    have : 1 < aAt k ys 1 := E.lt 1 (by omega)
    omega
  have down : ∀ d, d + 1 ≤ N → leafN k ys (N - d) = N - d - 1 ∧ ∀ t, N - d ≤ t → t < N → qAt k ys t = 0 := fun d => by
    induction d with
    | zero => intro _; exact ⟨by rw [Nat.sub_zero]; omega, fun t a b => by omega⟩
    | succ d ih =>
      intro hd
      obtain ⟨i1, i2⟩ := ih (by omega)
      have hle := leafN_le hq (N - (d + 1)) (by omega)
      have e : N - d = (N - (d + 1)) + 1 := by omega
      rw [e] at i1
      have i3 : leafN k ys (N - (d + 1)) + (if qAt k ys (N - (d + 1)) = 0 then 1 else 0) = N - (d + 1) + 1 - 1 := i1
      by_cases z : qAt k ys (N - (d + 1)) = 0
      · rw [if_pos z] at i3
        refine ⟨by omega, fun t a b => ?_⟩
        by_cases e2 : t = N - (d + 1)
        · rw [e2]; exact z
        · exact i2 t (by omega) b
      · rw [if_neg z] at i3; omega
  have dn := (down (N - 1) (by omega)).2
  have zero : ∀ t, 1 ≤ t → t < N → qAt k ys t = 0 := fun t a b => dn t (by omega) b
  refine ⟨?_, zero⟩
  have at_ : ∀ t, 1 ≤ t → t ≤ N → aAt k ys t = 1 + qAt k ys 0 := fun t => by
    induction t with
    | zero => intro h; omega
    | succ t ih =>
      intro _ ht
      by_cases e : t = 0
      · subst e; exact a1
      · rw [aAt_succ, ih (by omega) (by omega), zero t (by omega) (by omega)]
        rfl
  have := at_ N (by omega) (Nat.le_refl _)
  have e : aAt k ys N = N := E.at_
  omega
theorem ones_sum : ∀ n : Nat, (List.replicate n (1 : Int)).sum = n
  | 0 => rfl
  | n + 1 => by rw [List.replicate_succ, List.sum_cons, ones_sum n]; omega
theorem flat_v (h1 : 1 ≤ k) (hk : k ≤ 6) (E : Ends k ys N) (h : N = leafN k ys N + 1) (h2 : 2 ≤ N) (w : Nat → Bool) : vAt k ys N w 0 = if w 0 then ((N - 1 : Nat) : Int) else 1 := by
  obtain ⟨q0, qz⟩ := flat_q E h h2
  rw [v_eq h1 hk E w (by omega)]
  have ek : kidV k ys (vAt k ys N w) 0 = List.replicate (N - 1) 1 := by
    unfold kidV
    rw [q0]
    have : ∀ c ∈ List.range (N - 1), vAt k ys N w (aAt k ys 0 + c) = 1 := fun c hc => by
      have hc' := List.mem_range.mp hc
      have a0 : aAt k ys 0 = 1 := rfl
      rw [a0, v_eq h1 hk E w (by omega)]
      unfold valOf kidV
      rw [qz (1 + c) (by omega) (by omega)]
      rfl
    rw [List.map_congr_left this, List.map_const', List.length_range]
  rw [ek]
  unfold valOf
  rw [if_neg (by simp; omega)]
  cases w 0 with
  | true => rw [if_pos rfl, if_pos rfl, ones_sum]
  | false =>
    rw [if_neg (by simp), if_neg (by simp)]
    obtain ⟨z, hz, hm⟩ := maxI_some (xs := List.replicate (N - 1) (1 : Int)) (by simp; omega)
    rw [hz]
    exact (List.mem_replicate.mp hm).2
end
end Bell
end

section
set_option maxRecDepth 100000
/-! joined lots; one mind exactly -/
namespace Bell
open PySem (Str)
def joinI (a b : Lot) : Lot := isort (fun x y => decide (x < y)) (a ++ b.filter fun x => !decide (x ∈ a))
theorem join_mem {a b : Lot} {x : Int} : x ∈ joinI a b ↔ x ∈ a ∨ x ∈ b := by
  unfold joinI
  rw [mem_isort, List.mem_append, List.mem_filter]
  constructor
  · rintro (h | h)
    · exact .inl h
    · exact .inr h.1
  · rintro (h | h)
    · exact .inl h
    · by_cases e : x ∈ a
      · exact .inl e
      · exact .inr ⟨h, by simp [e]⟩
theorem join_tab : ∀ k : Fin 7, ((lotsI k).all fun a => (lotsI k).all fun b => (lotsI k).contains (joinI a b)) = true := by decide +kernel
theorem join_lots {k : Nat} (hk : k ≤ 6) {a b : Lot} (ha : a ∈ lotsI k) (hb : b ∈ lotsI k) : joinI a b ∈ lotsI k := by
  have := List.all_eq_true.mp (List.all_eq_true.mp (join_tab ⟨k, by omega⟩) a ha) b hb
  exact List.contains_iff_mem.mp this
/-! ### values that are one -/
section
variable {k : Nat} {ys : List Lot} {N : Nat}
theorem run_pre (k : Nat) (ys : List Lot) (t : Nat) : ∀ d, (run k ys t).L <+: (run k ys (t + d)).L
  | 0 => List.prefix_refl _
  | d + 1 => (run_pre k ys t d).trans (List.prefix_append _ _)
theorem run_at (E : Ends k ys N) {j : Nat} (hj : j < N) : (run k ys N).L[j]? = some (lotAt k ys j) := by
  have h := E.lt j hj
  obtain ⟨r, hr⟩ := run_pre k ys j (N - j)
  rw [show j + (N - j) = N by omega] at hr
  rw [← hr, List.getElem?_append_left h, List.getElem?_eq_getElem h]
  unfold lotAt
  rw [List.getD_eq_getElem?_getD, List.getElem?_eq_getElem h]
  rfl
theorem kid_at (h1 : 1 ≤ k) (hk : k ≤ 6) (E : Ends k ys N) {t c : Nat} (ht : t < N) (hc : c < qAt k ys t) : (kids k ys (lotAt k ys t))[c]? = some (lotAt k ys (aAt k ys t + c)) := by
  obtain ⟨a, b⟩ := aq_le h1 hk E ht
  have e := run_at E (j := aAt k ys t + c) (by omega)
  obtain ⟨r, hr⟩ := run_pre k ys (t + 1) (N - (t + 1))
  rw [show t + 1 + (N - (t + 1)) = N by omega] at hr
  have eL : (run k ys (t + 1)).L = (run k ys t).L ++ kids k ys (lotAt k ys t) := by
    show (run k ys t).L ++ kids k ys ((run k ys t).L.getD (run k ys t).C.length []) = _
    rw [run_C]
    rfl
  rw [← hr, eL, List.append_assoc, List.getElem?_append_right (by unfold aAt; omega)] at e
  have e2 : aAt k ys t + c - (run k ys t).L.length = c := by unfold aAt; omega
  rw [e2, List.getElem?_append_left (by unfold qAt at hc; exact hc)] at e
  exact e
/-- each row but the first lies among a row's children -/
theorem has_par (E : Ends k ys N) {j : Nat} (hj : j < N) (h0 : j ≠ 0) : ∃ i, i < j ∧ aAt k ys i ≤ j ∧ j < aAt k ys i + qAt k ys i := by
  have go : ∀ t, t ≤ N → ∀ j, 0 < j → j < aAt k ys t → ∃ i, i < t ∧ aAt k ys i ≤ j ∧ j < aAt k ys i + qAt k ys i := fun t => by
    induction t with
    | zero => intro _ j h1 h2; have : aAt k ys 0 = 1 := rfl; omega
    | succ t ih =>
      intro ht j h1 h2
      by_cases e : j < aAt k ys t
      · obtain ⟨i, a, b, c⟩ := ih (by omega) j h1 e
        exact ⟨i, by omega, b, c⟩
      · rw [aAt_succ] at h2
        exact ⟨t, by omega, by omega, h2⟩
  have e : aAt k ys N = N := E.at_
  obtain ⟨i, a, b, c⟩ := go N (Nat.le_refl _) j (by omega) (by omega)
  exact ⟨i, by have := E.lt i a; unfold aAt at b; omega, b, c⟩
theorem one_ifW (h1 : 1 ≤ k) (hk : k ≤ 6) (E : Ends k ys N) (w : Nat → Bool) (h : ∀ t, t < N → w t = true → qAt k ys t ≤ 1) : ∀ (d t : Nat), t < N → N - t ≤ d → vAt k ys N w t = 1
  | 0, t, ht, hd => by omega
  | d + 1, t, ht, hd => by
    obtain ⟨a, b⟩ := aq_le h1 hk E ht
    have hv : ∀ c, c < qAt k ys t → vAt k ys N w (aAt k ys t + c) = 1 := fun c hc => one_ifW h1 hk E w h d (aAt k ys t + c) (by omega) (by omega)
    rw [v_eq h1 hk E w ht]
    have ek : kidV k ys (vAt k ys N w) t = List.replicate (qAt k ys t) 1 := by
      unfold kidV
      have : ∀ c ∈ List.range (qAt k ys t), vAt k ys N w (aAt k ys t + c) = 1 := fun c hc => hv c (List.mem_range.mp hc)
      rw [List.map_congr_left this, List.map_const', List.length_range]
    rw [ek]
    unfold valOf
    by_cases e : List.replicate (qAt k ys t) (1 : Int) = []
    · rw [if_pos e]
    · rw [if_neg e]
      by_cases hw : w t = true
      · rw [if_pos hw]
        have := h t ht hw
        have hq : qAt k ys t = 1 := by
          have : qAt k ys t ≠ 0 := fun z => e (by rw [z]; rfl)
          omega
        rw [hq]
        rfl
      · rw [if_neg hw]
        obtain ⟨z, hz, hm⟩ := maxI_some e
        rw [hz]
        exact (List.mem_replicate.mp hm).2
theorem val_ge (w : Bool) {s : List Int} (h : ∀ x ∈ s, 1 ≤ x) {x : Int} (hx : x ∈ s) : x ≤ valOf w s := by
  unfold valOf
  have e : s ≠ [] := fun z => by rw [z] at hx; cases hx
  rw [if_neg e]
  cases w with
  | true => rw [if_pos rfl]; exact (sum_ge fun y hy => by have := h y hy; omega).2 x hx
  | false =>
    rw [if_neg (by simp)]
    have : ∀ {s : List Int} {x : Int}, x ∈ s → ∃ z, maxI s = some z ∧ x ≤ z := fun {s x} => by
      induction s with
      | nil => intro h; cases h
      | cons y s ih =>
        intro h
        unfold maxI
        by_cases e : s = []
        · subst e
          rcases List.mem_cons.mp h with rfl | h
          · exact ⟨x, rfl, Int.le_refl _⟩
          · cases h
        · obtain ⟨z, hz, _⟩ := maxI_some e
          rw [hz]
          dsimp only
          rcases List.mem_cons.mp h with rfl | h
          · split
            · exact ⟨z, rfl, by omega⟩
            · exact ⟨x, rfl, Int.le_refl _⟩
          · obtain ⟨z', hz', hl⟩ := ih h
            rw [hz] at hz'
            cases hz'
            split
            · exact ⟨z, rfl, hl⟩
            · exact ⟨y, rfl, by omega⟩
    obtain ⟨z, hz, hl⟩ := this hx
    rw [hz]
    exact hl
theorem two_up (h1 : 1 ≤ k) (hk : k ≤ 6) (E : Ends k ys N) (w : Nat → Bool) : ∀ (d j : Nat), j ≤ d → j < N → 2 ≤ vAt k ys N w j → 2 ≤ vAt k ys N w 0
  | d, j, hd, hj, hv => by
    by_cases e : j = 0
    · subst e; exact hv
    · cases d with
      | zero => omega
      | succ d =>
        obtain ⟨i, a, b, c⟩ := has_par E hj e
        refine two_up h1 hk E w d i (by omega) (by omega) ?_
        have hi : i < N := by omega
        rw [v_eq h1 hk E w hi]
        have hm : vAt k ys N w j ∈ kidV k ys (vAt k ys N w) i := List.mem_map.mpr ⟨j - aAt k ys i, List.mem_range.mpr (by omega), by rw [show aAt k ys i + (j - aAt k ys i) = j by omega]⟩
        have := val_ge (w i) (s := kidV k ys (vAt k ys N w) i) (fun x hx => by
          obtain ⟨c, hc, rfl⟩ := List.mem_map.mp hx
          have := List.mem_range.mp hc
          obtain ⟨a', b'⟩ := aq_le h1 hk E hi
          exact v_pos h1 hk E w N _ (by omega) (by omega)) hm
        omega
theorem one_iff (h1 : 1 ≤ k) (hk : k ≤ 6) (E : Ends k ys N) (w : Nat → Bool) : vAt k ys N w 0 = 1 ↔ ∀ t, t < N → w t = true → qAt k ys t ≤ 1 := by
  have hp := E.pos
  constructor
  · intro hv t ht hw
    by_cases hq : qAt k ys t ≤ 1
    · exact hq
    · have h2 : 2 ≤ vAt k ys N w t := by
        rw [v_eq h1 hk E w ht, hw]
        obtain ⟨a, b⟩ := aq_le h1 hk E ht
        have hpos : ∀ c, c < qAt k ys t → 1 ≤ vAt k ys N w (aAt k ys t + c) := fun c hc => v_pos h1 hk E w N _ (by omega) (by omega)
        unfold valOf
        rw [if_neg (by unfold kidV; simp; omega), if_pos rfl]
        have := sum_le (n := qAt k ys t) (f := fun _ => 1) (g := fun c => vAt k ys N w (aAt k ys t + c)) hpos
        rw [List.map_const', List.length_range, ones_sum] at this
        show 2 ≤ ((List.range (qAt k ys t)).map fun c => vAt k ys N w (aAt k ys t + c)).sum
        omega
      have := two_up h1 hk E w t t (Nat.le_refl _) ht h2
      omega
  · intro h
    exact one_ifW h1 hk E w h N 0 (by omega) (by omega)
/-! ### no two unwanted make a wanted -/
def unw (k : Nat) (ys : List Lot) (b : Bool) : List Lot := (lotsI k).filter fun x => decide (x ∈ ys) != b
/-- the tree's own word: each lot that hand b wants has one child at most -/
theorem lie_in {k : Nat} (hk : k ≤ 6) (ys : List Lot) (lot : Lot) : ∀ (d : Nat) (x : Lot), x ∈ others k ys lot → 6 - x.length ≤ d → ∃ y ∈ kids k ys lot, inside x y = true
  | d, x, hx, hd => by
    by_cases z : ∃ y ∈ others k ys lot, x ≠ y ∧ inside x y = true
    · obtain ⟨y, hy, hne, hi⟩ := z
      have hxl := (List.mem_filter.mp hx).1
      have hyl := (List.mem_filter.mp hy).1
      have hlt : x.length < y.length := by
        have hex : ∃ z ∈ y, z ∉ x := by
          by_cases w : ∃ z ∈ y, z ∉ x
          · exact w
          · exact absurd (inside_anti hk hxl hyl hi (inside_iff.mpr fun z hz => by
              by_cases v : z ∈ x
              · exact v
              · exact absurd ⟨z, hz, v⟩ w)) hne
        obtain ⟨z, hz, hn⟩ := hex
        have := len_le (lot_nodup hk hxl) (A := y.erase z) fun a ha => (List.mem_erase_of_ne (fun e => hn (by rw [← e]; exact ha))).mpr (inside_iff.mp hi a ha)
        rw [List.length_erase_of_mem hz] at this
        have := List.length_pos_of_mem hz
        omega
      have := lots_len1 hk hyl
      cases d with
      | zero => omega
      | succ d =>
        obtain ⟨w, hw, hiw⟩ := lie_in hk ys lot d y hy (by omega)
        exact ⟨w, hw, inside_iff.mpr fun a ha => inside_iff.mp hiw a (inside_iff.mp hi a ha)⟩
    · refine ⟨x, List.mem_filter.mpr ⟨hx, ?_⟩, inside_iff.mpr fun a ha => ha⟩
      simp only [Bool.not_eq_true', List.any_eq_false]
      intro y hy
      by_cases e : x = y
      · simp [e]
      · have : inside x y = false := by
          rw [Bool.eq_false_iff]
          intro w
          exact z ⟨y, hy, e, w⟩
        simp [this]
theorem in_full {k : Nat} (hk : k ≤ 6) {x : Lot} (hx : x ∈ lotsI k) : inside x (full k) = true := inside_iff.mpr fun b hb => by
  obtain ⟨h0, h1⟩ := (lots_mem hk hx).2 b hb
  exact List.mem_map.mpr ⟨b.toNat, List.mem_range.mpr (by omega), by omega⟩
/-- the deepest row around a lot -/
theorem deepest (h1 : 1 ≤ k) (hk : k ≤ 6) (E : Ends k ys N) {U : Lot} (hU : U ∈ lotsI k) : ∃ t, t < N ∧ inside U (lotAt k ys t) = true ∧ ∀ c, c < qAt k ys t → inside U (lotAt k ys (aAt k ys t + c)) = false := by
  have hp := E.pos
  have go : ∀ (d t : Nat), t < N → N - t ≤ d → inside U (lotAt k ys t) = true → ∃ t, t < N ∧ inside U (lotAt k ys t) = true ∧ ∀ c, c < qAt k ys t → inside U (lotAt k ys (aAt k ys t + c)) = false := fun d => by
    induction d with
    | zero => intro t ht hd; omega
    | succ d ih =>
      intro t ht hd hi
      obtain ⟨a, b⟩ := aq_le h1 hk E ht
      by_cases z : ∃ c, c < qAt k ys t ∧ inside U (lotAt k ys (aAt k ys t + c)) = true
      · obtain ⟨c, hc, hic⟩ := z
        exact ih (aAt k ys t + c) (by omega) (by omega) hic
      · refine ⟨t, ht, hi, fun c hc => ?_⟩
        rw [Bool.eq_false_iff]
        intro w
        exact z ⟨c, hc, w⟩
  exact go N 0 (by omega) (by omega) (in_full hk hU)
theorem lotAt_mem (h1 : 1 ≤ k) (hk : k ≤ 6) (E : Ends k ys N) {t : Nat} (ht : t < N) : lotAt k ys t ∈ lotsI k := run_lots h1 hk ys N _ (List.mem_of_getElem? (run_at E ht))
theorem closed_iff (h1 : 1 ≤ k) (hk : k ≤ 6) (E : Ends k ys N) (b : Bool) : (∀ t, t < N → (decide (lotAt k ys t ∈ ys) == b) = true → qAt k ys t ≤ 1) ↔ ∀ x ∈ unw k ys b, ∀ y ∈ unw k ys b, joinI x y ∈ unw k ys b := by
  have hk6 : k ≤ 6 := by omega
  constructor
  · intro h x hx y hy
    obtain ⟨xl, xs⟩ := List.mem_filter.mp hx
    obtain ⟨yl, ysn⟩ := List.mem_filter.mp hy
    have hU := join_lots hk xl yl
    refine List.mem_filter.mpr ⟨hU, ?_⟩
    by_cases hs : (decide (joinI x y ∈ ys) != b) = true
    · exact hs
    · exfalso
      obtain ⟨t, ht, hi, hn⟩ := deepest h1 hk6 E hU
      have hlm := lotAt_mem h1 hk6 E ht
      have ix : inside x (lotAt k ys t) = true := inside_iff.mpr fun a ha => inside_iff.mp hi a (join_mem.mpr (.inl ha))
      have iy : inside y (lotAt k ys t) = true := inside_iff.mpr fun a ha => inside_iff.mp hi a (join_mem.mpr (.inr ha))
      have kidi : ∀ z ∈ kids k ys (lotAt k ys t), ∃ c, c < qAt k ys t ∧ z = lotAt k ys (aAt k ys t + c) := fun z hz => by
        obtain ⟨c, hc⟩ := List.mem_iff_getElem?.mp hz
        have hcl : c < qAt k ys t := (List.getElem?_eq_some_iff.mp hc).1
        have := kid_at h1 hk6 E ht hcl
        rw [hc] at this
        exact ⟨c, hcl, Option.some.inj this⟩
      by_cases hw : (decide (lotAt k ys t ∈ ys) == b) = true
      · have hq := h t ht hw
        have dif : ∀ {z : Lot}, (decide (z ∈ ys) != b) = true → (decide (z ∈ ys) != decide (lotAt k ys t ∈ ys)) = true := fun {z} hz => by
          have e : decide (lotAt k ys t ∈ ys) = b := by simpa using hw
          rw [e]; exact hz
        obtain ⟨z1, hz1, i1⟩ := lie_in hk6 ys (lotAt k ys t) 6 x (List.mem_filter.mpr ⟨xl, by rw [ix, Bool.true_and]; exact dif xs⟩) (by omega)
        obtain ⟨z2, hz2, i2⟩ := lie_in hk6 ys (lotAt k ys t) 6 y (List.mem_filter.mpr ⟨yl, by rw [iy, Bool.true_and]; exact dif ysn⟩) (by omega)
        obtain ⟨c1, hc1, rfl⟩ := kidi z1 hz1
        obtain ⟨c2, hc2, rfl⟩ := kidi z2 hz2
        have e1 : c1 = 0 := by omega
        have e2 : c2 = 0 := by omega
        subst e1
        subst e2
        have hnn := hn 0 hc1
        rw [inside_iff.mpr fun a ha => by
          rcases join_mem.mp ha with ha | ha
          · exact inside_iff.mp i1 a ha
          · exact inside_iff.mp i2 a ha] at hnn
        cases hnn
      · have dif : (decide (joinI x y ∈ ys) != decide (lotAt k ys t ∈ ys)) = true := by
          cases b <;> cases h1 : decide (joinI x y ∈ ys) <;> cases h2 : decide (lotAt k ys t ∈ ys) <;> simp_all
        obtain ⟨z1, hz1, i1⟩ := lie_in hk6 ys (lotAt k ys t) 6 (joinI x y) (List.mem_filter.mpr ⟨hU, by rw [hi, Bool.true_and]; exact dif⟩) (by omega)
        obtain ⟨c1, hc1, rfl⟩ := kidi z1 hz1
        rw [hn c1 hc1] at i1
        cases i1
  · intro h t ht hw
    by_cases hq : qAt k ys t ≤ 1
    · exact hq
    · exfalso
      have hlm := lotAt_mem h1 hk6 E ht
      have e0 := kid_at h1 hk6 E ht (c := 0) (by omega)
      have e1 := kid_at h1 hk6 E ht (c := 1) (by omega)
      generalize lotAt k ys (aAt k ys t + 0) = A at e0
      generalize lotAt k ys (aAt k ys t + 1) = B at e1
      have mA := List.mem_of_getElem? e0
      have mB := List.mem_of_getElem? e1
      obtain ⟨a1, a2, a3⟩ := kids_sub mA
      obtain ⟨b1, b2, b3⟩ := kids_sub mB
      have eb : decide (lotAt k ys t ∈ ys) = b := by simpa using hw
      have uA : A ∈ unw k ys b := List.mem_filter.mpr ⟨a1, by rw [← eb]; simpa using a3⟩
      have uB : B ∈ unw k ys b := List.mem_filter.mpr ⟨b1, by rw [← eb]; simpa using b3⟩
      obtain ⟨u1, u2⟩ := List.mem_filter.mp (h A uA B uB)
      have ui : inside (joinI A B) (lotAt k ys t) = true := inside_iff.mpr fun a ha => by
        rcases join_mem.mp ha with ha | ha
        · exact inside_iff.mp a2 a ha
        · exact inside_iff.mp b2 a ha
      have uo : joinI A B ∈ others k ys (lotAt k ys t) := List.mem_filter.mpr ⟨u1, by rw [ui, Bool.true_and, eb]; exact u2⟩
      have nAB : inside A B = false ∧ inside B A = false := by
        have hp := kids_anti hk6 ys (lotAt k ys t)
        obtain ⟨l0, ee0⟩ := List.getElem?_eq_some_iff.mp e0
        obtain ⟨l1, ee1⟩ := List.getElem?_eq_some_iff.mp e1
        have := List.pairwise_iff_getElem.mp hp 0 1 l0 l1 (by decide)
        rw [ee0, ee1] at this
        exact this
      have hA := (List.mem_filter.mp mA).2
      simp only [Bool.not_eq_true', List.any_eq_false] at hA
      have := hA (joinI A B) uo
      have iA : inside A (joinI A B) = true := inside_iff.mpr fun a ha => join_mem.mpr (.inl ha)
      rw [iA] at this
      have eq : A = joinI A B := by simpa using this
      have : inside B A = true := by
        rw [eq]
        exact inside_iff.mpr fun a ha => join_mem.mpr (.inr ha)
      rw [nAB.2] at this
      cases this
end
end Bell
end

section
set_option maxRecDepth 100000
/-! what laws share -/
namespace Bell
open PySem (Str)
theorem purs_dat {k : Nat} {ys : List Lot} {N : Nat} (E : Ends k ys N) : dat 3 (.tup (run k ys N).told) = true := by
  have hInt : ∀ (n : Nat) (x : List Int), dats n (x.map .int) = true := fun n x => by
    induction x with
    | nil => unfold dats; rfl
    | cons a x ih => rw [List.map_cons, dats, ih]; unfold dat; rfl
  have rng : ∀ (n : Nat) (a : Int) (c : Nat), dats n (rangeL a c) = true := fun n a c => by
    rw [rangeL_eq]
    generalize List.range c = l
    induction l with
    | nil => unfold dats; rfl
    | cons x l ih => rw [List.map_cons, dats, ih]; unfold dat; rfl
  have app : ∀ (n : Nat) (a b : List D), dats n (a ++ b) = (dats n a && dats n b) := fun n a b => by
    induction a with
    | nil => show dats n b = _; rw [show dats n [] = true by unfold dats; rfl]; rfl
    | cons x a ih => show dats n (x :: (a ++ b)) = _; rw [dats, dats, ih, Bool.and_assoc]
  have par : ∀ t, ∀ d ∈ (run k ys t).P, dat 1 d = true := fun t => by
    induction t with
    | zero => intro d h; rw [List.mem_singleton.mp h]; unfold dat; rfl
    | succ t ih =>
      intro d h
      rcases List.mem_append.mp h with h | h
      · exact ih d h
      · obtain ⟨_, _, rfl⟩ := List.mem_map.mp h; unfold dat; rfl
  have go : ∀ t, t ≤ N → dats 2 (run k ys t).told = true := fun t => by
    induction t with
    | zero => intro _; show dats 2 (zip3L (encs [full k]) [.non] []) = true; simp [encs, zip3L, dats]
    | succ t ih =>
      intro ht
      have hl := E.lt t (by omega)
      rw [told_step k ys t hl, app, ih (by omega)]
      have hp : t < (run k ys t).P.length := by rw [run_P]; exact hl
      have e : (run k ys t).P.getD t .non = (run k ys t).P[t] := by rw [List.getD_eq_getElem?_getD, List.getElem?_eq_getElem hp]; rfl
      have hf := par t _ (List.getElem_mem hp)
      have d1 : dat 1 (encI ((run k ys t).L.getD t [])) = true := by unfold encI; rw [dat, hInt]
      have d2 : ∀ a c, dat 1 (.tup (rangeL a c)) = true := fun a c => by rw [dat, rng]
      simp only [Bool.true_and, dats, dat, d1, e, hf, rng, Bool.and_self]
  rw [dat, go N (Nat.le_refl _)]
end Bell
end

section
set_option maxRecDepth 100000
/-! condition_by and what is made by it -/
namespace Bell
open PySem (Str)
def cAllLots : S := .cons (.asg (.nm 1) (.lst (.cons (.tup .nil) .nil))) (.cons (.fors .rng (.cons (.var 0) .nil) (.nm 2) (.cons (.asg (.nm 1) (.bin .add (.var 1) (.comp .val (.cons (.var 1) .nil) (.nm 3) (.con (.bl true)) (.bin .add (.var 3) (.tup (.cons (.var 2) .nil))) [3]))) .nil)) (.cons (.ret (.bi .tuple (.cons (.slc (.bi .sorted (.cons (.var 1) .nil)) (.nd (.con (.int 1))) (.con .non)) .nil))) .nil))
def cPls : S := .cons (.ret (.cmp .inn (.var 1) (.idx (.var 0) (.con (.int 1))))) .nil
def cCondBy (a : Nat) : S := .cons (.ret (.tup (.cons (.var 0) (.cons (.bi .tuple (.cons (.comp .val (.cons (.callp a [0] [] (.cons (.var 0) .nil)) .nil) (.nm 2) (.tru (.callv 1 (.cons (.var 2) .nil))) (.var 2) [2]) .nil)) .nil)))) .nil
/-- pleases, all_lots, condition_by stand at pl, a, b -/
structure LamB (F : Nat → Option Fd) (a b : Nat) : Prop where
  fAll : F a = some ⟨1, 4, cAllLots⟩
  fBy : F b = some ⟨2, 3, cCondBy a⟩
structure LamF (F : Nat → Option Fd) (pl a b : Nat) : Prop extends LamB F a b where
  fPl : F pl = some ⟨2, 2, cPls⟩
instance {F : Nat → Option Fd} {pl a b : Nat} : CoeOut (LamF F pl a b) (LamB F a b) := ⟨fun h => h.toLamB⟩
section
variable {F : Nat → Option Fd} {wf n : Nat} {m : Hm}
theorem all_ok {a b0 : Nat} (hL : LamB F a b0) {b : Nat} (hb : b ≤ 20) (Q : D → Hm → Prop) (h : Q (.tup (encs (lotsI b))) m) : wp (callN F wf (n + 1) none a [.int (b : Int)] m) Q := by
  refine w_call hL.fAll rfl ?_
  dsimp only [cAllLots]
  rw [w_scons]
  simp only [w_var, w_con, w_nil, w_cons, w_tup, w_lst, w_bin, w_cmp, w_tand, w_tor, w_tnot, w_tru, w_vand, w_vor, w_vnot, w_one, w_turn, w_ife, w_callp, w_bi, w_isin, w_idx, w_slc, w_nd, w_meth, w_comp, w_snil, w_single, w_asg, w_setix, w_exp, w_ret, w_ifs, w_fors, w_whil, w_brk, w_pass, wpo_some, wpb_some, wpa_tup, wpt_some, wif_bl, wp_ifB, wp_ok, get, put, home_int, home_bl, home_non, home_str, home_tup, home_adr, home_fro, home_lst, homes, assignT, assignTs, pick, List.map, List.replicate, List.cons_append, List.nil_append, List.append_nil, List.getD_cons_zero, List.getD_cons_succ]
  rw [seqQ_nx, w_scons]
  simp only [w_var, w_con, w_nil, w_cons, w_tup, w_lst, w_bin, w_cmp, w_tand, w_tor, w_tnot, w_tru, w_vand, w_vor, w_vnot, w_one, w_turn, w_ife, w_callp, w_bi, w_isin, w_idx, w_slc, w_nd, w_meth, w_comp, w_snil, w_single, w_asg, w_setix, w_exp, w_ret, w_ifs, w_fors, w_whil, w_brk, w_pass, wpo_some, wpb_some, wpa_tup, wpt_some, wif_bl, wp_ifB, wp_ok, get, put, home_int, home_bl, home_non, home_str, home_tup, home_adr, home_fro, home_lst, homes, assignT, assignTs, pick, List.map, List.replicate, List.cons_append, List.nil_append, List.append_nil, List.getD_cons_zero, List.getD_cons_succ]
  refine ⟨_, _, src_rng (by omega) (by omega), ?_⟩
  have hp : ∀ i, i ≤ b → 2 ^ i ≤ 2 ^ 20 := fun i hi => Nat.pow_le_pow_right (by decide) (by omega)
  refine loop_inv (xs := rangeL 0 (b : Int).toNat) (fun i ρ m' => ∃ l k o2 o3, m' = m ++ l ∧ ρ = [some (.int (b : Int)), some (.adr k), o2, o3] ∧ m'[k]? = some (.lst (encs (rawI i)))) _ (fun i ρ m' _ _ => snap_at _ _ _) (fun i d ρ m' hd I => ?_) (fun ρ m' I => ?_) _ 0 _ _ (Nat.zero_le _) ?_ ⟨_, m.length, none, none, rfl, rfl, ?_⟩
  · obtain ⟨l, k, o2, o3, rfl, rfl, e⟩ := I
    rw [rangeL_eq, List.getElem?_map] at hd
    cases q : (List.range (b : Int).toNat)[i]? with
    | none => rw [q] at hd; cases hd
    | some j =>
      rw [q] at hd
      obtain ⟨hi, rfl⟩ := List.getElem?_eq_some_iff.mp q
      rw [List.getElem_range] at hd
      cases hd
      have hi2 : i < b := by simp at hi; omega
      have l1 : (encs (rawI i)).length = 2 ^ i := by unfold encs; rw [List.length_map, rawI_len]
      have h20 := hp i (by omega)
      simp only [w_var, w_con, w_nil, w_cons, w_tup, w_lst, w_bin, w_cmp, w_tand, w_tor, w_tnot, w_tru, w_vand, w_vor, w_vnot, w_one, w_turn, w_ife, w_callp, w_bi, w_isin, w_idx, w_slc, w_nd, w_meth, w_comp, w_snil, w_single, w_asg, w_setix, w_exp, w_ret, w_ifs, w_fors, w_whil, w_brk, w_pass, wpo_some, wpb_some, wpa_tup, wpt_some, wif_bl, wp_ifB, wp_ok, get, put, home_int, home_bl, home_non, home_str, home_tup, home_adr, home_fro, home_lst, homes, assignT, assignTs, pick, List.map, List.replicate, List.cons_append, List.nil_append, List.append_nil, List.getD_cons_zero, List.getD_cons_succ]
      refine ⟨_, _, src_adr e, isBig_of (by rw [l1]; omega), turns_pure (xs := encs (rawI i)) (fun _ => true) (fun d => match d with | .tup xs => .tup (xs ++ [.int (0 + (i : Int))]) | d => d) (fun j _ => live_at' e) (Nat.le_refl _) (fun d hd acc => ?_) ?_⟩
      · obtain ⟨x, hx, rfl⟩ := List.mem_map.mp hd
        have hl := rawI_mem hx
        simp only [encI]
        simp only [w_var, w_con, w_nil, w_cons, w_tup, w_lst, w_bin, w_cmp, w_tand, w_tor, w_tnot, w_tru, w_vand, w_vor, w_vnot, w_one, w_turn, w_ife, w_callp, w_bi, w_isin, w_idx, w_slc, w_nd, w_meth, w_comp, w_snil, w_single, w_asg, w_setix, w_exp, w_ret, w_ifs, w_fors, w_whil, w_brk, w_pass, wpo_some, wpb_some, wpa_tup, wpt_some, wif_bl, wp_ifB, wp_ok, get, put, home_int, home_bl, home_non, home_str, home_tup, home_adr, home_fro, home_lst, homes, assignT, assignTs, pick, List.map, List.replicate, List.cons_append, List.nil_append, List.append_nil, List.getD_cons_zero, List.getD_cons_succ]
        simp only [wipe, clr, put, get, wpo_some, if_true, homes, home_int]
        rw [b_addT _ _ (by simp; omega)]
        simp only [wpo_some, home_tup]
        exact ⟨by trivial, by trivial⟩
      · rw [List.filter_eq_self.mpr (by simp)]
        have e2 : (encs (rawI i)).map (fun d => match d with | .tup xs => D.tup (xs ++ [.int (0 + (i : Int))]) | d => d) = encs ((rawI i).map fun x => x ++ [(i : Int)]) := by
          unfold encs
          rw [List.map_map, List.map_map]
          refine List.map_congr_left fun x _ => ?_
          simp [encI]
        rw [e2, b_addA e (by rw [l1]; unfold encs; simp [rawI_len]; omega)]
        have e3 : encs (rawI i) ++ encs ((rawI i).map fun x => x ++ [(i : Int)]) = encs (rawI (i + 1)) := by
          show _ = (rawI i ++ (rawI i).map fun x => x ++ [(i : Int)]).map encI
          rw [List.map_append]
          rfl
        rw [e3]
        simp only [wpo_some, home_lst, put]
        exact ⟨l ++ [.lst (encs (rawI (i + 1)))], (m ++ l).length, _, _, List.append_assoc _ _ _, rfl, List.getElem?_concat_length⟩
  · obtain ⟨l, k, o2, o3, rfl, rfl, e⟩ := I
    rw [seqQ_nx]
    simp only [w_var, w_con, w_nil, w_cons, w_tup, w_lst, w_bin, w_cmp, w_tand, w_tor, w_tnot, w_tru, w_vand, w_vor, w_vnot, w_one, w_turn, w_ife, w_callp, w_bi, w_isin, w_idx, w_slc, w_nd, w_meth, w_comp, w_snil, w_single, w_asg, w_setix, w_exp, w_ret, w_ifs, w_fors, w_whil, w_brk, w_pass, wpo_some, wpb_some, wpa_tup, wpt_some, wif_bl, wp_ifB, wp_ok, get, put, home_int, home_bl, home_non, home_str, home_tup, home_adr, home_fro, home_lst, homes, assignT, assignTs, pick, List.map, List.replicate, List.cons_append, List.nil_append, List.append_nil, List.getD_cons_zero, List.getD_cons_succ]
    have lb : (rangeL 0 (b : Int).toNat).length = b := by rw [rangeL_eq]; simp
    rw [lb] at e
    rw [bi_sortedW e]
    simp only [wpo_some]
    refine ⟨1, rfl, ?_⟩
    rw [slc1]
    simp only [wpo_some]
    rw [bi_tupT]
    simp only [wpo_some]
    refine fin_ret (by rw [below_tup, encs_drop]; exact belows_encs _ _) ?_
    rw [List.take_left, encs_drop]
    exact h
  · rw [rangeL_eq]; simp
  · rw [List.getElem?_concat_length]; rfl
/-- a call with a lambda that is known -/
noncomputable abbrev cfL (F : Nat → Option Fd) (wf n : Nat) (c : Option (Fk × (List D → List D → Hm → Out D))) (m : Hm) : Cf := { call := callN F wf n none, callc := fun f a k g m => callN F wf n (some (k, g)) f a m, lam := c, base := m.length, wf := wf }
theorem w_callL {f : Nat} {a : List D} {c : Option (Fk × (List D → List D → Hm → Out D))} {Q : D → Hm → Prop} {fd : Fd} (hF : F f = some fd) (hl : a.length = fd.np)
    (h : wp (ex (cfL F wf n c m) fd.body (a.map some ++ List.replicate (fd.nn - fd.np) none) m) fun p m' => wp (finD m.length p m') Q) : wp (callN F wf (n + 1) c f a m) Q := by
  unfold callN
  rw [hF]
  dsimp only
  rw [if_pos hl, wp_bind]
  exact h
theorem wp_eq {α : Type} {x : Out α} {a : α} {m : Hm} (h : wp x fun d m' => d = a ∧ m' = m) : x = .ok a m := by
  obtain ⟨d, m', e, rfl, rfl⟩ := h
  exact e
/-- what a lambda tells: a truth -/
theorem lam_bl {C : Cf} {r : Nat} {b : E} {cs : List D} {x : D} {t : Bool} (h : wp (ev { C with base := m.length, lam := none } b ([some x] ++ (cs.map some ++ List.replicate r none)) m) fun d m' => d = .bl t ∧ ∃ l, m' = m ++ l) : lamG C r b cs [x] m = .ok (.bl t) m := by
  obtain ⟨d, m', e, rfl, l, rfl⟩ := h
  show (if [x].length = 1 then (ev { C with base := m.length, lam := none } b ([x].map some ++ (cs.map some ++ List.replicate r none)) m).bind fun d m2 => close m.length d m2 else .bad) = _
  rw [if_pos (show [x].length = 1 from rfl), show [x].map some = [some x] from rfl, e, bind_ok]
  unfold close
  rw [if_pos (by unfold below; rfl), List.take_left]
/-- condition_by with a lambda that tells p of each lot -/
theorem by_lam {a b : Nat} (hL : LamB F a b) {k : Nat} (hk : k ≤ 6) {g c : Nat} {q : Str} {cs : List D} {vs : List L2.V} {l : List D → List D → Hm → Out D} (p : Lot → Bool) (hl : ∀ x ∈ lotsI k, l cs [encI x] m = .ok (.bl (p x)) m) :
    callN F wf (n + 2) (some ((g, c, q, vs), l)) b [.int (k : Int), .fn g c q cs vs] m = .ok (cnd k ((lotsI k).filter p)) m := by
  refine wp_eq (w_callL hL.fBy rfl ?_)
  dsimp only [cCondBy]
  simp only [w_var, w_con, w_nil, w_cons, w_tup, w_lst, w_bin, w_cmp, w_tand, w_tor, w_tnot, w_tru, w_vand, w_vor, w_vnot, w_one, w_turn, w_ife, w_callp, w_bi, w_isin, w_idx, w_slc, w_nd, w_meth, w_comp, w_snil, w_single, w_asg, w_setix, w_exp, w_ret, w_ifs, w_fors, w_whil, w_brk, w_pass, wpo_some, wpb_some, wpa_tup, wpt_some, wif_bl, wp_ifB, wp_ok, get, put, home_int, home_bl, home_non, home_str, home_tup, home_adr, home_fro, home_lst, homes, assignT, assignTs, pick, List.map, List.replicate, List.cons_append, List.nil_append, List.append_nil, List.getD_cons_zero, List.getD_cons_succ]
  try simp only [homes, home_int, pick, List.nil_append, List.append_nil, List.getD_cons_zero]
  refine all_ok hL (b := k) (by omega) _ ?_
  refine ⟨_, _, src_tup _, isBig_of (by rw [encs_len]; have := lots_len hk; omega), turns_lots p (fun j _ => snap_at _ _ _) (Nat.le_refl _) (fun x hx acc => ?_) ?_⟩
  · rw [w_one]
    simp only [assignT, wipe, clr, put, wpt_some]
    rw [w_tru]
    refine w_callv (g := g) (c := c) (q := q) (cs := cs) (vs := vs) (l := l) (by rfl) (by rfl) ?_
    simp only [w_cons, w_nil, w_var, get, wpo_some, wpa_tup, homes, home_enc]
    rw [hl x hx, wp_ok, t_blL]
    simp only [wpb_some, wif_bl, w_var, get, wpo_some, home_enc]
    cases p x <;> simp
  · rw [bi_tupT]
    simp only [wpo_some, home_tup]
    refine fin_ret (below_cnd m.length k _) ?_
    rw [List.take_of_length_le (Nat.le_refl _)]
    exact ⟨rfl, rfl⟩
theorem pls_ok {pl a b : Nat} (hL : LamF F pl a b) {k : Nat} (ys : List Lot) (x : Lot) (Q : D → Hm → Prop) (h : Q (.bl (decide (x ∈ ys))) m) : wp (callN F wf (n + 1) none pl [cnd k ys, encI x] m) Q := by
  refine w_call hL.fPl rfl ?_
  dsimp only [cPls]
  simp only [w_var, w_con, w_nil, w_cons, w_tup, w_lst, w_bin, w_cmp, w_tand, w_tor, w_tnot, w_tru, w_vand, w_vor, w_vnot, w_one, w_turn, w_ife, w_callp, w_bi, w_isin, w_idx, w_slc, w_nd, w_meth, w_comp, w_snil, w_single, w_asg, w_setix, w_exp, w_ret, w_ifs, w_fors, w_whil, w_brk, w_pass, wpo_some, wpb_some, wpa_tup, wpt_some, wif_bl, wp_ifB, wp_ok, get, put, home_int, home_bl, home_non, home_str, home_tup, home_adr, home_fro, home_lst, homes, assignT, assignTs, pick, List.map, List.replicate, List.cons_append, List.nil_append, List.append_nil, List.getD_cons_zero, List.getD_cons_succ]
  rw [cnd_1]
  simp only [wpo_some]
  rw [c_in]
  simp only [wpb_some]
  refine fin_ret (by unfold below; rfl) ?_
  rw [List.take_of_length_le (Nat.le_refl _)]
  exact h
/-! other_condition -/
def cOc (pl b : Nat) : S := .cons (.ret (.callc b (.cons (.idx (.var 0) (.con (.int 0))) .nil) 1 ("other_condition.<locals>.<lambda>" : Str) [0] 0 (.vnot (.callp pl [0, 1] [] (.cons (.var 1) (.cons (.var 0) .nil)))))) .nil
theorem oc_ok {pl a b o : Nat} (hL : LamF F pl a b) (hO : F o = some ⟨1, 1, cOc pl b⟩) {k : Nat} (hk : k ≤ 6) (ys : List Lot) (Q : D → Hm → Prop) (h : Q (cnd k ((lotsI k).filter fun x => !decide (x ∈ ys))) m) : wp (callN F wf (n + 3) none o [cnd k ys] m) Q := by
  refine w_call hO rfl ?_
  dsimp only [cOc]
  rw [w_single, w_ret]
  refine w_callc (xs := [.int (k : Int)]) (cs := [cnd k ys]) (m1 := m) (m2 := m) (d := cnd k ((lotsI k).filter fun x => !decide (x ∈ ys))) (wp_eq (by
    simp only [w_var, w_con, w_nil, w_cons, w_tup, w_lst, w_bin, w_cmp, w_tand, w_tor, w_tnot, w_tru, w_vand, w_vor, w_vnot, w_one, w_turn, w_ife, w_callp, w_bi, w_isin, w_idx, w_slc, w_nd, w_meth, w_comp, w_snil, w_single, w_asg, w_setix, w_exp, w_ret, w_ifs, w_fors, w_whil, w_brk, w_pass, wpo_some, wpb_some, wpa_tup, wpt_some, wif_bl, wp_ifB, wp_ok, get, put, home_int, home_bl, home_non, home_str, home_tup, home_adr, home_fro, home_lst, homes, assignT, assignTs, pick, List.map, List.replicate, List.cons_append, List.nil_append, List.append_nil, List.getD_cons_zero, List.getD_cons_succ]
    rw [cnd_0]
    simp only [wpo_some]
    exact ⟨trivial, trivial⟩)) (by rfl) (fun g c vs => ?_) ?_
  · refine by_lam (g := g) (c := c) (n := n) hL.toLamB hk (fun x => !decide (x ∈ ys)) fun x hx => lam_bl ?_
    simp only [w_var, w_con, w_nil, w_cons, w_tup, w_lst, w_bin, w_cmp, w_tand, w_tor, w_tnot, w_tru, w_vand, w_vor, w_vnot, w_one, w_turn, w_ife, w_callp, w_bi, w_isin, w_idx, w_slc, w_nd, w_meth, w_comp, w_snil, w_single, w_asg, w_setix, w_exp, w_ret, w_ifs, w_fors, w_whil, w_brk, w_pass, wpo_some, wpb_some, wpa_tup, wpt_some, wif_bl, wp_ifB, wp_ok, get, put, home_int, home_bl, home_non, home_str, home_tup, home_adr, home_fro, home_lst, homes, assignT, assignTs, pick, List.map, List.replicate, List.cons_append, List.nil_append, List.append_nil, List.getD_cons_zero, List.getD_cons_succ]
    simp only [List.map_cons, List.map_nil, List.cons_append, List.nil_append, List.replicate_zero, get, wpo_some, homes, home_enc, home_cnd, pick, List.append_nil, List.getD_cons_zero, List.getD_cons_succ]
    refine pls_ok (n := n + 1) hL ys x _ ?_
    rw [t_blL, wtr_some]
    cases decide (x ∈ ys) <;> exact ⟨rfl, [], by simp⟩
  · refine fin_ret (below_cnd m.length k _) ?_
    rw [List.take_of_length_le (Nat.le_refl _)]
    exact h
end
end Bell
end

section
set_option maxRecDepth 100000
/-! only_bells; picks of lots -/
namespace Bell
open PySem (Str)
/-- the bells of w with the numbers of s -/
def subL (w s : Lot) : Lot := s.map fun b => w.getD b.toNat 0
def idL (k : Nat) : Lot := (List.range k).map Int.ofNat
theorem lots_sub : ∀ k : Fin 7, ((lotsI k).all fun w => (lotsI w.length).all fun s => decide (subL w s ∈ lotsI k)) = true ∧ ((lotsI k).all fun s => decide (subL (idL k) s = s)) = true ∧ (lotsI k).Nodup ∧ (1 ≤ k.val → idL k ∈ lotsI k) ∧ ((lotsI k).all fun s => decide (s.length ≤ k.val)) = true := by decide +kernel
theorem sub_mem {k : Nat} (hk : k ≤ 6) {w s : Lot} (hw : w ∈ lotsI k) (hs : s ∈ lotsI w.length) : subL w s ∈ lotsI k := by
  have h := (lots_sub ⟨k, by omega⟩).1
  exact of_decide_eq_true (List.all_eq_true.mp (List.all_eq_true.mp h w hw) s hs)
theorem sub_id {k : Nat} (hk : k ≤ 6) {s : Lot} (hs : s ∈ lotsI k) : subL (idL k) s = s := by
  have h := (lots_sub ⟨k, by omega⟩).2.1
  exact of_decide_eq_true (List.all_eq_true.mp h s hs)
theorem lots_nodup {k : Nat} (hk : k ≤ 6) : (lotsI k).Nodup := (lots_sub ⟨k, by omega⟩).2.2.1
theorem idL_mem {k : Nat} (h1 : 1 ≤ k) (hk : k ≤ 6) : idL k ∈ lotsI k := (lots_sub ⟨k, by omega⟩).2.2.2.1 h1
theorem lot_le {k : Nat} (hk : k ≤ 6) {s : Lot} (hs : s ∈ lotsI k) : s.length ≤ k := of_decide_eq_true (List.all_eq_true.mp (lots_sub ⟨k, by omega⟩).2.2.2.2 s hs)
theorem idL_len (k : Nat) : (idL k).length = k := by simp [idL]
theorem lot_pos {k : Nat} (hk : k ≤ 6) {s : Lot} (hs : s ∈ lotsI k) : 1 ≤ s.length := by
  have := (lots_mem hk hs).1
  cases s with
  | nil => exact absurd rfl this
  | cons a s => simp
theorem sub_sub {k : Nat} (hk : k ≤ 6) {w s : Lot} (hs : s ∈ lotsI w.length) (v : Lot) (hl : w.length ≤ 6) : subL v (subL w s) = subL (subL v w) s := by
  unfold subL
  rw [List.map_map]
  refine List.map_congr_left fun b hb => ?_
  obtain ⟨b0, b1⟩ := (lots_mem hl hs).2 b hb
  have hb : b.toNat < w.length := by omega
  simp [List.getD_eq_getElem?_getD, hb]
theorem filter_sub {l ys : List Lot} (hn : l.Nodup) (h : ys.Sublist l) : l.filter (fun x => decide (x ∈ ys)) = ys := by
  induction h with
  | slnil => rfl
  | cons a h ih =>
    rename_i l1 l2
    have n2 := List.nodup_cons.mp hn
    rw [List.filter_cons_of_neg (by simpa using fun z => n2.1 (h.subset z))]
    exact ih n2.2
  | cons_cons a h ih =>
    rename_i l1 l2
    have n2 := List.nodup_cons.mp hn
    rw [List.filter_cons_of_pos (by simp)]
    congr 1
    refine Eq.trans ?_ (ih n2.2)
    refine List.filter_congr fun x hx => ?_
    have : x ≠ a := fun z => n2.1 (by rw [← z]; exact hx)
    simp [this]
/-- the condition on the bells of w alone -/
def onlyL (ys : List Lot) (w : Lot) : List Lot := (lotsI w.length).filter fun s => decide (subL w s ∈ ys)
theorem only_id {most k : Nat} {ys : List Lot} (hc : IsC most k ys) : onlyL ys (idL k) = ys := by
  unfold onlyL
  rw [idL_len]
  refine Eq.trans (List.filter_congr fun s hs => ?_) (filter_sub (lots_nodup hc.six) hc.sub)
  rw [sub_id hc.six hs]
theorem only_only {k : Nat} (hk : k ≤ 6) {ys : List Lot} {w v : Lot} (hw : w ∈ lotsI k) (hv : v ∈ lotsI w.length) : onlyL (onlyL ys w) v = onlyL ys (subL w v) := by
  have lw := lot_le hk hw
  have lv := lot_le (by omega) hv
  unfold onlyL
  rw [show (subL w v).length = v.length by simp [subL]]
  refine List.filter_congr fun s hs => ?_
  rw [decide_eq_decide, List.mem_filter, sub_sub hk hs w (by omega)]
  have := sub_mem (k := w.length) (by omega) hv hs
  simp [this]
theorem rng_id (k : Nat) : D.tup (rangeL 0 k) = encI (idL k) := by
  rw [rangeL_eq]
  unfold encI idL
  rw [List.map_map]
  congr 1
  exact List.map_congr_left fun i _ => by simp
theorem tupR_id (k : Nat) (hk : k ≤ 1000) {m : Hm} : biD .tupR [.int (k : Int)] m = some (encI (idL k)) := by
  show (rangeOf [.int (k : Int)]).bind (fun xs => if isBig xs.length then some (D.tup xs) else none) = _
  rw [show rangeOf [.int (k : Int)] = some (rangeL 0 k) by
    unfold rangeOf
    dsimp only
    rw [if_pos ⟨by omega, by omega⟩]
    rfl]
  rw [Option.bind_some, if_pos (isBig_of (by rw [rangeL_lenW]; omega)), rng_id]
section
variable {F : Nat → Option Fd} {wf n : Nat} {m : Hm}
/-- [w[bell] for bell in s] -/
theorem turns_sub {C : Cf} {ρ : Env} {w s : Lot} {a b : Nat} {Q : List D → Hm → Prop} (hs : s ∈ lotsI w.length) (hl : w.length ≤ 6) (ha : ∀ i, get (put (wipe ρ [b]) b (.int i)) a = some (encI w)) (hb : ∀ i, get (put (wipe ρ [b]) b (.int i)) b = some (.int i)) (q : Q ((subL w s).map D.int) m) :
    wp (turns (snap (s.map D.int)) (oneCW C (.nm b) (.con (.bl true)) (.idx (.var a) (.var b)) [b] ρ) (s.map D.int).length 0 [] m) Q := by
  refine turns_pure (fun _ => true) (wAt w) (fun j _ => snap_at _ _ _) (Nat.le_refl _) (fun d hd acc => ?_) ?_
  · obtain ⟨c, hc, rfl⟩ := List.mem_map.mp hd
    rw [w_one]
    simp only [assignT, wpt_some, w_con, wif_bl, w_idx, w_var, ha, hb, wpo_some, home_int, if_true]
    obtain ⟨b0, b1⟩ := (lots_mem hl hs).2 c hc
    obtain ⟨j, rfl⟩ := Int.eq_ofNat_of_zero_le b0
    have hj : j < w.length := by omega
    rw [idx_at (xs := w.map .int) (.inr (.inl rfl)) (j := j) (d := .int w[j]) (by rw [List.getElem?_map, List.getElem?_eq_getElem hj]; rfl)]
    simp only [wpo_some, home_int, wAt]
    simp [List.getD_eq_getElem?_getD, hj]
  · have e : ((s.map D.int).filter fun _ => true).map (wAt w) = (subL w s).map D.int := by
      rw [List.filter_eq_self.mpr (by simp), List.map_map]
      unfold subL
      rw [List.map_map]
      rfl
    rw [e]
    exact q
def cOb (pl b : Nat) : S := .cons (.ret (.callc b (.cons (.bi .len (.cons (.var 1) .nil)) .nil) 1 ("only_bells.<locals>.<lambda>" : Str) [0, 1] 1 (.callp pl [0, 1] [] (.cons (.var 1) (.cons (.bi .tuple (.cons (.comp .val (.cons (.var 0) .nil) (.nm 3) (.con (.bl true)) (.idx (.var 2) (.var 3)) [3]) .nil)) .nil))))) .nil
theorem ob_ok {pl a b o : Nat} (hL : LamF F pl a b) (hO : F o = some ⟨2, 2, cOb pl b⟩) {k : Nat} {w : Lot} (hk : w.length ≤ 6) (ys : List Lot) (Q : D → Hm → Prop) (h : Q (cnd w.length (onlyL ys w)) m) : wp (callN F wf (n + 3) none o [cnd k ys, encI w] m) Q := by
  refine w_call hO rfl ?_
  dsimp only [cOb]
  rw [w_single, w_ret]
  refine w_callc (xs := [.int (w.length : Int)]) (cs := [cnd k ys, encI w]) (m1 := m) (m2 := m) (d := cnd w.length (onlyL ys w)) (wp_eq (by
    simp only [w_var, w_con, w_nil, w_cons, w_tup, w_lst, w_bin, w_cmp, w_tand, w_tor, w_tnot, w_tru, w_vand, w_vor, w_vnot, w_one, w_turn, w_ife, w_callp, w_bi, w_isin, w_idx, w_slc, w_nd, w_meth, w_comp, w_snil, w_single, w_asg, w_setix, w_exp, w_ret, w_ifs, w_fors, w_whil, w_brk, w_pass, wpo_some, wpb_some, wpa_tup, wpt_some, wif_bl, wp_ifB, wp_ok, get, put, home_int, home_bl, home_non, home_str, home_tup, home_adr, home_fro, home_lst, homes, assignT, assignTs, pick, List.map, List.replicate, List.cons_append, List.nil_append, List.append_nil, List.getD_cons_zero, List.getD_cons_succ]
    rw [bi_lenW, len_enc]
    simp only [wpo_some]
    exact ⟨trivial, trivial⟩)) (by rfl) (fun g c vs => ?_) ?_
  · refine by_lam (g := g) (c := c) (n := n) hL.toLamB hk (fun s => decide (subL w s ∈ ys)) fun s hs => lam_bl ?_
    simp only [w_var, w_con, w_nil, w_cons, w_tup, w_lst, w_bin, w_cmp, w_tand, w_tor, w_tnot, w_tru, w_vand, w_vor, w_vnot, w_one, w_turn, w_ife, w_callp, w_bi, w_isin, w_idx, w_slc, w_nd, w_meth, w_comp, w_snil, w_single, w_asg, w_setix, w_exp, w_ret, w_ifs, w_fors, w_whil, w_brk, w_pass, wpo_some, wpb_some, wpa_tup, wpt_some, wif_bl, wp_ifB, wp_ok, get, put, home_int, home_bl, home_non, home_str, home_tup, home_adr, home_fro, home_lst, homes, assignT, assignTs, pick, List.map, List.replicate, List.cons_append, List.nil_append, List.append_nil, List.getD_cons_zero, List.getD_cons_succ]
    try simp only [List.map_cons, List.map_nil, List.cons_append, List.nil_append, List.replicate, get, wpo_some]
    refine ⟨_, _, src_enc _, isBig_of ?_, turns_sub hs hk (fun _ => rfl) (fun _ => rfl) ?_⟩
    · have := lots_len1 hk hs; simp; omega
    rw [bi_tupT]
    simp only [wpo_some]
    (try simp only [homes, home_cnd, home_enc, home_adr, home_int, home_bl, home_tup, home_non, home_str, home_lst, pick, List.nil_append, List.append_nil, List.getD_cons_zero, List.getD_cons_succ])
    rw [show D.tup ((subL w s).map D.int) = encI (subL w s) from rfl]
    refine pls_ok (n := n + 1) hL ys _ _ ?_
    exact ⟨rfl, [], by simp⟩
  · refine fin_ret (below_cnd m.length _ _) ?_
    rw [List.take_of_length_le (Nat.le_refl _)]
    exact h
def cLo : S := .cons (.asg (.nm 2) (.comp .val (.cons (.callp 4 [0] [] (.cons (.bi .len (.cons (.var 1) .nil)) .nil)) .nil) (.nm 3) (.cmp .inn (.bi .tuple (.cons (.comp .val (.cons (.var 3) .nil) (.nm 4) (.con (.bl true)) (.idx (.var 1) (.var 4)) [4]) .nil)) (.idx (.var 0) (.con (.int 1)))) (.var 3) [3])) (.cons (.ret (.tup (.cons (.bi .len (.cons (.var 1) .nil)) (.cons (.bi .tuple (.cons (.var 2) .nil)) .nil)))) .nil)
theorem lo_ok (hC : ComL F) {o : Nat} (hO : F o = some ⟨2, 5, cLo⟩) {k : Nat} {w : Lot} (hk : w.length ≤ 6) (ys : List Lot) (Q : D → Hm → Prop) (h : Q (cnd w.length (onlyL ys w)) m) : wp (callN F wf (n + 2) none o [cnd k ys, encI w] m) Q := by
  refine w_call hO rfl ?_
  dsimp only [cLo]
  rw [w_scons]
  simp only [w_var, w_con, w_nil, w_cons, w_tup, w_lst, w_bin, w_cmp, w_tand, w_tor, w_tnot, w_tru, w_vand, w_vor, w_vnot, w_one, w_turn, w_ife, w_callp, w_bi, w_isin, w_idx, w_slc, w_nd, w_meth, w_comp, w_snil, w_single, w_asg, w_setix, w_exp, w_ret, w_ifs, w_fors, w_whil, w_brk, w_pass, wpo_some, wpb_some, wpa_tup, wpt_some, wif_bl, wp_ifB, wp_ok, get, put, home_int, home_bl, home_non, home_str, home_tup, home_adr, home_fro, home_lst, homes, assignT, assignTs, pick, List.map, List.replicate, List.cons_append, List.nil_append, List.append_nil, List.getD_cons_zero, List.getD_cons_succ]
  rw [bi_lenW, len_enc]
  simp only [wpo_some]
  (try simp only [homes, home_cnd, home_enc, home_adr, home_int, home_bl, home_tup, home_non, home_str, home_lst, pick, List.nil_append, List.append_nil, List.getD_cons_zero, List.getD_cons_succ])
  refine lots_ok (n := n) hC (by omega) _ ?_
  refine ⟨_, _, src_lst _, isBig_of (by rw [encs_len]; have := lots_len hk; omega), turns_lots (fun s => decide (subL w s ∈ ys)) (fun i _ => snap_at _ _ _) (Nat.le_refl _) (fun s hs acc => ?_) ?_⟩
  · rw [w_one]
    simp only [assignT, wipe, clr, put, wpt_some]
    simp only [w_var, w_con, w_nil, w_cons, w_tup, w_lst, w_bin, w_cmp, w_tand, w_tor, w_tnot, w_tru, w_vand, w_vor, w_vnot, w_one, w_turn, w_ife, w_callp, w_bi, w_isin, w_idx, w_slc, w_nd, w_meth, w_comp, w_snil, w_single, w_asg, w_setix, w_exp, w_ret, w_ifs, w_fors, w_whil, w_brk, w_pass, wpo_some, wpb_some, wpa_tup, wpt_some, wif_bl, wp_ifB, wp_ok, get, put, home_int, home_bl, home_non, home_str, home_tup, home_adr, home_fro, home_lst, homes, assignT, assignTs, pick, List.map, List.replicate, List.cons_append, List.nil_append, List.append_nil, List.getD_cons_zero, List.getD_cons_succ]
    refine ⟨_, _, src_enc _, isBig_of ?_, turns_sub hs hk (fun _ => rfl) (fun _ => rfl) ?_⟩
    · have := lots_len1 hk hs; simp; omega
    rw [bi_tupT]
    simp only [wpo_some]
    rw [cnd_1]
    simp only [wpo_some]
    rw [show D.tup ((subL w s).map D.int) = encI (subL w s) from rfl, c_in]
    simp only [wpb_some, wif_bl, home_enc]
    by_cases e : subL w s ∈ ys <;> simp [e]
  · try simp only [home_lst, put]
    have ea : (m ++ [D.lst (encs ((lotsI w.length).filter fun s => decide (subL w s ∈ ys)))])[m.length]? = some (.lst (encs ((lotsI w.length).filter fun s => decide (subL w s ∈ ys)))) := List.getElem?_concat_length
    rw [seqQ_nx]
    simp only [w_var, w_con, w_nil, w_cons, w_tup, w_lst, w_bin, w_cmp, w_tand, w_tor, w_tnot, w_tru, w_vand, w_vor, w_vnot, w_one, w_turn, w_ife, w_callp, w_bi, w_isin, w_idx, w_slc, w_nd, w_meth, w_comp, w_snil, w_single, w_asg, w_setix, w_exp, w_ret, w_ifs, w_fors, w_whil, w_brk, w_pass, wpo_some, wpb_some, wpa_tup, wpt_some, wif_bl, wp_ifB, wp_ok, get, put, home_int, home_bl, home_non, home_str, home_tup, home_adr, home_fro, home_lst, homes, assignT, assignTs, pick, List.map, List.replicate, List.cons_append, List.nil_append, List.append_nil, List.getD_cons_zero, List.getD_cons_succ]
    rw [bi_lenW, len_enc]
    simp only [wpo_some]
    rw [bi_tupl ea]
    simp only [wpo_some]
    (try simp only [homes, home_cnd, home_enc, home_adr, home_int, home_bl, home_tup, home_non, home_str, home_lst, pick, List.nil_append, List.append_nil, List.getD_cons_zero, List.getD_cons_succ])
    refine fin_ret (below_cnd m.length w.length _) ?_
    rw [List.take_left]
    exact h
/-- a lot is picked -/
theorem pickL_ok (hC : ComL F) {k j b : Nat} (hb : BoxAt m k) (h1 : 1 ≤ b) (h6 : b ≤ 6) (hj : j ≠ k) (e : m[j]? = some (.lst (encs (lotsI b)))) (Q : D → Hm → Prop) (h : ∀ w m', w ∈ lotsI b → Bx k m m' → Q (encI w) m') : wp (callN F wf (n + 2) none 2 [.adr k, .adr j] m) Q := by
  refine pick_bx hC hb (.inr ⟨j, rfl, hj, e⟩) ?_ ?_ (belows_encs _ _) Q fun d m' hd B => ?_
  · have := (lots_tab ⟨b, by omega⟩).2.2 h1
    rw [encs_len]
    exact List.length_pos_iff.mpr this
  · have := lots_len h6
    rw [encs_len]
    omega
  · obtain ⟨w, hw, rfl⟩ := List.mem_map.mp hd
    exact h w m' hw B
end
end Bell
end

section
set_option maxRecDepth 100000
/-! the forms: all_of, some_of, ranks_of, pairs_of, just_many -/
namespace Bell
open PySem (Str)
def cAl (b : Nat) : S := .cons (.ret (.callc b (.cons (.var 0) .nil) 1 ("all_of.<locals>.<lambda>" : Str) [0] 0 (.cmp .eq (.bi .len (.cons (.var 0) .nil)) (.var 1)))) .nil
def cSo (cf b : Nat) : S := .cons (.ret (.callc b (.cons (.var 0) .nil) 1 ("some_of.<locals>.<lambda>" : Str) [1] 0 (.cmp .gt (.bi .len (.cons (.callp cf [0, 1] [] (.cons (.var 0) (.cons (.var 1) .nil))) .nil)) (.con (.int 0))))) .nil
def cRa (b : Nat) : S := .cons (.ret (.callc b (.cons (.bi .len (.cons (.var 0) .nil)) .nil) 1 ("ranks_of.<locals>.<lambda>" : Str) [0] 1 (.cmp .eq (.bin .mod (.bi .min (.cons (.comp .val (.cons (.var 0) .nil) (.nm 2) (.con (.bl true)) (.idx (.var 1) (.var 2)) [2]) .nil)) (.con (.int 2))) (.con (.int 0))))) .nil
def cIg : S := .cons (.ret (.bi .all (.cons (.comp .rng (.cons (.var 1) .nil) (.nm 2) (.con (.bl true)) (.vor (.cmp .nin (.bin .mul (.con (.int 2)) (.var 2)) (.var 0)) (.cmp .inn (.bin .add (.bin .mul (.con (.int 2)) (.var 2)) (.con (.int 1))) (.var 0))) [2]) .nil))) .nil
def cPa (ig b : Nat) : S := .cons (.ret (.callc b (.cons (.bin .mul (.con (.int 2)) (.var 0)) .nil) 1 ("pairs_of.<locals>.<lambda>" : Str) [0] 0 (.callp ig [0, 1] [] (.cons (.var 0) (.cons (.var 1) .nil))))) .nil
def cJu (b : Nat) : S := .cons (.ret (.callc b (.cons (.var 0) .nil) 1 ("just_many.<locals>.<lambda>" : Str) [1] 0 (.cmp .eq (.bi .len (.cons (.var 0) .nil)) (.var 1)))) .nil
def cCf : S := .cons (.ret (.bi .tuple (.cons (.comp .val (.cons (.var 0) .nil) (.nm 2) (.cmp .inn (.var 2) (.var 1)) (.var 2) [2]) .nil))) .nil
section
variable {F : Nat → Option Fd} {wf n : Nat} {m : Hm}
theorem al_ok {a b o : Nat} (hL : LamB F a b) (hO : F o = some ⟨1, 1, cAl b⟩) {k : Nat} (hk : k ≤ 6) (Q : D → Hm → Prop) (h : Q (cnd k ((lotsI k).filter (allP k))) m) : wp (callN F wf (n + 3) none o [.int (k : Int)] m) Q := by
  refine w_call hO rfl ?_
  dsimp only [cAl]
  rw [w_single, w_ret]
  refine w_callc (xs := [.int (k : Int)]) (cs := [.int (k : Int)]) (m1 := m) (m2 := m) (d := cnd k ((lotsI k).filter (allP k))) (wp_eq (by simp only [w_var, w_con, w_nil, w_cons, w_tup, w_lst, w_bin, w_cmp, w_tand, w_tor, w_tnot, w_tru, w_vand, w_vor, w_vnot, w_one, w_turn, w_ife, w_callp, w_bi, w_isin, w_idx, w_slc, w_nd, w_meth, w_comp, w_snil, w_single, w_asg, w_setix, w_exp, w_ret, w_ifs, w_fors, w_whil, w_brk, w_pass, wpo_some, wpb_some, wpa_tup, wpt_some, wif_bl, wp_ifB, wp_ok, get, put, home_int, home_bl, home_non, home_str, home_tup, home_adr, home_fro, home_lst, homes, assignT, assignTs, pick, List.map, List.replicate, List.cons_append, List.nil_append, List.append_nil, List.getD_cons_zero, List.getD_cons_succ]; trivial)) (by rfl) (fun g c vs => ?_) ?_
  · refine by_lam (g := g) (c := c) (n := n) hL hk (allP k) fun s hs => lam_bl ?_
    simp only [w_var, w_con, w_nil, w_cons, w_tup, w_lst, w_bin, w_cmp, w_tand, w_tor, w_tnot, w_tru, w_vand, w_vor, w_vnot, w_one, w_turn, w_ife, w_callp, w_bi, w_isin, w_idx, w_slc, w_nd, w_meth, w_comp, w_snil, w_single, w_asg, w_setix, w_exp, w_ret, w_ifs, w_fors, w_whil, w_brk, w_pass, wpo_some, wpb_some, wpa_tup, wpt_some, wif_bl, wp_ifB, wp_ok, get, put, home_int, home_bl, home_non, home_str, home_tup, home_adr, home_fro, home_lst, homes, assignT, assignTs, pick, List.map, List.replicate, List.cons_append, List.nil_append, List.append_nil, List.getD_cons_zero, List.getD_cons_succ]
    rw [bi_lenW, len_enc]
    simp only [wpo_some, c_eq, wpb_some]
    unfold allP
    exact ⟨by by_cases e : (s.length : Int) = (k : Int) <;> simp [e], [], by simp⟩
  · refine fin_ret (below_cnd m.length _ _) ?_
    rw [List.take_of_length_le (Nat.le_refl _)]
    exact h
theorem ju_ok {a b o : Nat} (hL : LamB F a b) (hO : F o = some ⟨2, 2, cJu b⟩) {k : Nat} (hk : k ≤ 6) (j : Int) (Q : D → Hm → Prop) (h : Q (cnd k ((lotsI k).filter fun x => decide ((x.length : Int) = j))) m) : wp (callN F wf (n + 3) none o [.int (k : Int), .int j] m) Q := by
  refine w_call hO rfl ?_
  dsimp only [cJu]
  rw [w_single, w_ret]
  refine w_callc (xs := [.int (k : Int)]) (cs := [.int j]) (m1 := m) (m2 := m) (d := cnd k ((lotsI k).filter fun x => decide ((x.length : Int) = j))) (wp_eq (by simp only [w_var, w_con, w_nil, w_cons, w_tup, w_lst, w_bin, w_cmp, w_tand, w_tor, w_tnot, w_tru, w_vand, w_vor, w_vnot, w_one, w_turn, w_ife, w_callp, w_bi, w_isin, w_idx, w_slc, w_nd, w_meth, w_comp, w_snil, w_single, w_asg, w_setix, w_exp, w_ret, w_ifs, w_fors, w_whil, w_brk, w_pass, wpo_some, wpb_some, wpa_tup, wpt_some, wif_bl, wp_ifB, wp_ok, get, put, home_int, home_bl, home_non, home_str, home_tup, home_adr, home_fro, home_lst, homes, assignT, assignTs, pick, List.map, List.replicate, List.cons_append, List.nil_append, List.append_nil, List.getD_cons_zero, List.getD_cons_succ]; trivial)) (by rfl) (fun g c vs => ?_) ?_
  · refine by_lam (g := g) (c := c) (n := n) hL hk (fun x => decide ((x.length : Int) = j)) fun s hs => lam_bl ?_
    simp only [w_var, w_con, w_nil, w_cons, w_tup, w_lst, w_bin, w_cmp, w_tand, w_tor, w_tnot, w_tru, w_vand, w_vor, w_vnot, w_one, w_turn, w_ife, w_callp, w_bi, w_isin, w_idx, w_slc, w_nd, w_meth, w_comp, w_snil, w_single, w_asg, w_setix, w_exp, w_ret, w_ifs, w_fors, w_whil, w_brk, w_pass, wpo_some, wpb_some, wpa_tup, wpt_some, wif_bl, wp_ifB, wp_ok, get, put, home_int, home_bl, home_non, home_str, home_tup, home_adr, home_fro, home_lst, homes, assignT, assignTs, pick, List.map, List.replicate, List.cons_append, List.nil_append, List.append_nil, List.getD_cons_zero, List.getD_cons_succ]
    rw [bi_lenW, len_enc]
    simp only [wpo_some, c_eq, wpb_some]
    exact ⟨by by_cases e : (s.length : Int) = j <;> simp [e], [], by simp⟩
  · refine fin_ret (below_cnd m.length _ _) ?_
    rw [List.take_of_length_le (Nat.le_refl _)]
    exact h
/-- the entries of one among the other's -/
theorem cf_ok {cf : Nat} (hF : F cf = some ⟨2, 3, cCf⟩) {x w : Lot} (hx : x.length ≤ 1000) (Q : D → Hm → Prop) (h : Q (encI (x.filter fun b => decide (b ∈ w))) m) : wp (callN F wf (n + 1) none cf [encI x, encI w] m) Q := by
  refine w_call hF rfl ?_
  dsimp only [cCf]
  simp only [w_var, w_con, w_nil, w_cons, w_tup, w_lst, w_bin, w_cmp, w_tand, w_tor, w_tnot, w_tru, w_vand, w_vor, w_vnot, w_one, w_turn, w_ife, w_callp, w_bi, w_isin, w_idx, w_slc, w_nd, w_meth, w_comp, w_snil, w_single, w_asg, w_setix, w_exp, w_ret, w_ifs, w_fors, w_whil, w_brk, w_pass, wpo_some, wpb_some, wpa_tup, wpt_some, wif_bl, wp_ifB, wp_ok, get, put, home_int, home_bl, home_non, home_str, home_tup, home_adr, home_fro, home_lst, homes, assignT, assignTs, pick, List.map, List.replicate, List.cons_append, List.nil_append, List.append_nil, List.getD_cons_zero, List.getD_cons_succ]
  refine ⟨_, _, src_enc _, isBig_of (by simp; omega), turns_pure (fun d => match d with | .int b => decide (b ∈ w) | _ => false) id (fun j _ => snap_at _ _ _) (Nat.le_refl _) (fun d hd acc => ?_) ?_⟩
  · obtain ⟨b, hb, rfl⟩ := List.mem_map.mp hd
    rw [w_one]
    simp only [assignT, wipe, clr, put, wpt_some, w_cmp, w_var, get, wpo_some, c_inI, wpb_some, wif_bl, home_int]
    by_cases e : b ∈ w <;> simp [e]
  · rw [bi_tupT]
    simp only [wpo_some]
    have e : ((x.map D.int).filter fun d => match d with | .int b => decide (b ∈ w) | _ => false).map id = (x.filter fun b => decide (b ∈ w)).map D.int := by
      rw [List.map_id, List.filter_map]
      rfl
    rw [e]
    refine fin_ret (below_encI m.length (x.filter fun b => decide (b ∈ w))) ?_
    rw [List.take_of_length_le (Nat.le_refl _)]
    exact h
theorem someP_eq (w x : Lot) : someP w x = decide (0 < ((x.filter fun b => decide (b ∈ w)).length : Int)) := by
  unfold someP
  induction x with
  | nil => rfl
  | cons a x ih =>
    simp only [List.map_cons, List.filter_cons]
    by_cases h : a ∈ w
    · simp [h]
    · simpa [h] using ih
theorem so_ok {a b cf o : Nat} (hL : LamB F a b) (hF : F cf = some ⟨2, 3, cCf⟩) (hO : F o = some ⟨2, 2, cSo cf b⟩) {k : Nat} (hk : k ≤ 6) (w : Lot) (Q : D → Hm → Prop) (h : Q (cnd k ((lotsI k).filter (someP w))) m) : wp (callN F wf (n + 3) none o [.int (k : Int), encI w] m) Q := by
  refine w_call hO rfl ?_
  dsimp only [cSo]
  rw [w_single, w_ret]
  refine w_callc (xs := [.int (k : Int)]) (cs := [encI w]) (m1 := m) (m2 := m) (d := cnd k ((lotsI k).filter (someP w))) (wp_eq (by simp only [w_var, w_con, w_nil, w_cons, w_tup, w_lst, w_bin, w_cmp, w_tand, w_tor, w_tnot, w_tru, w_vand, w_vor, w_vnot, w_one, w_turn, w_ife, w_callp, w_bi, w_isin, w_idx, w_slc, w_nd, w_meth, w_comp, w_snil, w_single, w_asg, w_setix, w_exp, w_ret, w_ifs, w_fors, w_whil, w_brk, w_pass, wpo_some, wpb_some, wpa_tup, wpt_some, wif_bl, wp_ifB, wp_ok, get, put, home_int, home_bl, home_non, home_str, home_tup, home_adr, home_fro, home_lst, homes, assignT, assignTs, pick, List.map, List.replicate, List.cons_append, List.nil_append, List.append_nil, List.getD_cons_zero, List.getD_cons_succ]; trivial)) (by rfl) (fun g c vs => ?_) ?_
  · refine by_lam (g := g) (c := c) (n := n) hL hk (someP w) fun s hs => lam_bl ?_
    simp only [w_var, w_con, w_nil, w_cons, w_tup, w_lst, w_bin, w_cmp, w_tand, w_tor, w_tnot, w_tru, w_vand, w_vor, w_vnot, w_one, w_turn, w_ife, w_callp, w_bi, w_isin, w_idx, w_slc, w_nd, w_meth, w_comp, w_snil, w_single, w_asg, w_setix, w_exp, w_ret, w_ifs, w_fors, w_whil, w_brk, w_pass, wpo_some, wpb_some, wpa_tup, wpt_some, wif_bl, wp_ifB, wp_ok, get, put, home_int, home_bl, home_non, home_str, home_tup, home_adr, home_fro, home_lst, homes, assignT, assignTs, pick, List.map, List.replicate, List.cons_append, List.nil_append, List.append_nil, List.getD_cons_zero, List.getD_cons_succ]
    (try simp only [homes, home_cnd, home_enc, home_adr, home_int, home_bl, home_tup, home_non, home_str, home_lst, pick, List.nil_append, List.append_nil, List.getD_cons_zero, List.getD_cons_succ])
    refine cf_ok (n := n + 1) hF (by have := lots_len1 hk hs; omega) _ ?_
    rw [bi_lenW, len_enc]
    simp only [wpo_some, c_gt, wpb_some]
    rw [someP_eq]
    exact ⟨rfl, [], by simp⟩
  · refine fin_ret (below_cnd m.length _ _) ?_
    rw [List.take_of_length_le (Nat.le_refl _)]
    exact h
theorem ra_ok {a b o : Nat} (hL : LamB F a b) (hO : F o = some ⟨1, 1, cRa b⟩) {w : Lot} (hk : w.length ≤ 6) (Q : D → Hm → Prop) (h : Q (cnd w.length ((lotsI w.length).filter (ranksP w))) m) : wp (callN F wf (n + 3) none o [encI w] m) Q := by
  refine w_call hO rfl ?_
  dsimp only [cRa]
  rw [w_single, w_ret]
  refine w_callc (xs := [.int (w.length : Int)]) (cs := [encI w]) (m1 := m) (m2 := m) (d := cnd w.length ((lotsI w.length).filter (ranksP w))) (wp_eq (by
    simp only [w_var, w_con, w_nil, w_cons, w_tup, w_lst, w_bin, w_cmp, w_tand, w_tor, w_tnot, w_tru, w_vand, w_vor, w_vnot, w_one, w_turn, w_ife, w_callp, w_bi, w_isin, w_idx, w_slc, w_nd, w_meth, w_comp, w_snil, w_single, w_asg, w_setix, w_exp, w_ret, w_ifs, w_fors, w_whil, w_brk, w_pass, wpo_some, wpb_some, wpa_tup, wpt_some, wif_bl, wp_ifB, wp_ok, get, put, home_int, home_bl, home_non, home_str, home_tup, home_adr, home_fro, home_lst, homes, assignT, assignTs, pick, List.map, List.replicate, List.cons_append, List.nil_append, List.append_nil, List.getD_cons_zero, List.getD_cons_succ]
    rw [bi_lenW, len_enc]
    simp only [wpo_some]
    trivial)) (by rfl) (fun g c vs => ?_) ?_
  · refine by_lam (g := g) (c := c) (n := n) hL hk (ranksP w) fun s hs => lam_bl ?_
    simp only [w_var, w_con, w_nil, w_cons, w_tup, w_lst, w_bin, w_cmp, w_tand, w_tor, w_tnot, w_tru, w_vand, w_vor, w_vnot, w_one, w_turn, w_ife, w_callp, w_bi, w_isin, w_idx, w_slc, w_nd, w_meth, w_comp, w_snil, w_single, w_asg, w_setix, w_exp, w_ret, w_ifs, w_fors, w_whil, w_brk, w_pass, wpo_some, wpb_some, wpa_tup, wpt_some, wif_bl, wp_ifB, wp_ok, get, put, home_int, home_bl, home_non, home_str, home_tup, home_adr, home_fro, home_lst, homes, assignT, assignTs, pick, List.map, List.replicate, List.cons_append, List.nil_append, List.append_nil, List.getD_cons_zero, List.getD_cons_succ]
    try simp only [List.map_cons, List.map_nil, List.cons_append, List.nil_append, List.replicate, get, wpo_some]
    refine ⟨_, _, src_enc _, isBig_of ?_, turns_sub hs hk (fun _ => rfl) (fun _ => rfl) ?_⟩
    · have := lots_len1 hk hs; simp; omega
    rw [bi_minT]
    obtain ⟨z, hz⟩ := minI_some (xs := subL w s) (by unfold subL; simpa using (lots_mem hk hs).1)
    rw [hz]
    simp only [Option.map_some, wpo_some, b_mod _ 2 _ (by decide), c_eq, wpb_some]
    refine ⟨?_, [], by simp⟩
    unfold ranksP
    rw [show (minI (s.map fun b => w.getD b.toNat 0)) = some z from hz]
    by_cases e : z % 2 = 0 <;> simp [e]
  · refine fin_ret (below_cnd m.length _ _) ?_
    rw [List.take_of_length_le (Nat.le_refl _)]
    exact h
theorem asBools_mapD : ∀ (l : List D) (p : D → Bool), asBools (l.map fun d => D.bl (p d)) = some (l.map p)
  | [], _ => rfl
  | d :: l, p => by
    show (asBools (l.map fun d => D.bl (p d))).map (p d :: ·) = _
    rw [asBools_mapD l p]
    rfl
theorem bi_allT (l : List Bool) (xs : List D) (h : asBools xs = some l) : biD .all [.lst xs] m = some (.bl (l.all id)) := by
  unfold biD
  simp [itemsL, deref, h]
theorem ig_ok {ig : Nat} (hF : F ig = some ⟨2, 3, cIg⟩) {k : Nat} (hk : k ≤ 100) (x : Lot) (Q : D → Hm → Prop) (h : Q (.bl (givenB x k)) m) : wp (callN F wf (n + 1) none ig [encI x, .int (k : Int)] m) Q := by
  refine w_call hF rfl ?_
  dsimp only [cIg]
  simp only [w_var, w_con, w_nil, w_cons, w_tup, w_lst, w_bin, w_cmp, w_tand, w_tor, w_tnot, w_tru, w_vand, w_vor, w_vnot, w_one, w_turn, w_ife, w_callp, w_bi, w_isin, w_idx, w_slc, w_nd, w_meth, w_comp, w_snil, w_single, w_asg, w_setix, w_exp, w_ret, w_ifs, w_fors, w_whil, w_brk, w_pass, wpo_some, wpb_some, wpa_tup, wpt_some, wif_bl, wp_ifB, wp_ok, get, put, home_int, home_bl, home_non, home_str, home_tup, home_adr, home_fro, home_lst, homes, assignT, assignTs, pick, List.map, List.replicate, List.cons_append, List.nil_append, List.append_nil, List.getD_cons_zero, List.getD_cons_succ]
  refine ⟨_, _, src_rng (by omega) (by omega), isBig_of (by omega), turns_pure (xs := rangeL 0 (k : Int).toNat) (fun _ => true) (fun d => D.bl (match d with | .int i => !(decide (2 * i ∈ x) && !decide (2 * i + 1 ∈ x)) | _ => true)) (fun j _ => snap_at _ _ _) (by rw [rangeL_lenW]; exact Nat.le_refl _) (fun d hd acc => ?_) ?_⟩
  · rw [rangeL_eq] at hd
    obtain ⟨i, hi, rfl⟩ := List.mem_map.mp hd
    rw [show (0 : Int) + (i : Int) = (i : Int) by omega, w_one]
    simp only [assignT, wipe, clr, put, wpt_some]
    simp only [w_var, w_con, w_nil, w_cons, w_tup, w_lst, w_bin, w_cmp, w_tand, w_tor, w_tnot, w_tru, w_vand, w_vor, w_vnot, w_one, w_turn, w_ife, w_callp, w_bi, w_isin, w_idx, w_slc, w_nd, w_meth, w_comp, w_snil, w_single, w_asg, w_setix, w_exp, w_ret, w_ifs, w_fors, w_whil, w_brk, w_pass, wpo_some, wpb_some, wpa_tup, wpt_some, wif_bl, wp_ifB, wp_ok, get, put, home_int, home_bl, home_non, home_str, home_tup, home_adr, home_fro, home_lst, homes, assignT, assignTs, pick, List.map, List.replicate, List.cons_append, List.nil_append, List.append_nil, List.getD_cons_zero, List.getD_cons_succ]
    simp only [get, wpo_some, b_mulR _ _ _ (show (2 : Int).natAbs < 2 ^ 64 by decide), b_mulL _ _ _ (show (2 : Int).natAbs < 2 ^ 64 by decide), b_add]
    rw [c_ninI]
    simp only [wpb_some, if_true]
    rw [t_blL, wtr_some]
    by_cases e1 : 2 * (i : Int) ∈ x
    · rw [c_inI]
      simp [e1, wpb_some, home_bl]
    · simp [e1, home_bl]
  · rw [List.filter_eq_self.mpr (by simp), bi_allT _ _ (asBools_mapD _ _)]
    simp only [wpo_some]
    refine fin_ret (by unfold below; rfl) ?_
    rw [List.take_of_length_le (Nat.le_refl _)]
    have e : ((rangeL 0 (k : Int).toNat).map fun d => match d with | .int i => !(decide (2 * i ∈ x) && !decide (2 * i + 1 ∈ x)) | _ => true).all id = givenB x k := by
      unfold givenB
      rw [show (k : Int).toNat = k by omega]
      generalize rangeL 0 k = l
      induction l with
      | nil => rfl
      | cons a l ih =>
        simp only [List.map_cons, List.all_cons, List.filter_cons, id]
        rw [ih]
        cases a with
        | int i => by_cases e1 : 2 * i ∈ x <;> by_cases e2 : 2 * i + 1 ∈ x <;> simp [e1, e2]
        | _ => simp
    rw [e]
    exact h
theorem pa_ok {a b ig o : Nat} (hL : LamB F a b) (hF : F ig = some ⟨2, 3, cIg⟩) (hO : F o = some ⟨1, 1, cPa ig b⟩) {j : Nat} (hj : 2 * j ≤ 6) (Q : D → Hm → Prop) (h : Q (cnd (2 * j) ((lotsI (2 * j)).filter fun x => givenB x j)) m) : wp (callN F wf (n + 3) none o [.int (j : Int)] m) Q := by
  refine w_call hO rfl ?_
  dsimp only [cPa]
  rw [w_single, w_ret]
  refine w_callc (xs := [.int ((2 * j : Nat) : Int)]) (cs := [.int (j : Int)]) (m1 := m) (m2 := m) (d := cnd (2 * j) ((lotsI (2 * j)).filter fun x => givenB x j)) (wp_eq (by
    simp only [w_var, w_con, w_nil, w_cons, w_tup, w_lst, w_bin, w_cmp, w_tand, w_tor, w_tnot, w_tru, w_vand, w_vor, w_vnot, w_one, w_turn, w_ife, w_callp, w_bi, w_isin, w_idx, w_slc, w_nd, w_meth, w_comp, w_snil, w_single, w_asg, w_setix, w_exp, w_ret, w_ifs, w_fors, w_whil, w_brk, w_pass, wpo_some, wpb_some, wpa_tup, wpt_some, wif_bl, wp_ifB, wp_ok, get, put, home_int, home_bl, home_non, home_str, home_tup, home_adr, home_fro, home_lst, homes, assignT, assignTs, pick, List.map, List.replicate, List.cons_append, List.nil_append, List.append_nil, List.getD_cons_zero, List.getD_cons_succ]
    rw [b_mulL _ _ _ (by decide)]
    simp only [wpo_some]
    exact ⟨by simp, trivial⟩)) (by rfl) (fun g c vs => ?_) ?_
  · refine by_lam (g := g) (c := c) (n := n) hL hj (fun x => givenB x j) fun s hs => lam_bl ?_
    simp only [w_var, w_con, w_nil, w_cons, w_tup, w_lst, w_bin, w_cmp, w_tand, w_tor, w_tnot, w_tru, w_vand, w_vor, w_vnot, w_one, w_turn, w_ife, w_callp, w_bi, w_isin, w_idx, w_slc, w_nd, w_meth, w_comp, w_snil, w_single, w_asg, w_setix, w_exp, w_ret, w_ifs, w_fors, w_whil, w_brk, w_pass, wpo_some, wpb_some, wpa_tup, wpt_some, wif_bl, wp_ifB, wp_ok, get, put, home_int, home_bl, home_non, home_str, home_tup, home_adr, home_fro, home_lst, homes, assignT, assignTs, pick, List.map, List.replicate, List.cons_append, List.nil_append, List.append_nil, List.getD_cons_zero, List.getD_cons_succ]
    (try simp only [homes, home_cnd, home_enc, home_adr, home_int, home_bl, home_tup, home_non, home_str, home_lst, pick, List.nil_append, List.append_nil, List.getD_cons_zero, List.getD_cons_succ])
    refine ig_ok (n := n + 1) hF (by omega) s _ ?_
    exact ⟨rfl, [], by simp⟩
  · refine fin_ret (below_cnd m.length _ _) ?_
    rw [List.take_of_length_le (Nat.le_refl _)]
    exact h
end
end Bell
end

section
set_option maxRecDepth 100000
/-! lots joined -/
namespace Bell
open PySem (Str)
/-! ### ascending lists -/
abbrev ltI2 : Int → Int → Bool := fun x y => decide (x < y)
def Asc (l : List Int) : Prop := l.Pairwise (· < ·)
theorem memI_ins {x z : Int} : ∀ {l : List Int}, z ∈ ins ltI2 x l ↔ z = x ∨ z ∈ l
  | [] => by simp [ins]
  | y :: ys => by
    unfold ins
    split
    · rw [List.mem_cons, memI_ins (l := ys), List.mem_cons]
      constructor
      · rintro (h | h | h) <;> simp [h]
      · rintro (h | h | h) <;> simp [h]
    · rw [List.mem_cons]
theorem memI_isort {z : Int} : ∀ {l : List Int}, z ∈ isort ltI2 l ↔ z ∈ l
  | [] => by simp [isort]
  | x :: xs => by
    unfold isort
    rw [memI_ins, memI_isort (l := xs), List.mem_cons]
theorem ins_asc {x : Int} : ∀ {l : List Int}, Asc l → x ∉ l → Asc (ins ltI2 x l)
  | [], _, _ => List.pairwise_singleton _ _
  | y :: ys, h, n => by
    have h2 := List.pairwise_cons.mp h
    unfold ins
    split
    · rename_i c
      have c : y < x := of_decide_eq_true c
      refine List.pairwise_cons.mpr ⟨fun z hz => ?_, ins_asc h2.2 (fun e => n (List.mem_cons_of_mem _ e))⟩
      rcases memI_ins.mp hz with rfl | hz
      · exact c
      · exact h2.1 z hz
    · rename_i c
      have c : ¬ y < x := fun z => c (decide_eq_true z)
      have ne : x ≠ y := fun e => n (by rw [e]; exact List.mem_cons_self)
      refine List.pairwise_cons.mpr ⟨fun z hz => ?_, h⟩
      rcases List.mem_cons.mp hz with rfl | hz
      · omega
      · have := h2.1 z hz
        omega
theorem isort_asc : ∀ {l : List Int}, l.Nodup → Asc (isort ltI2 l)
  | [], _ => List.Pairwise.nil
  | x :: xs, h => by
    have h2 := List.nodup_cons.mp h
    exact ins_asc (isort_asc h2.2) (fun e => h2.1 (memI_isort.mp e))
theorem asc_ext : ∀ {a b : List Int}, Asc a → Asc b → (∀ x, x ∈ a ↔ x ∈ b) → a = b
  | [], [], _, _, _ => rfl
  | [], y :: b, _, _, h => absurd ((h y).mpr List.mem_cons_self) (by simp)
  | x :: a, [], _, _, h => absurd ((h x).mp List.mem_cons_self) (by simp)
  | x :: a, y :: b, ha, hb, h => by
    have ha2 := List.pairwise_cons.mp ha
    have hb2 := List.pairwise_cons.mp hb
    have exy : x = y := by
      rcases List.mem_cons.mp ((h x).mp List.mem_cons_self) with e | e
      · exact e
      · rcases List.mem_cons.mp ((h y).mpr List.mem_cons_self) with e2 | e2
        · exact e2.symm
        · have := hb2.1 x e
          have := ha2.1 y e2
          omega
    subst exy
    congr 1
    refine asc_ext ha2.2 hb2.2 fun z => ?_
    constructor
    · intro hz
      rcases List.mem_cons.mp ((h z).mp (List.mem_cons_of_mem _ hz)) with e | e
      · have := ha2.1 z hz
        omega
      · exact e
    · intro hz
      rcases List.mem_cons.mp ((h z).mpr (List.mem_cons_of_mem _ hz)) with e | e
      · have := hb2.1 z hz
        omega
      · exact e
theorem isort_self {l : List Int} (h : Asc l) : isort ltI2 l = l := asc_ext (isort_asc (h.imp fun h => by omega)) h fun x => memI_isort
/-! ### lots are ascending -/
def subs : List Int → List (List Int)
  | [] => [[]]
  | x :: xs => subs xs ++ (subs xs).map (x :: ·)
theorem subs_mem {a l : List Int} (h : a.Sublist l) : a ∈ subs l := by
  induction h with
  | slnil => simp [subs]
  | cons a h ih => exact List.mem_append_left _ ih
  | cons_cons a h ih => exact List.mem_append_right _ (List.mem_map.mpr ⟨_, ih, rfl⟩)
theorem subs_tab : ∀ k : Fin 7, ((subs (idL k)).all fun x => x.isEmpty || (lotsI k).contains x) = true ∧ ((lotsI k).all fun x => decide x.Nodup && decide (x.Pairwise (· < ·))) = true := by decide +kernel
theorem lots_asc {k : Nat} (hk : k ≤ 6) {x : Lot} (hx : x ∈ lotsI k) : Asc x := by
  have := List.all_eq_true.mp (subs_tab ⟨k, by omega⟩).2 x hx
  rw [Bool.and_eq_true] at this
  exact (of_decide_eq_true this.2 : x.Pairwise (· < ·))
theorem asc_nodup {x : List Int} (h : Asc x) : x.Nodup := h.imp fun h => by omega
theorem idL_asc (k : Nat) : Asc (idL k) := by
  unfold idL Asc
  rw [List.pairwise_map]
  exact List.pairwise_lt_range.imp fun h => by simpa using h
theorem idL_in {k : Nat} {b : Int} : b ∈ idL k ↔ 0 ≤ b ∧ b < k := by
  unfold idL
  rw [List.mem_map]
  constructor
  · rintro ⟨i, hi, rfl⟩
    rw [List.mem_range] at hi
    simp; omega
  · rintro ⟨h1, h2⟩
    exact ⟨b.toNat, by rw [List.mem_range]; omega, by simp; omega⟩
theorem asc_sub : ∀ {a b : List Int}, Asc a → Asc b → (∀ x ∈ a, x ∈ b) → a.Sublist b
  | [], b, _, _, _ => List.nil_sublist _
  | x :: a, [], _, _, h => absurd (h x List.mem_cons_self) (by simp)
  | x :: a, y :: b, ha, hb, h => by
    have ha2 := List.pairwise_cons.mp ha
    have hb2 := List.pairwise_cons.mp hb
    by_cases e : x = y
    · subst e
      refine List.Sublist.cons_cons _ (asc_sub ha2.2 hb2.2 fun z hz => ?_)
      rcases List.mem_cons.mp (h z (List.mem_cons_of_mem _ hz)) with e | e
      · have := ha2.1 z hz
        omega
      · exact e
    · refine List.Sublist.cons _ (asc_sub ha hb2.2 fun z hz => ?_)
      have hx : x ∈ b := (List.mem_cons.mp (h x List.mem_cons_self)).resolve_left e
      rcases List.mem_cons.mp (h z hz) with e2 | e2
      · subst e2
        have := hb2.1 x hx
        rcases List.mem_cons.mp hz with e3 | e3
        · omega
        · have := ha2.1 z e3
          omega
      · exact e2
theorem lots_iff {k : Nat} (hk : k ≤ 6) {x : Lot} : x ∈ lotsI k ↔ x ≠ [] ∧ Asc x ∧ ∀ b ∈ x, 0 ≤ b ∧ b < (k : Int) := by
  constructor
  · intro h
    exact ⟨(lots_mem hk h).1, lots_asc hk h, (lots_mem hk h).2⟩
  · rintro ⟨h1, h2, h3⟩
    have := subs_mem (asc_sub h2 (idL_asc k) fun b hb => idL_in.mpr (h3 b hb))
    have := List.all_eq_true.mp (subs_tab ⟨k, by omega⟩).1 x this
    rw [Bool.or_eq_true] at this
    rcases this with e | e
    · exact absurd (List.isEmpty_iff.mp e) h1
    · exact List.contains_iff_mem.mp e
/-! ### joined -/
def uni (ls : List Lot) (acc : List Int) : List Int := ls.foldl (fun a l => a ++ l.filter fun b => !decide (b ∈ a)) acc
def joinA (ls : List Lot) : Lot := isort ltI2 (uni ls [])
theorem uni_cons (l : Lot) (ls : List Lot) (acc : List Int) : uni (l :: ls) acc = uni ls (acc ++ l.filter fun b => !decide (b ∈ acc)) := rfl
theorem uni_snoc (l : Lot) (ls : List Lot) (acc : List Int) : uni (ls ++ [l]) acc = uni ls acc ++ l.filter fun b => !decide (b ∈ uni ls acc) := by
  unfold uni
  rw [List.foldl_append]
  rfl
theorem uni_mem {x : Int} : ∀ {ls : List Lot} {acc : List Int}, x ∈ uni ls acc ↔ x ∈ acc ∨ ∃ l ∈ ls, x ∈ l
  | [], acc => by simp [uni]
  | l :: ls, acc => by
    rw [uni_cons, uni_mem (ls := ls), List.mem_append, List.mem_filter]
    simp only [List.mem_cons, Bool.not_eq_true', decide_eq_false_iff_not]
    constructor
    · rintro ((h | ⟨h, _⟩) | ⟨l2, h, h2⟩)
      · exact .inl h
      · exact .inr ⟨l, .inl rfl, h⟩
      · exact .inr ⟨l2, .inr h, h2⟩
    · rintro (h | ⟨l2, rfl | h, h2⟩)
      · exact .inl (.inl h)
      · by_cases e : x ∈ acc
        · exact .inl (.inl e)
        · exact .inl (.inr ⟨h2, e⟩)
      · exact .inr ⟨l2, h, h2⟩
theorem uni_nodup : ∀ {ls : List Lot} {acc : List Int}, (∀ l ∈ ls, l.Nodup) → acc.Nodup → (uni ls acc).Nodup
  | [], acc, _, h => h
  | l :: ls, acc, hl, h => by
    rw [uni_cons]
    refine uni_nodup (fun l h => hl l (List.mem_cons_of_mem _ h)) ?_
    refine List.nodup_append.mpr ⟨h, (hl l List.mem_cons_self).filter _, fun a ha b hb e => ?_⟩
    rw [List.mem_filter] at hb
    subst e
    simp at hb
    exact hb.2 ha
theorem uni_len : ∀ (ls : List Lot) (acc : List Int), (uni ls acc).length ≤ acc.length + (ls.map List.length).sum
  | [], acc => by simp [uni]
  | l :: ls, acc => by
    rw [uni_cons]
    refine Nat.le_trans (uni_len ls _) ?_
    have := List.length_filter_le (fun b => !decide (b ∈ acc)) l
    simp
    omega
theorem join_mem' {x : Int} {ls : List Lot} : x ∈ joinA ls ↔ ∃ l ∈ ls, x ∈ l := by
  unfold joinA
  rw [memI_isort, uni_mem]
  simp
theorem join_asc {ls : List Lot} (h : ∀ l ∈ ls, l.Nodup) : Asc (joinA ls) := isort_asc (uni_nodup h List.nodup_nil)
theorem joins_lots {k : Nat} (hk : k ≤ 6) {ls : List Lot} (h : ∀ l ∈ ls, l ∈ lotsI k) (hn : ls ≠ []) : joinA ls ∈ lotsI k := by
  refine (lots_iff hk).mpr ⟨fun e => ?_, join_asc fun l hl => asc_nodup (lots_asc hk (h l hl)), fun b hb => ?_⟩
  · cases ls with
    | nil => exact hn rfl
    | cons l ls =>
      have := (lots_mem hk (h l List.mem_cons_self)).1
      cases l with
      | nil => exact this rfl
      | cons a l =>
        have : a ∈ joinA ((a :: l) :: ls) := join_mem'.mpr ⟨_, List.mem_cons_self, List.mem_cons_self⟩
        rw [e] at this
        cases this
  · obtain ⟨l, hl, hb⟩ := join_mem'.mp hb
    exact (lots_mem hk (h l hl)).2 b hb
/-- single bells -/
theorem join_ones {x : Lot} (h : Asc x) : joinA (x.map fun b => [b]) = x := by
  refine asc_ext (join_asc fun l hl => ?_) h fun z => ?_
  · obtain ⟨b, _, rfl⟩ := List.mem_map.mp hl
    simp
  · rw [join_mem']
    constructor
    · rintro ⟨l, hl, hz⟩
      obtain ⟨b, hb, rfl⟩ := List.mem_map.mp hl
      rw [List.mem_singleton.mp hz]
      exact hb
    · intro hz
      exact ⟨[z], List.mem_map.mpr ⟨z, hz, rfl⟩, List.mem_singleton.mpr rfl⟩
end Bell
end

section
set_option maxRecDepth 100000
/-! joined_lots, stands_for -/
namespace Bell
open PySem (Str)
def cJl : S := .cons (.asg (.nm 1) (.dct .nil)) (.cons (.fors .val (.cons (.var 0) .nil) (.nm 2) (.cons (.fors .val (.cons (.var 2) .nil) (.nm 3) (.cons (.setix (.var 1) (.var 3) (.con (.bl true))) .nil)) .nil)) (.cons (.ret (.bi .tuple (.cons (.bi .sorted (.cons (.bi .list (.cons (.var 1) .nil)) .nil)) .nil))) .nil))
def cLj : S := .cons (.asg (.nm 1) (.lst .nil)) (.cons (.fors .val (.cons (.var 0) .nil) (.nm 2) (.cons (.asg (.nm 1) (.bin .add (.var 1) (.comp .val (.cons (.var 2) .nil) (.nm 3) (.cmp .nin (.var 3) (.var 1)) (.var 3) [3]))) .nil)) (.cons (.ret (.bi .tuple (.cons (.bi .sorted (.cons (.var 1) .nil)) .nil))) .nil))
def cSf (pl jl b : Nat) : S := .cons (.ret (.callc b (.cons (.bi .len (.cons (.var 1) .nil)) .nil) 1 ("stands_for.<locals>.<lambda>" : Str) [0, 1] 1 (.callp pl [0, 1] [] (.cons (.var 1) (.cons (.callp jl [0] [] (.cons (.comp .val (.cons (.var 0) .nil) (.nm 3) (.con (.bl true)) (.idx (.var 2) (.var 3)) [3]) .nil)) .nil))))) .nil
def cLs (lj : Nat) : S := .cons (.asg (.nm 2) (.comp .val (.cons (.callp 4 [0] [] (.cons (.bi .len (.cons (.var 1) .nil)) .nil)) .nil) (.nm 3) (.cmp .inn (.callp lj [0] [] (.cons (.comp .val (.cons (.var 3) .nil) (.nm 4) (.con (.bl true)) (.idx (.var 1) (.var 4)) [4]) .nil)) (.idx (.var 0) (.con (.int 1)))) (.var 3) [3])) (.cons (.ret (.tup (.cons (.bi .len (.cons (.var 1) .nil)) (.cons (.bi .tuple (.cons (.var 2) .nil)) .nil)))) .nil)
theorem keyIx_ints (e : Int) : ∀ acc : List Int, (keyIx (.int e) (acc.map D.int)).isSome = decide (e ∈ acc)
  | [] => rfl
  | a :: acc => by
    rw [List.map_cons]
    unfold keyIx
    rw [show eqb (.int a) (.int e) = (a == e) by unfold eqb; rfl]
    by_cases h : a = e
    · subst h
      simp
    · rw [if_neg (by simpa using h), Option.isSome_map, keyIx_ints e acc]
      have : e ≠ a := fun z => h z.symm
      simp [this]
theorem lays_true (e : D) : ∀ (ks : List D) (n : Nat), n = ks.length → lays e (.bl true) ks (List.replicate n (.bl true)) = List.replicate n (.bl true)
  | [], n, h => by subst h; rfl
  | k :: ks, n, h => by
    subst h
    show (if eqb k e then D.bl true else .bl true) :: lays e (.bl true) ks (List.replicate ks.length (.bl true)) = _
    rw [lays_true e ks _ rfl]
    simp [List.replicate_succ]
def addI (acc : List Int) (e : Int) : List Int := if e ∈ acc then acc else acc ++ [e]
theorem lay_true (e : Int) (acc : List Int) : lay (.int e) (.bl true) (acc.map .int) (List.replicate acc.length (.bl true)) = ((addI acc e).map .int, List.replicate (addI acc e).length (.bl true)) := by
  have h := keyIx_ints e acc
  unfold lay addI
  cases q : keyIx (.int e) (acc.map D.int) with
  | none =>
    rw [q] at h
    have h : ¬ e ∈ acc := by simpa using h.symm
    rw [if_neg h]
    dsimp only
    rw [List.map_append, List.length_append, ← List.replicate_append_replicate]
    rfl
  | some i =>
    rw [q] at h
    have h : e ∈ acc := by simpa using h.symm
    rw [if_pos h]
    dsimp only
    rw [lays_true _ _ _ (by simp)]
theorem asInts_mapJ (x : List Int) : asInts (x.map D.int) = some x := asInts_map x
theorem sort_ints (x : List Int) : sortD (x.map .int) = some ((isort ltI2 x).map .int) := by
  unfold sortD
  rw [asInts_map]
section
variable {F : Nat → Option Fd} {wf n : Nat} {m : Hm}
theorem fold_take {x : List Int} {acc : List Int} (hx : x.Nodup) {i : Nat} {e : Int} (h : x[i]? = some e) : addI (acc ++ (x.take i).filter fun b => !decide (b ∈ acc)) e = acc ++ (x.take (i + 1)).filter fun b => !decide (b ∈ acc) := by
  have hl := (List.getElem?_eq_some_iff.mp h).1
  have e1 : x.take (i + 1) = x.take i ++ [e] := by rw [List.take_succ, h]; rfl
  have nt : e ∉ x.take i := fun z => by
    rw [← List.take_append_drop (i + 1) x, e1] at hx
    have := (List.nodup_append.mp (List.nodup_append.mp hx).1).2.2 e z e (List.mem_singleton.mpr rfl)
    exact this rfl
  rw [e1, List.filter_append]
  unfold addI
  by_cases he : e ∈ acc
  · rw [if_pos (List.mem_append_left _ he)]
    simp [he]
  · rw [if_neg (by
      rw [List.mem_append, List.mem_filter]
      rintro (z | z)
      · exact he z
      · exact nt z.1)]
    simp [he]
/-- lots, as a tuple or a list -/
def LotsAt (m : Hm) (x : D) (ls : List Lot) : Prop := x = .tup (encs ls) ∨ ∃ j, x = .adr j ∧ m[j]? = some (.lst (encs ls))
theorem LotsAt.app {x : D} {ls : List Lot} (h : LotsAt m x ls) (l : Hm) : LotsAt (m ++ l) x ls := by
  rcases h with h | ⟨j, h, e⟩
  · exact .inl h
  · exact .inr ⟨j, h, by rw [List.getElem?_append_left (List.getElem?_eq_some_iff.mp e).1]; exact e⟩
theorem LotsAt.src {x : D} {ls : List Lot} (h : LotsAt m x ls) : ∃ f, src .val [x] m = some (f, (encs ls).length) ∧ ∀ i m', LotsAt m' x ls → f i m' = some (encs ls)[i]? := by
  rcases h with rfl | ⟨j, rfl, e⟩
  · exact ⟨_, src_tup _, fun i m' _ => snap_at _ _ _⟩
  · refine ⟨_, src_adr e, fun i m' h => ?_⟩
    rcases h with h | ⟨j', h, e'⟩
    · cases h
    · cases h
      exact live_at' e'
theorem jl_ok {jl : Nat} (hF : F jl = some ⟨1, 4, cJl⟩) {x : D} {ls : List Lot} (hx : LotsAt m x ls) (hn : ∀ l ∈ ls, l.Nodup) (hb : (ls.map List.length).sum ≤ 1000) (Q : D → Hm → Prop) (h : Q (encI (joinA ls)) m) : wp (callN F wf (n + 1) none jl [x] m) Q := by
  refine w_call hF rfl ?_
  dsimp only [cJl]
  rw [w_scons, w_asg]
  have e0 : ev (cfN F wf n m) (.dct .nil) [some x, none, none, none] m = .ok (.dct [] []) m := rfl
  rw [show wp (ev (cfN F wf n m) (.dct .nil) (List.map some [x] ++ List.replicate (4 - 1) none) m) (fun d m_1 => wpt (assignT (.nm 1) (home d m_1).1 (List.map some [x] ++ List.replicate (4 - 1) none)) fun ρ' => seqQ _ _ _ (.nx, ρ') (home d m_1).2) = _ from rfl]
  show wp (ev (cfN F wf n m) (.dct .nil) [some x, none, none, none] m) _
  rw [e0, wp_ok]
  show wpt (assignT (.nm 1) (.adr m.length) [some x, none, none, none]) _
  simp only [assignT, put, wpt_some]
  rw [seqQ_nx, w_scons]
  show wp (ex (cfN F wf n m) _ [some x, some (.adr m.length), none, none] (m ++ [.dct [] []])) _
  have bnd : ∀ t, (uni (ls.take t) []).length ≤ 1000 := fun t => by
    refine Nat.le_trans (uni_len _ _) ?_
    have : ((ls.take t).map List.length).sum ≤ (ls.map List.length).sum := by
      conv => rhs; rw [← List.take_append_drop t ls]
      rw [List.map_append, List.sum_append]
      omega
    rw [List.length_nil, Nat.zero_add]
    omega
  let St (acc : List Int) (ρ : Env) (m' : Hm) : Prop := m' = m ++ [.dct (acc.map .int) (List.replicate acc.length (.bl true))] ∧ ∃ o2 o3, ρ = [some x, some (.adr m.length), o2, o3]
  simp only [w_var, w_con, w_nil, w_cons, w_tup, w_lst, w_bin, w_cmp, w_tand, w_tor, w_tnot, w_tru, w_vand, w_vor, w_vnot, w_one, w_turn, w_ife, w_callp, w_bi, w_isin, w_idx, w_slc, w_nd, w_meth, w_comp, w_snil, w_single, w_asg, w_setix, w_exp, w_ret, w_ifs, w_fors, w_whil, w_brk, w_pass, wpo_some, wpb_some, wpa_tup, wpt_some, wif_bl, wp_ifB, wp_ok, get, put, home_int, home_bl, home_non, home_str, home_tup, home_adr, home_fro, home_lst, homes, assignT, assignTs, pick, List.map, List.replicate, List.cons_append, List.nil_append, List.append_nil, List.getD_cons_zero, List.getD_cons_succ]
  obtain ⟨f, hs, hf⟩ := (hx.app [.dct [] []]).src
  refine ⟨f, _, hs, ?_⟩
  refine loop_inv (xs := encs ls) (fun t ρ m' => St (uni (ls.take t) []) ρ m') _ (fun t ρ m' I _ => hf t m' (by rw [I.1]; exact hx.app _)) (fun t d ρ m' hd I => ?_) (fun ρ m' I => ?_) _ 0 _ _ (Nat.zero_le _) (Nat.le_refl _) ⟨rfl, _, _, rfl⟩
  · obtain ⟨rfl, o2, o3, rfl⟩ := I
    unfold encs at hd
    rw [List.getElem?_map] at hd
    cases hl : ls[t]? with
    | none => rw [hl] at hd; cases hd
    | some y =>
      rw [hl] at hd
      cases hd
      have ny := hn y (List.mem_of_getElem? hl)
      have tk : ls.take (t + 1) = ls.take t ++ [y] := by rw [List.take_succ, hl]; rfl
      have b1 := bnd (t + 1)
      rw [tk, uni_snoc] at b1
      generalize hacc : uni (ls.take t) [] = acc at b1
      rw [w_turn]
      refine ⟨_, rfl, ?_⟩
      dsimp only [put]
      simp only [w_var, w_con, w_nil, w_cons, w_tup, w_lst, w_bin, w_cmp, w_tand, w_tor, w_tnot, w_tru, w_vand, w_vor, w_vnot, w_one, w_turn, w_ife, w_callp, w_bi, w_isin, w_idx, w_slc, w_nd, w_meth, w_comp, w_snil, w_single, w_asg, w_setix, w_exp, w_ret, w_ifs, w_fors, w_whil, w_brk, w_pass, wpo_some, wpb_some, wpa_tup, wpt_some, wif_bl, wp_ifB, wp_ok, get, put, home_int, home_bl, home_non, home_str, home_tup, home_adr, home_fro, home_lst, homes, assignT, assignTs, pick, List.map, List.replicate, List.cons_append, List.nil_append, List.append_nil, List.getD_cons_zero, List.getD_cons_succ]
      refine ⟨_, _, src_enc _, ?_⟩
      refine loop_inv (xs := y.map D.int) (fun i ρ m' => St (acc ++ (y.take i).filter fun b => !decide (b ∈ acc)) ρ m') _ (fun _ _ _ _ _ => snap_at _ _ _) (fun i d ρ m' hd I => ?_) (fun ρ m' I => ?_) _ 0 _ _ (Nat.zero_le _) (Nat.le_refl _) ⟨by simp, _, _, rfl⟩
      · obtain ⟨rfl, o2, o3, rfl⟩ := I
        rw [List.getElem?_map] at hd
        cases hi : y[i]? with
        | none => rw [hi] at hd; cases hd
        | some e =>
          rw [hi] at hd
          cases hd
          have ft := fold_take (acc := acc) ny hi
          have bi : (acc ++ (y.take i).filter fun b => !decide (b ∈ acc)).length ≤ 1000 := by
            refine Nat.le_trans ?_ b1
            rw [List.length_append, List.length_append]
            have : ((y.take i).filter fun b => !decide (b ∈ acc)).Sublist (y.filter fun b => !decide (b ∈ acc)) := (List.take_sublist i y).filter _
            have := this.length_le
            omega
          generalize acc ++ (y.take i).filter (fun b => !decide (b ∈ acc)) = c at ft bi
          rw [w_turn]
          refine ⟨_, rfl, ?_⟩
          dsimp only [put]
          rw [w_single, w_setix]
          simp only [w_con, w_var, get, wpo_some, home_bl]
          refine ⟨m ++ [.dct ((addI c e).map .int) (List.replicate (addI c e).length (.bl true))], ?_, ?_⟩
          · unfold setD
            dsimp only
            rw [if_pos (by unfold mayPut; simp), List.getElem?_concat_length]
            dsimp only
            rw [if_pos (by
              have h1 : pur 40 (D.int e) = true := by unfold pur; rfl
              have h2 : isKey (D.int e) = true := rfl
              rw [h1, h2, purs_ints, isBig_of (by rw [List.length_map]; omega)]
              rfl), lay_true]
            simp
          · exact ⟨by rw [ft], _, _, rfl⟩
      · obtain ⟨rfl, o2, o3, rfl⟩ := I
        refine ⟨?_, _, _, rfl⟩
        rw [tk, uni_snoc, hacc]
        simp
  · obtain ⟨rfl, o2, o3, rfl⟩ := I
    rw [seqQ_nx]
    simp only [w_var, w_con, w_nil, w_cons, w_tup, w_lst, w_bin, w_cmp, w_tand, w_tor, w_tnot, w_tru, w_vand, w_vor, w_vnot, w_one, w_turn, w_ife, w_callp, w_bi, w_isin, w_idx, w_slc, w_nd, w_meth, w_comp, w_snil, w_single, w_asg, w_setix, w_exp, w_ret, w_ifs, w_fors, w_whil, w_brk, w_pass, wpo_some, wpb_some, wpa_tup, wpt_some, wif_bl, wp_ifB, wp_ok, get, put, home_int, home_bl, home_non, home_str, home_tup, home_adr, home_fro, home_lst, homes, assignT, assignTs, pick, List.map, List.replicate, List.cons_append, List.nil_append, List.append_nil, List.getD_cons_zero, List.getD_cons_succ]
    rw [show (encs ls).length = ls.length by rw [encs_len], List.take_length]
    rw [show biD .list [.adr m.length] (m ++ [.dct ((uni ls []).map .int) (List.replicate (uni ls []).length (.bl true))]) = some (.lst ((uni ls []).map .int)) by
      show listD _ _ = _
      unfold listD
      rw [show deref (m ++ [.dct ((uni ls []).map .int) (List.replicate (uni ls []).length (.bl true))]) (.adr m.length) = some (.dct ((uni ls []).map .int) (List.replicate (uni ls []).length (.bl true))) from List.getElem?_concat_length]]
    simp only [wpo_some]
    rw [show biD .sorted [.lst ((uni ls []).map .int)] (m ++ [.dct ((uni ls []).map .int) (List.replicate (uni ls []).length (.bl true))]) = some (.lst ((joinA ls).map .int)) by
      show (sortD ((uni ls []).map .int)).map D.lst = _
      rw [sort_ints]
      rfl]
    simp only [wpo_some]
    rw [bi_tupT]
    simp only [wpo_some]
    refine fin_ret (below_encI m.length (joinA ls)) ?_
    rw [List.take_left]
    exact h
/-- a comprehension that lays new things -/
theorem turns_grow {f : Nx} {one : D → List D → Hm → Out (List D)} {xs : List D} {c : Nat} {Q : List D → Hm → Prop} (p : D → Bool) (g : D → D) (hf : ∀ i l, i ≤ xs.length → f i (m ++ l) = some xs[i]?) (hn : xs.length ≤ c)
    (h : ∀ d ∈ xs, ∀ acc l, wp (one d acc (m ++ l)) fun acc' m' => (∃ l', m' = m ++ l') ∧ acc' = if p d = true then acc ++ [g d] else acc) (q : ∀ l, Q ((xs.filter p).map g) (m ++ l)) : wp (turns f one c 0 [] m) Q := by
  refine (turns_inv (xs := xs) (fun i acc m' => (∃ l, m' = m ++ l) ∧ acc = ((xs.take i).filter p).map g) (fun i acc m' I hi => by obtain ⟨⟨l, rfl⟩, _⟩ := I; exact hf i l hi) (fun i d acc m' hd I => ?_) c 0 [] m (Nat.zero_le _) (by omega) ⟨⟨[], by simp⟩, by simp⟩).mono fun acc m' I => ?_
  · obtain ⟨⟨l, rfl⟩, rfl⟩ := I
    refine (h d (List.mem_of_getElem? hd) _ l).mono fun acc' m' e => ?_
    obtain ⟨e1, rfl⟩ := e
    refine ⟨e1, ?_⟩
    have e1 : xs.take (i + 1) = xs.take i ++ [d] := by rw [List.take_succ, hd]; rfl
    rw [e1, List.filter_append, List.map_append]
    by_cases hp : p d = true
    · simp [hp]
    · simp [hp]
  · obtain ⟨⟨l, rfl⟩, rfl⟩ := I
    rw [List.take_length]
    exact q l
theorem c_ninA {q : Nat} {acc : List Int} (e : m[q]? = some (.lst (acc.map .int))) (b : Int) : cmpD .nin m (.int b) (.adr q) = some (!decide (b ∈ acc)) := by
  show (inD m (.int b) (.adr q)).map (!·) = _
  unfold inD
  rw [show deref m (.adr q) = some (.lst (acc.map .int)) from e]
  dsimp only
  rw [show pur 40 (D.int b) = true by unfold pur; rfl, purs_ints, any_ints]
  rfl
theorem lj_ok {lj : Nat} (hF : F lj = some ⟨1, 4, cLj⟩) {x : D} {ls : List Lot} (hx : LotsAt m x ls) (hb : (ls.map List.length).sum ≤ 100000) (Q : D → Hm → Prop) (h : Q (encI (joinA ls)) m) : wp (callN F wf (n + 1) none lj [x] m) Q := by
  refine w_call hF rfl ?_
  dsimp only [cLj]
  have bnd : ∀ t, (uni (ls.take t) []).length ≤ 100000 := fun t => by
    refine Nat.le_trans (uni_len _ _) ?_
    have : ((ls.take t).map List.length).sum ≤ (ls.map List.length).sum := by
      conv => rhs; rw [← List.take_append_drop t ls]
      rw [List.map_append, List.sum_append]
      omega
    rw [List.length_nil, Nat.zero_add]
    omega
  have len1 : ∀ y ∈ ls, y.length ≤ 100000 := fun y hy => by
    refine Nat.le_trans ?_ hb
    obtain ⟨a, b, rfl⟩ := List.append_of_mem hy
    simp
    omega
  rw [w_scons]
  simp only [w_var, w_con, w_nil, w_cons, w_tup, w_lst, w_bin, w_cmp, w_tand, w_tor, w_tnot, w_tru, w_vand, w_vor, w_vnot, w_one, w_turn, w_ife, w_callp, w_bi, w_isin, w_idx, w_slc, w_nd, w_meth, w_comp, w_snil, w_single, w_asg, w_setix, w_exp, w_ret, w_ifs, w_fors, w_whil, w_brk, w_pass, wpo_some, wpb_some, wpa_tup, wpt_some, wif_bl, wp_ifB, wp_ok, get, put, home_int, home_bl, home_non, home_str, home_tup, home_adr, home_fro, home_lst, homes, assignT, assignTs, pick, List.map, List.replicate, List.cons_append, List.nil_append, List.append_nil, List.getD_cons_zero, List.getD_cons_succ]
  (try simp only [homes, home_cnd, home_enc, home_adr, home_int, home_bl, home_tup, home_non, home_str, home_lst, pick, List.nil_append, List.append_nil, List.getD_cons_zero, List.getD_cons_succ])
  try simp only [put]
  rw [seqQ_nx, w_scons]
  let St (acc : List Int) (ρ : Env) (m' : Hm) : Prop := ∃ l q o2 o3, m' = m ++ l ∧ ρ = [some x, some (.adr q), o2, o3] ∧ m'[q]? = some (.lst (acc.map .int))
  simp only [w_var, w_con, w_nil, w_cons, w_tup, w_lst, w_bin, w_cmp, w_tand, w_tor, w_tnot, w_tru, w_vand, w_vor, w_vnot, w_one, w_turn, w_ife, w_callp, w_bi, w_isin, w_idx, w_slc, w_nd, w_meth, w_comp, w_snil, w_single, w_asg, w_setix, w_exp, w_ret, w_ifs, w_fors, w_whil, w_brk, w_pass, wpo_some, wpb_some, wpa_tup, wpt_some, wif_bl, wp_ifB, wp_ok, get, put, home_int, home_bl, home_non, home_str, home_tup, home_adr, home_fro, home_lst, homes, assignT, assignTs, pick, List.map, List.replicate, List.cons_append, List.nil_append, List.append_nil, List.getD_cons_zero, List.getD_cons_succ]
  obtain ⟨f, hs, hf⟩ := (hx.app [.lst []]).src
  refine ⟨f, _, hs, ?_⟩
  refine loop_inv (xs := encs ls) (fun t ρ m' => St (uni (ls.take t) []) ρ m') _ (fun t ρ m' I _ => hf t m' (by obtain ⟨l, q, o2, o3, rfl, _⟩ := I; exact hx.app _)) (fun t d ρ m' hd I => ?_) (fun ρ m' I => ?_) _ 0 _ _ (Nat.zero_le _) (Nat.le_refl _) ⟨_, m.length, _, _, rfl, rfl, List.getElem?_concat_length⟩
  · obtain ⟨l, q, o2, o3, rfl, rfl, e⟩ := I
    unfold encs at hd
    rw [List.getElem?_map] at hd
    cases hl : ls[t]? with
    | none => rw [hl] at hd; cases hd
    | some y =>
      rw [hl] at hd
      cases hd
      have tk : ls.take (t + 1) = ls.take t ++ [y] := by rw [List.take_succ, hl]; rfl
      have b1 := bnd (t + 1)
      rw [tk, uni_snoc] at b1 ⊢
      generalize uni (ls.take t) [] = acc at b1 e
      rw [w_turn]
      refine ⟨_, rfl, ?_⟩
      dsimp only [put]
      simp only [w_var, w_con, w_nil, w_cons, w_tup, w_lst, w_bin, w_cmp, w_tand, w_tor, w_tnot, w_tru, w_vand, w_vor, w_vnot, w_one, w_turn, w_ife, w_callp, w_bi, w_isin, w_idx, w_slc, w_nd, w_meth, w_comp, w_snil, w_single, w_asg, w_setix, w_exp, w_ret, w_ifs, w_fors, w_whil, w_brk, w_pass, wpo_some, wpb_some, wpa_tup, wpt_some, wif_bl, wp_ifB, wp_ok, get, put, home_int, home_bl, home_non, home_str, home_tup, home_adr, home_fro, home_lst, homes, assignT, assignTs, pick, List.map, List.replicate, List.cons_append, List.nil_append, List.append_nil, List.getD_cons_zero, List.getD_cons_succ]
      refine ⟨_, _, src_enc _, isBig_of (by have := len1 y (List.mem_of_getElem? hl); simp; omega), turns_pure (fun d => match d with | .int b => !decide (b ∈ acc) | _ => false) id (fun j _ => snap_at _ _ _) (Nat.le_refl _) (fun d hd acc2 => ?_) ?_⟩
      · obtain ⟨b, hb, rfl⟩ := List.mem_map.mp hd
        rw [w_one]
        simp only [assignT, wipe, clr, put, wpt_some, w_cmp, w_var, get, wpo_some, c_ninA e, wpb_some, wif_bl, home_int]
        by_cases h : b ∈ acc <;> simp [h]
      · have e2 : ((y.map D.int).filter fun d => match d with | .int b => !decide (b ∈ acc) | _ => false).map id = (y.filter fun b => !decide (b ∈ acc)).map D.int := by
          rw [List.map_id, List.filter_map]
          rfl
        rw [e2, b_addA e (by rw [List.length_append] at b1; simp; omega), ← List.map_append]
        simp only [wpo_some, home_lst, put]
        exact ⟨l ++ [.lst ((acc ++ y.filter fun b => !decide (b ∈ acc)).map .int)], (m ++ l).length, _, _, List.append_assoc _ _ _, rfl, List.getElem?_concat_length⟩
  · obtain ⟨l, q, o2, o3, rfl, rfl, e⟩ := I
    rw [show (encs ls).length = ls.length by rw [encs_len], List.take_length] at e
    rw [seqQ_nx]
    simp only [w_var, w_con, w_nil, w_cons, w_tup, w_lst, w_bin, w_cmp, w_tand, w_tor, w_tnot, w_tru, w_vand, w_vor, w_vnot, w_one, w_turn, w_ife, w_callp, w_bi, w_isin, w_idx, w_slc, w_nd, w_meth, w_comp, w_snil, w_single, w_asg, w_setix, w_exp, w_ret, w_ifs, w_fors, w_whil, w_brk, w_pass, wpo_some, wpb_some, wpa_tup, wpt_some, wif_bl, wp_ifB, wp_ok, get, put, home_int, home_bl, home_non, home_str, home_tup, home_adr, home_fro, home_lst, homes, assignT, assignTs, pick, List.map, List.replicate, List.cons_append, List.nil_append, List.append_nil, List.getD_cons_zero, List.getD_cons_succ]
    rw [show biD .sorted [.adr q] (m ++ l) = some (.lst ((joinA ls).map .int)) by
      show (itemsL (m ++ l) (.adr q)).bind (fun xs => (sortD xs).map D.lst) = _
      unfold itemsL
      rw [show deref (m ++ l) (.adr q) = some (.lst ((uni ls []).map .int)) from e]
      show (sortD ((uni ls []).map .int)).map D.lst = _
      rw [sort_ints]
      rfl]
    simp only [wpo_some]
    rw [bi_tupT]
    simp only [wpo_some]
    refine fin_ret (below_encI m.length (joinA ls)) ?_
    rw [List.take_left]
    exact h
/-! ### stands_for -/
def pickLs (lots : List Lot) (s : Lot) : List Lot := s.map fun b => lots.getD b.toNat []
def standsL (ys lots : List Lot) : List Lot := (lotsI lots.length).filter fun s => decide (joinA (pickLs lots s) ∈ ys)
theorem pick_in {lots : List Lot} (hl : lots.length ≤ 6) {s : Lot} (hs : s ∈ lotsI lots.length) : ∀ l ∈ pickLs lots s, l ∈ lots := fun l h => by
  obtain ⟨b, hb, rfl⟩ := List.mem_map.mp h
  obtain ⟨b0, b1⟩ := (lots_mem hl hs).2 b hb
  have hb : b.toNat < lots.length := by omega
  rw [List.getD_eq_getElem?_getD, List.getElem?_eq_getElem hb]
  exact List.getElem_mem hb
theorem sum_six : ∀ {ls : List Lot}, (∀ l ∈ ls, l.length ≤ 6) → (ls.map List.length).sum ≤ 6 * ls.length
  | [], _ => by simp
  | l :: ls, h => by
    have := h l List.mem_cons_self
    have := sum_six (ls := ls) fun l hl => h l (List.mem_cons_of_mem _ hl)
    simp
    omega
/-- [lots[bell] for bell in s] -/
def lotAtD (lots : List Lot) : D → D
  | .int b => encI (lots.getD b.toNat [])
  | d => d
theorem turns_pick {C : Cf} {ρ : Env} {lots : List Lot} {s : Lot} {a b : Nat} {Q : List D → Hm → Prop} (hs : s ∈ lotsI lots.length) (hl : lots.length ≤ 6) (ha : ∀ i, get (put (wipe ρ [b]) b (.int i)) a = some (.tup (encs lots))) (hb : ∀ i, get (put (wipe ρ [b]) b (.int i)) b = some (.int i)) (q : Q (encs (pickLs lots s)) m) :
    wp (turns (snap (s.map D.int)) (oneCW C (.nm b) (.con (.bl true)) (.idx (.var a) (.var b)) [b] ρ) (s.map D.int).length 0 [] m) Q := by
  refine turns_pure (fun _ => true) (lotAtD lots) (fun j _ => snap_at _ _ _) (Nat.le_refl _) (fun d hd acc => ?_) ?_
  · obtain ⟨c, hc, rfl⟩ := List.mem_map.mp hd
    rw [w_one]
    simp only [assignT, wpt_some, w_con, wif_bl, w_idx, w_var, ha, hb, wpo_some, home_int, if_true]
    obtain ⟨b0, b1⟩ := (lots_mem hl hs).2 c hc
    obtain ⟨j, rfl⟩ := Int.eq_ofNat_of_zero_le b0
    have hj : j < lots.length := by omega
    rw [idx_at (xs := encs lots) (.inr (.inl rfl)) (j := j) (d := encI lots[j]) (by unfold encs; rw [List.getElem?_map, List.getElem?_eq_getElem hj]; rfl)]
    simp only [wpo_some, home_enc, lotAtD]
    simp [List.getD_eq_getElem?_getD, hj]
  · have e : ((s.map D.int).filter fun _ => true).map (lotAtD lots) = encs (pickLs lots s) := by
      rw [List.filter_eq_self.mpr (by simp), List.map_map]
      unfold pickLs encs
      rw [List.map_map]
      rfl
    rw [e]
    exact q
theorem sf_ok {pl a b jl o : Nat} (hL : LamF F pl a b) (hJ : F jl = some ⟨1, 4, cJl⟩) (hO : F o = some ⟨2, 2, cSf pl jl b⟩) {k j : Nat} (hj : j ≤ 6) {lots : List Lot} (hk : lots.length ≤ 6) (hl : ∀ l ∈ lots, l ∈ lotsI j) (ys : List Lot) (Q : D → Hm → Prop) (h : Q (cnd lots.length (standsL ys lots)) m) : wp (callN F wf (n + 3) none o [cnd k ys, .tup (encs lots)] m) Q := by
  refine w_call hO rfl ?_
  dsimp only [cSf]
  rw [w_single, w_ret]
  refine w_callc (xs := [.int (lots.length : Int)]) (cs := [cnd k ys, .tup (encs lots)]) (m1 := m) (m2 := m) (d := cnd lots.length (standsL ys lots)) (wp_eq (by
    simp only [w_var, w_con, w_nil, w_cons, w_tup, w_lst, w_bin, w_cmp, w_tand, w_tor, w_tnot, w_tru, w_vand, w_vor, w_vnot, w_one, w_turn, w_ife, w_callp, w_bi, w_isin, w_idx, w_slc, w_nd, w_meth, w_comp, w_snil, w_single, w_asg, w_setix, w_exp, w_ret, w_ifs, w_fors, w_whil, w_brk, w_pass, wpo_some, wpb_some, wpa_tup, wpt_some, wif_bl, wp_ifB, wp_ok, get, put, home_int, home_bl, home_non, home_str, home_tup, home_adr, home_fro, home_lst, homes, assignT, assignTs, pick, List.map, List.replicate, List.cons_append, List.nil_append, List.append_nil, List.getD_cons_zero, List.getD_cons_succ]
    rw [bi_lenW, show lenD m (.tup (encs lots)) = some (.int lots.length) by show some (D.int ((encs lots).length : Nat)) = _; rw [encs_len]]
    simp only [wpo_some]
    exact ⟨trivial, trivial⟩)) (by rfl) (fun g c vs => ?_) ?_
  · refine by_lam (g := g) (c := c) (n := n) hL.toLamB hk (fun s => decide (joinA (pickLs lots s) ∈ ys)) fun s hs => lam_bl ?_
    simp only [w_var, w_con, w_nil, w_cons, w_tup, w_lst, w_bin, w_cmp, w_tand, w_tor, w_tnot, w_tru, w_vand, w_vor, w_vnot, w_one, w_turn, w_ife, w_callp, w_bi, w_isin, w_idx, w_slc, w_nd, w_meth, w_comp, w_snil, w_single, w_asg, w_setix, w_exp, w_ret, w_ifs, w_fors, w_whil, w_brk, w_pass, wpo_some, wpb_some, wpa_tup, wpt_some, wif_bl, wp_ifB, wp_ok, get, put, home_int, home_bl, home_non, home_str, home_tup, home_adr, home_fro, home_lst, homes, assignT, assignTs, pick, List.map, List.replicate, List.cons_append, List.nil_append, List.append_nil, List.getD_cons_zero, List.getD_cons_succ]
    try simp only [List.map_cons, List.map_nil, List.cons_append, List.nil_append, List.replicate, get, wpo_some]
    refine ⟨_, _, src_enc _, isBig_of ?_, turns_pick hs hk (fun _ => rfl) (fun _ => rfl) ?_⟩
    · have := lots_len1 hk hs; simp; omega
    (try simp only [homes, home_cnd, home_enc, home_adr, home_int, home_bl, home_tup, home_non, home_str, home_lst, pick, List.nil_append, List.append_nil, List.getD_cons_zero, List.getD_cons_succ])
    have hin := pick_in hk hs
    refine jl_ok (n := n + 1) (m := m ++ [.lst (encs (pickLs lots s))]) (ls := pickLs lots s) hJ (.inr ⟨_, rfl, List.getElem?_concat_length⟩) (fun l h => asc_nodup (lots_asc hj (hl l (hin l h)))) ?_ _ ?_
    · have := sum_six (ls := pickLs lots s) fun l h => lots_len1 hj (hl l (hin l h))
      have := lots_len1 hk hs
      have : (pickLs lots s).length = s.length := by simp [pickLs]
      omega
    (try simp only [homes, home_cnd, home_enc, home_adr, home_int, home_bl, home_tup, home_non, home_str, home_lst, pick, List.nil_append, List.append_nil, List.getD_cons_zero, List.getD_cons_succ])
    refine pls_ok (n := n + 1) hL ys _ _ ?_
    exact ⟨rfl, _, rfl⟩
  · refine fin_ret (below_cnd m.length _ _) ?_
    rw [List.take_of_length_le (Nat.le_refl _)]
    exact h
theorem ls_ok (hC : ComL F) {lj o : Nat} (hJ : F lj = some ⟨1, 4, cLj⟩) (hO : F o = some ⟨2, 5, cLs lj⟩) {k j : Nat} (hj : j ≤ 6) {lots : List Lot} (hk : lots.length ≤ 6) (hl : ∀ l ∈ lots, l ∈ lotsI j) (ys : List Lot) (Q : D → Hm → Prop) (h : Q (cnd lots.length (standsL ys lots)) m) : wp (callN F wf (n + 2) none o [cnd k ys, .tup (encs lots)] m) Q := by
  refine w_call hO rfl ?_
  dsimp only [cLs]
  have eL : ∀ m : Hm, biD .len [.tup (encs lots)] m = some (.int (lots.length : Int)) := fun m => by
    show some (D.int ((encs lots).length : Nat)) = _
    rw [encs_len]
  rw [w_scons]
  simp only [w_var, w_con, w_nil, w_cons, w_tup, w_lst, w_bin, w_cmp, w_tand, w_tor, w_tnot, w_tru, w_vand, w_vor, w_vnot, w_one, w_turn, w_ife, w_callp, w_bi, w_isin, w_idx, w_slc, w_nd, w_meth, w_comp, w_snil, w_single, w_asg, w_setix, w_exp, w_ret, w_ifs, w_fors, w_whil, w_brk, w_pass, wpo_some, wpb_some, wpa_tup, wpt_some, wif_bl, wp_ifB, wp_ok, get, put, home_int, home_bl, home_non, home_str, home_tup, home_adr, home_fro, home_lst, homes, assignT, assignTs, pick, List.map, List.replicate, List.cons_append, List.nil_append, List.append_nil, List.getD_cons_zero, List.getD_cons_succ]
  rw [eL]
  simp only [wpo_some]
  (try simp only [homes, home_cnd, home_enc, home_adr, home_int, home_bl, home_tup, home_non, home_str, home_lst, pick, List.nil_append, List.append_nil, List.getD_cons_zero, List.getD_cons_succ])
  refine lots_ok (n := n) hC (by omega) _ ?_
  let p' : D → Bool := fun d => match d with | .tup xs => decide (joinA (pickLs lots ((asInts xs).getD [])) ∈ ys) | _ => false
  have hp : ∀ x : Lot, p' (encI x) = decide (joinA (pickLs lots x) ∈ ys) := fun x => by show decide (joinA (pickLs lots ((asInts (x.map .int)).getD [])) ∈ ys) = _; rw [asInts_map]; rfl
  refine ⟨_, _, src_lst _, isBig_of (by rw [encs_len]; have := lots_len hk; omega), turns_grow (xs := encs (lotsI lots.length)) p' id (fun i _ _ => snap_at _ _ _) (Nat.le_refl _) (fun d hd acc l => ?_) (fun l => ?_)⟩
  · obtain ⟨s, hs, rfl⟩ := List.mem_map.mp hd
    have hin := pick_in hk hs
    rw [hp, w_one]
    simp only [assignT, wipe, clr, put, wpt_some]
    simp only [w_var, w_con, w_nil, w_cons, w_tup, w_lst, w_bin, w_cmp, w_tand, w_tor, w_tnot, w_tru, w_vand, w_vor, w_vnot, w_one, w_turn, w_ife, w_callp, w_bi, w_isin, w_idx, w_slc, w_nd, w_meth, w_comp, w_snil, w_single, w_asg, w_setix, w_exp, w_ret, w_ifs, w_fors, w_whil, w_brk, w_pass, wpo_some, wpb_some, wpa_tup, wpt_some, wif_bl, wp_ifB, wp_ok, get, put, home_int, home_bl, home_non, home_str, home_tup, home_adr, home_fro, home_lst, homes, assignT, assignTs, pick, List.map, List.replicate, List.cons_append, List.nil_append, List.append_nil, List.getD_cons_zero, List.getD_cons_succ]
    refine ⟨_, _, src_enc _, isBig_of ?_, turns_pick hs hk (fun _ => rfl) (fun _ => rfl) ?_⟩
    · have := lots_len1 hk hs; simp; omega
    (try simp only [homes, home_cnd, home_enc, home_adr, home_int, home_bl, home_tup, home_non, home_str, home_lst, pick, List.nil_append, List.append_nil, List.getD_cons_zero, List.getD_cons_succ])
    refine lj_ok (n := n) (m := m ++ l ++ [.lst (encs (pickLs lots s))]) (ls := pickLs lots s) hJ (.inr ⟨_, rfl, List.getElem?_concat_length⟩) ?_ _ ?_
    · have := sum_six (ls := pickLs lots s) fun l h => lots_len1 hj (hl l (hin l h))
      have := lots_len1 hk hs
      have : (pickLs lots s).length = s.length := by simp [pickLs]
      omega
    rw [cnd_1]
    simp only [wpo_some]
    rw [c_in]
    simp only [wpb_some, wif_bl, home_enc]
    by_cases e : joinA (pickLs lots s) ∈ ys <;> simp [e, List.append_assoc]
  · have e : ((encs (lotsI lots.length)).filter p').map id = encs (standsL ys lots) := by
      unfold encs standsL
      rw [List.map_id, List.filter_map]
      congr 1
      exact List.filter_congr fun x _ => hp x
    rw [e]
    try simp only [home_lst, put]
    have ea : (m ++ l ++ [D.lst (encs (standsL ys lots))])[(m ++ l).length]? = some (.lst (encs (standsL ys lots))) := List.getElem?_concat_length
    rw [seqQ_nx]
    simp only [w_var, w_con, w_nil, w_cons, w_tup, w_lst, w_bin, w_cmp, w_tand, w_tor, w_tnot, w_tru, w_vand, w_vor, w_vnot, w_one, w_turn, w_ife, w_callp, w_bi, w_isin, w_idx, w_slc, w_nd, w_meth, w_comp, w_snil, w_single, w_asg, w_setix, w_exp, w_ret, w_ifs, w_fors, w_whil, w_brk, w_pass, wpo_some, wpb_some, wpa_tup, wpt_some, wif_bl, wp_ifB, wp_ok, get, put, home_int, home_bl, home_non, home_str, home_tup, home_adr, home_fro, home_lst, homes, assignT, assignTs, pick, List.map, List.replicate, List.cons_append, List.nil_append, List.append_nil, List.getD_cons_zero, List.getD_cons_succ]
    rw [eL]
    simp only [wpo_some]
    rw [bi_tupl ea]
    simp only [wpo_some]
    (try simp only [homes, home_cnd, home_enc, home_adr, home_int, home_bl, home_tup, home_non, home_str, home_lst, pick, List.nil_append, List.append_nil, List.getD_cons_zero, List.getD_cons_succ])
    refine fin_ret (below_cnd m.length lots.length _) ?_
    rw [List.append_assoc, List.take_left]
    exact h
end
end Bell
end

section
set_option maxRecDepth 100000
/-! what stands_for keeps -/
namespace Bell
open PySem (Str)
def ones (x : Lot) : List Lot := x.map fun b => [b]
theorem ones_len (x : Lot) : (ones x).length = x.length := by simp [ones]
theorem pick_ones {x s : Lot} (hl : x.length ≤ 6) (hs : s ∈ lotsI x.length) : pickLs (ones x) s = ones (subL x s) := by
  unfold pickLs ones subL
  rw [List.map_map]
  refine List.map_congr_left fun b hb => ?_
  obtain ⟨b0, b1⟩ := (lots_mem hl hs).2 b hb
  have hb : b.toNat < x.length := by omega
  simp [List.getD_eq_getElem?_getD, hb]
theorem stands_ones {k : Nat} (hk : k ≤ 6) (ys : List Lot) {lot : Lot} (hl : lot ∈ lotsI k) : standsL ys (ones lot) = onlyL ys lot := by
  have hj : lot.length ≤ 6 := by have := lot_le hk hl; omega
  unfold standsL onlyL
  rw [ones_len]
  refine List.filter_congr fun s hs => ?_
  rw [pick_ones hj hs, show joinA (ones (subL lot s)) = subL lot s from join_ones (lots_asc hk (sub_mem hk hl hs))]
theorem stands_id {most k : Nat} {ys : List Lot} (hc : IsC most k ys) : standsL ys (ones (idL k)) = ys := by
  rw [stands_ones hc.six ys (idL_mem hc.pos hc.six), only_id hc]
theorem pick_map {more : List Lot} (f : Lot → Lot) (hl : more.length ≤ 6) {s : Lot} (hs : s ∈ lotsI more.length) : pickLs (more.map f) s = (pickLs more s).map f := by
  unfold pickLs
  rw [List.map_map]
  refine List.map_congr_left fun b hb => ?_
  obtain ⟨b0, b1⟩ := (lots_mem hl hs).2 b hb
  have hb : b.toNat < more.length := by omega
  simp [List.getD_eq_getElem?_getD, hb]
theorem mem_pick {x : Int} {lots : List Lot} {s : Lot} : (∃ l ∈ pickLs lots s, x ∈ l) ↔ ∃ b ∈ s, x ∈ lots.getD b.toNat [] := by
  unfold pickLs
  constructor
  · rintro ⟨l, hl, hx⟩
    obtain ⟨b, hb, rfl⟩ := List.mem_map.mp hl
    exact ⟨b, hb, hx⟩
  · rintro ⟨b, hb, hx⟩
    exact ⟨_, List.mem_map.mpr ⟨b, hb, rfl⟩, hx⟩
theorem nodup_pick {j : Nat} (hj : j ≤ 6) {lots : List Lot} (hl : ∀ l ∈ lots, l ∈ lotsI j) (s : Lot) : ∀ l ∈ pickLs lots s, l.Nodup := fun l h => by
  obtain ⟨b, hb, rfl⟩ := List.mem_map.mp h
  rw [List.getD_eq_getElem?_getD]
  cases q : lots[b.toNat]? with
  | none => exact List.nodup_nil
  | some l => exact asc_nodup (lots_asc hj (hl l (List.mem_of_getElem? q)))
theorem join_join {j : Nat} (hj : j ≤ 6) {lots more : List Lot} (hl : ∀ l ∈ lots, l ∈ lotsI j) (hm : more.length ≤ 6) {s : Lot} (hs : s ∈ lotsI more.length) : joinA (pickLs lots (joinA (pickLs more s))) = joinA (pickLs (more.map fun t => joinA (pickLs lots t)) s) := by
  refine asc_ext (join_asc (nodup_pick hj hl _)) (join_asc fun l h => ?_) fun x => ?_
  · rw [pick_map _ hm hs] at h
    obtain ⟨t, _, rfl⟩ := List.mem_map.mp h
    exact asc_nodup (join_asc (nodup_pick hj hl _))
  · rw [join_mem', mem_pick, join_mem', pick_map _ hm hs]
    constructor
    · rintro ⟨b, hb, hx⟩
      obtain ⟨t, ht, hb⟩ := join_mem'.mp hb
      exact ⟨_, List.mem_map.mpr ⟨t, ht, rfl⟩, join_mem'.mpr (mem_pick.mpr ⟨b, hb, hx⟩)⟩
    · rintro ⟨l, hl2, hx⟩
      obtain ⟨t, ht, rfl⟩ := List.mem_map.mp hl2
      obtain ⟨b, hb, hx⟩ := mem_pick.mp (join_mem'.mp hx)
      exact ⟨b, join_mem'.mpr ⟨t, ht, hb⟩, hx⟩
theorem stands_stands {j : Nat} (hj : j ≤ 6) (ys : List Lot) {lots more : List Lot} (hl : ∀ l ∈ lots, l ∈ lotsI j) (h6 : lots.length ≤ 6) (hm : more.length ≤ 6) (hin : ∀ t ∈ more, t ∈ lotsI lots.length) : standsL (standsL ys lots) more = standsL ys (more.map fun t => joinA (pickLs lots t)) := by
  unfold standsL
  rw [List.length_map]
  refine List.filter_congr fun s hs => ?_
  rw [decide_eq_decide, List.mem_filter, join_join hj hl hm hs]
  have h1 : joinA (pickLs more s) ∈ lotsI lots.length := joins_lots h6 (fun l h => hin l (pick_in hm hs l h)) (by
    have := (lots_mem hm hs).1
    unfold pickLs
    simpa using this)
  simp [h1]
end Bell
end

section
set_option maxRecDepth 100000
/-! forms told by one another -/
namespace Bell
open PySem (Str)
theorem some_tab : ∀ k : Fin 7, ((lotsI k).all fun w => (lotsI k).all fun x => someP w x == ranksP ((idL k).map fun b => if b ∈ w then 0 else 1) x) = true := by decide +kernel
theorem some_ranks {k : Nat} (hk : k ≤ 6) {w : Lot} (hw : w ∈ lotsI k) : (lotsI k).filter (someP w) = (lotsI k).filter (ranksP ((idL k).map fun b => if b ∈ w then 0 else 1)) := by
  refine List.filter_congr fun x hx => ?_
  have := List.all_eq_true.mp (List.all_eq_true.mp (some_tab ⟨k, by omega⟩) w hw) x hx
  exact beq_iff_eq.mp this
theorem minI_succ : ∀ xs : List Int, minI (xs.map (· + 1)) = (minI xs).map (· + 1)
  | [] => rfl
  | x :: xs => by
    rw [List.map_cons]
    unfold minI
    rw [minI_succ xs]
    cases minI xs with
    | none => rfl
    | some y =>
      dsimp only [Option.map_some]
      by_cases h : y < x
      · rw [if_pos h, if_pos (by omega)]
      · rw [if_neg h, if_neg (by omega)]
theorem ranks_succ {k : Nat} (hk : k ≤ 6) {w x : Lot} (hw : w.length = k) (hx : x ∈ lotsI k) : ranksP (w.map (· + 1)) x = !ranksP w x := by
  unfold ranksP
  have e : (x.map fun b => (w.map (· + 1)).getD b.toNat 0) = (x.map fun b => w.getD b.toNat 0).map (· + 1) := by
    rw [List.map_map]
    refine List.map_congr_left fun b hb => ?_
    obtain ⟨b0, b1⟩ := (lots_mem hk hx).2 b hb
    have hb : b.toNat < w.length := by omega
    simp [List.getD_eq_getElem?_getD, hb]
  rw [e, minI_succ]
  obtain ⟨z, hz⟩ := minI_some (xs := x.map fun b => w.getD b.toNat 0) (by simpa using (lots_mem hk hx).1)
  rw [hz]
  simp only [Option.map_some, Option.getD_some]
  by_cases h : z % 2 = 0
  · have : ¬ (z + 1) % 2 = 0 := by omega
    simp [h, this]
  · have : (z + 1) % 2 = 0 := by omega
    simp [h, this]
theorem other_filter {l : List Lot} (p : Lot → Bool) : (l.filter fun x => !decide (x ∈ l.filter p)) = l.filter fun x => !p x := by
  refine List.filter_congr fun x hx => ?_
  rw [show decide (x ∈ l.filter p) = p x by
    rw [Bool.eq_iff_iff, decide_eq_true_eq, List.mem_filter]
    simp [hx]]
theorem other_ranks {k : Nat} (hk : k ≤ 6) {w : Lot} (hw : w.length = k) : ((lotsI k).filter fun x => !decide (x ∈ (lotsI k).filter (ranksP w))) = (lotsI k).filter (ranksP (w.map (· + 1))) := by
  rw [other_filter]
  exact List.filter_congr fun x hx => (ranks_succ hk hw hx).symm
theorem other_other {most k : Nat} {ys : List Lot} (hc : IsC most k ys) : ((lotsI k).filter fun x => !decide (x ∈ (lotsI k).filter fun x => !decide (x ∈ ys))) = ys := by
  rw [other_filter]
  refine Eq.trans (List.filter_congr fun x _ => ?_) (filter_sub (lots_nodup hc.six) hc.sub)
  simp
def twoL (b : Nat) : List Lot := ones (idL (b - 1)) ++ [[(b : Int) - 1, b]]
theorem two_tab : ∀ b : Fin 6, 1 ≤ b.val → standsL ((lotsI (b + 1)).filter (allP (b + 1))) (twoL b) = (lotsI b).filter (allP b) ∧ ((twoL b).all fun x => (lotsI (b + 1)).contains x) = true ∧ (twoL b).length = b.val := by decide +kernel
def restL (p : Int) : Lot := (idL 6).filter fun b => !decide (b ∈ [2 * p, 2 * p + 1])
theorem pairs_tab5 : ∀ p : Fin 3, onlyL ((lotsI 6).filter fun x => givenB x 3) (restL p.val) = ((lotsI 4).filter fun x => givenB x 2) ∧ onlyL ((lotsI 6).filter fun x => givenB x 3) [2 * (p.val : Int)] = [] ∧ (restL p.val).length = 4 := by decide +kernel
section
variable {F : Nat → Option Fd} {wf n : Nat} {m : Hm}
/-- a comprehension of whole numbers -/
def mapD (f : Int → Int) : D → D
  | .int i => .int (f i)
  | d => d
theorem turns_mapI {C : Cf} {ρ : Env} {x : Lot} {b : Nat} {e : E} {Q : List D → Hm → Prop} (f : Int → Int) (h : ∀ i ∈ x, wp (ev C e (put (wipe ρ [b]) b (.int i)) m) fun d m' => d = .int (f i) ∧ m' = m) (q : Q ((x.map f).map D.int) m) :
    wp (turns (snap (x.map D.int)) (oneCW C (.nm b) (.con (.bl true)) e [b] ρ) (x.map D.int).length 0 [] m) Q := by
  refine turns_pure (fun _ => true) (mapD f) (fun j _ => snap_at _ _ _) (Nat.le_refl _) (fun d hd acc => ?_) ?_
  · obtain ⟨i, hi, rfl⟩ := List.mem_map.mp hd
    rw [w_one]
    simp only [assignT, wpt_some, w_con, wif_bl, if_true]
    refine (h i hi).mono fun d m' q => ?_
    obtain ⟨rfl, rfl⟩ := q
    exact ⟨rfl, rfl⟩
  · have e : ((x.map D.int).filter fun _ => true).map (mapD f) = (x.map f).map D.int := by
      rw [List.filter_eq_self.mpr (by simp), List.map_map, List.map_map]
      rfl
    rw [e]
    exact q
/-- tuple([(bell,) for bell in ..]) -/
def oneD : D → D
  | .int b => .tup [.int b]
  | d => d
theorem ones_enc (x : Lot) : ((x.map D.int).filter fun _ => true).map oneD = encs (ones x) := by
  rw [List.filter_eq_self.mpr (by simp), List.map_map]
  unfold encs ones
  rw [List.map_map]
  rfl
theorem turns_ones {C : Cf} {ρ : Env} {m : Hm} {x : Lot} {b : Nat} {Q : List D → Hm → Prop} (hb : ∀ i, get (put (wipe ρ [b]) b (.int i)) b = some (.int i)) (q : Q (encs (ones x)) m) :
    wp (turns (snap (x.map D.int)) (oneCW C (.nm b) (.con (.bl true)) (.tup (.cons (.var b) .nil)) [b] ρ) (x.map D.int).length 0 [] m) Q := by
  refine turns_pure (fun _ => true) oneD (fun j _ => snap_at _ _ _) (Nat.le_refl _) (fun d hd acc => ?_) (by rw [ones_enc]; exact q)
  obtain ⟨c, hc, rfl⟩ := List.mem_map.mp hd
  rw [w_one]
  simp only [assignT, wpt_some, w_con, wif_bl, w_tup, w_cons, w_nil, w_var, hb, wpo_some, wpa_tup, if_true, homes, home_int, home_tup]
  exact ⟨trivial, rfl⟩
theorem src_rngI (j : Nat) (hj : j ≤ 1000) {m : Hm} : src .rng [.int (j : Int)] m = some (snap ((idL j).map D.int), ((idL j).map D.int).length) := by
  rw [src_rng (by omega) (by omega)]
  have : D.tup (rangeL 0 j) = encI (idL j) := rng_id j
  have h2 : rangeL 0 j = (idL j).map D.int := by injection this
  rw [show (j : Int).toNat = j by omega, h2]
  simp [idL_len]
theorem ones_in {j : Nat} (h6 : j ≤ 6) {w : Lot} (hw : w ∈ lotsI j) : ∀ x ∈ ones w, x ∈ lotsI j := fun x hx => by
  obtain ⟨b, hb, rfl⟩ := List.mem_map.mp hx
  exact (lots_iff h6).mpr ⟨by simp, List.pairwise_singleton _ _, fun c hc => by rw [List.mem_singleton.mp hc]; exact (lots_mem h6 hw).2 b hb⟩
end
end Bell
end

section
set_option maxRecDepth 100000
set_option maxHeartbeats 2000000
/-! minds by a look at each node; minds of forms -/
namespace Bell
open PySem (Str)
/-- how many minds a node asks of the hand that wants what h tells -/
def mindF (k : Nat) (ys : List Lot) (h : Bool) : Nat → Lot → Int
  | 0, _ => 1
  | f + 1, lot => valOf (decide (lot ∈ ys) == h) ((kids k ys lot).map (mindF k ys h f))
section
variable {k N : Nat} {ys : List Lot}
theorem kid_list_at (h1 : 1 ≤ k) (hk : k ≤ 6) (E : Ends k ys N) {t : Nat} (ht : t < N) : kids k ys (lotAt k ys t) = (List.range (qAt k ys t)).map fun c => lotAt k ys (aAt k ys t + c) := by
  apply List.ext_getElem?
  intro c
  by_cases hc : c < qAt k ys t
  · rw [kid_at h1 hk E ht hc, List.getElem?_map, List.getElem?_range hc]
    rfl
  · rw [List.getElem?_eq_none (by show (kids k ys (lotAt k ys t)).length ≤ c; exact Nat.le_of_not_lt hc), List.getElem?_eq_none (by simp; omega)]
theorem v_mindF (h1 : 1 ≤ k) (hk : k ≤ 6) (E : Ends k ys N) (h : Bool) : ∀ (f t : Nat), t < N → (lotAt k ys t).length ≤ f → vAt k ys N (fun t => decide (lotAt k ys t ∈ ys) == h) t = mindF k ys h f (lotAt k ys t)
  | 0, t, ht, hl => by
    have := lot_pos hk (lotAt_mem h1 hk E ht)
    omega
  | f + 1, t, ht, hl => by
    rw [v_eq h1 hk E _ ht]
    unfold mindF
    congr 1
    rw [kid_list_at h1 hk E ht, List.map_map]
    unfold kidV
    refine List.map_congr_left fun c hc => ?_
    rw [List.mem_range] at hc
    obtain ⟨b1, b2⟩ := aq_le h1 hk E ht
    have hlt : aAt k ys t + c < N := by omega
    simp only [Function.comp]
    refine v_mindF h1 hk E h f _ hlt ?_
    have hkid := kid_at h1 hk E ht hc
    have := kid_len hk (lotAt_mem h1 hk E ht) (List.mem_of_getElem? hkid)
    omega
/-- how many minds a condition asks of a hand -/
def mindOf (k : Nat) (ys : List Lot) (h : Bool) : Int := mindF k ys h k (full k)
theorem mind_v (h1 : 1 ≤ k) (hk : k ≤ 6) (E : Ends k ys N) (h : Bool) : vAt k ys N (fun t => decide (lotAt k ys t ∈ ys) == h) 0 = mindOf k ys h := by
  have := v_mindF h1 hk E h k 0 E.pos (by show (full k).length ≤ k; simp [full])
  exact this
/-! ### the other condition -/
def otherL (k : Nat) (ys : List Lot) : List Lot := (lotsI k).filter fun x => !decide (x ∈ ys)
theorem other_mem {x : Lot} (hx : x ∈ lotsI k) : decide (x ∈ otherL k ys) = !decide (x ∈ ys) := by
  rw [Bool.eq_iff_iff, decide_eq_true_eq]
  unfold otherL
  rw [List.mem_filter]
  simp [hx]
theorem others_other {lot : Lot} (hl : lot ∈ lotsI k) : others k (otherL k ys) lot = others k ys lot := by
  unfold others
  refine List.filter_congr fun x hx => ?_
  rw [other_mem hx, other_mem hl]
  cases decide (x ∈ ys) <;> cases decide (lot ∈ ys) <;> rfl
theorem kids_other {lot : Lot} (hl : lot ∈ lotsI k) : kids k (otherL k ys) lot = kids k ys lot := by
  unfold kids
  rw [others_other hl]
theorem mindF_other (h : Bool) : ∀ (f : Nat) (lot : Lot), lot ∈ lotsI k → mindF k (otherL k ys) h f lot = mindF k ys (!h) f lot
  | 0, _, _ => rfl
  | f + 1, lot, hl => by
    unfold mindF
    rw [kids_other hl, other_mem hl]
    congr 1
    · cases decide (lot ∈ ys) <;> cases h <;> rfl
    · exact List.map_congr_left fun x hx => mindF_other h f x (kids_sub hx).1
theorem mind_other (h1 : 1 ≤ k) (hk : k ≤ 6) (h : Bool) : mindOf k (otherL k ys) h = mindOf k ys (!h) := mindF_other h k _ (idL_mem h1 hk)
end
/-! ### forms -/
theorem all_minds : ∀ k : Fin 7, 1 ≤ k.val → mindOf k ((lotsI k).filter (allP k)) true = k.val ∧ mindOf k ((lotsI k).filter (allP k)) false = 1 := by decide +kernel
theorem some_minds : ∀ k : Fin 7, 1 ≤ k.val → ((lotsI k).all fun w => decide (mindOf k ((lotsI k).filter (someP w)) true = 1) && decide (mindOf k ((lotsI k).filter (someP w)) false = 1)) = true := by decide +kernel
theorem pair_minds : ∀ j : Fin 4, 1 ≤ j.val → mindOf (2 * j) ((lotsI (2 * j)).filter fun x => givenB x j) true = ([1, 1, 2, 6] : List Int).getD j.val 0 ∧ mindOf (2 * j) ((lotsI (2 * j)).filter fun x => givenB x j) false = 1 := by decide +kernel
/-- in how many ways so many can be chosen, turn by turn -/
def chF (n : Nat) : Nat → Int
  | 0 => 1
  | t + 1 => chF n t * ((n : Int) - (t : Int)) / ((t : Int) + 1)
theorem just_minds : ∀ k : Fin 7, ∀ j : Fin 7, 1 ≤ j.val → j.val < k.val → mindOf k ((lotsI k).filter fun x => decide ((x.length : Int) = (j.val : Int))) true = j.val ∧ mindOf k ((lotsI k).filter fun x => decide ((x.length : Int) = (j.val : Int))) false = chF k j := by decide +kernel
theorem mind_one {k : Nat} {ys : List Lot} (h1 : 1 ≤ k) (hk : k ≤ 6) (h : Bool) (hc : ∀ x ∈ unw k ys h, ∀ y ∈ unw k ys h, joinI x y ∈ unw k ys h) : mindOf k ys h = 1 := by
  obtain ⟨N, E⟩ := ends h1 hk ys
  rw [← mind_v h1 hk E h]
  exact (one_iff h1 hk E _).mpr ((closed_iff h1 hk E h).mpr hc)
theorem minI_le : ∀ {xs : List Int} {z : Int}, minI xs = some z → z ∈ xs ∧ ∀ y ∈ xs, z ≤ y
  | [], z, h => by simp [minI] at h
  | x :: xs, z, h => by
    unfold minI at h
    cases q : minI xs with
    | none =>
      rw [q] at h
      cases h
      have : xs = [] := by
        cases xs with
        | nil => rfl
        | cons a l => obtain ⟨z, hz⟩ := minI_some (xs := a :: l) (by simp); rw [hz] at q; cases q
      subst this
      simp
    | some y =>
      rw [q] at h
      obtain ⟨h1, h2⟩ := minI_le q
      dsimp only at h
      by_cases c : y < x
      · rw [if_pos c] at h
        cases h
        exact ⟨List.mem_cons_of_mem _ h1, fun u hu => by
          rcases List.mem_cons.mp hu with rfl | hu
          · omega
          · exact h2 u hu⟩
      · rw [if_neg c] at h
        cases h
        exact ⟨List.mem_cons_self, fun u hu => by
          rcases List.mem_cons.mp hu with rfl | hu
          · omega
          · have := h2 u hu
            omega⟩
theorem ranks_join {w x y : Lot} (hx : x ≠ []) (hy : y ≠ []) : ranksP w (joinI x y) = ranksP w x ∨ ranksP w (joinI x y) = ranksP w y := by
  let f := fun b : Int => w.getD b.toNat 0
  obtain ⟨a, ha⟩ := minI_some (xs := x.map f) (by simpa using hx)
  obtain ⟨b, hb⟩ := minI_some (xs := y.map f) (by simpa using hy)
  have hj : joinI x y ≠ [] := fun e => by
    cases x with
    | nil => exact hx rfl
    | cons c x => have : c ∈ joinI (c :: x) y := join_mem.mpr (.inl List.mem_cons_self); rw [e] at this; cases this
  obtain ⟨c, hc⟩ := minI_some (xs := (joinI x y).map f) (by simpa using hj)
  obtain ⟨a1, a2⟩ := minI_le ha
  obtain ⟨b1, b2⟩ := minI_le hb
  obtain ⟨c1, c2⟩ := minI_le hc
  have e : c = a ∨ c = b := by
    obtain ⟨u, hu, rfl⟩ := List.mem_map.mp c1
    obtain ⟨u1, hu1, e1⟩ := List.mem_map.mp a1
    obtain ⟨u2, hu2, e2⟩ := List.mem_map.mp b1
    have l1 := c2 _ (List.mem_map.mpr ⟨u1, join_mem.mpr (.inl hu1), rfl⟩)
    have l2 := c2 _ (List.mem_map.mpr ⟨u2, join_mem.mpr (.inr hu2), rfl⟩)
    rcases join_mem.mp hu with h | h
    · have := a2 _ (List.mem_map.mpr ⟨u, h, rfl⟩)
      exact .inl (by omega)
    · have := b2 _ (List.mem_map.mpr ⟨u, h, rfl⟩)
      exact .inr (by omega)
  unfold ranksP
  rw [show (x.map fun b => w.getD b.toNat 0) = x.map f from rfl, show (y.map fun b => w.getD b.toNat 0) = y.map f from rfl, show ((joinI x y).map fun b => w.getD b.toNat 0) = (joinI x y).map f from rfl, ha, hb, hc]
  rcases e with rfl | rfl
  · exact .inl rfl
  · exact .inr rfl
theorem ranks_minds {k : Nat} (h1 : 1 ≤ k) (hk : k ≤ 6) (w : Lot) (h : Bool) : mindOf k ((lotsI k).filter (ranksP w)) h = 1 := by
  have hm : ∀ x ∈ lotsI k, decide (x ∈ (lotsI k).filter (ranksP w)) = ranksP w x := fun x hx => by
    rw [Bool.eq_iff_iff, decide_eq_true_eq, List.mem_filter]
    simp [hx]
  refine mind_one h1 hk h fun x hx y hy => ?_
  obtain ⟨xl, xs⟩ := List.mem_filter.mp hx
  obtain ⟨yl, ysn⟩ := List.mem_filter.mp hy
  have hj := join_lots hk xl yl
  refine List.mem_filter.mpr ⟨hj, ?_⟩
  rw [hm _ hj]
  rw [hm _ xl] at xs
  rw [hm _ yl] at ysn
  rcases ranks_join (w := w) (lots_mem hk xl).1 (lots_mem hk yl).1 with e | e
  · rw [e]; exact xs
  · rw [e]; exact ysn
section
variable {F : Nat → Option Fd} {wf n : Nat} {m : Hm}
theorem mindOf_ok (hT : TreeP F) {w r c : Nat} (hW : F w = some ⟨3, 3, cWant⟩) (hR : F r = some ⟨3, 11, cRowM w⟩) (hM : F c = some ⟨2, 2, cMind r⟩) {k : Nat} (h1 : 1 ≤ k) (hk : k ≤ 6) (ys : List Lot) (hwf : 2000 ≤ wf) (hand : Int) (Q : D → Hm → Prop)
    (h : Q (.int (mindOf k ys (hand == 0))) m) : wp (callN F wf (n + 4) none c [cnd k ys, .int hand] m) Q := by
  obtain ⟨N, E⟩ := ends h1 hk ys
  refine mind_ok hT hW hR hM h1 hk ys E hwf hand Q ?_
  rw [← mind_v h1 hk E (hand == 0)] at h
  exact h
def cCh : S := .cons (.asg (.nm 2) (.con (.int 1))) (.cons (.fors .rng (.cons (.var 1) .nil) (.nm 3) (.cons (.asg (.nm 2) (.bin .fdiv (.bin .mul (.var 2) (.bin .sub (.var 0) (.var 3))) (.bin .add (.var 3) (.con (.int 1))))) .nil)) (.cons (.ret (.var 2)) .nil))
theorem ch_ok {c : Nat} (hF : F c = some ⟨2, 4, cCh⟩) {a b : Nat} (ha : a ≤ 1000) (hb : b ≤ 1000) (Q : D → Hm → Prop) (h : Q (.int (chF a b)) m) : wp (callN F wf (n + 1) none c [.int (a : Int), .int (b : Int)] m) Q := by
  refine w_call hF rfl ?_
  dsimp only [cCh]
  rw [w_scons]
  simp only [w_var, w_con, w_nil, w_cons, w_tup, w_lst, w_bin, w_cmp, w_tand, w_tor, w_tnot, w_tru, w_vand, w_vor, w_vnot, w_one, w_turn, w_ife, w_callp, w_bi, w_isin, w_idx, w_slc, w_nd, w_meth, w_comp, w_snil, w_single, w_asg, w_setix, w_exp, w_ret, w_ifs, w_fors, w_whil, w_brk, w_pass, wpo_some, wpb_some, wpa_tup, wpt_some, wif_bl, wp_ifB, wp_ok, get, put, home_int, home_bl, home_non, home_str, home_tup, home_adr, home_fro, home_lst, homes, assignT, assignTs, pick, List.map, List.replicate, List.cons_append, List.nil_append, List.append_nil, List.getD_cons_zero, List.getD_cons_succ]
  (try simp only [homes, home_cnd, home_enc, home_adr, home_int, home_bl, home_tup, home_non, home_str, home_lst, pick, List.nil_append, List.append_nil, List.getD_cons_zero, List.getD_cons_succ])
  rw [seqQ_nx, w_scons]
  simp only [w_var, w_con, w_nil, w_cons, w_tup, w_lst, w_bin, w_cmp, w_tand, w_tor, w_tnot, w_tru, w_vand, w_vor, w_vnot, w_one, w_turn, w_ife, w_callp, w_bi, w_isin, w_idx, w_slc, w_nd, w_meth, w_comp, w_snil, w_single, w_asg, w_setix, w_exp, w_ret, w_ifs, w_fors, w_whil, w_brk, w_pass, wpo_some, wpb_some, wpa_tup, wpt_some, wif_bl, wp_ifB, wp_ok, get, put, home_int, home_bl, home_non, home_str, home_tup, home_adr, home_fro, home_lst, homes, assignT, assignTs, pick, List.map, List.replicate, List.cons_append, List.nil_append, List.append_nil, List.getD_cons_zero, List.getD_cons_succ]
  refine ⟨_, _, src_rng (by omega) (by omega), ?_⟩
  refine loop_inv (xs := rangeL 0 (b : Int).toNat) (fun t ρ m' => m' = m ∧ ∃ o, ρ = [some (.int (a : Int)), some (.int (b : Int)), some (.int (chF a t)), o]) _ (fun _ _ _ _ _ => snap_at _ _ _) (fun t d ρ m' hd I => ?_) (fun ρ m' I => ?_) _ 0 _ _ (Nat.zero_le _) (by rw [rangeL_lenW]; omega) ⟨rfl, _, rfl⟩
  · obtain ⟨rfl, o, rfl⟩ := I
    obtain ⟨ht, rfl⟩ : t < b ∧ d = .int (t : Int) := by
      have h1 := (List.getElem?_eq_some_iff.mp hd).1
      rw [rangeL_lenW] at h1
      rw [rangeL_eq, List.getElem?_map, List.getElem?_range h1] at hd
      simp at hd
      exact ⟨by omega, hd.symm⟩
    rw [w_turn]
    refine ⟨_, rfl, ?_⟩
    dsimp only [put]
    simp only [w_var, w_con, w_nil, w_cons, w_tup, w_lst, w_bin, w_cmp, w_tand, w_tor, w_tnot, w_tru, w_vand, w_vor, w_vnot, w_one, w_turn, w_ife, w_callp, w_bi, w_isin, w_idx, w_slc, w_nd, w_meth, w_comp, w_snil, w_single, w_asg, w_setix, w_exp, w_ret, w_ifs, w_fors, w_whil, w_brk, w_pass, wpo_some, wpb_some, wpa_tup, wpt_some, wif_bl, wp_ifB, wp_ok, get, put, home_int, home_bl, home_non, home_str, home_tup, home_adr, home_fro, home_lst, homes, assignT, assignTs, pick, List.map, List.replicate, List.cons_append, List.nil_append, List.append_nil, List.getD_cons_zero, List.getD_cons_succ]
    simp only [b_sub, b_add, wpo_some]
    rw [b_mulR _ _ _ (by omega)]
    simp only [wpo_some]
    rw [b_div _ _ _ (by omega) (by omega)]
    simp only [wpo_some, home_int, put]
    exact ⟨trivial, _, rfl⟩
  · obtain ⟨rfl, o, rfl⟩ := I
    rw [rangeL_lenW, seqQ_nx]
    simp only [w_var, w_con, w_nil, w_cons, w_tup, w_lst, w_bin, w_cmp, w_tand, w_tor, w_tnot, w_tru, w_vand, w_vor, w_vnot, w_one, w_turn, w_ife, w_callp, w_bi, w_isin, w_idx, w_slc, w_nd, w_meth, w_comp, w_snil, w_single, w_asg, w_setix, w_exp, w_ret, w_ifs, w_fors, w_whil, w_brk, w_pass, wpo_some, wpb_some, wpa_tup, wpt_some, wif_bl, wp_ifB, wp_ok, get, put, home_int, home_bl, home_non, home_str, home_tup, home_adr, home_fro, home_lst, homes, assignT, assignTs, pick, List.map, List.replicate, List.cons_append, List.nil_append, List.append_nil, List.getD_cons_zero, List.getD_cons_succ]
    refine fin_ret (by unfold below; rfl) ?_
    rw [List.take_of_length_le (Nat.le_refl _)]
    exact h
end
end Bell
end

section
set_option maxRecDepth 100000
set_option maxHeartbeats 2000000
/-! bells that stand for lots never ask more -/
namespace Bell
open PySem (Str)
section
variable {k : Nat} {ys : List Lot} {h : Bool}
theorem mindF_pos (k : Nat) (ys : List Lot) (h : Bool) : ∀ (f : Nat) (lot : Lot), 1 ≤ mindF k ys h f lot
  | 0, _ => Int.le_refl _
  | f + 1, lot => by
    unfold mindF
    refine val_pos _ fun x hx => ?_
    obtain ⟨a, _, rfl⟩ := List.mem_map.mp hx
    exact mindF_pos k ys h f a
def sumA (a : Lot → Int) (l : List Lot) : Int := (l.map a).sum
theorem sumA_cons (a : Lot → Int) (x : Lot) (l : List Lot) : sumA a (x :: l) = a x + sumA a l := by unfold sumA; simp
theorem sumA_nn {a : Lot → Int} (ha : ∀ x, 0 ≤ a x) : ∀ l, 0 ≤ sumA a l
  | [] => Int.le_refl _
  | x :: l => by rw [sumA_cons]; have := sumA_nn ha l; have := ha x; omega
theorem sumA_split (a : Lot → Int) (p : Lot → Bool) : ∀ l, sumA a l = sumA a (l.filter p) + sumA a (l.filter fun x => !p x)
  | [] => rfl
  | x :: l => by
    rw [sumA_cons, sumA_split a p l]
    by_cases h : p x = true
    · rw [List.filter_cons_of_pos h, List.filter_cons_of_neg (by simp [h]), sumA_cons]; omega
    · rw [List.filter_cons_of_neg h, List.filter_cons_of_pos (by simp [h]), sumA_cons]; omega
theorem sumA_filter {a : Lot → Int} (ha : ∀ x, 0 ≤ a x) (p : Lot → Bool) (l : List Lot) : sumA a (l.filter p) ≤ sumA a l := by
  have := sumA_split a p l
  have := sumA_nn ha (l.filter fun x => !p x)
  omega
theorem sumA_erase (a : Lot → Int) {x : Lot} : ∀ {l : List Lot}, x ∈ l → sumA a l = a x + sumA a (l.erase x)
  | [], h => by cases h
  | y :: l, h => by
    by_cases e : y = x
    · subst e
      rw [List.erase_cons_head, sumA_cons]
    · rw [List.erase_cons_tail (by simpa using e), sumA_cons, sumA_cons, sumA_erase a ((List.mem_cons.mp h).resolve_left fun z => e z.symm)]
      omega
theorem sumA_sub {a : Lot → Int} (ha : ∀ x, 0 ≤ a x) : ∀ {g l : List Lot}, g.Nodup → (∀ x ∈ g, x ∈ l) → sumA a g ≤ sumA a l
  | [], l, _, _ => sumA_nn ha l
  | x :: g, l, hn, hs => by
    obtain ⟨h1, h2⟩ := List.nodup_cons.mp hn
    rw [sumA_cons, sumA_erase a (hs x List.mem_cons_self)]
    have := sumA_sub ha (g := g) (l := l.erase x) h2 fun y hy => (List.mem_erase_of_ne (fun e => h1 (by rw [← e]; exact hy))).mpr (hs y (List.mem_cons_of_mem _ hy))
    omega
/-- each lies with one of M; those with one weigh no more than it -/
theorem sum_cover {a b : Lot → Int} (ha : ∀ x, 0 ≤ a x) (P : Lot → Lot → Bool) : ∀ (M L : List Lot), (∀ x ∈ L, ∃ y ∈ M, P x y = true) → (∀ y ∈ M, sumA a (L.filter fun x => P x y) ≤ b y) → sumA a L ≤ sumA b M
  | [], [], _, _ => Int.le_refl _
  | [], x :: L, h, _ => by obtain ⟨y, hy, _⟩ := h x List.mem_cons_self; cases hy
  | y :: M, L, h, g => by
    rw [sumA_split a (fun x => P x y) L, sumA_cons]
    have h1 := g y List.mem_cons_self
    have h2 := sum_cover ha P M (L.filter fun x => !P x y) (fun x hx => by
      obtain ⟨hx, hn⟩ := List.mem_filter.mp hx
      obtain ⟨z, hz, hp⟩ := h x hx
      rcases List.mem_cons.mp hz with rfl | hz
      · rw [hp] at hn; cases hn
      · exact ⟨z, hz, hp⟩) fun z hz => by
        refine Int.le_trans ?_ (g z (List.mem_cons_of_mem _ hz))
        rw [show (L.filter fun x => !P x y).filter (fun x => P x z) = (L.filter fun x => P x z).filter fun x => !P x y by
          rw [List.filter_filter, List.filter_filter]
          exact List.filter_congr fun x _ => Bool.and_comm _ _]
        exact sumA_filter ha _ _
    omega
theorem kid_nodup (k : Nat) (hk : k ≤ 6) (ys : List Lot) (lot : Lot) : (kids k ys lot).Nodup := by
  have : (lotsI k).Nodup := (nodup_tab ⟨k, by omega⟩).1
  exact (this.filter _).filter _
theorem others_iff {lot x : Lot} : x ∈ others k ys lot ↔ x ∈ lotsI k ∧ inside x lot = true ∧ decide (x ∈ ys) ≠ decide (lot ∈ ys) := by
  unfold others
  rw [List.mem_filter, Bool.and_eq_true, bne_iff_ne]
theorem kids_iff {lot x : Lot} : x ∈ kids k ys lot ↔ x ∈ others k ys lot ∧ ∀ b ∈ others k ys lot, x ≠ b → inside x b = false := by
  unfold kids
  rw [List.mem_filter]
  refine and_congr_right fun _ => ?_
  simp only [Bool.not_eq_true', List.any_eq_false, Bool.and_eq_true, Bool.not_eq_true', decide_eq_false_iff_not, not_and, Bool.not_eq_true]
/-- the lot that a lot of new bells stands for -/
def fL (lots : List Lot) (s : Lot) : Lot := joinA (pickLs lots s)
theorem fL_mem {lots : List Lot} {s : Lot} {x : Int} : x ∈ fL lots s ↔ ∃ b ∈ s, x ∈ lots.getD b.toNat [] := by
  unfold fL
  rw [join_mem']
  exact mem_pick
theorem fL_lots (hk : k ≤ 6) {lots : List Lot} (h6 : lots.length ≤ 6) (hl : ∀ l ∈ lots, l ∈ lotsI k) {s : Lot} (hs : s ∈ lotsI lots.length) : fL lots s ∈ lotsI k :=
  joins_lots hk (fun l h => hl l (pick_in h6 hs l h)) fun e => (lots_mem h6 hs).1 (List.map_eq_nil_iff.mp e)
theorem fL_mono {lots : List Lot} {s t : Lot} (h : inside s t = true) : inside (fL lots s) (fL lots t) = true := inside_iff.mpr fun x hx => by
  obtain ⟨b, hb, hx⟩ := fL_mem.mp hx
  exact fL_mem.mpr ⟨b, inside_iff.mp h b hb, hx⟩
theorem stands_iff {lots : List Lot} {s : Lot} (hs : s ∈ lotsI lots.length) : decide (s ∈ standsL ys lots) = decide (fL lots s ∈ ys) := by
  unfold standsL
  exact decide_eq_decide.mpr (by rw [List.mem_filter]; exact ⟨fun h => of_decide_eq_true h.2, fun h => ⟨hs, decide_eq_true h⟩⟩)
theorem kids_inL {lot x : Lot} (h : x ∈ kids k ys lot) : x ∈ lotsI k := (kids_sub h).1
/-- what several children of S are together is of S's sort, if they are two or more -/
theorem group (hk : k ≤ 6) {S : Lot} {g : List Lot} (hS : S ∈ lotsI k) (hg : ∀ x ∈ g, x ∈ kids k ys S) {c d : Lot} (hc : c ∈ g) (hd : d ∈ g) (ne : c ≠ d) :
    joinA g ∈ lotsI k ∧ inside (joinA g) S = true ∧ decide (joinA g ∈ ys) = decide (S ∈ ys) ∧ ∀ x ∈ g, x ∈ kids k ys (joinA g) := by
  have hn : g ≠ [] := fun e => by rw [e] at hc; cases hc
  have hU : joinA g ∈ lotsI k := joins_lots hk (fun l hl => kids_inL (hg l hl)) hn
  have up : ∀ x ∈ g, inside x (joinA g) = true := fun x hx => inside_iff.mpr fun b hb => join_mem'.mpr ⟨x, hx, hb⟩
  have dn : inside (joinA g) S = true := inside_iff.mpr fun b hb => by
    obtain ⟨l, hl, hb⟩ := join_mem'.mp hb
    exact inside_iff.mp (kids_sub (hg l hl)).2.1 b hb
  have sort : decide (joinA g ∈ ys) = decide (S ∈ ys) := by
    refine Classical.byContradiction fun z => ?_
    have hc2 := (kids_iff.mp (hg c hc)).2 (joinA g) (others_iff.mpr ⟨hU, dn, z⟩)
    have e : c = joinA g := Classical.byContradiction fun w => by
      have := hc2 w
      rw [up c hc] at this
      cases this
    have hd2 := (kids_iff.mp (hg d hd)).2 c (kids_iff.mp (hg c hc)).1 ne.symm
    have := up d hd
    rw [← e, hd2] at this
    cases this
  refine ⟨hU, dn, sort, fun x hx => ?_⟩
  obtain ⟨h1, h2⟩ := kids_iff.mp (hg x hx)
  obtain ⟨h3, h4, h5⟩ := others_iff.mp h1
  refine kids_iff.mpr ⟨others_iff.mpr ⟨h3, up x hx, by rw [sort]; exact h5⟩, fun b hb => h2 b ?_⟩
  obtain ⟨b1, b2, b3⟩ := others_iff.mp hb
  exact others_iff.mpr ⟨b1, inside_iff.mpr fun z hz => inside_iff.mp dn z (inside_iff.mp b2 z hz), by rw [← sort]; exact b3⟩
theorem inside_trans {a b c : Lot} (h : inside a b = true) (g : inside b c = true) : inside a c = true := inside_iff.mpr fun x hx => inside_iff.mp g x (inside_iff.mp h x hx)
theorem stand_le (hk : k ≤ 6) {lots : List Lot} (h6 : lots.length ≤ 6) (hl : ∀ l ∈ lots, l ∈ lotsI k) : ∀ (g : Nat) (Z : Lot), Z ∈ lotsI k → Z.length ≤ g → ∀ (e : Nat) (S : Lot), S ∈ lotsI lots.length → S.length ≤ e → inside (fL lots S) Z = true → mindF lots.length (standsL ys lots) h e S ≤ mindF k ys h g Z
  | 0, Z, hZ, hz, _, _, _, _, _ => by have := lot_pos hk hZ; omega
  | g + 1, Z, hZ, hz, 0, S, hS, hs, _ => by have := lot_pos h6 hS; omega
  | g + 1, Z, hZ, hz, e + 1, S, hS, hs, hin => by
    have kidZ : ∀ D ∈ kids k ys Z, D ∈ lotsI k ∧ D.length ≤ g := fun D hD => ⟨kids_inL hD, by have := kid_len hk hZ hD; omega⟩
    have ge : ∀ D ∈ kids k ys Z, mindF k ys h g D ≤ mindF k ys h (g + 1) Z := fun D hD => by
      rw [mindF]
      exact val_ge _ (fun x hx => by obtain ⟨a, _, rfl⟩ := List.mem_map.mp hx; exact mindF_pos k ys h g a) (List.mem_map.mpr ⟨D, hD, rfl⟩)
    have into : ∀ X : Lot, X ∈ lotsI k → inside X Z = true → decide (X ∈ ys) ≠ decide (Z ∈ ys) → ∃ D ∈ kids k ys Z, inside X D = true := fun X h1 h2 h3 => lie_in hk ys Z 6 X (others_iff.mpr ⟨h1, h2, h3⟩) (by omega)
    have hfS := fL_lots hk h6 hl hS
    by_cases sz : decide (fL lots S ∈ ys) = decide (Z ∈ ys)
    · have kidS : ∀ C ∈ kids lots.length (standsL ys lots) S, C ∈ lotsI lots.length ∧ C.length ≤ e ∧ ∃ D ∈ kids k ys Z, inside (fL lots C) D = true := fun C hC => by
        obtain ⟨c1, c2, c3⟩ := kids_sub hC
        refine ⟨c1, by have := kid_len h6 hS hC; omega, into _ (fL_lots hk h6 hl c1) (inside_trans (fL_mono c2) hin) ?_⟩
        rw [stands_iff c1, stands_iff hS, sz] at c3
        exact c3
      rw [mindF]
      unfold valOf
      by_cases e0 : (kids lots.length (standsL ys lots) S).map (mindF lots.length (standsL ys lots) h e) = []
      · rw [if_pos e0]
        exact mindF_pos k ys h _ _
      · rw [if_neg e0]
        by_cases w : (decide (S ∈ standsL ys lots) == h) = true
        · rw [if_pos w]
          have wZ : (decide (Z ∈ ys) == h) = true := by rw [← sz, ← stands_iff hS]; exact w
          have nn : ∀ x, 0 ≤ mindF lots.length (standsL ys lots) h e x := fun x => by have := mindF_pos lots.length (standsL ys lots) h e x; omega
          have kne : kids k ys Z ≠ [] := fun z => by
            cases hks : kids lots.length (standsL ys lots) S with
            | nil => rw [hks] at e0; exact e0 rfl
            | cons C l =>
              obtain ⟨_, _, D, hD, _⟩ := kidS C (by rw [hks]; exact List.mem_cons_self)
              rw [z] at hD
              cases hD
          have eZ : mindF k ys h (g + 1) Z = sumA (mindF k ys h g) (kids k ys Z) := by
            rw [mindF]
            unfold valOf sumA
            rw [if_neg (fun z => kne (List.map_eq_nil_iff.mp z)), if_pos wZ]
          rw [eZ]
          refine sum_cover (a := mindF lots.length (standsL ys lots) h e) nn (fun C D => inside (fL lots C) D) _ _ (fun C hC => (kidS C hC).2.2) fun D hD => ?_
          have hgk : ∀ x ∈ (kids lots.length (standsL ys lots) S).filter (fun C => inside (fL lots C) D), x ∈ kids lots.length (standsL ys lots) S ∧ inside (fL lots x) D = true := fun x hx => List.mem_filter.mp hx
          have hgn := (kid_nodup lots.length h6 (standsL ys lots) S).filter fun C => inside (fL lots C) D
          generalize (kids lots.length (standsL ys lots) S).filter (fun C => inside (fL lots C) D) = grp at hgk hgn
          obtain ⟨d1, d2⟩ := kidZ D hD
          match grp, hgk, hgn with
          | [], _, _ => have := mindF_pos k ys h g D; unfold sumA; simp; omega
          | [C], hgk, _ =>
            obtain ⟨c1, c2⟩ := hgk C List.mem_cons_self
            have := stand_le hk h6 hl g D d1 d2 e C (kidS C c1).1 (kidS C c1).2.1 c2
            unfold sumA
            simpa using this
          | C :: C2 :: l, hgk, hgn =>
            obtain ⟨u1, u2, u3, u4⟩ := group h6 hS (fun x hx => (hgk x hx).1) (c := C) (d := C2) List.mem_cons_self (List.mem_cons_of_mem _ List.mem_cons_self) (by
              have := (List.nodup_cons.mp hgn).1
              exact fun z => this (by rw [z]; exact List.mem_cons_self))
            generalize hU : joinA (C :: C2 :: l) = U at u1 u2 u3 u4
            have fU : inside (fL lots U) D = true := inside_iff.mpr fun x hx => by
              obtain ⟨b, hb, hx⟩ := fL_mem.mp hx
              rw [← hU] at hb
              obtain ⟨X, hX, hb⟩ := join_mem'.mp hb
              exact inside_iff.mp (hgk X hX).2 x (fL_mem.mpr ⟨b, hb, hx⟩)
            have lU : U.length ≤ e + 1 := by
              have := len_le (lot_nodup h6 u1) (A := S) fun x hx => inside_iff.mp u2 x hx
              omega
            have ih := stand_le hk h6 hl g D d1 d2 (e + 1) U u1 lU fU
            refine Int.le_trans ?_ ih
            rw [mindF]
            have hne : (kids lots.length (standsL ys lots) U).map (mindF lots.length (standsL ys lots) h e) ≠ [] := fun z => by
              have := u4 C List.mem_cons_self
              rw [List.map_eq_nil_iff.mp z] at this
              cases this
            unfold valOf
            rw [if_neg hne, if_pos (by rw [u3]; exact w)]
            exact sumA_sub nn hgn u4
        · rw [if_neg (by simpa using w)]
          obtain ⟨z, hz1, hz2⟩ := maxI_some e0
          obtain ⟨C, hC, rfl⟩ := List.mem_map.mp hz2
          rw [hz1]
          obtain ⟨c1, c2, D, hD, c3⟩ := kidS C hC
          obtain ⟨d1, d2⟩ := kidZ D hD
          exact Int.le_trans (stand_le hk h6 hl g D d1 d2 e C c1 c2 c3) (ge D hD)
    · obtain ⟨D, hD, hi⟩ := into _ hfS hin sz
      obtain ⟨d1, d2⟩ := kidZ D hD
      exact Int.le_trans (stand_le hk h6 hl g D d1 d2 (e + 1) S hS hs hi) (ge D hD)
theorem stands_mind (h1 : 1 ≤ k) (hk : k ≤ 6) {lots : List Lot} (h0 : 1 ≤ lots.length) (h6 : lots.length ≤ 6) (hl : ∀ l ∈ lots, l ∈ lotsI k) (ys : List Lot) (h : Bool) : mindOf lots.length (standsL ys lots) h ≤ mindOf k ys h := by
  have i1 : full lots.length ∈ lotsI lots.length := idL_mem h0 h6
  have i2 : full k ∈ lotsI k := idL_mem h1 hk
  exact stand_le hk h6 hl k (full k) i2 (lot_le hk i2) lots.length (full lots.length) i1 (lot_le h6 i1) (in_full hk (fL_lots hk h6 hl i1))
theorem only_mind (h1 : 1 ≤ k) (hk : k ≤ 6) {lot : Lot} (hl : lot ∈ lotsI k) (ys : List Lot) (h : Bool) : mindOf lot.length (onlyL ys lot) h ≤ mindOf k ys h := by
  have := stands_mind (lots := ones lot) h1 hk (by rw [ones_len]; exact lot_pos hk hl) (by rw [ones_len]; have := lot_le hk hl; omega) (fun l hh => by
    obtain ⟨b, hb, rfl⟩ := List.mem_map.mp hh
    obtain ⟨b0, b1⟩ := (lots_mem hk hl).2 b hb
    exact (lots_iff hk).mpr ⟨by simp, List.pairwise_singleton _ _, fun x hx => by rw [List.mem_singleton.mp hx]; exact ⟨b0, b1⟩⟩) ys h
  rw [stands_ones hk ys hl, ones_len] at this
  exact this
/-- one more bell, that stands for a lot -/
theorem more_mind {most : Nat} (hc : IsC most k ys) (h5 : k < 6) {l : Lot} (hl : l ∈ lotsI k) (h : Bool) : mindOf (k + 1) (standsL ys (ones (idL k) ++ [l])) h = mindOf k ys h := by
  have h1 := hc.pos
  have hk := hc.six
  have li : (idL k).length = k := by unfold idL; simp
  have e1 : (ones (idL k) ++ [l]).length = k + 1 := by rw [List.length_append, ones_len, li]; rfl
  have hone : ∀ x ∈ ones (idL k), x ∈ lotsI k := fun x hh => by
    obtain ⟨b, hb, rfl⟩ := List.mem_map.mp hh
    have hb := idL_in.mp hb
    exact (lots_iff hk).mpr ⟨by simp, List.pairwise_singleton _ _, fun x hx => by rw [List.mem_singleton.mp hx]; exact hb⟩
  have hall : ∀ x ∈ ones (idL k) ++ [l], x ∈ lotsI k := fun x hx => by
    rcases List.mem_append.mp hx with hx | hx
    · exact hone x hx
    · rw [List.mem_singleton.mp hx]; exact hl
  have a := stands_mind (lots := ones (idL k) ++ [l]) h1 hk (by rw [e1]; omega) (by rw [e1]; omega) hall ys h
  rw [e1] at a
  have hin : ∀ t ∈ ones (idL k), t ∈ lotsI (ones (idL k) ++ [l]).length := fun t hh => by
    rw [e1]
    obtain ⟨b, hb, rfl⟩ := List.mem_map.mp hh
    have hb := idL_in.mp hb
    exact (lots_iff (by omega)).mpr ⟨by simp, List.pairwise_singleton _ _, fun x hx => by rw [List.mem_singleton.mp hx]; exact ⟨hb.1, by omega⟩⟩
  have ss := stands_stands hk ys hall (by rw [e1]; omega) (more := ones (idL k)) (by rw [ones_len, li]; exact hk) hin
  have em : (ones (idL k)).map (fun t => joinA (pickLs (ones (idL k) ++ [l]) t)) = ones (idL k) := by
    unfold ones
    rw [List.map_map]
    refine List.map_congr_left fun b hb => ?_
    have hb := idL_in.mp hb
    obtain ⟨j, rfl⟩ := Int.eq_ofNat_of_zero_le hb.1
    have hj : j < k := by omega
    show joinA (pickLs _ [(j : Int)]) = [(j : Int)]
    have : pickLs (List.map (fun b => [b]) (idL k) ++ [l]) [(j : Int)] = [[(j : Int)]] := by
      unfold pickLs
      rw [List.map_cons, List.map_nil, Int.toNat_natCast, List.getD_eq_getElem?_getD, List.getElem?_append_left (by rw [List.length_map, li]; exact hj), List.getElem?_map]
      unfold idL
      simp [hj]
    rw [this]
    exact join_ones (x := [(j : Int)]) (List.pairwise_singleton _ _)
  rw [em, stands_id hc] at ss
  have b := stands_mind (k := k + 1) (lots := ones (idL k)) (by omega) (by omega) (by rw [ones_len, li]; exact h1) (by rw [ones_len, li]; exact hk) (fun t ht => by have := hin t ht; rw [e1] at this; exact this) (standsL ys (ones (idL k) ++ [l])) h
  rw [ss, ones_len, li] at b
  omega
end
end Bell
end

section
set_option maxRecDepth 100000
set_option maxHeartbeats 4000000
/-! the program of the law k17: defs, code, head -/
namespace Lw
open PySem PySem.Spec PyProof.Rows L2 Bell
def top (i : Nat) : Stmt := PySem.Challenge.pw_bellsagain_k17_whole_bells_that_stand_fo.main.body.getD i (.Pass ⟨0, 0, 0, 0⟩)
def d0 : Def := ⟨"_law_box", top 18, ["script", "k", "cell", "great"], ["script", "k"], [], [(2, [], [0, 1])], []⟩
def d1 : Def := ⟨"_law_take", top 19, ["box", "many", "digit", "raw"], ["box", "many"], [], [(2, [], [0, 1])], []⟩
def d2 : Def := ⟨"_law_pick", top 20, ["box", "some"], ["box", "some"], [], [(2, [], [0, 1])], []⟩
def d3 : Def := ⟨"_law_same", top 21, ["told", "due", "one", "other"], ["told", "due"], [], [(2, [], [0, 1])], []⟩
def d4 : Def := ⟨"_law_lots", top 22, ["bells", "lots", "bell", "lot"], ["bells"], [], [(1, [], [0])], []⟩
def d5 : Def := ⟨"_law_given", top 24, ["lot", "many", "pair"], ["lot", "many"], [], [(2, [], [0, 1])], []⟩
def d6 : Def := ⟨"_law_by", top 25, ["bells", "kind", "what", "some", "lot", "bell"], ["bells", "kind", "what"], [], [(3, [], [0, 1, 2])], []⟩
def d7 : Def := ⟨"_law_form", top 26, ["box", "most", "bells", "kind", "what", "bell"], ["box", "most"], [], [(2, [], [0, 1])], []⟩
def d8 : Def := ⟨"_law_other", top 27, ["condition", "lot"], ["condition"], [], [(1, [], [0])], []⟩
def d9 : Def := ⟨"_law_condition", top 28, ["box", "most", "way", "condition", "bells", "pleasing", "lots", "lot", "rare"], ["box", "most"], [], [(2, [], [0, 1])], []⟩
def d10 : Def := ⟨"is_within", top 1, ["one", "two", "entry"], ["one", "two"], [], [(2, [], [0, 1])], []⟩
def d11 : Def := ⟨"pleases", top 5, ["condition", "lot"], ["condition", "lot"], [], [(2, [], [0, 1])], []⟩
def d12 : Def := ⟨"lots_within", top 9, ["lot", "some", "bell", "one"], ["lot"], [], [(1, [], [0])], []⟩
def d13 : Def := ⟨"greatest_other", top 10, ["condition", "lot", "sort", "some", "one", "other"], ["condition", "lot"], [], [(2, [], [0, 1])], []⟩
def d14 : Def := ⟨"split_rows", top 12, ["condition", "lots", "parents", "children", "done", "some", "one"], ["condition"], [], [(1, [], [0])], []⟩
def d15 : Def := ⟨"_law_inside", top 23, ["one", "two", "bell"], ["one", "two"], [], [(2, [], [0, 1])], []⟩
def d16 : Def := ⟨"_law_children", top 29, ["condition", "lot", "sort", "some", "one", "other"], ["condition", "lot"], [], [(2, [], [0, 1])], []⟩
def d17 : Def := ⟨"_law_tree", top 30, ["condition", "rows", "told", "turn", "some", "lot"], ["condition"], [], [(1, [], [0])], []⟩
def d18 : Def := ⟨"_law_paths", top 31, ["rows", "paths", "number", "row"], ["rows"], [], [(1, [], [0])], []⟩
def d19 : Def := ⟨"_law_leaves", top 32, ["rows", "path", "row"], ["rows"], [], [(1, [], [0])], []⟩
def d20 : Def := ⟨"_law_light", top 34, ["box", "most", "leaves", "turn", "condition"], ["box", "most", "leaves"], [], [(3, [], [0, 1, 2])], []⟩
def d21 : Def := ⟨"joined_lots", top 2, ["lots", "found", "lot", "entry"], ["lots"], [], [(1, [], [0])], [("found" : Str)]⟩
def d22 : Def := ⟨"all_lots", top 4, ["bells", "lots", "bell", "lot"], ["bells"], [], [(1, [], [0])], []⟩
def d23 : Def := ⟨"condition_by", top 6, ["bells", "is_fine", "lot"], ["bells", "is_fine"], [], [(2, [], [0, 1])], []⟩
def d24 : Def := ⟨"only_bells", top 7, ["condition", "lot"], ["condition", "lot"], [], [(2, [], [0, 1])], []⟩
def d25 : Def := ⟨"stands_for", top 8, ["condition", "lots"], ["condition", "lots"], [], [(2, [], [0, 1])], []⟩
def d26 : Def := ⟨"is_wanted", top 14, ["condition", "hand", "lot"], ["condition", "hand", "lot"], [], [(3, [], [0, 1, 2])], []⟩
def d27 : Def := ⟨"row_minds", top 15, ["condition", "rows", "hand", "told", "row", "number", "lot", "parent", "children", "some", "child"], ["condition", "rows", "hand"], [], [(3, [], [0, 1, 2])], []⟩
def d28 : Def := ⟨"mind_of", top 16, ["condition", "hand"], ["condition", "hand"], [], [(2, [], [0, 1])], []⟩
def d29 : Def := ⟨"_law_minds", top 33, ["condition", "rows", "hand", "told", "number", "lot", "parent", "children", "some", "child"], ["condition", "rows", "hand"], [], [(3, [], [0, 1, 2])], []⟩
def d30 : Def := ⟨"law", top 35, ["script", "k", "box", "condition", "rows", "every", "turn", "lots", "bell", "less", "hand", "told", "more"], ["script"], [], [(1, [], [0])], []⟩
def defs : List Def := [d0, d1, d2, d3, d4, d5, d6, d7, d8, d9, d10, d11, d12, d13, d14, d15, d16, d17, d18, d19, d20, d21, d22, d23, d24, d25, d26, d27, d28, d29, d30]
def bl : List Str := ["int", "len", "abs", "isinstance", "str", "bool", "tuple", "zip", "sorted", "range", "min", "max", "any", "list", "enumerate", "sum"]
def tf : List He.Defn := [("only_bells", none), ("stands_for", none)]
def nol : List Str := ["other_condition", "all_of", "some_of", "ranks_of", "pairs_of", "just_many"]
/-- _law_box -/
def c0 : S := .cons (.asg (.nm 2) (.bin .add (.bin .mul (.con (.int 7919)) (.var 1)) (.con (.int 3407)))) (.cons (.ifs (.cmp .lt (.var 1) (.bi .len (.cons (.var 0) .nil))) (.cons (.asg (.nm 2) (.bi .abs (.cons (.bi .int (.cons (.idx (.var 0) (.var 1)) .nil)) .nil))) .nil) (.cons (.ifs (.cmp .gt (.bi .len (.cons (.var 0) .nil)) (.con (.int 0))) (.cons (.asg (.nm 2) (.bin .add (.var 2) (.bin .mul (.bin .mod (.bi .int (.cons (.bi .abs (.cons (.bi .int (.cons (.idx (.var 0) (.bin .mod (.bi .int (.cons (.var 1) .nil)) (.bi .len (.cons (.var 0) .nil)))) .nil)) .nil)) .nil)) (.con (.int 2147483563))) (.con (.int 48271))))) .nil) .nil) .nil)) (.cons (.asg (.nm 3) (.ife (.cmp .ge (.var 2) (.bin .pow (.con (.int 10)) (.con (.int 18)))) (.var 2) (.con (.int 0)))) (.cons (.ret (.lst (.cons (.var 3) (.cons (.bin .add (.bin .mod (.bi .int (.cons (.bin .add (.bin .mul (.bin .mod (.bi .int (.cons (.var 2) .nil)) (.con (.int 2147483563))) (.con (.int 40014))) (.bin .mul (.con (.int 3407)) (.var 1))) .nil)) (.con (.int 2147483563))) (.con (.int 1))) .nil)))) .nil)))
/-- _law_take -/
def c1 : S := .cons (.ifs (.cmp .gt (.idx (.var 0) (.con (.int 0))) (.con (.int 0))) (.cons (.asg (.nm 2) (.bin .mod (.bi .int (.cons (.idx (.var 0) (.con (.int 0))) .nil)) (.var 1))) (.cons (.setix (.var 0) (.con (.int 0)) (.bin .fdiv (.idx (.var 0) (.con (.int 0))) (.var 1))) (.cons (.ret (.var 2)) .nil))) .nil) (.cons (.asg (.nm 3) (.bin .mod (.bi .int (.cons (.bin .add (.bin .mul (.idx (.var 0) (.con (.int 1))) (.con (.int 39373))) (.con (.int 619))) .nil)) (.con (.int 2147483647)))) (.cons (.setix (.var 0) (.con (.int 1)) (.bin .add (.bin .mod (.bi .int (.cons (.bin .add (.bin .mul (.var 3) (.con (.int 40692))) (.con (.int 107))) .nil)) (.con (.int 2147483399))) (.con (.int 1)))) (.cons (.ret (.bin .mod (.bi .int (.cons (.bin .fdiv (.bin .add (.bin .mul (.var 3) (.con (.int 2147483629))) (.idx (.var 0) (.con (.int 1)))) (.con (.int 8231))) .nil)) (.var 1))) .nil)))
/-- _law_pick -/
def c2 : S := .cons (.ret (.idx (.var 1) (.callp 1 [0, 1] [] (.cons (.var 0) (.cons (.bi .len (.cons (.var 1) .nil)) .nil))))) .nil
/-- _law_same -/
def c3 : S := .cons (.ifs (.tru (.isin (.var 1) [.tuple])) (.cons (.ifs (.tor (.tnot (.tru (.isin (.var 0) [.tuple]))) (.cmp .ne (.bi .len (.cons (.var 0) .nil)) (.bi .len (.cons (.var 1) .nil)))) (.cons (.ret (.con (.bl false))) .nil) .nil) (.cons (.fors .zip (.cons (.var 0) (.cons (.var 1) .nil)) (.tup (.cons (.nm 2) (.cons (.nm 3) .nil))) (.cons (.ifs (.tnot (.tru (.callp 3 [0, 1] [] (.cons (.var 2) (.cons (.var 3) .nil))))) (.cons (.ret (.con (.bl false))) .nil) .nil) .nil)) (.cons (.ret (.con (.bl true))) .nil))) .nil) (.cons (.ifs (.cmp .is (.var 1) (.con .non)) (.cons (.ret (.cmp .is (.var 0) (.con .non))) .nil) .nil) (.cons (.ifs (.tor (.cmp .is (.var 1) (.con (.bl true))) (.cmp .is (.var 1) (.con (.bl false)))) (.cons (.ret (.vand (.isin (.var 0) [.bool]) (.cmp .eq (.var 0) (.var 1)))) .nil) .nil) (.cons (.ifs (.tru (.isin (.var 1) [.int])) (.cons (.ret (.vand (.isin (.var 0) [.int]) (.vand (.vnot (.isin (.var 0) [.bool])) (.cmp .eq (.var 0) (.var 1))))) .nil) .nil) (.cons (.ret (.vand (.isin (.var 0) [.str]) (.vand (.isin (.var 1) [.str]) (.cmp .eq (.var 0) (.var 1))))) .nil))))
/-- _law_lots -/
def c4 : S := .cons (.asg (.nm 1) (.lst (.cons (.tup .nil) .nil))) (.cons (.fors .rng (.cons (.var 0) .nil) (.nm 2) (.cons (.asg (.nm 1) (.bin .add (.var 1) (.comp .val (.cons (.var 1) .nil) (.nm 3) (.con (.bl true)) (.bin .add (.var 3) (.tup (.cons (.var 2) .nil))) [3]))) .nil)) (.cons (.ret (.slc (.bi .sorted (.cons (.var 1) .nil)) (.nd (.con (.int 1))) (.con .non))) .nil))
/-- _law_given -/
def c5 : S := .cons (.ret (.cmp .eq (.comp .rng (.cons (.var 1) .nil) (.nm 2) (.tand (.cmp .inn (.bin .mul (.con (.int 2)) (.var 2)) (.var 0)) (.cmp .nin (.bin .add (.bin .mul (.con (.int 2)) (.var 2)) (.con (.int 1))) (.var 0))) (.con (.int 1)) [2]) (.lst .nil))) .nil
/-- _law_by -/
def c6 : S := .cons (.asg (.nm 3) (.callp 4 [0] [] (.cons (.var 0) .nil))) (.cons (.ifs (.cmp .eq (.var 1) (.con (.str ("all" : Str)))) (.cons (.ret (.tup (.cons (.var 0) (.cons (.bi .tuple (.cons (.comp .val (.cons (.var 3) .nil) (.nm 4) (.cmp .eq (.bi .len (.cons (.var 4) .nil)) (.var 0)) (.var 4) [4]) .nil)) .nil)))) .nil) .nil) (.cons (.ifs (.cmp .eq (.var 1) (.con (.str ("some" : Str)))) (.cons (.ret (.tup (.cons (.var 0) (.cons (.bi .tuple (.cons (.comp .val (.cons (.var 3) .nil) (.nm 4) (.cmp .ne (.comp .val (.cons (.var 4) .nil) (.nm 5) (.cmp .inn (.var 5) (.var 2)) (.con (.int 1)) [5]) (.lst .nil)) (.var 4) [4]) .nil)) .nil)))) .nil) .nil) (.cons (.ifs (.cmp .eq (.var 1) (.con (.str ("ranks" : Str)))) (.cons (.ret (.tup (.cons (.var 0) (.cons (.bi .tuple (.cons (.comp .val (.cons (.var 3) .nil) (.nm 4) (.cmp .eq (.bin .mod (.bi .int (.cons (.bi .min (.cons (.comp .val (.cons (.var 4) .nil) (.nm 5) (.con (.bl true)) (.idx (.var 2) (.var 5)) [5]) .nil)) .nil)) (.con (.int 2))) (.con (.int 0))) (.var 4) [4]) .nil)) .nil)))) .nil) .nil) (.cons (.ifs (.cmp .eq (.var 1) (.con (.str ("pairs" : Str)))) (.cons (.ret (.tup (.cons (.var 0) (.cons (.bi .tuple (.cons (.comp .val (.cons (.var 3) .nil) (.nm 4) (.tru (.callp 5 [0, 1] [] (.cons (.var 4) (.cons (.var 2) .nil)))) (.var 4) [4]) .nil)) .nil)))) .nil) .nil) (.cons (.ret (.tup (.cons (.var 0) (.cons (.bi .tuple (.cons (.comp .val (.cons (.var 3) .nil) (.nm 4) (.cmp .eq (.bi .len (.cons (.var 4) .nil)) (.var 2)) (.var 4) [4]) .nil)) .nil)))) .nil)))))
/-- _law_form -/
def c7 : S := .cons (.asg (.tup (.cons (.nm 2) (.cons (.nm 3) .nil))) (.tup (.cons (.bin .add (.con (.int 1)) (.callp 1 [0, 1] [] (.cons (.var 0) (.cons (.var 1) .nil)))) (.cons (.callp 2 [0, 1] [] (.cons (.var 0) (.cons (.lst (.cons (.con (.str ("all" : Str))) (.cons (.con (.str ("some" : Str))) (.cons (.con (.str ("ranks" : Str))) (.cons (.con (.str ("pairs" : Str))) (.cons (.con (.str ("just" : Str))) .nil)))))) .nil))) .nil)))) (.cons (.asg (.nm 4) (.con .non)) (.cons (.ifs (.cmp .eq (.var 3) (.con (.str ("some" : Str)))) (.cons (.asg (.nm 4) (.callp 2 [0, 1] [] (.cons (.var 0) (.cons (.callp 4 [0] [] (.cons (.var 2) .nil)) .nil)))) .nil) .nil) (.cons (.ifs (.cmp .eq (.var 3) (.con (.str ("ranks" : Str)))) (.cons (.asg (.nm 4) (.bi .tuple (.cons (.comp .rng (.cons (.var 2) .nil) (.nm 5) (.con (.bl true)) (.callp 1 [0, 1] [] (.cons (.var 0) (.cons (.con (.int 6)) .nil))) [5]) .nil))) .nil) .nil) (.cons (.ifs (.cmp .eq (.var 3) (.con (.str ("pairs" : Str)))) (.cons (.asg (.nm 2) (.bin .mul (.con (.int 2)) (.bi .max (.cons (.con (.int 1)) (.cons (.bin .fdiv (.var 2) (.con (.int 2))) .nil))))) (.cons (.asg (.nm 4) (.bin .fdiv (.var 2) (.con (.int 2)))) .nil)) .nil) (.cons (.ifs (.cmp .eq (.var 3) (.con (.str ("just" : Str)))) (.cons (.asg (.nm 4) (.bin .add (.con (.int 1)) (.callp 1 [0, 1] [] (.cons (.var 0) (.cons (.var 2) .nil))))) .nil) .nil) (.cons (.ret (.tup (.cons (.callp 6 [0, 1, 2] [] (.cons (.var 2) (.cons (.var 3) (.cons (.var 4) .nil)))) (.cons (.var 3) (.cons (.var 4) .nil))))) .nil))))))
/-- _law_other -/
def c8 : S := .cons (.ret (.tup (.cons (.idx (.var 0) (.con (.int 0))) (.cons (.bi .tuple (.cons (.comp .val (.cons (.callp 4 [0] [] (.cons (.idx (.var 0) (.con (.int 0))) .nil)) .nil) (.nm 1) (.cmp .nin (.var 1) (.idx (.var 0) (.con (.int 1)))) (.var 1) [1]) .nil)) .nil)))) .nil
/-- _law_condition -/
def c9 : S := .cons (.asg (.nm 2) (.callp 1 [0, 1] [] (.cons (.var 0) (.cons (.con (.int 4)) .nil)))) (.cons (.ifs (.cmp .eq (.var 2) (.con (.int 0))) (.cons (.asg (.nm 3) (.idx (.callp 7 [0, 1] [] (.cons (.var 0) (.cons (.var 1) .nil))) (.con (.int 0)))) (.cons (.ret (.ife (.cmp .eq (.callp 1 [0, 1] [] (.cons (.var 0) (.cons (.con (.int 2)) .nil))) (.con (.int 0))) (.callp 8 [0] [] (.cons (.var 3) .nil)) (.var 3))) .nil)) .nil) (.cons (.ifs (.cmp .eq (.var 2) (.con (.int 1))) (.cons (.asg (.tup (.cons (.nm 4) (.cons (.nm 5) .nil))) (.idx (.callp 7 [0, 1] [] (.cons (.var 0) (.cons (.var 1) .nil))) (.con (.int 0)))) (.cons (.asg (.nm 6) (.comp .val (.cons (.callp 4 [0] [] (.cons (.var 4) .nil)) .nil) (.nm 7) (.cmp .ne (.cmp .inn (.var 7) (.var 5)) (.cmp .eq (.callp 1 [0, 1] [] (.cons (.var 0) (.cons (.con (.int 6)) .nil))) (.con (.int 0)))) (.var 7) [7])) (.cons (.ret (.tup (.cons (.var 4) (.cons (.bi .tuple (.cons (.var 6) .nil)) .nil)))) .nil))) .nil) (.cons (.asg (.tup (.cons (.nm 4) (.cons (.nm 8) .nil))) (.tup (.cons (.bin .add (.con (.int 1)) (.callp 1 [0, 1] [] (.cons (.var 0) (.cons (.var 1) .nil)))) (.cons (.callp 2 [0, 1] [] (.cons (.var 0) (.cons (.lst (.cons (.con (.int 2)) (.cons (.con (.int 2)) (.cons (.con (.int 3)) (.cons (.con (.int 5)) .nil))))) .nil))) .nil)))) (.cons (.ret (.tup (.cons (.var 4) (.cons (.bi .tuple (.cons (.comp .val (.cons (.callp 4 [0] [] (.cons (.var 4) .nil)) .nil) (.nm 7) (.cmp .eq (.cmp .eq (.callp 1 [0, 1] [] (.cons (.var 0) (.cons (.var 8) .nil))) (.con (.int 0))) (.cmp .eq (.var 2) (.con (.int 2)))) (.var 7) [7]) .nil)) .nil)))) .nil))))
/-- is_within -/
def c10 : S := .cons (.fors .val (.cons (.var 0) .nil) (.nm 2) (.cons (.ifs (.cmp .nin (.var 2) (.var 1)) (.cons (.ret (.con (.bl false))) .nil) .nil) .nil)) (.cons (.ret (.con (.bl true))) .nil)
/-- pleases -/
def c11 : S := .cons (.ret (.cmp .inn (.var 1) (.idx (.var 0) (.con (.int 1))))) .nil
/-- lots_within -/
def c12 : S := .cons (.asg (.nm 1) (.lst (.cons (.tup .nil) .nil))) (.cons (.fors .val (.cons (.var 0) .nil) (.nm 2) (.cons (.asg (.nm 1) (.bin .add (.var 1) (.comp .val (.cons (.var 1) .nil) (.nm 3) (.con (.bl true)) (.bin .add (.var 3) (.tup (.cons (.var 2) .nil))) [3]))) .nil)) (.cons (.ret (.bi .tuple (.cons (.slc (.bi .sorted (.cons (.var 1) .nil)) (.nd (.con (.int 1))) (.con .non)) .nil))) .nil))
/-- greatest_other -/
def c13 : S := .cons (.asg (.nm 2) (.callp 11 [0, 1] [] (.cons (.var 0) (.cons (.var 1) .nil)))) (.cons (.asg (.nm 3) (.comp .val (.cons (.callp 12 [0] [] (.cons (.var 1) .nil)) .nil) (.nm 4) (.cmp .ne (.callp 11 [0, 1] [] (.cons (.var 0) (.cons (.var 4) .nil))) (.var 2)) (.var 4) [4])) (.cons (.ret (.bi .tuple (.cons (.comp .val (.cons (.var 3) .nil) (.nm 4) (.tnot (.tru (.bi .any (.cons (.comp .val (.cons (.var 3) .nil) (.nm 5) (.con (.bl true)) (.vand (.cmp .ne (.var 4) (.var 5)) (.callp 10 [0, 1] [] (.cons (.var 4) (.cons (.var 5) .nil)))) [5]) .nil)))) (.var 4) [4]) .nil))) .nil))
/-- split_rows -/
def c14 : S := .cons (.asg (.tup (.cons (.nm 1) (.cons (.nm 2) (.cons (.nm 3) (.cons (.nm 4) .nil))))) (.tup (.cons (.lst (.cons (.bi .tupR (.cons (.idx (.var 0) (.con (.int 0))) .nil)) .nil)) (.cons (.lst (.cons (.con .non) .nil)) (.cons (.lst .nil) (.cons (.con (.int 0)) .nil)))))) (.cons (.whil (.cmp .lt (.var 4) (.bi .len (.cons (.var 1) .nil))) (.cons (.asg (.nm 5) (.callp 13 [0, 1] [] (.cons (.var 0) (.cons (.idx (.var 1) (.var 4)) .nil)))) (.cons (.exp (.meth .append (.var 3) (.cons (.bi .tupR (.cons (.bi .len (.cons (.var 1) .nil)) (.cons (.bin .add (.bi .len (.cons (.var 1) .nil)) (.bi .len (.cons (.var 5) .nil))) .nil))) .nil))) (.cons (.exp (.meth .extend (.var 1) (.cons (.bi .list (.cons (.var 5) .nil)) .nil))) (.cons (.exp (.meth .extend (.var 2) (.cons (.comp .val (.cons (.var 5) .nil) (.nm 6) (.con (.bl true)) (.var 4) [6]) .nil))) (.cons (.aug 4 .add (.con (.int 1))) .nil)))))) (.cons (.ret (.bi .tuple (.cons (.bi .z3 (.cons (.var 1) (.cons (.var 2) (.cons (.var 3) .nil)))) .nil))) .nil))
/-- _law_inside -/
def c15 : S := .cons (.ret (.cmp .eq (.comp .val (.cons (.var 0) .nil) (.nm 2) (.cmp .nin (.var 2) (.var 1)) (.con (.int 1)) [2]) (.lst .nil))) .nil
/-- _law_children -/
def c16 : S := .cons (.asg (.nm 2) (.cmp .inn (.var 1) (.idx (.var 0) (.con (.int 1))))) (.cons (.asg (.nm 3) (.comp .val (.cons (.callp 4 [0] [] (.cons (.idx (.var 0) (.con (.int 0))) .nil)) .nil) (.nm 4) (.tand (.tru (.callp 15 [0, 1] [] (.cons (.var 4) (.cons (.var 1) .nil)))) (.cmp .ne (.cmp .inn (.var 4) (.idx (.var 0) (.con (.int 1)))) (.var 2))) (.var 4) [4])) (.cons (.ret (.comp .val (.cons (.var 3) .nil) (.nm 4) (.cmp .eq (.comp .val (.cons (.var 3) .nil) (.nm 5) (.tand (.cmp .ne (.var 5) (.var 4)) (.tru (.callp 15 [0, 1] [] (.cons (.var 4) (.cons (.var 5) .nil))))) (.con (.int 1)) [5]) (.lst .nil)) (.var 4) [4])) .nil))
/-- _law_tree -/
def c17 : S := .cons (.asg (.tup (.cons (.nm 1) (.cons (.nm 2) .nil))) (.tup (.cons (.lst (.cons (.tup (.cons (.bi .tupR (.cons (.idx (.var 0) (.con (.int 0))) .nil)) (.cons (.con .non) .nil))) .nil)) (.cons (.lst .nil) .nil)))) (.cons (.fors .rng (.cons (.con (.int 2000)) .nil) (.nm 3) (.cons (.ifs (.cmp .eq (.var 3) (.bi .len (.cons (.var 1) .nil))) (.cons .brk .nil) .nil) (.cons (.asg (.nm 4) (.callp 16 [0, 1] [] (.cons (.var 0) (.cons (.idx (.idx (.var 1) (.var 3)) (.con (.int 0))) .nil)))) (.cons (.exp (.meth .append (.var 2) (.cons (.tup (.cons (.idx (.idx (.var 1) (.var 3)) (.con (.int 0))) (.cons (.idx (.idx (.var 1) (.var 3)) (.con (.int 1))) (.cons (.bi .tupR (.cons (.bi .len (.cons (.var 1) .nil)) (.cons (.bin .add (.bi .len (.cons (.var 1) .nil)) (.bi .len (.cons (.var 4) .nil))) .nil))) .nil)))) .nil))) (.cons (.asg (.nm 1) (.bin .add (.var 1) (.comp .val (.cons (.var 4) .nil) (.nm 5) (.con (.bl true)) (.tup (.cons (.var 5) (.cons (.bi .int (.cons (.var 3) .nil)) .nil))) [5]))) .nil))))) (.cons (.ret (.bi .tuple (.cons (.var 2) .nil))) .nil))
/-- _law_paths -/
def c18 : S := .cons (.asg (.nm 1) (.lst .nil)) (.cons (.fors .enum (.cons (.var 0) .nil) (.tup (.cons (.nm 2) (.cons (.nm 3) .nil))) (.cons (.exp (.meth .append (.var 1) (.cons (.ife (.cmp .is (.idx (.var 3) (.con (.int 1))) (.con .non)) (.tup (.cons (.var 2) .nil)) (.bin .add (.idx (.var 1) (.idx (.var 3) (.con (.int 1)))) (.tup (.cons (.var 2) .nil)))) .nil))) .nil)) (.cons (.ret (.var 1)) .nil))
/-- _law_leaves -/
def c19 : S := .cons (.ret (.bi .sorted (.cons (.comp .zip (.cons (.callp 18 [0] [] (.cons (.var 0) .nil)) (.cons (.var 0) .nil)) (.tup (.cons (.nm 1) (.cons (.nm 2) .nil))) (.cmp .eq (.idx (.var 2) (.con (.int 2))) (.tup .nil)) (.var 1) [1, 2]) .nil))) .nil
/-- _law_light -/
def c20 : S := .cons (.fors .rng (.cons (.con (.int 8)) .nil) (.nm 3) (.cons (.asg (.nm 4) (.callp 9 [0, 1] [] (.cons (.var 0) (.cons (.var 1) .nil)))) (.cons (.ifs (.cmp .le (.bi .len (.cons (.callp 19 [0] [] (.cons (.callp 17 [0] [] (.cons (.var 4) .nil)) .nil)) .nil)) (.var 2)) (.cons (.ret (.var 4)) .nil) .nil) .nil))) (.cons (.ret (.tup (.cons (.con (.int 2)) (.cons (.tup (.cons (.tup (.cons (.con (.int 0)) (.cons (.con (.int 1)) .nil))) .nil)) .nil)))) .nil)
/-- joined_lots -/
def c21 : S := .cons (.asg (.nm 1) (.dct .nil)) (.cons (.fors .val (.cons (.var 0) .nil) (.nm 2) (.cons (.fors .val (.cons (.var 2) .nil) (.nm 3) (.cons (.setix (.var 1) (.var 3) (.con (.bl true))) .nil)) .nil)) (.cons (.ret (.bi .tuple (.cons (.bi .sorted (.cons (.bi .list (.cons (.var 1) .nil)) .nil)) .nil))) .nil))
/-- all_lots -/
def c22 : S := .cons (.asg (.nm 1) (.lst (.cons (.tup .nil) .nil))) (.cons (.fors .rng (.cons (.var 0) .nil) (.nm 2) (.cons (.asg (.nm 1) (.bin .add (.var 1) (.comp .val (.cons (.var 1) .nil) (.nm 3) (.con (.bl true)) (.bin .add (.var 3) (.tup (.cons (.var 2) .nil))) [3]))) .nil)) (.cons (.ret (.bi .tuple (.cons (.slc (.bi .sorted (.cons (.var 1) .nil)) (.nd (.con (.int 1))) (.con .non)) .nil))) .nil))
/-- condition_by -/
def c23 : S := .cons (.ret (.tup (.cons (.var 0) (.cons (.bi .tuple (.cons (.comp .val (.cons (.callp 22 [0] [] (.cons (.var 0) .nil)) .nil) (.nm 2) (.tru (.callv 1 (.cons (.var 2) .nil))) (.var 2) [2]) .nil)) .nil)))) .nil
/-- only_bells -/
def c24 : S := .cons (.ret (.callc 23 (.cons (.bi .len (.cons (.var 1) .nil)) .nil) 1 ("only_bells.<locals>.<lambda>" : Str) [0, 1] 1 (.callp 11 [0, 1] [] (.cons (.var 1) (.cons (.bi .tuple (.cons (.comp .val (.cons (.var 0) .nil) (.nm 3) (.con (.bl true)) (.idx (.var 2) (.var 3)) [3]) .nil)) .nil))))) .nil
/-- stands_for -/
def c25 : S := .cons (.ret (.callc 23 (.cons (.bi .len (.cons (.var 1) .nil)) .nil) 1 ("stands_for.<locals>.<lambda>" : Str) [0, 1] 1 (.callp 11 [0, 1] [] (.cons (.var 1) (.cons (.callp 21 [0] [] (.cons (.comp .val (.cons (.var 0) .nil) (.nm 3) (.con (.bl true)) (.idx (.var 2) (.var 3)) [3]) .nil)) .nil))))) .nil
/-- is_wanted -/
def c26 : S := .cons (.ret (.cmp .eq (.callp 11 [0, 1] [] (.cons (.var 0) (.cons (.var 2) .nil))) (.cmp .eq (.var 1) (.con (.int 0))))) .nil
/-- row_minds -/
def c27 : S := .cons (.asg (.nm 3) (.comp .val (.cons (.var 1) .nil) (.nm 4) (.con (.bl true)) (.con (.int 1)) [4])) (.cons (.fors .rng (.cons (.bin .sub (.bi .len (.cons (.var 1) .nil)) (.con (.int 1))) (.cons (.neg (.con (.int 1))) (.cons (.neg (.con (.int 1))) .nil))) (.nm 5) (.cons (.asg (.tup (.cons (.nm 6) (.cons (.nm 7) (.cons (.nm 8) .nil)))) (.idx (.var 1) (.var 5))) (.cons (.ifs (.cmp .gt (.bi .len (.cons (.var 8) .nil)) (.con (.int 0))) (.cons (.asg (.nm 9) (.comp .val (.cons (.var 8) .nil) (.nm 10) (.con (.bl true)) (.idx (.var 3) (.var 10)) [10])) (.cons (.setix (.var 3) (.var 5) (.ife (.tru (.callp 26 [0, 1, 2] [] (.cons (.var 0) (.cons (.var 2) (.cons (.var 6) .nil))))) (.bi .sum (.cons (.var 9) .nil)) (.bi .max (.cons (.var 9) .nil)))) .nil)) .nil) .nil))) (.cons (.ret (.var 3)) .nil))
/-- mind_of -/
def c28 : S := .cons (.ret (.idx (.callp 27 [0, 1, 2] [] (.cons (.var 0) (.cons (.callp 14 [0] [] (.cons (.var 0) .nil)) (.cons (.var 1) .nil)))) (.con (.int 0)))) .nil
/-- _law_minds -/
def c29 : S := .cons (.asg (.nm 3) (.bin .mul (.lst (.cons (.con (.int 1)) .nil)) (.bi .len (.cons (.var 1) .nil)))) (.cons (.fors .rng (.cons (.bin .sub (.bi .len (.cons (.var 1) .nil)) (.con (.int 1))) (.cons (.neg (.con (.int 1))) (.cons (.neg (.con (.int 1))) .nil))) (.nm 4) (.cons (.asg (.tup (.cons (.nm 5) (.cons (.nm 6) (.cons (.nm 7) .nil)))) (.idx (.var 1) (.var 4))) (.cons (.ifs (.cmp .ne (.var 7) (.tup .nil)) (.cons (.asg (.nm 8) (.comp .val (.cons (.var 7) .nil) (.nm 9) (.con (.bl true)) (.idx (.var 3) (.var 9)) [9])) (.cons (.setix (.var 3) (.var 4) (.ife (.cmp .eq (.cmp .inn (.var 5) (.idx (.var 0) (.con (.int 1)))) (.cmp .eq (.var 2) (.con (.int 0)))) (.bi .sum (.cons (.var 8) .nil)) (.bi .max (.cons (.var 8) .nil)))) .nil)) .nil) .nil))) (.cons (.ret (.var 3)) .nil))
/-- law -/
def c30 : S := .cons (.fors .rng (.cons (.bi .max (.cons (.con (.int 4)) (.cons (.bi .min (.cons (.bi .len (.cons (.var 0) .nil)) (.cons (.con (.int 8)) .nil))) .nil))) .nil) (.nm 1) (.cons (.asg (.nm 2) (.callp 0 [0, 1] [] (.cons (.var 0) (.cons (.var 1) .nil)))) (.cons (.asg (.nm 3) (.callp 20 [0, 1, 2] [] (.cons (.var 2) (.cons (.ife (.cmp .eq (.var 1) (.con (.int 0))) (.con (.int 6)) (.con (.int 5))) (.cons (.con (.int 60)) .nil))))) (.cons (.asg (.tup (.cons (.nm 4) (.cons (.nm 5) .nil))) (.tup (.cons (.callp 17 [0] [] (.cons (.var 3) .nil)) (.cons (.callp 4 [0] [] (.cons (.idx (.var 3) (.con (.int 0))) .nil)) .nil)))) (.cons (.fors .rng (.cons (.con (.int 4)) .nil) (.nm 6) (.cons (.asg (.nm 7) (.bi .tuple (.cons (.comp .rng (.cons (.bin .add (.con (.int 1)) (.callp 1 [0, 1] [] (.cons (.var 2) (.cons (.con (.int 5)) .nil)))) .nil) (.nm 8) (.con (.bl true)) (.callp 2 [0, 1] [] (.cons (.var 2) (.cons (.var 5) .nil))) [8]) .nil))) (.cons (.fors .val (.cons (.lst (.cons (.callp 25 [0, 1] [] (.cons (.var 3) (.cons (.var 7) .nil))) (.cons (.callp 24 [0, 1] [] (.cons (.var 3) (.cons (.callp 2 [0, 1] [] (.cons (.var 2) (.cons (.var 5) .nil))) .nil))) .nil))) .nil) (.nm 9) (.cons (.fors .val (.cons (.tup (.cons (.con (.int 0)) (.cons (.con (.int 1)) .nil))) .nil) (.nm 10) (.cons (.asg (.nm 11) (.callp 28 [0, 1] [] (.cons (.var 9) (.cons (.var 10) .nil)))) (.cons (.ifs (.tor (.tnot (.tru (.callp 3 [0, 1] [] (.cons (.var 11) (.cons (.idx (.callp 29 [0, 1, 2] [] (.cons (.var 9) (.cons (.callp 17 [0] [] (.cons (.var 9) .nil)) (.cons (.var 10) .nil)))) (.con (.int 0))) .nil))))) (.cmp .gt (.var 11) (.idx (.callp 29 [0, 1, 2] [] (.cons (.var 3) (.cons (.var 4) (.cons (.var 10) .nil)))) (.con (.int 0))))) (.cons (.ret (.con (.bl false))) .nil) .nil) .nil))) .nil)) .nil))) (.cons (.ifs (.cmp .lt (.idx (.var 3) (.con (.int 0))) (.con (.int 6))) (.cons (.asg (.nm 12) (.callp 25 [0, 1] [] (.cons (.var 3) (.cons (.bin .add (.bi .tuple (.cons (.comp .rng (.cons (.idx (.var 3) (.con (.int 0))) .nil) (.nm 8) (.con (.bl true)) (.tup (.cons (.var 8) .nil)) [8]) .nil)) (.tup (.cons (.callp 2 [0, 1] [] (.cons (.var 2) (.cons (.var 5) .nil))) .nil))) .nil)))) (.cons (.fors .val (.cons (.tup (.cons (.con (.int 0)) (.cons (.con (.int 1)) .nil))) .nil) (.nm 10) (.cons (.ifs (.cmp .ne (.callp 28 [0, 1] [] (.cons (.var 12) (.cons (.var 10) .nil))) (.idx (.callp 29 [0, 1, 2] [] (.cons (.var 3) (.cons (.var 4) (.cons (.var 10) .nil)))) (.con (.int 0)))) (.cons (.ret (.con (.bl false))) .nil) .nil) .nil)) .nil)) .nil) .nil)))))) (.cons (.ret (.con (.bl true))) .nil)
def F : Nat → Option Fd
  | 0 => some ⟨2, 4, c0⟩
  | 1 => some ⟨2, 4, c1⟩
  | 2 => some ⟨2, 2, c2⟩
  | 3 => some ⟨2, 4, c3⟩
  | 4 => some ⟨1, 4, c4⟩
  | 5 => some ⟨2, 3, c5⟩
  | 6 => some ⟨3, 6, c6⟩
  | 7 => some ⟨2, 6, c7⟩
  | 8 => some ⟨1, 2, c8⟩
  | 9 => some ⟨2, 9, c9⟩
  | 10 => some ⟨2, 3, c10⟩
  | 11 => some ⟨2, 2, c11⟩
  | 12 => some ⟨1, 4, c12⟩
  | 13 => some ⟨2, 6, c13⟩
  | 14 => some ⟨1, 7, c14⟩
  | 15 => some ⟨2, 3, c15⟩
  | 16 => some ⟨2, 6, c16⟩
  | 17 => some ⟨1, 6, c17⟩
  | 18 => some ⟨1, 4, c18⟩
  | 19 => some ⟨1, 3, c19⟩
  | 20 => some ⟨3, 5, c20⟩
  | 21 => some ⟨1, 4, c21⟩
  | 22 => some ⟨1, 4, c22⟩
  | 23 => some ⟨2, 3, c23⟩
  | 24 => some ⟨2, 2, c24⟩
  | 25 => some ⟨2, 2, c25⟩
  | 26 => some ⟨3, 3, c26⟩
  | 27 => some ⟨3, 11, c27⟩
  | 28 => some ⟨2, 2, c28⟩
  | 29 => some ⟨3, 10, c29⟩
  | 30 => some ⟨1, 13, c30⟩
  | _ => none
abbrev pts : Pats := patsFrom 0 defs
theorem k0 : cS.go 60 (ctOf pts bl d0) (defBody d0.st) = some c0 := by kernel_rfl
theorem k1 : cS.go 60 (ctOf pts bl d1) (defBody d1.st) = some c1 := by kernel_rfl
theorem k2 : cS.go 60 (ctOf pts bl d2) (defBody d2.st) = some c2 := by kernel_rfl
theorem k3 : cS.go 60 (ctOf pts bl d3) (defBody d3.st) = some c3 := by kernel_rfl
theorem k4 : cS.go 60 (ctOf pts bl d4) (defBody d4.st) = some c4 := by kernel_rfl
theorem k5 : cS.go 60 (ctOf pts bl d5) (defBody d5.st) = some c5 := by kernel_rfl
theorem k6 : cS.go 60 (ctOf pts bl d6) (defBody d6.st) = some c6 := by kernel_rfl
theorem k7 : cS.go 60 (ctOf pts bl d7) (defBody d7.st) = some c7 := by kernel_rfl
theorem k8 : cS.go 60 (ctOf pts bl d8) (defBody d8.st) = some c8 := by kernel_rfl
theorem k9 : cS.go 60 (ctOf pts bl d9) (defBody d9.st) = some c9 := by kernel_rfl
theorem k10 : cS.go 60 (ctOf pts bl d10) (defBody d10.st) = some c10 := by kernel_rfl
theorem k11 : cS.go 60 (ctOf pts bl d11) (defBody d11.st) = some c11 := by kernel_rfl
theorem k12 : cS.go 60 (ctOf pts bl d12) (defBody d12.st) = some c12 := by kernel_rfl
theorem k13 : cS.go 60 (ctOf pts bl d13) (defBody d13.st) = some c13 := by kernel_rfl
theorem k14 : cS.go 60 (ctOf pts bl d14) (defBody d14.st) = some c14 := by kernel_rfl
theorem k15 : cS.go 60 (ctOf pts bl d15) (defBody d15.st) = some c15 := by kernel_rfl
theorem k16 : cS.go 60 (ctOf pts bl d16) (defBody d16.st) = some c16 := by kernel_rfl
theorem k17 : cS.go 60 (ctOf pts bl d17) (defBody d17.st) = some c17 := by kernel_rfl
theorem k18 : cS.go 60 (ctOf pts bl d18) (defBody d18.st) = some c18 := by kernel_rfl
theorem k19 : cS.go 60 (ctOf pts bl d19) (defBody d19.st) = some c19 := by kernel_rfl
theorem k20 : cS.go 60 (ctOf pts bl d20) (defBody d20.st) = some c20 := by kernel_rfl
theorem k21 : cS.go 60 (ctOf pts bl d21) (defBody d21.st) = some c21 := by kernel_rfl
theorem k22 : cS.go 60 (ctOf pts bl d22) (defBody d22.st) = some c22 := by kernel_rfl
theorem k23 : cS.go 60 (ctOf pts bl d23) (defBody d23.st) = some c23 := by kernel_rfl
theorem k24 : cS.go 60 (ctOf pts bl d24) (defBody d24.st) = some c24 := by kernel_rfl
theorem k25 : cS.go 60 (ctOf pts bl d25) (defBody d25.st) = some c25 := by kernel_rfl
theorem k26 : cS.go 60 (ctOf pts bl d26) (defBody d26.st) = some c26 := by kernel_rfl
theorem k27 : cS.go 60 (ctOf pts bl d27) (defBody d27.st) = some c27 := by kernel_rfl
theorem k28 : cS.go 60 (ctOf pts bl d28) (defBody d28.st) = some c28 := by kernel_rfl
theorem k29 : cS.go 60 (ctOf pts bl d29) (defBody d29.st) = some c29 := by kernel_rfl
theorem k30 : cS.go 60 (ctOf pts bl d30) (defBody d30.st) = some c30 := by kernel_rfl
theorem FO : FOk F defs pts bl := by
  intro i fd h
  unfold F at h
  split at h
  · cases h; exact ⟨d0, rfl, rfl, rfl, 60, k0⟩
  · cases h; exact ⟨d1, rfl, rfl, rfl, 60, k1⟩
  · cases h; exact ⟨d2, rfl, rfl, rfl, 60, k2⟩
  · cases h; exact ⟨d3, rfl, rfl, rfl, 60, k3⟩
  · cases h; exact ⟨d4, rfl, rfl, rfl, 60, k4⟩
  · cases h; exact ⟨d5, rfl, rfl, rfl, 60, k5⟩
  · cases h; exact ⟨d6, rfl, rfl, rfl, 60, k6⟩
  · cases h; exact ⟨d7, rfl, rfl, rfl, 60, k7⟩
  · cases h; exact ⟨d8, rfl, rfl, rfl, 60, k8⟩
  · cases h; exact ⟨d9, rfl, rfl, rfl, 60, k9⟩
  · cases h; exact ⟨d10, rfl, rfl, rfl, 60, k10⟩
  · cases h; exact ⟨d11, rfl, rfl, rfl, 60, k11⟩
  · cases h; exact ⟨d12, rfl, rfl, rfl, 60, k12⟩
  · cases h; exact ⟨d13, rfl, rfl, rfl, 60, k13⟩
  · cases h; exact ⟨d14, rfl, rfl, rfl, 60, k14⟩
  · cases h; exact ⟨d15, rfl, rfl, rfl, 60, k15⟩
  · cases h; exact ⟨d16, rfl, rfl, rfl, 60, k16⟩
  · cases h; exact ⟨d17, rfl, rfl, rfl, 60, k17⟩
  · cases h; exact ⟨d18, rfl, rfl, rfl, 60, k18⟩
  · cases h; exact ⟨d19, rfl, rfl, rfl, 60, k19⟩
  · cases h; exact ⟨d20, rfl, rfl, rfl, 60, k20⟩
  · cases h; exact ⟨d21, rfl, rfl, rfl, 60, k21⟩
  · cases h; exact ⟨d22, rfl, rfl, rfl, 60, k22⟩
  · cases h; exact ⟨d23, rfl, rfl, rfl, 60, k23⟩
  · cases h; exact ⟨d24, rfl, rfl, rfl, 60, k24⟩
  · cases h; exact ⟨d25, rfl, rfl, rfl, 60, k25⟩
  · cases h; exact ⟨d26, rfl, rfl, rfl, 60, k26⟩
  · cases h; exact ⟨d27, rfl, rfl, rfl, 60, k27⟩
  · cases h; exact ⟨d28, rfl, rfl, rfl, 60, k28⟩
  · cases h; exact ⟨d29, rfl, rfl, rfl, 60, k29⟩
  · cases h; exact ⟨d30, rfl, rfl, rfl, 60, k30⟩
  · cases h
theorem s0 : DefS d0 := ⟨rfl, ⟨rfl, rfl, rfl, by decide +kernel, rfl, by decide +kernel, by decide +kernel⟩, by decide, (allC (.plain rfl fun kV doc pm an cdv ct us ws h1 h2 => match us, h1, ws, h2 with | [_, _], _, [], _ => rfl) allN)⟩
theorem s1 : DefS d1 := ⟨rfl, ⟨rfl, rfl, rfl, by decide +kernel, rfl, by decide +kernel, by decide +kernel⟩, by decide, (allC (.plain rfl fun kV doc pm an cdv ct us ws h1 h2 => match us, h1, ws, h2 with | [_, _], _, [], _ => rfl) allN)⟩
theorem s2 : DefS d2 := ⟨rfl, ⟨rfl, rfl, rfl, by decide +kernel, rfl, by decide +kernel, by decide +kernel⟩, by decide, (allC (.plain rfl fun kV doc pm an cdv ct us ws h1 h2 => match us, h1, ws, h2 with | [_, _], _, [], _ => rfl) allN)⟩
theorem s3 : DefS d3 := ⟨rfl, ⟨rfl, rfl, rfl, by decide +kernel, rfl, by decide +kernel, by decide +kernel⟩, by decide, (allC (.plain rfl fun kV doc pm an cdv ct us ws h1 h2 => match us, h1, ws, h2 with | [_, _], _, [], _ => rfl) allN)⟩
theorem s4 : DefS d4 := ⟨rfl, ⟨rfl, rfl, rfl, by decide +kernel, rfl, by decide +kernel, by decide +kernel⟩, by decide, (allC (.plain rfl fun kV doc pm an cdv ct us ws h1 h2 => match us, h1, ws, h2 with | [_], _, [], _ => rfl) allN)⟩
theorem s5 : DefS d5 := ⟨rfl, ⟨rfl, rfl, rfl, by decide +kernel, rfl, by decide +kernel, by decide +kernel⟩, by decide, (allC (.plain rfl fun kV doc pm an cdv ct us ws h1 h2 => match us, h1, ws, h2 with | [_, _], _, [], _ => rfl) allN)⟩
theorem s6 : DefS d6 := ⟨rfl, ⟨rfl, rfl, rfl, by decide +kernel, rfl, by decide +kernel, by decide +kernel⟩, by decide, (allC (.plain rfl fun kV doc pm an cdv ct us ws h1 h2 => match us, h1, ws, h2 with | [_, _, _], _, [], _ => rfl) allN)⟩
theorem s7 : DefS d7 := ⟨rfl, ⟨rfl, rfl, rfl, by decide +kernel, rfl, by decide +kernel, by decide +kernel⟩, by decide, (allC (.plain rfl fun kV doc pm an cdv ct us ws h1 h2 => match us, h1, ws, h2 with | [_, _], _, [], _ => rfl) allN)⟩
theorem s8 : DefS d8 := ⟨rfl, ⟨rfl, rfl, rfl, by decide +kernel, rfl, by decide +kernel, by decide +kernel⟩, by decide, (allC (.plain rfl fun kV doc pm an cdv ct us ws h1 h2 => match us, h1, ws, h2 with | [_], _, [], _ => rfl) allN)⟩
theorem s9 : DefS d9 := ⟨rfl, ⟨rfl, rfl, rfl, by decide +kernel, rfl, by decide +kernel, by decide +kernel⟩, by decide, (allC (.plain rfl fun kV doc pm an cdv ct us ws h1 h2 => match us, h1, ws, h2 with | [_, _], _, [], _ => rfl) allN)⟩
theorem s10 : DefS d10 := ⟨rfl, ⟨rfl, rfl, rfl, by decide +kernel, rfl, by decide +kernel, by decide +kernel⟩, by decide, (allC (.plain rfl fun kV doc pm an cdv ct us ws h1 h2 => match us, h1, ws, h2 with | [_, _], _, [], _ => rfl) allN)⟩
theorem s11 : DefS d11 := ⟨rfl, ⟨rfl, rfl, rfl, by decide +kernel, rfl, by decide +kernel, by decide +kernel⟩, by decide, (allC (.plain rfl fun kV doc pm an cdv ct us ws h1 h2 => match us, h1, ws, h2 with | [_, _], _, [], _ => rfl) allN)⟩
theorem s12 : DefS d12 := ⟨rfl, ⟨rfl, rfl, rfl, by decide +kernel, rfl, by decide +kernel, by decide +kernel⟩, by decide, (allC (.plain rfl fun kV doc pm an cdv ct us ws h1 h2 => match us, h1, ws, h2 with | [_], _, [], _ => rfl) allN)⟩
theorem s13 : DefS d13 := ⟨rfl, ⟨rfl, rfl, rfl, by decide +kernel, rfl, by decide +kernel, by decide +kernel⟩, by decide, (allC (.plain rfl fun kV doc pm an cdv ct us ws h1 h2 => match us, h1, ws, h2 with | [_, _], _, [], _ => rfl) allN)⟩
theorem s14 : DefS d14 := ⟨rfl, ⟨rfl, rfl, rfl, by decide +kernel, rfl, by decide +kernel, by decide +kernel⟩, by decide, (allC (.plain rfl fun kV doc pm an cdv ct us ws h1 h2 => match us, h1, ws, h2 with | [_], _, [], _ => rfl) allN)⟩
theorem s15 : DefS d15 := ⟨rfl, ⟨rfl, rfl, rfl, by decide +kernel, rfl, by decide +kernel, by decide +kernel⟩, by decide, (allC (.plain rfl fun kV doc pm an cdv ct us ws h1 h2 => match us, h1, ws, h2 with | [_, _], _, [], _ => rfl) allN)⟩
theorem s16 : DefS d16 := ⟨rfl, ⟨rfl, rfl, rfl, by decide +kernel, rfl, by decide +kernel, by decide +kernel⟩, by decide, (allC (.plain rfl fun kV doc pm an cdv ct us ws h1 h2 => match us, h1, ws, h2 with | [_, _], _, [], _ => rfl) allN)⟩
theorem s17 : DefS d17 := ⟨rfl, ⟨rfl, rfl, rfl, by decide +kernel, rfl, by decide +kernel, by decide +kernel⟩, by decide, (allC (.plain rfl fun kV doc pm an cdv ct us ws h1 h2 => match us, h1, ws, h2 with | [_], _, [], _ => rfl) allN)⟩
theorem s18 : DefS d18 := ⟨rfl, ⟨rfl, rfl, rfl, by decide +kernel, rfl, by decide +kernel, by decide +kernel⟩, by decide, (allC (.plain rfl fun kV doc pm an cdv ct us ws h1 h2 => match us, h1, ws, h2 with | [_], _, [], _ => rfl) allN)⟩
theorem s19 : DefS d19 := ⟨rfl, ⟨rfl, rfl, rfl, by decide +kernel, rfl, by decide +kernel, by decide +kernel⟩, by decide, (allC (.plain rfl fun kV doc pm an cdv ct us ws h1 h2 => match us, h1, ws, h2 with | [_], _, [], _ => rfl) allN)⟩
theorem s20 : DefS d20 := ⟨rfl, ⟨rfl, rfl, rfl, by decide +kernel, rfl, by decide +kernel, by decide +kernel⟩, by decide, (allC (.plain rfl fun kV doc pm an cdv ct us ws h1 h2 => match us, h1, ws, h2 with | [_, _, _], _, [], _ => rfl) allN)⟩
theorem s21 : DefS d21 := ⟨rfl, ⟨rfl, rfl, rfl, by decide +kernel, rfl, by decide +kernel, by decide +kernel⟩, by decide, (allC (.plain rfl fun kV doc pm an cdv ct us ws h1 h2 => match us, h1, ws, h2 with | [_], _, [], _ => rfl) allN)⟩
theorem s22 : DefS d22 := ⟨rfl, ⟨rfl, rfl, rfl, by decide +kernel, rfl, by decide +kernel, by decide +kernel⟩, by decide, (allC (.plain rfl fun kV doc pm an cdv ct us ws h1 h2 => match us, h1, ws, h2 with | [_], _, [], _ => rfl) allN)⟩
theorem s23 : DefS d23 := ⟨rfl, ⟨rfl, rfl, rfl, by decide +kernel, rfl, by decide +kernel, by decide +kernel⟩, by decide, (allC (.plain rfl fun kV doc pm an cdv ct us ws h1 h2 => match us, h1, ws, h2 with | [_, _], _, [], _ => rfl) allN)⟩
theorem s24 : DefS d24 := ⟨rfl, ⟨rfl, rfl, rfl, by decide +kernel, rfl, by decide +kernel, by decide +kernel⟩, by decide, (allC (.plain rfl fun kV doc pm an cdv ct us ws h1 h2 => match us, h1, ws, h2 with | [_, _], _, [], _ => rfl) allN)⟩
theorem s25 : DefS d25 := ⟨rfl, ⟨rfl, rfl, rfl, by decide +kernel, rfl, by decide +kernel, by decide +kernel⟩, by decide, (allC (.plain rfl fun kV doc pm an cdv ct us ws h1 h2 => match us, h1, ws, h2 with | [_, _], _, [], _ => rfl) allN)⟩
theorem s26 : DefS d26 := ⟨rfl, ⟨rfl, rfl, rfl, by decide +kernel, rfl, by decide +kernel, by decide +kernel⟩, by decide, (allC (.plain rfl fun kV doc pm an cdv ct us ws h1 h2 => match us, h1, ws, h2 with | [_, _, _], _, [], _ => rfl) allN)⟩
theorem s27 : DefS d27 := ⟨rfl, ⟨rfl, rfl, rfl, by decide +kernel, rfl, by decide +kernel, by decide +kernel⟩, by decide, (allC (.plain rfl fun kV doc pm an cdv ct us ws h1 h2 => match us, h1, ws, h2 with | [_, _, _], _, [], _ => rfl) allN)⟩
theorem s28 : DefS d28 := ⟨rfl, ⟨rfl, rfl, rfl, by decide +kernel, rfl, by decide +kernel, by decide +kernel⟩, by decide, (allC (.plain rfl fun kV doc pm an cdv ct us ws h1 h2 => match us, h1, ws, h2 with | [_, _], _, [], _ => rfl) allN)⟩
theorem s29 : DefS d29 := ⟨rfl, ⟨rfl, rfl, rfl, by decide +kernel, rfl, by decide +kernel, by decide +kernel⟩, by decide, (allC (.plain rfl fun kV doc pm an cdv ct us ws h1 h2 => match us, h1, ws, h2 with | [_, _, _], _, [], _ => rfl) allN)⟩
theorem s30 : DefS d30 := ⟨rfl, ⟨rfl, rfl, rfl, by decide +kernel, rfl, by decide +kernel, by decide +kernel⟩, by decide, (allC (.plain rfl fun kV doc pm an cdv ct us ws h1 h2 => match us, h1, ws, h2 with | [_], _, [], _ => rfl) allN)⟩
theorem DS : ∀ d ∈ defs, DefS d := (allC s0 (allC s1 (allC s2 (allC s3 (allC s4 (allC s5 (allC s6 (allC s7 (allC s8 (allC s9 (allC s10 (allC s11 (allC s12 (allC s13 (allC s14 (allC s15 (allC s16 (allC s17 (allC s18 (allC s19 (allC s20 (allC s21 (allC s22 (allC s23 (allC s24 (allC s25 (allC s26 (allC s27 (allC s28 (allC s29 (allC s30 allN)))))))))))))))))))))))))))))))
/-! the head -/
abbrev R : PySem.W.OpenRow := PySem.W.OpenLaw.row PySem.Challenge.rw_bellsagain_k17_whole_bells_that_stand_fo
def fa : List He.Fa := facts defs bl nol
def fn : List He.DefD := defs.map defD
abbrev hk : PySem.W.Hook := He.hookX 4 fa fn [] tf exK
def ob (s : PySem.W.SharedT) : He.AlX := He.obsX 4 fa fn [] tf exK (HandSHeadRun.getT s)
theorem ob_eq (s : PySem.W.SharedT) : ob s = hk.obs s.abs := He.obsX_eq (HandSHeadRun.getT_eq s)
def loose : List Str := [("is_within" : Str), ("joined_lots" : Str), ("all_lots" : Str), ("pleases" : Str), ("condition_by" : Str), ("only_bells" : Str), ("stands_for" : Str), ("lots_within" : Str), ("greatest_other" : Str), ("split_rows" : Str), ("is_wanted" : Str), ("row_minds" : Str), ("mind_of" : Str), ("_law_box" : Str), ("_law_take" : Str), ("_law_pick" : Str), ("_law_same" : Str), ("_law_lots" : Str), ("_law_inside" : Str), ("_law_given" : Str), ("_law_by" : Str), ("_law_form" : Str), ("_law_other" : Str), ("_law_condition" : Str), ("_law_children" : Str), ("_law_tree" : Str), ("_law_paths" : Str), ("_law_leaves" : Str), ("_law_minds" : Str), ("_law_light" : Str)]
theorem run (w : World) : HandSHeadRun.RunEq R (PySem.W.view R.prog [35]) hk ob 1840 loose w := by
  intro os
  kernel_rfl
end Lw
open PySem PySem.W PySem.Calls PyProof.Rows
theorem Lw.holds {kk wf : Nat} (hr : L2.Room (3 * kk) PySem.callerA) (hM : ∀ ns : List Int, ns.length ≤ 63 → (∀ z ∈ ns, Builtin.Int.intBits z ≤ 1048576) → ∀ sv m, Bell.Scr ns sv m → ∃ m', Bell.callN Lw.F wf kk none 30 [sv] m = .ok (.bl true) m') : PySem.Challenge.rw_bellsagain_k17_whole_bells_that_stand_fo.Holds := by
  w_on; o_law
  refine HandSHeadRun.head_any (r := OpenLaw.row PySem.Challenge.rw_bellsagain_k17_whole_bells_that_stand_fo) (q := view (OpenLaw.row PySem.Challenge.rw_bellsagain_k17_whole_bells_that_stand_fo).prog [35]) (H := Lw.hk) (ob := Lw.ob) (M := 1840) (loose := Lw.loose) (d := HandSHeadRun.topDef (OpenLaw.row PySem.Challenge.rw_bellsagain_k17_whole_bells_that_stand_fo).prog 35) (kwd := []) Lw.ob_eq
    (by kernel_rfl) (fun s => by kernel_rfl) Lw.run (by kernel_rfl) (by kernel_rfl) (by kernel_rfl) (by rfl) (by first | assumption | decide +kernel) (by decide +kernel) ⟨rfl, rfl, rfl, rfl, rfl, by decide +kernel⟩ ?hw ?hc
  case hw => w_witness2
  case hc =>
    refine LamX.walk_ofTsE (l := PySem.Challenge.rw_bellsagain_k17_whole_bells_that_stand_fo) (n := 63) (k := 3 * kk) (x := "script") (CX := fun _ => L2.CX0) rfl (by decide) (by kernel_rfl) hr ?F (fun _ _ _ _ _ z => z)
    intro w mg fa h Y G hmg0
    obtain ⟨K, KX, c⟩ := Y
    have hmg : mg ("law" : PySem.Str) = some (.ref fa) := by
      have e : (HandSHeadRun.topDef (OpenLaw.row PySem.Challenge.rw_bellsagain_k17_whole_bells_that_stand_fo).prog 35).name = ("law" : PySem.Str) := by kernel_rfl
      rw [← e]
      exact hmg0
    exact ⟨K, KX, Bell.law_at (l := PySem.Challenge.rw_bellsagain_k17_whole_bells_that_stand_fo) (F := Lw.F) (d := Lw.d30) (i := 30) KX G c hmg (by decide +kernel) Lw.DS Lw.FO rfl rfl rfl (List.mem_cons_self ..) hM⟩
end

section
set_option maxRecDepth 100000
set_option maxHeartbeats 2000000
/-! the law k17 -/
namespace Bell
open PySem (Str)
theorem cm : Common Lw.F := .of rfl rfl rfl rfl rfl rfl rfl rfl rfl
theorem fs : SameF Lw.F := rfl
theorem tf' : TreeF Lw.F := .of rfl rfl rfl rfl rfl rfl rfl rfl rfl rfl rfl
theorem lf : LamF Lw.F 11 22 23 := ⟨⟨rfl, rfl⟩, rfl⟩
theorem fjl : Lw.F 21 = some ⟨1, 4, cJl⟩ := rfl
theorem fob : Lw.F 24 = some ⟨2, 2, cOb 11 23⟩ := rfl
theorem fsf : Lw.F 25 = some ⟨2, 2, cSf 11 21 23⟩ := rfl
theorem fwa : Lw.F 26 = some ⟨3, 3, cWant⟩ := rfl
theorem frm : Lw.F 27 = some ⟨3, 11, cRowM 26⟩ := rfl
theorem fmi : Lw.F 28 = some ⟨2, 2, cMind 27⟩ := rfl
theorem flm : Lw.F 29 = some ⟨3, 10, cLawM⟩ := rfl
theorem Px.trans {m m' m2 : Hm} {k : Nat} (h : Px k m m') (g : Px k m' m2) : Px k m m2 := ⟨Nat.le_trans h.len g.len, h.lt, fun j hj hk => by rw [g.out j (by have := h.len; omega) hk]; exact h.out j hj hk, g.box⟩
theorem lawm0 {m : Hm} {k N n : Nat} {ys : List Lot} (h1 : 1 ≤ k) (hk : k ≤ 6) (E : Ends k ys N) (hand : Int) (Q : D → Hm → Prop) (q : Q (.int (mindOf k ys (hand == 0))) m) : wp (callN Lw.F 3000 (n + 1) none 29 [cnd k ys, .tup (run k ys N).told, .int hand] m) fun x m => wpo (idxD x (.int 0) m) m Q := by
  refine lawm_ok (n := n) flm h1 hk ys E hand _ ?_
  have hv : vals k ys N (fun t => decide (lotAt k ys t ∈ ys) == (hand == 0)) N ≠ [] := fun z => by
    have := congrArg List.length z
    rw [vals_len] at this
    have := E.pos
    simp at *
    omega
  have hm0 := mind_v h1 hk E (hand == 0)
  unfold vAt at hm0
  cases hvs : vals k ys N (fun t => decide (lotAt k ys t ∈ ys) == (hand == 0)) N with
  | nil => exact absurd hvs hv
  | cons v vs =>
    rw [hvs] at hm0
    have hm0 : v = mindOf k ys (hand == 0) := hm0
    rw [show idxD (.lst ((v :: vs).map .int)) (.int 0) m = some (.int v) from idx_at (j := 0) (.inl rfl) rfl, wpo_some, hm0]
    exact q
/-- the turn's body, the hands' bodies -/
def b17t : S := match Lw.c30 with
  | .cons (.fors _ _ _ (.cons _ (.cons _ (.cons _ (.cons (.fors _ _ _ b) _))))) _ => b
  | _ => .nil
def b17h : S := match Lw.c30 with
  | .cons (.fors _ _ _ (.cons _ (.cons _ (.cons _ (.cons (.fors _ _ _ (.cons _ (.cons (.fors _ _ _ (.cons (.fors _ _ _ b) _)) _))) _))))) _ => b
  | _ => .nil
def b17m : S := match Lw.c30 with
  | .cons (.fors _ _ _ (.cons _ (.cons _ (.cons _ (.cons _ (.cons (.ifs _ (.cons _ (.cons (.fors _ _ _ b) _)) _) _)))))) _ => b
  | _ => .nil
theorem law17_hand {m0 m : Hm} {j N j2 : Nat} {ys ys2 : List Lot} (h1 : 1 ≤ j) (h6 : j ≤ 6) (E : Ends j ys N) (g1 : 1 ≤ j2) (g6 : j2 ≤ 6) (hand : Int) (hle : mindOf j2 ys2 (hand == 0) ≤ mindOf j ys (hand == 0)) (o0 o1 o2 o5 o6 o7 o8 o11 o12 : Option D) :
    wp (ex (cfN Lw.F 3000 59 m0) b17h [o0, o1, o2, some (cnd j ys), some (.tup (run j ys N).told), o5, o6, o7, o8, some (cnd j2 ys2), some (.int hand), o11, o12] m) fun p m' => p.1 = .nx ∧ m' = m ∧ ∃ o11, p.2 = [o0, o1, o2, some (cnd j ys), some (.tup (run j ys N).told), o5, o6, o7, o8, some (cnd j2 ys2), some (.int hand), o11, o12] := by
  obtain ⟨N2, E2⟩ := ends g1 g6 ys2
  dsimp only [b17h, Lw.c30]
  rw [w_scons]
  simp only [w_var, w_con, w_nil, w_cons, w_tup, w_lst, w_bin, w_cmp, w_tand, w_tor, w_tnot, w_tru, w_vand, w_vor, w_vnot, w_one, w_turn, w_ife, w_callp, w_bi, w_isin, w_idx, w_slc, w_nd, w_meth, w_comp, w_snil, w_single, w_asg, w_setix, w_exp, w_ret, w_ifs, w_fors, w_whil, w_brk, w_pass, wpo_some, wpb_some, wpa_tup, wpt_some, wif_bl, wp_ifB, wp_ok, get, put, home_int, home_bl, home_non, home_str, home_tup, home_adr, home_fro, home_lst, homes, assignT, assignTs, pick, List.map, List.replicate, List.cons_append, List.nil_append, List.append_nil, List.getD_cons_zero, List.getD_cons_succ]
  (try simp only [homes, home_cnd, home_enc, home_adr, home_int, home_bl, home_tup, home_non, home_str, home_lst, pick, List.nil_append, List.append_nil, List.getD_cons_zero, List.getD_cons_succ])
  refine mindOf_ok (n := 55) tf'.toTreeP fwa frm fmi g1 g6 _ (by decide) hand _ ?_
  simp only [home_int, put]
  rw [seqQ_nx, w_single, w_ifs]
  refine wp.mono (Q := fun d m' => d = D.bl false ∧ m' = m) ?_ ?_
  · simp only [w_var, w_con, w_nil, w_cons, w_tup, w_lst, w_bin, w_cmp, w_tand, w_tor, w_tnot, w_tru, w_vand, w_vor, w_vnot, w_one, w_turn, w_ife, w_callp, w_bi, w_isin, w_idx, w_slc, w_nd, w_meth, w_comp, w_snil, w_single, w_asg, w_setix, w_exp, w_ret, w_ifs, w_fors, w_whil, w_brk, w_pass, wpo_some, wpb_some, wpa_tup, wpt_some, wif_bl, wp_ifB, wp_ok, get, put, home_int, home_bl, home_non, home_str, home_tup, home_adr, home_fro, home_lst, homes, assignT, assignTs, pick, List.map, List.replicate, List.cons_append, List.nil_append, List.append_nil, List.getD_cons_zero, List.getD_cons_succ]
    (try simp only [homes, home_cnd, home_enc, home_adr, home_int, home_bl, home_tup, home_non, home_str, home_lst, pick, List.nil_append, List.append_nil, List.getD_cons_zero, List.getD_cons_succ])
    refine tree_ok (n := 56) cm tf' g1 g6 ys2 E2 _ ?_
    (try simp only [homes, home_cnd, home_enc, home_adr, home_int, home_bl, home_tup, home_non, home_str, home_lst, pick, List.nil_append, List.append_nil, List.getD_cons_zero, List.getD_cons_succ])
    refine lawm0 (n := 58) g1 g6 E2 hand _ ?_
    (try simp only [homes, home_cnd, home_enc, home_adr, home_int, home_bl, home_tup, home_non, home_str, home_lst, pick, List.nil_append, List.append_nil, List.getD_cons_zero, List.getD_cons_succ])
    refine same_ok fs 0 _ _ 58 _ (by unfold dat; rfl) ?_
    rw [t_blL]
    simp only [wpb_some, wp_ifB, wp_ok, if_true, Bool.false_eq_true, if_false]
    simp only [w_var, w_con, w_nil, w_cons, w_tup, w_lst, w_bin, w_cmp, w_tand, w_tor, w_tnot, w_tru, w_vand, w_vor, w_vnot, w_one, w_turn, w_ife, w_callp, w_bi, w_isin, w_idx, w_slc, w_nd, w_meth, w_comp, w_snil, w_single, w_asg, w_setix, w_exp, w_ret, w_ifs, w_fors, w_whil, w_brk, w_pass, wpo_some, wpb_some, wpa_tup, wpt_some, wif_bl, wp_ifB, wp_ok, get, put, home_int, home_bl, home_non, home_str, home_tup, home_adr, home_fro, home_lst, homes, assignT, assignTs, pick, List.map, List.replicate, List.cons_append, List.nil_append, List.append_nil, List.getD_cons_zero, List.getD_cons_succ]
    (try simp only [homes, home_cnd, home_enc, home_adr, home_int, home_bl, home_tup, home_non, home_str, home_lst, pick, List.nil_append, List.append_nil, List.getD_cons_zero, List.getD_cons_succ])
    refine lawm0 (n := 58) h1 h6 E hand _ ?_
    rw [c_gt, decide_eq_false (by omega)]
    simp only [wpb_some]
    exact ⟨trivial, trivial⟩
  · rintro _ _ ⟨rfl, rfl⟩
    simp only [wif_bl, Bool.false_eq_true, if_false, w_snil]
    exact ⟨trivial, trivial, _, rfl⟩
theorem law17_more {m0 m : Hm} {j N j2 : Nat} {ys ys2 : List Lot} (h1 : 1 ≤ j) (h6 : j ≤ 6) (E : Ends j ys N) (g1 : 1 ≤ j2) (g6 : j2 ≤ 6) (hand : Int) (he : mindOf j2 ys2 (hand == 0) = mindOf j ys (hand == 0)) (o0 o1 o2 o5 o6 o7 o8 o9 o11 : Option D) :
    wp (ex (cfN Lw.F 3000 59 m0) b17m [o0, o1, o2, some (cnd j ys), some (.tup (run j ys N).told), o5, o6, o7, o8, o9, some (.int hand), o11, some (cnd j2 ys2)] m) fun p m' => p.1 = .nx ∧ m' = m ∧ p.2 = [o0, o1, o2, some (cnd j ys), some (.tup (run j ys N).told), o5, o6, o7, o8, o9, some (.int hand), o11, some (cnd j2 ys2)] := by
  dsimp only [b17m, Lw.c30]
  rw [w_single, w_ifs]
  simp only [w_var, w_con, w_nil, w_cons, w_tup, w_lst, w_bin, w_cmp, w_tand, w_tor, w_tnot, w_tru, w_vand, w_vor, w_vnot, w_one, w_turn, w_ife, w_callp, w_bi, w_isin, w_idx, w_slc, w_nd, w_meth, w_comp, w_snil, w_single, w_asg, w_setix, w_exp, w_ret, w_ifs, w_fors, w_whil, w_brk, w_pass, wpo_some, wpb_some, wpa_tup, wpt_some, wif_bl, wp_ifB, wp_ok, get, put, home_int, home_bl, home_non, home_str, home_tup, home_adr, home_fro, home_lst, homes, assignT, assignTs, pick, List.map, List.replicate, List.cons_append, List.nil_append, List.append_nil, List.getD_cons_zero, List.getD_cons_succ]
  (try simp only [homes, home_cnd, home_enc, home_adr, home_int, home_bl, home_tup, home_non, home_str, home_lst, pick, List.nil_append, List.append_nil, List.getD_cons_zero, List.getD_cons_succ])
  refine mindOf_ok (n := 55) tf'.toTreeP fwa frm fmi g1 g6 _ (by decide) hand _ ?_
  (try simp only [homes, home_cnd, home_enc, home_adr, home_int, home_bl, home_tup, home_non, home_str, home_lst, pick, List.nil_append, List.append_nil, List.getD_cons_zero, List.getD_cons_succ])
  refine lawm0 (n := 58) h1 h6 E hand _ ?_
  rw [c_ne, he]
  simp only [beq_self_eq_true, Bool.not_true, wpb_some, wif_bl, Bool.false_eq_true, if_false, w_snil]
  exact ⟨trivial, trivial, trivial⟩
theorem law17_turn {m0 m : Hm} {j N k q : Nat} {ys : List Lot} (hc : IsC 6 j ys) (E : Ends j ys N) (hb : BoxAt m k) (hq : q ≠ k) (e : m[q]? = some (.lst (encs (lotsI j)))) (o0 o1 o6 o7 o8 o9 o10 o11 o12 : Option D) :
    wp (ex (cfN Lw.F 3000 59 m0) b17t [o0, o1, some (.adr k), some (cnd j ys), some (.tup (run j ys N).told), some (.adr q), o6, o7, o8, o9, o10, o11, o12] m) fun p m' => p.1 = .nx ∧ Px k m m' ∧ ∃ o7 o8 o9 o10 o11, p.2 = [o0, o1, some (.adr k), some (cnd j ys), some (.tup (run j ys N).told), some (.adr q), o6, o7, o8, o9, o10, o11, o12] := by
  have h1 := hc.pos
  have h6 : j ≤ 6 := hc.six
  have hql := (List.getElem?_eq_some_iff.mp e).1
  dsimp only [b17t, Lw.c30]
  rw [w_scons]
  simp only [w_var, w_con, w_nil, w_cons, w_tup, w_lst, w_bin, w_cmp, w_tand, w_tor, w_tnot, w_tru, w_vand, w_vor, w_vnot, w_one, w_turn, w_ife, w_callp, w_bi, w_isin, w_idx, w_slc, w_nd, w_meth, w_comp, w_snil, w_single, w_asg, w_setix, w_exp, w_ret, w_ifs, w_fors, w_whil, w_brk, w_pass, wpo_some, wpb_some, wpa_tup, wpt_some, wif_bl, wp_ifB, wp_ok, get, put, home_int, home_bl, home_non, home_str, home_tup, home_adr, home_fro, home_lst, homes, assignT, assignTs, pick, List.map, List.replicate, List.cons_append, List.nil_append, List.append_nil, List.getD_cons_zero, List.getD_cons_succ]
  (try simp only [homes, home_cnd, home_enc, home_adr, home_int, home_bl, home_tup, home_non, home_str, home_lst, pick, List.nil_append, List.append_nil, List.getD_cons_zero, List.getD_cons_succ])
  refine take_bx (n := 58) cm.toComT hb (by decide) (by decide) _ fun a m1 a0 a1 B1 => ?_
  obtain ⟨a, rfl⟩ := Int.eq_ofNat_of_zero_le a0
  simp only [b_add, wpo_some]
  rw [show (1 : Int) + (a : Int) = ((1 + a : Nat) : Int) by omega]
  refine ⟨_, _, src_rng (by omega) (by omega), isBig_of (by omega), ?_⟩
  refine (turns_inv (xs := rangeL 0 ((1 + a : Nat) : Int).toNat) (fun i acc m' => Px k m m' ∧ ∃ lots : List Lot, acc = encs lots ∧ lots.length = i ∧ ∀ x ∈ lots, x ∈ lotsI j) (fun _ _ _ _ _ => snap_at _ _ _) (fun i' d acc m' hd I => ?_) _ 0 [] m1 (Nat.zero_le _) (by rw [rangeL_lenW]; omega) ⟨B1.px, [], rfl, rfl, by simp⟩).mono fun acc m2 I => ?_
  · obtain ⟨P', lots, rfl, hl, hin⟩ := I
    rw [w_one]
    simp only [assignT, wipe, clr, put, wpt_some, w_callp, w_cons, w_nil, w_con, w_var, get, wpo_some, wpa_tup, wif_bl, if_true]
    (try simp only [homes, home_cnd, home_enc, home_adr, home_int, home_bl, home_tup, home_non, home_str, home_lst, pick, List.nil_append, List.append_nil, List.getD_cons_zero, List.getD_cons_succ])
    refine pickL_ok (n := 57) (b := j) cm.toComL P'.box h1 h6 hq (by rw [P'.out q hql hq]; exact e) _ fun w m3 hw B3 => ?_
    simp only [home_enc]
    exact ⟨P'.bx B3, lots ++ [w], by unfold encs; simp, by simp [hl], fun x hx => by
      rcases List.mem_append.mp hx with hx | hx
      · exact hin x hx
      · rw [List.mem_singleton.mp hx]; exact hw⟩
  obtain ⟨P2, lots, rfl, hl, hin⟩ := I
  rw [rangeL_lenW] at hl
  have hl6 : lots.length ≤ 6 := by omega
  have hl1 : 1 ≤ lots.length := by omega
  rw [bi_tupT]
  simp only [wpo_some, home_tup, put]
  rw [seqQ_nx]
  simp only [w_var, w_con, w_nil, w_cons, w_tup, w_lst, w_bin, w_cmp, w_tand, w_tor, w_tnot, w_tru, w_vand, w_vor, w_vnot, w_one, w_turn, w_ife, w_callp, w_bi, w_isin, w_idx, w_slc, w_nd, w_meth, w_comp, w_snil, w_single, w_asg, w_setix, w_exp, w_ret, w_ifs, w_fors, w_whil, w_brk, w_pass, wpo_some, wpb_some, wpa_tup, wpt_some, wif_bl, wp_ifB, wp_ok, get, put, home_int, home_bl, home_non, home_str, home_tup, home_adr, home_fro, home_lst, homes, assignT, assignTs, pick, List.map, List.replicate, List.cons_append, List.nil_append, List.append_nil, List.getD_cons_zero, List.getD_cons_succ]
  (try simp only [homes, home_cnd, home_enc, home_adr, home_int, home_bl, home_tup, home_non, home_str, home_lst, pick, List.nil_append, List.append_nil, List.getD_cons_zero, List.getD_cons_succ])
  refine sf_ok (n := 56) lf fjl fsf h6 hl6 hin ys _ ?_
  (try simp only [homes, home_cnd, home_enc, home_adr, home_int, home_bl, home_tup, home_non, home_str, home_lst, pick, List.nil_append, List.append_nil, List.getD_cons_zero, List.getD_cons_succ])
  refine pickL_ok (n := 57) (b := j) cm.toComL P2.box h1 h6 hq (by rw [P2.out q hql hq]; exact e) _ fun w m3 hw B3 => ?_
  have P3 := P2.bx B3
  have hw6 : w.length ≤ 6 := by have := lot_le h6 hw; omega
  have hw1 := lot_pos h6 hw
  (try simp only [homes, home_cnd, home_enc, home_adr, home_int, home_bl, home_tup, home_non, home_str, home_lst, pick, List.nil_append, List.append_nil, List.getD_cons_zero, List.getD_cons_succ])
  refine ob_ok (n := 56) lf fob hw6 ys _ ?_
  (try simp only [homes, home_cnd, home_enc, home_adr, home_int, home_bl, home_tup, home_non, home_str, home_lst, pick, List.nil_append, List.append_nil, List.getD_cons_zero, List.getD_cons_succ])
  refine ⟨_, _, src_lst _, ?_⟩
  refine loop_inv (xs := [cnd lots.length (standsL ys lots), cnd w.length (onlyL ys w)]) (fun _ ρ m' => m' = m3 ∧ ∃ o9 o10 o11, ρ = [o0, o1, some (.adr k), some (cnd j ys), some (.tup (run j ys N).told), some (.adr q), o6, some (.tup (encs lots)), o8, o9, o10, o11, o12]) _ (fun _ _ _ _ _ => snap_at _ _ _) (fun i d ρ m' hd I => ?_) (fun ρ m' I => ?_) _ 0 _ _ (Nat.zero_le _) (by simp) ⟨rfl, _, _, _, rfl⟩
  · obtain ⟨rfl, p9, p10, p11, rfl⟩ := I
    obtain ⟨j2, ys2, g1, g6, hle, rfl⟩ : ∃ j2 ys2, 1 ≤ j2 ∧ j2 ≤ 6 ∧ (∀ h, mindOf j2 ys2 h ≤ mindOf j ys h) ∧ d = cnd j2 ys2 := by
      have := List.mem_of_getElem? hd
      simp only [List.mem_cons, List.not_mem_nil, or_false] at this
      rcases this with rfl | rfl
      · exact ⟨_, _, hl1, hl6, fun h => stands_mind h1 h6 hl1 hl6 hin ys h, rfl⟩
      · exact ⟨_, _, hw1, hw6, fun h => only_mind h1 h6 hw ys h, rfl⟩
    rw [w_turn]
    refine ⟨_, rfl, ?_⟩
    dsimp only [put]
    rw [w_single, w_fors]
    simp only [w_tup, w_cons, w_nil, w_con, wpa_tup, homes, home_int]
    refine ⟨_, _, src_tup _, ?_⟩
    refine loop_inv (xs := [.int 0, .int 1]) (fun _ ρ m2 => m2 = m' ∧ ∃ o10 o11, ρ = [o0, o1, some (.adr k), some (cnd j ys), some (.tup (run j ys N).told), some (.adr q), o6, some (.tup (encs lots)), o8, some (cnd j2 ys2), o10, o11, o12]) _ (fun _ _ _ _ _ => snap_at _ _ _) (fun i d ρ m2 hd I => ?_) (fun ρ m2 I => ?_) _ 0 _ _ (Nat.zero_le _) (by simp) ⟨rfl, _, _, rfl⟩
    · obtain ⟨rfl, q10, q11, rfl⟩ := I
      obtain ⟨hand, rfl⟩ : ∃ hand : Int, d = .int hand := by
        have hd := List.mem_of_getElem? hd
        simp only [List.mem_cons, List.not_mem_nil, or_false] at hd
        rcases hd with rfl | rfl <;> exact ⟨_, rfl⟩
      rw [w_turn]
      refine ⟨_, rfl, ?_⟩
      dsimp only [put]
      have h := law17_hand (m0 := m0) (m := m2) h1 h6 E g1 g6 hand (hle (hand == 0)) o0 o1 (some (.adr k)) (some (.adr q)) o6 (some (.tup (encs lots))) o8 q11 o12
      dsimp only [b17h, Lw.c30] at h
      refine h.mono fun p m4 h => ?_
      obtain ⟨h1, rfl, r11, h3⟩ := h
      rw [h1]
      exact ⟨rfl, _, _, h3⟩
    · obtain ⟨rfl, q10, q11, rfl⟩ := I
      exact ⟨rfl, _, _, _, rfl⟩
  · obtain ⟨rfl, p9, p10, p11, rfl⟩ := I
    exact ⟨rfl, P3, _, _, _, _, _, rfl⟩
theorem law17_in {sv : D} {m l : Hm} {k t : Nat} (hk : m.length ≤ k) (hb : BoxAt (m ++ l) k) (o3 o4 o5 o6 o7 o8 o9 o10 o11 o12 : Option D) :
    wp (ex (cfN Lw.F 3000 59 m) (match Lw.c30 with | .cons (.fors _ _ _ (.cons _ b)) _ => b | _ => .nil) [some sv, some (.int (t : Int)), some (.adr k), o3, o4, o5, o6, o7, o8, o9, o10, o11, o12] (m ++ l)) (Turn m sv 10) := by
  dsimp only [Lw.c30]
  rw [w_scons]
  simp only [w_var, w_con, w_nil, w_cons, w_tup, w_lst, w_bin, w_cmp, w_tand, w_tor, w_tnot, w_tru, w_vand, w_vor, w_vnot, w_one, w_turn, w_ife, w_callp, w_bi, w_isin, w_idx, w_slc, w_nd, w_meth, w_comp, w_snil, w_single, w_asg, w_setix, w_exp, w_ret, w_ifs, w_fors, w_whil, w_brk, w_pass, wpo_some, wpb_some, wpa_tup, wpt_some, wif_bl, wp_ifB, wp_ok, get, put, home_int, home_bl, home_non, home_str, home_tup, home_adr, home_fro, home_lst, homes, assignT, assignTs, pick, List.map, List.replicate, List.cons_append, List.nil_append, List.append_nil, List.getD_cons_zero, List.getD_cons_succ]
  simp only [c_eq, wpb_some, wp_ifB]
  have rest : ∀ most : Nat, 2 ≤ most → most ≤ 6 → wp (callN Lw.F 3000 59 none 20 [.adr k, .int (most : Int), .int 60] (m ++ l)) fun x m2 => ∃ j ys, IsC 6 j ys ∧ x = cnd j ys ∧ Px k (m ++ l) m2 := fun most h2 h6 => by
    refine light_ok (n := 53) (c := 60) (most := most) cm tf' hb h2 h6 _ fun j ys m2 hc1 B1 => ?_
    exact ⟨j, ys, ⟨hc1.pos, by have := hc1.six; omega, hc1.six, hc1.sub⟩, rfl, B1.px⟩
  have b6 := rest 6 (by decide) (by decide)
  have b5 := rest 5 (by decide) (by decide)
  clear rest
  split
  all_goals
    rw [w_con]
    (try simp only [homes, home_cnd, home_enc, home_adr, home_int, home_bl, home_tup, home_non, home_str, home_lst, pick, List.nil_append, List.append_nil, List.getD_cons_zero, List.getD_cons_succ])
    refine wp.mono (by first | exact b6 | exact b5) ?_
    rintro x m2 ⟨j, ys, hc, rfl, P1⟩
    have h1 := hc.pos
    have h6 : j ≤ 6 := hc.six
    obtain ⟨N, E⟩ := ends h1 h6 ys
    have hkl := P1.box.lt
    simp only [home_cnd, put]
    rw [seqQ_nx, w_scons]
    simp only [w_var, w_con, w_nil, w_cons, w_tup, w_lst, w_bin, w_cmp, w_tand, w_tor, w_tnot, w_tru, w_vand, w_vor, w_vnot, w_one, w_turn, w_ife, w_callp, w_bi, w_isin, w_idx, w_slc, w_nd, w_meth, w_comp, w_snil, w_single, w_asg, w_setix, w_exp, w_ret, w_ifs, w_fors, w_whil, w_brk, w_pass, wpo_some, wpb_some, wpa_tup, wpt_some, wif_bl, wp_ifB, wp_ok, get, put, home_int, home_bl, home_non, home_str, home_tup, home_adr, home_fro, home_lst, homes, assignT, assignTs, pick, List.map, List.replicate, List.cons_append, List.nil_append, List.append_nil, List.getD_cons_zero, List.getD_cons_succ]
    (try simp only [homes, home_cnd, home_enc, home_adr, home_int, home_bl, home_tup, home_non, home_str, home_lst, pick, List.nil_append, List.append_nil, List.getD_cons_zero, List.getD_cons_succ])
    refine tree_ok (n := 56) cm tf' h1 h6 ys E _ ?_
    simp only [cnd_0, wpo_some]
    (try simp only [homes, home_cnd, home_enc, home_adr, home_int, home_bl, home_tup, home_non, home_str, home_lst, pick, List.nil_append, List.append_nil, List.getD_cons_zero, List.getD_cons_succ])
    refine lots_ok (n := 58) cm.toComL (by omega) _ ?_
    simp only [homes, home_tup, home_lst, assignT, assignTs, put, wpt_some]
    have P2 := P1.app [D.lst (encs (lotsI j))]
    have e2 : (m2 ++ [D.lst (encs (lotsI j))])[m2.length]? = some (.lst (encs (lotsI j))) := List.getElem?_concat_length
    have hqk : m2.length ≠ k := by omega
    generalize hm3 : m2 ++ [D.lst (encs (lotsI j))] = m3 at P2 e2
    generalize m2.length = q at e2 hqk
    have hql := (List.getElem?_eq_some_iff.mp e2).1
    rw [seqQ_nx, w_scons, w_fors]
    simp only [w_con, w_cons, w_nil, wpa_tup]
    refine ⟨_, _, src_rng (by decide) (by decide), ?_⟩
    refine loop_inv (xs := rangeL 0 (4 : Int).toNat) (fun _ ρ m' => Px k m3 m' ∧ ∃ o6 o7 o8 o9 o10 o11 o12, ρ = [some sv, some (.int (t : Int)), some (.adr k), some (cnd j ys), some (.tup (run j ys N).told), some (.adr q), o6, o7, o8, o9, o10, o11, o12]) _ (fun _ _ _ _ _ => snap_at _ _ _) (fun i d ρ m' hd I => ?_) (fun ρ m' I => ?_) _ 0 _ _ (Nat.zero_le _) (by rw [rangeL_lenW]; simp) ⟨Px.refl P2.box, _, _, _, _, _, _, _, rfl⟩
    · obtain ⟨P, p6, p7, p8, p9, p10, p11, p12, rfl⟩ := I
      rw [w_turn]
      refine ⟨_, rfl, ?_⟩
      dsimp only [put]
      have h := law17_turn (m0 := m) (m := m') hc E P.box hqk (by rw [P.out q hql hqk]; exact e2) (some sv) (some (.int (t : Int))) (some d) p7 p8 p9 p10 p11 p12
      dsimp only [b17t, Lw.c30] at h
      refine h.mono fun p m4 h => ?_
      obtain ⟨h1, P4, q7, q8, q9, q10, q11, h3⟩ := h
      rw [h1]
      exact ⟨P.trans P4, _, _, _, _, _, _, _, h3⟩
    · obtain ⟨P, p6, p7, p8, p9, p10, p11, p12, rfl⟩ := I
      have P5 : Px k (m ++ l) m' := P2.trans P
      have e5 : m'[q]? = some (.lst (encs (lotsI j))) := by rw [P.out q hql hqk]; exact e2
      rw [seqQ_nx, w_single, w_ifs]
      simp only [w_cmp, w_idx, w_var, w_con, get, wpo_some, cnd_0, c_lt, wpb_some, wif_bl]
      by_cases h5 : (j : Int) < 6
      · rw [if_pos (decide_eq_true h5), w_scons]
        simp only [w_var, w_con, w_nil, w_cons, w_tup, w_lst, w_bin, w_cmp, w_tand, w_tor, w_tnot, w_tru, w_vand, w_vor, w_vnot, w_one, w_turn, w_ife, w_callp, w_bi, w_isin, w_idx, w_slc, w_nd, w_meth, w_comp, w_snil, w_single, w_asg, w_setix, w_exp, w_ret, w_ifs, w_fors, w_whil, w_brk, w_pass, wpo_some, wpb_some, wpa_tup, wpt_some, wif_bl, wp_ifB, wp_ok, get, put, home_int, home_bl, home_non, home_str, home_tup, home_adr, home_fro, home_lst, homes, assignT, assignTs, pick, List.map, List.replicate, List.cons_append, List.nil_append, List.append_nil, List.getD_cons_zero, List.getD_cons_succ]
        simp only [cnd_0, wpo_some]
        refine ⟨_, _, src_rngI j (by omega), isBig_of (by simp [idL_len]; omega), turns_ones (fun _ => rfl) ?_⟩
        rw [bi_tupT]
        simp only [wpo_some]
        (try simp only [homes, home_cnd, home_enc, home_adr, home_int, home_bl, home_tup, home_non, home_str, home_lst, pick, List.nil_append, List.append_nil, List.getD_cons_zero, List.getD_cons_succ])
        refine pickL_ok (n := 57) (b := j) cm.toComL P5.box h1 h6 hqk e5 _ fun w m6 hw B6 => ?_
        have P6 := P5.bx B6
        (try simp only [homes, home_cnd, home_enc, home_adr, home_int, home_bl, home_tup, home_non, home_str, home_lst, pick, List.nil_append, List.append_nil, List.getD_cons_zero, List.getD_cons_succ])
        rw [b_addT _ _ (by rw [encs_len, ones_len, idL_len]; simp; omega)]
        simp only [wpo_some]
        have ecat : encs (ones (idL j)) ++ [encI w] = encs (ones (idL j) ++ [w]) := by unfold encs; rw [List.map_append]; rfl
        rw [ecat]
        have ll : (ones (idL j) ++ [w]).length = j + 1 := by rw [List.length_append, ones_len, idL_len]; rfl
        (try simp only [homes, home_cnd, home_enc, home_adr, home_int, home_bl, home_tup, home_non, home_str, home_lst, pick, List.nil_append, List.append_nil, List.getD_cons_zero, List.getD_cons_succ])
        refine sf_ok (n := 56) lf fjl fsf h6 (lots := ones (idL j) ++ [w]) (by rw [ll]; omega) (fun x hx => ?_) ys _ ?_
        · rcases List.mem_append.mp hx with hx | hx
          · obtain ⟨b, hb, rfl⟩ := List.mem_map.mp hx
            have hb := idL_in.mp hb
            exact (lots_iff h6).mpr ⟨by simp, List.pairwise_singleton _ _, fun x hx => by rw [List.mem_singleton.mp hx]; exact hb⟩
          · rw [List.mem_singleton.mp hx]; exact hw
        rw [ll]
        simp only [home_cnd, put]
        rw [seqQ_nx]
        simp only [w_var, w_con, w_nil, w_cons, w_tup, w_lst, w_bin, w_cmp, w_tand, w_tor, w_tnot, w_tru, w_vand, w_vor, w_vnot, w_one, w_turn, w_ife, w_callp, w_bi, w_isin, w_idx, w_slc, w_nd, w_meth, w_comp, w_snil, w_single, w_asg, w_setix, w_exp, w_ret, w_ifs, w_fors, w_whil, w_brk, w_pass, wpo_some, wpb_some, wpa_tup, wpt_some, wif_bl, wp_ifB, wp_ok, get, put, home_int, home_bl, home_non, home_str, home_tup, home_adr, home_fro, home_lst, homes, assignT, assignTs, pick, List.map, List.replicate, List.cons_append, List.nil_append, List.append_nil, List.getD_cons_zero, List.getD_cons_succ]
        (try simp only [homes, home_cnd, home_enc, home_adr, home_int, home_bl, home_tup, home_non, home_str, home_lst, pick, List.nil_append, List.append_nil, List.getD_cons_zero, List.getD_cons_succ])
        refine ⟨_, _, src_tup _, ?_⟩
        refine loop_inv (xs := [.int 0, .int 1]) (fun _ ρ m2 => m2 = m6 ∧ ∃ o10, ρ = [some sv, some (.int (t : Int)), some (.adr k), some (cnd j ys), some (.tup (run j ys N).told), some (.adr q), p6, p7, p8, p9, o10, p11, some (cnd (j + 1) (standsL ys (ones (idL j) ++ [w])))]) _ (fun _ _ _ _ _ => snap_at _ _ _) (fun i d ρ m2 hd I => ?_) (fun ρ m2 I => ?_) _ 0 _ _ (Nat.zero_le _) (by simp) ⟨rfl, _, rfl⟩
        · obtain ⟨rfl, q10, rfl⟩ := I
          obtain ⟨hand, rfl⟩ : ∃ hand : Int, d = .int hand := by
            have hd := List.mem_of_getElem? hd
            simp only [List.mem_cons, List.not_mem_nil, or_false] at hd
            rcases hd with rfl | rfl <;> exact ⟨_, rfl⟩
          rw [w_turn]
          refine ⟨_, rfl, ?_⟩
          dsimp only [put]
          have h := law17_more (m0 := m) (m := m2) h1 h6 E (j2 := j + 1) (ys2 := standsL ys (ones (idL j) ++ [w])) (by omega) (by omega) hand (more_mind hc (by omega) hw _) (some sv) (some (.int (t : Int))) (some (.adr k)) (some (.adr q)) p6 p7 p8 p9 p11
          dsimp only [b17m, Lw.c30] at h
          refine h.mono fun p m4 h => ?_
          obtain ⟨h1, rfl, h3⟩ := h
          rw [h1]
          exact ⟨rfl, _, h3⟩
        · obtain ⟨rfl, q10, rfl⟩ := I
          obtain ⟨l2, rfl⟩ := Px.pre rfl hk P6
          exact ⟨.inl rfl, ⟨_, rfl⟩, _, _, _, rfl, rfl⟩
      · rw [if_neg (by simpa using h5), w_snil]
        obtain ⟨l2, rfl⟩ := Px.pre rfl hk P5
        exact ⟨.inl rfl, ⟨_, rfl⟩, _, _, _, rfl, rfl⟩
theorem law17 {ns : List Int} (hn : ns.length ≤ 63) {sv : D} {m : Hm} (s : Scr ns sv m) : wp (callN Lw.F 3000 60 none 30 [sv] m) fun d _ => d = .bl true :=
  law_start (n := 58) (q := 10) cm.toComT (fi := 30) rfl hn s fun t l k os ht hos hk hb => by
    match os, hos with
    | [o3, o4, o5, o6, o7, o8, o9, o10, o11, o12], _ => exact law17_in hk hb o3 o4 o5 o6 o7 o8 o9 o10 o11 o12
end Bell
open Bell in
theorem Lw.final (hr : L2.Room (3 * 60) PySem.callerA) : PySem.Challenge.rw_bellsagain_k17_whole_bells_that_stand_fo.Holds := Lw.holds (kk := 60) (wf := 3000) hr fun ns hn _ sv m s => by
  obtain ⟨d, m', e, q⟩ := law17 hn s
  exact ⟨m', by rw [e, q]⟩
end

theorem PySem.Challenge.cw_bellsagain_k17_whole_bells_that_stand_fo_holds : PySem.Challenge.rw_bellsagain_k17_whole_bells_that_stand_fo.Holds :=
  Lw.final ⟨rfl, by decide +kernel, by decide +kernel⟩
