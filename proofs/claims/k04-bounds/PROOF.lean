import PyProof.Rows.All
import Wide.All
import OpenK.AllK
import OpenK.KOwn
import Wide.FinOn
import HandS.ForMost
import HandS.ForExc
import HandS.TupAny
import HandS.Deep
import HandS.IsInst
import HandS.Wide
import HandS.Walk
import HandS.SortInts
import HandS.Flow
import HandS.GenList
import HandS.ExcOwn
import HandS.ExcIs
import HandS.RaiseMore
import HandS.More
import HandS.Small
import HandS.TryOnly
import HandS.WordsExc
import HandS.Zip
import HandS.Ends
import PySem.Challenge.RW_pagestyles_k04_bounds_at_the_edge
set_option Elab.async false
set_option linter.all false
set_option maxRecDepth 100000
/-! V1: an evaluator of our own without a heap: lists, dicts and objects are values; a flag says whether the one who holds them may change them. Plain Lean, no program in sight. -/
namespace PV

/-! ### written data -/
inductive D where
  | non | bl (b : Bool) | int (i : Int) | str (s : List Char) | tup (xs : List D)
  deriving Repr, Inhabited
mutual
def D.beq : D → D → Bool
  | .non, .non => true
  | .bl a, .bl b => a == b
  | .int a, .int b => a == b
  | .str a, .str b => a == b
  | .tup a, .tup b => D.beqs a b
  | _, _ => false
def D.beqs : List D → List D → Bool
  | [], [] => true
  | a :: as, b :: bs => D.beq a b && D.beqs as bs
  | _, _ => false
end
mutual
theorem D.beq_iff : ∀ a b : D, D.beq a b = true ↔ a = b
  | .non, b => by cases b <;> simp [D.beq]
  | .bl a, b => by cases b <;> simp [D.beq]
  | .int a, b => by cases b <;> simp [D.beq]
  | .str a, b => by cases b <;> simp [D.beq]
  | .tup a, b => by
    cases b with
    | tup b => simp only [D.beq, D.tup.injEq]; exact D.beqs_iff a b
    | _ => simp [D.beq]
theorem D.beqs_iff : ∀ a b : List D, D.beqs a b = true ↔ a = b
  | [], b => by cases b <;> simp [D.beqs]
  | a :: as, b => by
    cases b with
    | nil => simp [D.beqs]
    | cons b bs => simp only [D.beqs, Bool.and_eq_true, List.cons.injEq]; rw [D.beq_iff a b, D.beqs_iff as bs]
end
instance : DecidableEq D := fun a b => if h : D.beq a b = true then isTrue ((D.beq_iff a b).mp h) else isFalse fun e => h ((D.beq_iff a b).mpr e)

/-! ### values -/
/-- a value; o: it is the holder's own, and may be changed -/
inductive W where
  | non | bl (b : Bool) | int (i : Int) | str (s : List Char)
  | tup (ws : List W) | lst (o : Bool) (ws : List W) | dic (o : Bool) (ks vs : List W) | ins (o : Bool) (c : Nat) (fs : List W)
  | ro (xs : List Int) | fn (i : Nat)
  deriving Repr, Inhabited
mutual
def D.w : D → W
  | .non => .non
  | .bl b => .bl b
  | .int i => .int i
  | .str s => .str s
  | .tup ds => .tup (D.ws ds)
def D.ws : List D → List W
  | [] => []
  | d :: ds => d.w :: D.ws ds
end
mutual
/-- nothing in it may be changed -/
def W.frz : W → Bool
  | .tup ws => W.frzs ws
  | .lst o ws => !o && W.frzs ws
  | .dic o ks vs => !o && (W.frzs ks && W.frzs vs)
  | .ins o _ fs => !o && W.frzs fs
  | _ => true
def W.frzs : List W → Bool
  | [] => true
  | w :: ws => w.frz && W.frzs ws
end
mutual
/-- it may no more be changed -/
def W.fz : W → W
  | .tup ws => .tup (W.fzs ws)
  | .lst _ ws => .lst false (W.fzs ws)
  | .dic _ ks vs => .dic false (W.fzs ks) (W.fzs vs)
  | .ins _ c fs => .ins false c (W.fzs fs)
  | .non => .non
  | .bl b => .bl b
  | .int i => .int i
  | .str s => .str s
  | .ro xs => .ro xs
  | .fn i => .fn i
def W.fzs : List W → List W
  | [] => []
  | w :: ws => w.fz :: W.fzs ws
end
abbrev St := List (Option W)
structure Exc where
  c : Nat
  fs : List W
  deriving Repr, Inhabited
inductive R (α : Type) where
  | ok (a : α) (σ : St)
  | ex (x : Exc) (σ : St)
  deriving Repr
abbrev M (α : Type) := St → Option (R α)
def M.pure {α : Type} (a : α) : M α := fun σ => some (.ok a σ)
def M.bind {α β : Type} (m : M α) (f : α → M β) : M β := fun σ => match m σ with
  | none => none
  | some (.ex x σ') => some (.ex x σ')
  | some (.ok a σ') => f a σ'
def M.fail {α : Type} : M α := fun _ => none
def M.opt {α : Type} (o : Option α) : M α := fun σ => match o with
  | none => none
  | some a => some (.ok a σ)

@[irreducible] def SZ : Nat := 16777216
@[irreducible] def FUEL : Nat := 18446744073709551616

/-! ### terms -/
inductive BOp where
  | add | sub | mul | fdiv | mod | pow
  deriving DecidableEq, Repr
inductive COp where
  | eq | ne | lt | le | gt | ge | is | isn | inn | nin
  deriving DecidableEq, Repr
inductive Ty where
  | int | bool | str | tuple | list | dict | cls (i : Nat) | valueError
  deriving DecidableEq, Repr
/-- built-in functions -/
inductive BI where
  | len | abs | int | max2 | min2 | tuple | list | sum | maxL | minL | any | all | sorted
  deriving DecidableEq, Repr
/-- methods that change a list -/
inductive MV where
  | append | extend | pop | reverse | clear
  deriving DecidableEq, Repr
/-- methods that change nothing -/
inductive MI where
  | join | index
  deriving DecidableEq, Repr
inductive T where
  | name (i : Nat)
  | tup (is : List Nat)
  deriving DecidableEq, Repr

mutual
inductive E where
  | var (i : Nat)
  /-- a name's last use -/
  | mov (i : Nat)
  | cst (d : D)
  | fnv (i : Nat)
  | bin (o : BOp) (a b : E)
  | cmp (o : COp) (a b : E)
  | ch2 (o p : COp) (a b c : E)
  | neg (a : E)
  | not (a : E)
  | and (a b : E)
  | or (a b : E)
  | ife (c a b : E)
  | tup (es : Es)
  | lst (es : Es)
  | ix (a b : E)
  | sl (a : E) (lo hi : Eo)
  | call (f : Nat) (es : Es)
  /-- the def that a name holds -/
  | callv (i : Nat) (es : Es)
  /-- a dict of the module, from texts to defs -/
  | fdx (tbl : List (List Char × Nat)) (e : E)
  /-- o[i].append(e), the list within a list of one's own; e says nothing of o -/
  | appAt (o : Nat) (i e : E)
  | blt (b : BI) (es : Es)
  | mut (m : MV) (i : Nat) (es : Es)
  | meth (m : MI) (o : E) (es : Es)
  | isin (a : E) (ts : List Ty)
  | isx (cs : List Nat)
  | xfld (i : Nat)
  | comp (elt : E) (tg : T) (it : It) (c : Eo) (wp : List Nat)
  deriving DecidableEq
inductive Es where
  | nil
  | cons (e : E) (es : Es)
  deriving DecidableEq
inductive Eo where
  | none
  | some (e : E)
  deriving DecidableEq
/-- what a for walks -/
inductive It where
  | seq (e : E)
  | rng1 (a : E)
  | rng2 (a b : E)
  | rng3 (a b c : E)
  | enm (e : E)
  | zip (a b : E)
  deriving DecidableEq
end
inductive S where
  | skip
  | expr (e : E)
  | set (i : Nat) (e : E)
  | setT (is : List Nat) (e : E)
  | setI (o : Nat) (i e : E)
  | par (i j : Nat) (a b : E)
  | aug (i : Nat) (o : BOp) (e : E)
  | seq (a b : S)
  | ife (c : E) (a b : S)
  | whl (c : E) (b : S) (wp : List Nat)
  | for (tg : T) (it : It) (b : S) (wp : List Nat)
  /-- over what the generator def f hands out -/
  | forG (tg : T) (f : Nat) (es : Es) (b : S) (wp : List Nat)
  | ret (e : Eo)
  | brk | cnt
  | raise (c : Nat) (es : Es)
  | try1 (b : S) (cs : List Nat) (x : Option Nat) (s : S)
  deriving DecidableEq

/-! ### operations on values -/
def mulOk (i j : Int) : Bool := decide (i.natAbs < 18446744073709551616) || decide (j.natAbs < 18446744073709551616)
def addW : W → W → Option W
  | .int i, .int j => some (.int (i + j))
  | .str a, .str b => if a.length + b.length ≤ SZ then some (.str (a ++ b)) else none
  | .tup a, .tup b => if a.length + b.length ≤ SZ ∧ W.frzs a = true ∧ W.frzs b = true then some (.tup (a ++ b)) else none
  | .lst _ a, .lst _ b => if a.length + b.length ≤ SZ ∧ W.frzs a = true ∧ W.frzs b = true then some (.lst true (a ++ b)) else none
  | _, _ => none
def subW : W → W → Option W
  | .int i, .int j => some (.int (i - j))
  | _, _ => none
def mulW : W → W → Option W
  | .int i, .int j => if mulOk i j = true then some (.int (i * j)) else none
  | .lst _ a, .int k => if -9223372036854775808 ≤ k ∧ k < 9223372036854775808 ∧ a.length * k.toNat ≤ SZ ∧ W.frzs a = true then some (.lst true (List.replicate k.toNat a).flatten) else none
  | _, _ => none
def fdivW : W → W → Option W
  | .int i, .int j => if 0 < j ∧ j.natAbs.log2 < 9000 then some (.int (i / j)) else none
  | _, _ => none
def modW : W → W → Option W
  | .int i, .int j => if 0 < j then some (.int (i % j)) else none
  | _, _ => none
def powW : W → W → Option W
  | .int i, .int j => if 0 ≤ j ∧ j ≤ 1000000 ∧ i.natAbs < 18446744073709551616 then some (.int (i ^ j.toNat)) else none
  | _, _ => none
def binOp : BOp → W → W → Option W
  | .add => addW
  | .sub => subW
  | .mul => mulW
  | .fdiv => fdivW
  | .mod => modW
  | .pow => powW

-- Python's == on data (True == 1)
mutual
def pyEq : W → W → Bool
  | .non, .non => true
  | .bl a, .bl b => a == b
  | .bl a, .int j => (if a then 1 else 0) == j
  | .int i, .bl b => i == (if b then 1 else 0)
  | .int a, .int b => a == b
  | .str a, .str b => a == b
  | .tup a, .tup b => pyEqs a b
  | .lst _ a, .lst _ b => pyEqs a b
  | _, _ => false
def pyEqs : List W → List W → Bool
  | [], [] => true
  | a :: as, b :: bs => pyEq a b && pyEqs as bs
  | _, _ => false
end
mutual
def W.depth : W → Nat
  | .tup xs => W.depths xs + 1
  | .lst _ xs => W.depths xs + 1
  | _ => 0
def W.depths : List W → Nat
  | [] => 0
  | x :: xs => max (W.depth x) (W.depths xs)
end
mutual
/-- plain data -/
def W.dat : W → Bool
  | .non => true
  | .bl _ => true
  | .int _ => true
  | .str _ => true
  | .tup xs => W.dats xs
  | .lst _ xs => W.dats xs
  | _ => false
def W.dats : List W → Bool
  | [] => true
  | x :: xs => W.dat x && W.dats xs
end
/-- the order of code points -/
def ltS (a b : List Char) : Bool := decide (a.map Char.toNat < b.map Char.toNat)
/-- ints -/
def allI : List W → Option (List Int)
  | [] => some []
  | .int i :: r => match allI r with
    | none => none
    | some xs => some (i :: xs)
  | _ :: _ => none
def allB : List W → Option (List Bool)
  | [] => some []
  | .bl i :: r => match allB r with
    | none => none
    | some xs => some (i :: xs)
  | _ :: _ => none
def allS : List W → Option (List (List Char))
  | [] => some []
  | .str i :: r => match allS r with
    | none => none
    | some xs => some (i :: xs)
  | _ :: _ => none
def ltT : List Int → List Int → Bool
  | [], [] => false
  | [], _ :: _ => true
  | _ :: _, [] => false
  | x :: xs, y :: ys => if x = y then ltT xs ys else decide (x < y)
def ltW : W → W → Option Bool
  | .int i, .int j => some (decide (i < j))
  | .str a, .str b => some (ltS a b)
  | .tup a, .tup b => match allI a, allI b with
    | some x, some y => some (ltT x y)
    | _, _ => none
  | _, _ => none
def datOk (x : W) : Bool := x.dat && decide (x.depth ≤ 60)
def eqW (x y : W) : Option Bool := if datOk x = true ∧ datOk y = true then some (pyEq x y) else none
/-- no tuple, no list -/
def W.flat : W → Bool
  | .non => true
  | .bl _ => true
  | .int _ => true
  | .str _ => true
  | _ => false
def inW : W → W → Option Bool
  | .str [c], .str b => some (decide (c ∈ b))
  | x, .tup b => if x.flat = true ∧ b.all W.flat = true then some (b.any fun z => pyEq z x) else none
  | x, .lst _ b => if datOk x = true ∧ datOk (.tup b) = true then some (b.any fun z => pyEq z x) else none
  | _, _ => none
def gtW : W → W → Option Bool
  | .int i, .int j => some (decide (j < i))
  | .str a, .str b => some (ltS b a)
  | _, _ => none
def leW : W → W → Option Bool
  | .int i, .int j => some (decide (i ≤ j))
  | .str a, .str b => some (!ltS b a)
  | _, _ => none
def geW : W → W → Option Bool
  | .int i, .int j => some (decide (j ≤ i))
  | .str a, .str b => some (!ltS a b)
  | _, _ => none
def W.isNon : W → Bool
  | .non => true
  | _ => false
def isNonW (x y : W) : Option Bool := match y with
  | .non => some x.isNon
  | _ => none
def cmpOp (o : COp) (x y : W) : Option Bool := match o with
  | .eq => eqW x y
  | .ne => (eqW x y).map (!·)
  | .lt => ltW x y
  | .gt => gtW x y
  | .le => leW x y
  | .ge => geW x y
  | .is => isNonW x y
  | .isn => (isNonW x y).map (!·)
  | .inn => inW x y
  | .nin => (inW x y).map (!·)

def truth : W → Option Bool
  | .non => some false
  | .bl b => some b
  | .int i => some (decide (i ≠ 0))
  | .str s => if s.length ≤ SZ then some (!s.isEmpty) else none
  | .tup xs => some (!xs.isEmpty)
  | .lst _ xs => some (!xs.isEmpty)
  | .ro xs => some (!xs.isEmpty)
  | _ => none

/-- the place of an index among n -/
def ixn (n : Nat) (i : Int) : Option Nat := if 0 ≤ i then (if i < n then some i.toNat else none) else if 0 ≤ i + n then some (i + n).toNat else none
def getIx : W → W → Option W
  | .tup xs, .int i => (ixn xs.length i).bind fun k => xs[k]?
  | .str s, .int i => if s.length ≤ SZ then (ixn s.length i).bind fun k => s[k]?.map fun c => W.str [c] else none
  | .lst _ xs, .int i => (ixn xs.length i).bind fun k => xs[k]?
  | .ro xs, .int i => (ixn xs.length i).bind fun k => xs[k]?.map W.int
  | _, _ => none
/-- a slice's bound as a place -/
def slIx (n d : Nat) : Option Int → Nat
  | none => d
  | some v => if v < 0 then (v + (n : Int)).toNat else min v.toNat n
def cut {α : Type} (xs : List α) (lo hi : Option Int) : List α := (xs.drop (slIx xs.length 0 lo)).take (slIx xs.length xs.length hi - slIx xs.length 0 lo)
def slice (x : W) (lo hi : Option Int) : Option W := match x with
  | .tup xs => if W.frzs xs = true then some (.tup (cut xs lo hi)) else none
  | .str s => if s.length ≤ SZ then some (.str (cut s lo hi)) else none
  | .lst _ xs => if W.frzs xs = true then some (.lst true (cut xs lo hi)) else none
  | _ => none

def tyB (t : Ty) (x : W) : Option Bool := match x with
  | .non => match t with
    | .cls _ => none
    | _ => some false
  | .bl _ => match t with
    | .bool => some true
    | .int => some true
    | .cls _ => none
    | _ => some false
  | .int _ => match t with
    | .int => some true
    | .cls _ => none
    | _ => some false
  | .str _ => match t with
    | .str => some true
    | .cls _ => none
    | _ => some false
  | .tup _ => match t with
    | .tuple => some true
    | .cls _ => none
    | _ => some false
  | .lst _ _ => match t with
    | .list => some true
    | .cls _ => none
    | _ => some false
  | _ => none
def tyAny : List Ty → W → Option Bool
  | [], _ => some false
  | t :: ts, x => match tyB t x with
    | none => none
    | some true => some true
    | some false => tyAny ts x

/-- insertion sort of ints -/
def insI (x : Int) : List Int → List Int
  | [] => [x]
  | y :: r => if x ≤ y then x :: y :: r else y :: insI x r
def sortI : List Int → List Int
  | [] => []
  | x :: r => insI x (sortI r)
def maxI : Int → List Int → Int
  | m, [] => m
  | m, x :: r => maxI (if x > m then x else m) r
def minI : Int → List Int → Int
  | m, [] => m
  | m, x :: r => minI (if x < m then x else m) r

def lenW : List W → Option W
  | [.str s] => if s.length ≤ SZ then some (.int s.length) else none
  | [.tup xs] => some (.int xs.length)
  | [.ro xs] => some (.int xs.length)
  | [.lst _ xs] => some (.int xs.length)
  | _ => none
def absW : List W → Option W
  | [.int i] => some (.int (if i < 0 then -i else i))
  | _ => none
def intW : List W → Option W
  | [.int i] => some (.int i)
  | [.bl b] => some (.int (if b then 1 else 0))
  | _ => none
def max2W : List W → Option W
  | [.int i, .int j] => some (.int (if j > i then j else i))
  | _ => none
def min2W : List W → Option W
  | [.int i, .int j] => some (.int (if j < i then j else i))
  | _ => none
def tupleW : List W → Option W
  | [.tup xs] => if W.frzs xs = true then some (.tup xs) else none
  | [.lst _ xs] => if W.frzs xs = true then some (.tup xs) else none
  | _ => none
def listW : List W → Option W
  | [.tup xs] => if W.frzs xs = true then some (.lst true xs) else none
  | [.lst _ xs] => if W.frzs xs = true then some (.lst true xs) else none
  | [.ro xs] => some (.lst true (xs.map W.int))
  | _ => none
/-- the ints of a list -/
def intsOf : W → Option (List Int)
  | .lst _ xs => allI xs
  | .ro xs => some xs
  | _ => none
def boolsOf : W → Option (List Bool)
  | .lst _ xs => allB xs
  | _ => none
def sumW : List W → Option W
  | [w] => match intsOf w with
    | some is => some (.int is.sum)
    | none => none
  | _ => none
def maxLW : List W → Option W
  | [w] => match intsOf w with
    | some (i :: is) => some (.int (maxI i is))
    | _ => none
  | _ => none
def minLW : List W → Option W
  | [w] => match intsOf w with
    | some (i :: is) => some (.int (minI i is))
    | _ => none
  | _ => none
def anyW : List W → Option W
  | [w] => match boolsOf w with
    | some bs => some (.bl (bs.any id))
    | none => none
  | _ => none
def allW : List W → Option W
  | [w] => match boolsOf w with
    | some bs => some (.bl (bs.all id))
    | none => none
  | _ => none
def sortedW : List W → Option W
  | [w] => match intsOf w with
    | some is => some (.lst true ((sortI is).map W.int))
    | none => none
  | _ => none
def bifn : BI → List W → Option W
  | .len => lenW
  | .abs => absW
  | .int => intW
  | .max2 => max2W
  | .min2 => min2W
  | .tuple => tupleW
  | .list => listW
  | .sum => sumW
  | .maxL => maxLW
  | .minL => minLW
  | .any => anyW
  | .all => allW
  | .sorted => sortedW

def joinC (s : List Char) : List (List Char) → List Char
  | [] => []
  | [x] => x
  | x :: y :: r => x ++ s ++ joinC s (y :: r)
/-- a list is changed: what is handed back, what it then is -/
def mutW (m : MV) (xs : List W) (ws : List W) : Option (W × List W) := match m, ws with
  | .append, [y] => if xs.length < SZ then some (.non, xs ++ [y]) else none
  | .extend, [.lst _ ys] => if xs.length + ys.length ≤ SZ ∧ W.frzs ys = true then some (.non, xs ++ ys) else none
  | .pop, [] => match xs[xs.length - 1]? with
    | some y => some (y, xs.dropLast)
    | none => none
  | .reverse, [] => some (.non, xs.reverse)
  | .clear, [] => some (.non, [])
  | _, _ => none
def joinW (o : W) (ws : List W) : Option W := match o, ws with
  | .str s, [.lst _ xs] => match allS xs with
    | some ys => if (ys.map (·.length)).sum + ys.length * s.length ≤ SZ then some (.str (joinC s ys)) else none
    | none => none
  | _, _ => none
/-- where it is first found -/
def findW (x : W) : List W → Option Nat
  | [] => none
  | z :: r => if pyEq z x = true then some 0 else (findW x r).map (· + 1)
def indexW (o : W) (ws : List W) : Option W := match o, ws with
  | .lst _ xs, [x] => if datOk x = true ∧ datOk (.tup xs) = true then (findW x xs).map fun j => W.int (j : Int) else none
  | _, _ => none
def recvL : W → Option Unit
  | .lst _ _ => some ()
  | _ => none
/-- what a method is asked of -/
def recvS : W → Option Unit
  | .str _ => some ()
  | _ => none
def recv (m : MI) (x : W) : Option Unit := match m with
  | .join => recvS x
  | .index => recvL x
def meth : MI → W → List W → Option W
  | .join => joinW
  | .index => indexW
/-- a dict of the module, from texts to defs -/
def fdxW (tbl : List (List Char × Nat)) : W → Option W
  | .str s => (tbl.lookup s).map W.fn
  | _ => none
/-- a list within a list -/
def inAt (y : W) : W → Bool
  | .lst true xs => match y with
    | .int j => match ixn xs.length j with
      | some n => match xs[n]? with
        | some (.lst true _) => true
        | _ => false
      | none => false
    | _ => false
  | _ => false
def appAtW (y v : W) : W → Option W
  | .lst true xs => match y with
    | .int j => match ixn xs.length j with
      | some n => match xs[n]? with
        | some (.lst true ys) => if ys.length < SZ then some (.lst true (xs.set n (.lst true (ys ++ [v])))) else none
        | _ => none
      | none => none
    | _ => none
  | _ => none

/-! ### what stands at a name -/
inductive P where
  | val (w : W)
  | at (i : Nat)
  deriving Repr
def P.get (σ : St) : P → Option W
  | .val w => some w
  | .at i => match σ[i]? with
    | some (some w) => some w
    | _ => none
def M.get (p : P) : M W := fun σ => match p.get σ with
  | some w => some (.ok w σ)
  | none => none
/-- what a name holds is taken away for a while -/
def takeAt (o : Nat) (y : W) : M W := fun σ => match σ[o]? with
  | some (some x) => if inAt y x = true then some (.ok x (σ.set o none)) else none
  | _ => none
def putAt (o : Nat) (y x v : W) : M W := fun σ => match appAtW y v x with
  | some x' => some (.ok .non (σ.set o (some x')))
  | none => none
def M.gets : List P → M (List W)
  | [] => M.pure []
  | p :: ps => (M.get p).bind fun w => (M.gets ps).bind fun ws => M.pure (w :: ws)
/-- a name's place, or a value -/
def pk (e : E) (m : M W) : M P := match e with
  | .var i => fun σ => match σ[i]? with
    | some (some _) => some (.ok (.at i) σ)
    | _ => none
  | _ => m.bind fun w => M.pure (.val w)
/-- what is handed to a call: what may be changed is away from its name while the call lasts -/
def lend : List P → St → Option (List W × List (Option Nat) × St)
  | [], σ => some ([], [], σ)
  | .val w :: ps, σ => match lend ps σ with
    | some (ws, ls, σ') => some (w :: ws, none :: ls, σ')
    | none => none
  | .at i :: ps, σ => match σ[i]? with
    | some (some w) => if w.frz = true then (match lend ps σ with
        | some (ws, ls, σ') => some (w :: ws, none :: ls, σ')
        | none => none) else (match lend ps (σ.set i none) with
        | some (ws, ls, σ') => some (w :: ws, some i :: ls, σ')
        | none => none)
    | _ => none
def back : List (Option Nat) → List W → St → St
  | some i :: ls, w :: ws, σ => back ls ws (σ.set i (some w))
  | none :: ls, _ :: ws, σ => back ls ws σ
  | _, _, σ => σ

/-! ### loops -/
inductive Fl where
  | nx (σ : St) | bk (σ : St) | ct (σ : St) | rt (w : W) (σ : St)
  deriving Repr
/-- one item of a walk: a value, or the parts of a tuple that is made for the turn -/
inductive Item where
  | one (w : W) | many (ws : List W)
  deriving Repr
def setAll (fx : List Nat) : List Nat → List W → St → Option St
  | [], [], σ => some σ
  | i :: is, w :: ws, σ => if i < σ.length ∧ fx.contains i = false then setAll fx is ws (σ.set i (some w)) else none
  | _, _, _ => none
/-- a target takes an item -/
def take (fx : List Nat) (tg : T) (x : Item) (σ : St) : Option St := match tg, x with
  | .name i, .one w => if i < σ.length ∧ fx.contains i = false then some (σ.set i (some w)) else none
  | .tup is, .one (.tup ws) => setAll fx is ws σ
  | .tup is, .many ws => setAll fx is ws σ
  | _, _ => none
/-- how a statement ends -/
inductive Out where
  | ok (f : Fl)
  | ex (x : Exc) (σ : St)
  deriving Repr
/-- an expression, then more -/
def onE {α : Type} (m : M α) (k : α → St → Option Out) (σ : St) : Option Out := match m σ with
  | none => none
  | some (.ex x σ') => some (.ex x σ')
  | some (.ok a σ') => k a σ'
def wipe (σ : St) : List Nat → St
  | [] => σ
  | v :: vs => (wipe σ vs).set v none
def forL (fx : List Nat) (tg : T) (wp : List Nat) (b : St → Option Out) : List Item → St → Option Out
  | [], σ => some (.ok (.nx σ))
  | x :: xs, σ => match take fx tg x σ with
      | none => none
      | some σ1 => match b σ1 with
        | some (.ok (.nx σ2)) => forL fx tg wp b xs (wipe σ2 wp)
        | some (.ok (.ct σ2)) => forL fx tg wp b xs (wipe σ2 wp)
        | some (.ok (.bk σ2)) => some (.ok (.nx (wipe σ2 wp)))
        | some (.ok (.rt w σ2)) => some (.ok (.rt w σ2))
        | some (.ex x σ2) => some (.ex x σ2)
        | none => none
def whlL (wp : List Nat) (c : M Bool) (b : St → Option Out) : Nat → St → Option Out
  | 0, _ => none
  | n + 1, σ => onE c (fun k σ1 => match k with
    | true => match b σ1 with
      | some (.ok (.nx σ2)) => whlL wp c b n (wipe σ2 wp)
      | some (.ok (.ct σ2)) => whlL wp c b n (wipe σ2 wp)
      | some (.ok (.bk σ2)) => some (.ok (.nx (wipe σ2 wp)))
      | some (.ok (.rt w σ2)) => some (.ok (.rt w σ2))
      | some (.ex x σ2) => some (.ex x σ2)
      | none => none
    | false => some (.ok (.nx σ1))) σ
/-- a comprehension's turns: nothing is raised within; wp: the block's own slots -/
def compL (fx : List Nat) (tg : T) (wp : List Nat) (c : M Bool) (e : M W) : List Item → List W → M (List W)
  | [], acc => fun σ => some (.ok acc σ)
  | x :: xs, acc => fun σ => match take fx tg x (wipe σ wp) with
      | none => none
      | some σ1 => match c σ1 with
        | some (.ok true σ2) => match e σ2 with
          | some (.ok w σ3) => if acc.length < SZ then compL fx tg wp c e xs (acc ++ [w]) (wipe σ3 wp) else none
          | _ => none
        | some (.ok false σ2) => compL fx tg wp c e xs acc (wipe σ2 wp)
        | _ => none

/-- what a walk hands out -/
def seqWalk : W → Option (List Item)
  | .tup ws => if W.frzs ws = true then some (ws.map Item.one) else none
  | .str s => some (s.map fun c => .one (.str [c]))
  | .lst false ws => if W.frzs ws = true then some (ws.map Item.one) else none
  | .ro xs => some (xs.map fun v => .one (.int v))
  | _ => none
def rngItems (lo : Int) (n : Nat) (c : Int) : List Item := (List.range n).map fun (i : Nat) => .one (.int (lo + (i : Int) * c))
/-- a bound, of sizes only: the kernel does not count down to it -/
def big : Nat := 4611686018427387904
def rngWalk (i j : Int) : Option (List Item) := if i.natAbs < big ∧ j.natAbs < big then some (rngItems i (j - i).toNat 1) else none
/-- downwards by ones -/
def rngWalk3 (i j c : Int) : Option (List Item) := if i.natAbs < big ∧ j.natAbs < big ∧ c = -1 then some (rngItems i (i - j).toNat (-1)) else none
def enumFrom (k : Nat) : List W → List Item
  | [] => []
  | x :: r => .many [.int k, x] :: enumFrom (k + 1) r
def enmWalk : W → Option (List Item)
  | .lst false ws => if W.frzs ws = true then some (enumFrom 0 ws) else none
  | _ => none
def zipItems : List W → List W → List Item
  | x :: xs, y :: ys => .many [x, y] :: zipItems xs ys
  | _, _ => []
def zipWalk : W → W → Option (List Item)
  | .lst false xs, .lst false ys => if W.frzs xs = true ∧ W.frzs ys = true then some (zipItems xs ys) else none
  | _, _ => none

/-! ### the evaluator. C: how a def is called -/
inductive CR where
  | ok (w : W) (outs : List W)
  | ex (x : Exc) (outs : List W)
  deriving Repr
structure Calls where
  f : Nat → List W → Option CR
  /-- the exception that an except suite holds -/
  x : Option Exc
  /-- the slots that are not stored to -/
  fx : List Nat
  /-- what a generator def hands out -/
  g : Nat → List W → Option (List W)
def doCall (f : List W → Option CR) (ps : List P) : M W := fun σ => match lend ps σ with
  | none => none
  | some (ws, ls, σ1) => match f ws with
    | some (.ok w outs) => some (.ok w (back ls outs σ1))
    | some (.ex x outs) => some (.ex x (back ls outs σ1))
    | none => none
def doMut (m : MV) (i : Nat) (ws : List W) : M W := fun σ => match σ[i]? with
  | some (some (.lst true xs)) => match mutW m xs ws with
    | some (w, xs') => some (.ok w (σ.set i (some (.lst true xs'))))
    | none => none
  | _ => none
mutual
def ev (C : Calls) : E → M W
  | .var i => fun σ => match σ[i]? with
    | some (some w) => if w.frz = true then some (.ok w σ) else some (.ok w.fz (σ.set i (some w.fz)))
    | _ => none
  | .mov i => fun σ => match σ[i]? with
    | some (some w) => some (.ok w (σ.set i none))
    | _ => none
  | .cst d => fun σ => some (.ok d.w σ)
  | .fnv i => fun σ => some (.ok (.fn i) σ)
  | .bin o a b => (pk a (ev C a)).bind fun p => (pk b (ev C b)).bind fun q => (M.get p).bind fun x => (M.get q).bind fun y => M.opt (binOp o x y)
  | .cmp o a b => (pk a (ev C a)).bind fun p => (pk b (ev C b)).bind fun q => (M.get p).bind fun x => (M.get q).bind fun y => M.opt ((cmpOp o x y).map W.bl)
  | .ch2 o p a b c => (pk a (ev C a)).bind fun pa => (pk b (ev C b)).bind fun pb => (M.get pa).bind fun x => (M.get pb).bind fun y => (M.opt (cmpOp o x y)).bind fun k =>
      match k with
      | true => (pk c (ev C c)).bind fun pc => (M.get pb).bind fun y => (M.get pc).bind fun z => M.opt ((cmpOp p y z).map W.bl)
      | false => M.pure (.bl false)
  | .neg a => (ev C a).bind fun x => match x with
      | .int i => M.pure (.int (-i))
      | _ => M.fail
  | .not a => (pk a (ev C a)).bind fun p => (M.get p).bind fun x => M.opt ((truth x).map fun k => W.bl (!k))
  | .and a b => (ev C a).bind fun x => match x with
      | .bl true => ev C b
      | .bl false => M.pure (.bl false)
      | _ => M.fail
  | .or a b => (ev C a).bind fun x => match x with
      | .bl false => ev C b
      | .bl true => M.pure (.bl true)
      | _ => M.fail
  | .ife c a b => (evT C c).bind fun k => match k with
      | true => ev C a
      | false => ev C b
  | .tup es => (evs C es).bind fun ws => M.opt (if ws.length ≤ SZ then some (.tup ws) else none)
  | .lst es => (evs C es).bind fun ws => M.opt (if ws.length ≤ SZ then some (.lst true ws) else none)
  | .ix a b => (pk a (ev C a)).bind fun p => (ev C b).bind fun y => (M.get p).bind fun x => M.opt ((getIx x y).bind fun w => if w.frz = true then some w else none)
  | .sl a lo hi => (pk a (ev C a)).bind fun p => (evo C lo).bind fun l => (evo C hi).bind fun u => (M.get p).bind fun x => M.opt (slice x l u)
  | .call f es => (evPs C es).bind fun ps => doCall (C.f f) ps
  | .callv i es => fun σ => match σ[i]? with
    | some (some (.fn f)) => ((evPs C es).bind fun ps => doCall (C.f f) ps) σ
    | _ => none
  | .fdx tbl e => (ev C e).bind fun x => M.opt (fdxW tbl x)
  | .appAt o i e => (M.get (.at o)).bind fun _ => (ev C i).bind fun y => (takeAt o y).bind fun x => (ev C e).bind fun v => putAt o y x v
  | .blt b es => (evPs C es).bind fun ps => (M.gets ps).bind fun ws => M.opt (bifn b ws)
  | .mut m i es => (M.get (.at i)).bind fun x => (M.opt (recvL x)).bind fun _ => (evs C es).bind fun ws => doMut m i ws
  | .meth m o es => (pk o (ev C o)).bind fun p => (M.get p).bind fun x => (M.opt (recv m x)).bind fun _ => (evPs C es).bind fun ps => (M.get p).bind fun x => (M.gets ps).bind fun ws => M.opt (meth m x ws)
  | .isin a ts => (pk a (ev C a)).bind fun p => (M.get p).bind fun x => M.opt ((tyAny ts x).map W.bl)
  | .isx cs => M.opt (C.x.map fun x => W.bl (cs.contains x.c))
  | .xfld i => M.opt (C.x.bind fun x => x.fs[i]?)
  | .comp e tg it c wp => (evI C it).bind fun xs => (compL C.fx tg wp (evC C c) (ev C e) xs []).bind fun ws => M.pure (.lst true ws)
/-- as a test -/
def evT (C : Calls) : E → M Bool
  | .and a b => (evT C a).bind fun k => match k with
      | true => evT C b
      | false => M.pure false
  | .or a b => (evT C a).bind fun k => match k with
      | true => M.pure true
      | false => evT C b
  | .not a => (evT C a).bind fun k => M.pure (!k)
  | .cmp o a b => (pk a (ev C a)).bind fun p => (pk b (ev C b)).bind fun q => (M.get p).bind fun x => (M.get q).bind fun y => M.opt (cmpOp o x y)
  | .ch2 o p a b c => (pk a (ev C a)).bind fun pa => (pk b (ev C b)).bind fun pb => (M.get pa).bind fun x => (M.get pb).bind fun y => (M.opt (cmpOp o x y)).bind fun k =>
      match k with
      | true => (pk c (ev C c)).bind fun pc => (M.get pb).bind fun y => (M.get pc).bind fun z => M.opt (cmpOp p y z)
      | false => M.pure false
  | .isin a ts => (pk a (ev C a)).bind fun p => (M.get p).bind fun x => M.opt (tyAny ts x)
  | .isx cs => M.opt (C.x.map fun x => cs.contains x.c)
  | .var i => (M.get (.at i)).bind fun w => M.opt (truth w)
  | .call f es => ((evPs C es).bind fun ps => doCall (C.f f) ps).bind fun w => M.opt (truth w)
  | .blt b es => ((evPs C es).bind fun ps => (M.gets ps).bind fun ws => M.opt (bifn b ws)).bind fun w => M.opt (truth w)
  | .meth m o es => ((pk o (ev C o)).bind fun p => (M.get p).bind fun x => (M.opt (recv m x)).bind fun _ => (evPs C es).bind fun ps => (M.get p).bind fun x => (M.gets ps).bind fun ws => M.opt (meth m x ws)).bind fun w => M.opt (truth w)
  | .ix a b => ((pk a (ev C a)).bind fun p => (ev C b).bind fun y => (M.get p).bind fun x => M.opt ((getIx x y).bind fun w => if w.frz = true then some w else none)).bind fun w => M.opt (truth w)
  | .sl a lo hi => ((pk a (ev C a)).bind fun p => (evo C lo).bind fun l => (evo C hi).bind fun u => (M.get p).bind fun x => M.opt (slice x l u)).bind fun w => M.opt (truth w)
  | .cst d => M.opt (truth d.w)
  | _ => M.fail
def evs (C : Calls) : Es → M (List W)
  | .nil => M.pure []
  | .cons e es => (ev C e).bind fun x => (evs C es).bind fun xs => M.pure (x :: xs)
/-- places and values -/
def evPs (C : Calls) : Es → M (List P)
  | .nil => M.pure []
  | .cons e es => (pk e (ev C e)).bind fun x => (evPs C es).bind fun xs => M.pure (x :: xs)
/-- a slice's part -/
def evo (C : Calls) : Eo → M (Option Int)
  | .none => M.pure none
  | .some e => (ev C e).bind fun x => match x with
      | .int i => M.pure (some i)
      | _ => M.fail
/-- a comprehension's test -/
def evC (C : Calls) : Eo → M Bool
  | .none => M.pure true
  | .some e => evT C e
def evI (C : Calls) : It → M (List Item)
  | .seq e => (ev C e).bind fun x => M.opt (seqWalk x.fz)
  | .rng1 a => (ev C a).bind fun x => match x with
      | .int j => M.opt (rngWalk 0 j)
      | _ => M.fail
  | .rng2 a b => (ev C a).bind fun x => (ev C b).bind fun y => match x, y with
      | .int i, .int j => M.opt (rngWalk i j)
      | _, _ => M.fail
  | .rng3 a b c => (ev C a).bind fun x => (ev C b).bind fun y => (ev C c).bind fun z => match x, y, z with
      | .int i, .int j, .int k => M.opt (rngWalk3 i j k)
      | _, _, _ => M.fail
  | .enm e => (ev C e).bind fun x => M.opt (enmWalk x.fz)
  | .zip a b => (ev C a).bind fun x => (ev C b).bind fun y => M.opt (zipWalk x.fz y.fz)
end

/-- a class of exceptions: its fields by position -/
structure XCls where
  fields : List String
/-- the exception that «raise C(..)» makes: classes without fields forget what they are made of -/
def mkExc (X : List XCls) (c : Nat) (ws : List W) : Option Exc := match X[c]? with
  | none => none
  | some k => if ws.length ≤ SZ ∧ W.frzs ws = true then (if k.fields.isEmpty then some ⟨c, []⟩ else if ws.length = k.fields.length then some ⟨c, ws⟩ else none) else none
def setIx (xs : List W) (y v : W) : Option (List W) := match y with
  | .int i => (ixn xs.length i).map fun k => xs.set k v
  | _ => none
/-- x op= y, of ints and texts -/
def augOp : BOp → W → W → Option W
  | .add, .int i, .int j => some (.int (i + j))
  | .add, .str a, .str b => if a.length + b.length ≤ SZ then some (.str (a ++ b)) else none
  | .sub, .int i, .int j => some (.int (i - j))
  | .mul, .int i, .int j => if mulOk i j = true then some (.int (i * j)) else none
  | _, _, _ => none
/-- a slot may be stored to -/
def okSet (C : Calls) (σ : St) (i : Nat) : Bool := decide (i < σ.length) && !C.fx.contains i
def exec (X : List XCls) (C : Calls) : S → St → Option Out
  | .skip, σ => some (.ok (.nx σ))
  | .expr e, σ => onE (ev C e) (fun _ σ1 => some (.ok (.nx σ1))) σ
  | .set i e, σ => onE (ev C e) (fun w σ1 => if okSet C σ1 i = true then some (.ok (.nx (σ1.set i (some w)))) else none) σ
  | .setT is e, σ => onE (ev C e) (fun w σ1 => match take C.fx (.tup is) (.one w) σ1 with
    | some σ2 => some (.ok (.nx σ2))
    | none => none) σ
  | .par i j a b, σ => onE (ev C a) (fun v σ1 => onE (ev C b) (fun w σ2 => if okSet C σ2 i = true ∧ okSet C σ2 j = true then some (.ok (.nx ((σ2.set i (some v)).set j (some w)))) else none) σ1) σ
  | .setI o i e, σ => onE (ev C e) (fun v σ1 => match σ1[o]? with
    | some (some _) => onE (ev C i) (fun y σ2 => match σ2[o]? with
      | some (some (.lst true xs)) => match setIx xs y v with
        | some xs' => some (.ok (.nx (σ2.set o (some (.lst true xs')))))
        | none => none
      | _ => none) σ1
    | _ => none) σ
  | .aug i o e, σ => match σ[i]? with
    | some (some _) => onE (ev C e) (fun y σ1 => match σ1[i]? with
      | some (some x) => match augOp o x y with
        | some w => if okSet C σ1 i = true then some (.ok (.nx (σ1.set i (some w)))) else none
        | none => none
      | _ => none) σ
    | _ => none
  | .seq a b, σ => match exec X C a σ with
    | some (.ok (.nx σ1)) => exec X C b σ1
    | r => r
  | .ife c a b, σ => onE (evT C c) (fun k σ1 => match k with
    | true => exec X C a σ1
    | false => exec X C b σ1) σ
  | .whl c b wp, σ => whlL wp (evT C c) (fun σ => exec X C b σ) FUEL σ
  | .for tg it b wp, σ => onE (evI C it) (fun xs σ1 => forL C.fx tg wp (fun σ => exec X C b σ) xs σ1) σ
  | .forG tg f es b wp, σ => onE (evs C es) (fun ws σ1 => if W.frzs ws = true then (match C.g f ws with
    | some xs => forL C.fx tg wp (fun σ => exec X C b σ) (xs.map Item.one) σ1
    | none => none) else none) σ
  | .ret .none, σ => some (.ok (.rt .non σ))
  | .ret (.some e), σ => onE (ev C e) (fun w σ1 => some (.ok (.rt w σ1))) σ
  | .brk, σ => some (.ok (.bk σ))
  | .cnt, σ => some (.ok (.ct σ))
  | .raise c es, σ => onE (evs C es) (fun ws σ1 => match mkExc X c ws with
    | some x => some (.ex x σ1)
    | none => none) σ
  | .try1 b cs x s, σ => match exec X C b σ with
    | some (.ex e σ1) => if cs.contains e.c = true then (match x with
        | none => match exec X { C with x := some e } s σ1 with
          | some (.ok f) => some (.ok f)
          | _ => none
        | some i => if okSet C σ1 i = true then (match exec X { C with x := some e } s (σ1.set i none) with
          | some (.ok (.nx σ2)) => some (.ok (.nx (σ2.set i none)))
          | some (.ok (.bk σ2)) => some (.ok (.bk (σ2.set i none)))
          | some (.ok (.ct σ2)) => some (.ok (.ct (σ2.set i none)))
          | some (.ok (.rt w σ2)) => some (.ok (.rt w σ2))
          | _ => none) else none)
      else some (.ex e σ1)
    | r => r

/-! ### defs, calls -/
structure Fn where
  n : Nat           -- slots
  ps : Nat          -- parameters
  re : List Nat     -- parameters that are stored to
  body : S
/-- a generator def: p; while c: a; yield e; b -/
structure Gn where
  n : Nat
  ps : Nat
  p : S
  c : E
  a : S
  e : E
  b : S
  wp : List Nat
structure Prog where
  fns : List Fn
  xs : List XCls
  gs : List (Nat × Gn) := []
def start (n : Nat) (ws : List W) : St := ws.map some ++ List.replicate (n - ws.length) none
/-- the parameters as they then are, from number i on -/
def outsFrom (re : List Nat) (σ : St) : Nat → List W → Option (List W)
  | _, [] => some []
  | i, w :: ws => match outsFrom re σ (i + 1) ws with
    | none => none
    | some us => if re.contains i = true then (if w.frz = true then some (w :: us) else none) else match σ[i]? with
      | some (some u) => some (u :: us)
      | _ => none
def fixed (ps : Nat) (re : List Nat) : List Nat := (List.range ps).filter fun i => !re.contains i
/-- what is handed out -/
def genL (XS : List XCls) (C : Calls) (c : E) (a : S) (e : E) (b : S) (wp : List Nat) : Nat → St → Option (List W)
  | 0, _ => none
  | n + 1, σ => match evT C c σ with
    | some (.ok false _) => some []
    | some (.ok true σ1) => match exec XS C a σ1 with
      | some (.ok (.nx σ2)) => match ev C e σ2 with
        | some (.ok w σ3) => if w.frz = true then (match exec XS C b σ3 with
          | some (.ok (.nx σ4)) => match genL XS C c a e b wp n (wipe σ4 wp) with
            | some r => some (w :: r)
            | none => none
          | _ => none) else none
        | _ => none
      | _ => none
    | _ => none
/-- what a generator def hands out -/
def genF (XS : List XCls) (C : Calls) (n : Nat) (p : S) (c : E) (a : S) (e : E) (b : S) (wp : List Nat) (fuel : Nat) (ws : List W) : Option (List W) := match exec XS C p (start n ws) with
  | some (.ok (.nx σ)) => genL XS C c a e b wp fuel σ
  | _ => none
/-- the generator defs, by how defs are called -/
def genOf (P : Prog) (cf : Nat → List W → Option CR) (i : Nat) (ws : List W) : Option (List W) := match P.gs.lookup i with
  | some gn => if ws.length = gn.ps then genF P.xs ⟨cf, none, fixed gn.ps [], fun _ _ => none⟩ gn.n gn.p gn.c gn.a gn.e gn.b gn.wp FUEL ws else none
  | none => none
def callF (P : Prog) : Nat → Nat → List W → Option CR
  | 0, _, _ => none
  | k + 1, f, ws => match P.fns[f]? with
    | none => none
    | some fn => if ws.length = fn.ps then match exec P.xs ⟨callF P k, none, fixed fn.ps fn.re, genOf P (callF P k)⟩ fn.body (start fn.n ws) with
        | some (.ok (.nx σ)) => match outsFrom fn.re σ 0 ws with
          | some us => some (.ok .non us)
          | none => none
        | some (.ok (.rt w σ)) => match outsFrom fn.re σ 0 ws with
          | some us => some (.ok w us)
          | none => none
        | some (.ex x σ) => match outsFrom fn.re σ 0 ws with
          | some us => some (.ex x us)
          | none => none
        | _ => none
      else none
end PV

/-! V2a: how the values of V1 stand in the hand layer's abstract heap. -/
namespace PV
open PySem L2

/-! ### the relation -/
abbrev AP := Addr → Prop
/-- what the relation leans on: the written part, where the defs stand -/
structure Z where
  K : PySem.W.Frag
  fa : Nat → Option Addr
/-- .. the slot of the exception at hand, the slots that stay -/
structure Y where
  z : Z
  hot : Option (Nat × V)
  fx : List (Nat × V)

def strV (s : List Char) : Str := ⟨(s.map Char.toNat).toArray⟩
def KTup (K : PySem.W.Frag) (a : Addr) (xs : List V) : Prop :=
  ∃ (o : Obj) (its : Array Value) (n : Nat), K.lookup a = some o ∧ o.cls = .type "tuple" ∧ o.data = .seq its n ∧ its.size ≤ sizeLine ∧ Vals xs its.toList
def KLst (K : PySem.W.Frag) (a : Addr) (xs : List V) : Prop :=
  ∃ (o : Obj) (its : Array Value) (n : Nat), K.lookup a = some o ∧ o.cls = .type "list" ∧ o.dict = none ∧ o.data = .seq its n ∧ its.size ≤ sizeLine ∧ Vals xs its.toList
/-- a tuple; O: what somebody may still change -/
def TupAt (K : PySem.W.Frag) (Hh : Hp) (O : AP) (a : Addr) (xs : List V) : Prop := (Hh a = some (.tup xs) ∧ ¬O a) ∨ KTup K a xs
theorem TupAt.sq {K : PySem.W.Frag} {Hh : Hp} {O : AP} {a : Addr} {xs : List V} (h : TupAt K Hh O a xs) : SqT K Hh a xs := by
  rcases h with h | h
  · exact .inl (.inl h.1)
  · exact .inr h
/-- a list that nobody changes any more -/
def LstAt (Hh : Hp) (O : AP) (a : Addr) (xs : List V) : Prop := Hh a = some (.lst xs) ∧ ¬O a
/-- a list that is only read: the script -/
def RoAt (K : PySem.W.Frag) (Hh : Hp) (O : AP) (a : Addr) (xs : List V) : Prop := (∃ o, Hh a = some (.frz o (.lst xs)) ∧ ¬O a) ∨ KLst K a xs
theorem RoAt.sq {K : PySem.W.Frag} {Hh : Hp} {O : AP} {a : Addr} {xs : List V} (h : RoAt K Hh O a xs) : SqL K Hh a xs := by
  rcases h with ⟨o, h, _⟩ | h
  · exact .inl (.inr ⟨o, h⟩)
  · exact .inr h
mutual
/-- A: the addresses of what may be changed in it -/
def RV (y : Z) (Hh : Hp) (O : AP) : W → V → List Addr → Prop
  | .non, v, A => v = .non ∧ A = []
  | .bl b, v, A => v = .bl b ∧ A = []
  | .int i, v, A => v = .int i ∧ A = []
  | .str s, v, A => v = .str (strV s) ∧ A = []
  | .tup ws, v, A => ∃ a vs, v = .ref a ∧ TupAt y.K Hh O a vs ∧ RVs y Hh O ws vs A
  | .lst false ws, v, A => A = [] ∧ ∃ a vs, v = .ref a ∧ LstAt Hh O a vs ∧ RVs y Hh O ws vs []
  | .lst true ws, v, A => ∃ a vs B, v = .ref a ∧ A = a :: B ∧ O a ∧ Hh a = some (.lst vs) ∧ RVs y Hh O ws vs B
  | .dic _ _ _, _, _ => False
  | .ins _ _ _, _, _ => False
  | .ro xs, v, A => A = [] ∧ ∃ a, v = .ref a ∧ RoAt y.K Hh O a (xs.map V.int)
  | .fn i, v, A => A = [] ∧ ∃ a, y.fa i = some a ∧ v = .ref a
def RVs (y : Z) (Hh : Hp) (O : AP) : List W → List V → List Addr → Prop
  | [], vs, A => vs = [] ∧ A = []
  | w :: ws, vs, A => ∃ v r B C, vs = v :: r ∧ A = B ++ C ∧ RV y Hh O w v B ∧ RVs y Hh O ws r C
end
/-- what nobody may change stays -/
def Stab (Hh : Hp) (O : AP) (H' : Hp) (O' : AP) : Prop := ∀ a u, Hh a = some u → ¬O a → H' a = some u ∧ ¬O' a
theorem Stab.refl {Hh : Hp} {O : AP} : Stab Hh O Hh O := fun _ _ h o => ⟨h, o⟩
theorem Stab.trans {H1 H2 H3 : Hp} {O1 O2 O3 : AP} (a : Stab H1 O1 H2 O2) (b : Stab H2 O2 H3 O3) : Stab H1 O1 H3 O3 := fun x u h o => b x u (a x u h o).1 (a x u h o).2
section
variable {y : Z} {Hh H' : Hp} {O O' : AP}
theorem TupAt.stab {K : PySem.W.Frag} {a : Addr} {xs : List V} (s : Stab Hh O H' O') (h : TupAt K Hh O a xs) : TupAt K H' O' a xs := by
  rcases h with h | h
  · exact .inl (s _ _ h.1 h.2)
  · exact .inr h
theorem LstAt.stab {a : Addr} {xs : List V} (s : Stab Hh O H' O') (h : LstAt Hh O a xs) : LstAt H' O' a xs := s _ _ h.1 h.2
theorem RoAt.stab {K : PySem.W.Frag} {a : Addr} {xs : List V} (s : Stab Hh O H' O') (h : RoAt K Hh O a xs) : RoAt K H' O' a xs := by
  rcases h with ⟨o, h⟩ | h
  · exact .inl ⟨o, s _ _ h.1 h.2⟩
  · exact .inr h
mutual
theorem RV.stab (s : Stab Hh O H' O') : ∀ (w : W) (v : V) (A : List Addr), RV y Hh O w v A → (∀ a ∈ A, H' a = Hh a ∧ O' a) → RV y H' O' w v A
  | .non, v, A, h, _ => by simpa only [RV] using h
  | .bl b, v, A, h, _ => by simpa only [RV] using h
  | .int i, v, A, h, _ => by simpa only [RV] using h
  | .str i, v, A, h, _ => by simpa only [RV] using h
  | .tup ws, v, A, h, k => by
    simp only [RV] at h ⊢
    obtain ⟨a, vs, e, t, r⟩ := h
    exact ⟨a, vs, e, t.stab s, RVs.stab s ws vs A r k⟩
  | .lst false ws, v, A, h, k => by
    simp only [RV] at h ⊢
    obtain ⟨e0, a, vs, e, t, r⟩ := h
    exact ⟨e0, a, vs, e, t.stab s, RVs.stab s ws vs [] r (fun _ z => by cases z)⟩
  | .lst true ws, v, A, h, k => by
    simp only [RV] at h ⊢
    obtain ⟨a, vs, B, e, e2, o, t, r⟩ := h
    subst e2
    refine ⟨a, vs, B, e, rfl, (k a List.mem_cons_self).2, ?_, RVs.stab s ws vs B r fun b hb => k b (List.mem_cons_of_mem _ hb)⟩
    rw [(k a List.mem_cons_self).1, t]
  | .dic _ _ _, v, A, h, k => by simp only [RV] at h
  | .ins _ _ _, v, A, h, k => by simp only [RV] at h
  | .ro xs, v, A, h, k => by
    simp only [RV] at h ⊢
    obtain ⟨e0, a, e, t⟩ := h
    exact ⟨e0, a, e, t.stab s⟩
  | .fn i, v, A, h, _ => by simpa only [RV] using h
theorem RVs.stab (s : Stab Hh O H' O') : ∀ (w : List W) (v : List V) (A : List Addr), RVs y Hh O w v A → (∀ a ∈ A, H' a = Hh a ∧ O' a) → RVs y H' O' w v A
  | [], v, A, h, _ => by simpa only [RVs] using h
  | w :: ws, vs, A, h, k => by
    simp only [RVs] at h ⊢
    obtain ⟨v, r, B, C, e1, e2, h1, h2⟩ := h
    subst e2
    exact ⟨v, r, B, C, e1, rfl, RV.stab s w v B h1 fun a ha => k a (List.mem_append_left _ ha), RVs.stab s ws r C h2 fun a ha => k a (List.mem_append_right _ ha)⟩
end
mutual
theorem RV.frz : ∀ (w : W) (v : V) (A : List Addr), RV y Hh O w v A → w.frz = true → A = []
  | .non, v, A, h, _ => by simp only [RV] at h; exact h.2
  | .bl b, v, A, h, _ => by simp only [RV] at h; exact h.2
  | .int i, v, A, h, _ => by simp only [RV] at h; exact h.2
  | .str i, v, A, h, _ => by simp only [RV] at h; exact h.2
  | .tup ws, v, A, h, k => by
    simp only [RV] at h
    obtain ⟨a, vs, e, t, r⟩ := h
    exact RVs.frz ws vs A r (by simpa only [W.frz] using k)
  | .lst false ws, v, A, h, k => by simp only [RV] at h; exact h.1
  | .lst true ws, v, A, h, k => by simp [W.frz] at k
  | .dic _ _ _, v, A, h, k => by simp only [RV] at h
  | .ins _ _ _, v, A, h, k => by simp only [RV] at h
  | .ro xs, v, A, h, k => by simp only [RV] at h; exact h.1
  | .fn i, v, A, h, _ => by simp only [RV] at h; exact h.1
theorem RVs.frz : ∀ (w : List W) (v : List V) (A : List Addr), RVs y Hh O w v A → W.frzs w = true → A = []
  | [], v, A, h, _ => by simp only [RVs] at h; exact h.2
  | w :: ws, vs, A, h, k => by
    simp only [RVs] at h
    simp only [W.frzs, Bool.and_eq_true] at k
    obtain ⟨v, r, B, C, e1, e2, h1, h2⟩ := h
    rw [e2, RV.frz w v B h1 k.1, RVs.frz ws r C h2 k.2]
    rfl
end
mutual
/-- from now on nobody changes it -/
theorem RV.fz (s : ∀ a, ¬O a → ¬O' a) : ∀ (w : W) (v : V) (A : List Addr), RV y Hh O w v A → (∀ a ∈ A, ¬O' a) → RV y Hh O' w.fz v []
  | .non, v, A, h, _ => by simp only [RV, W.fz] at h ⊢; exact ⟨h.1, by trivial⟩
  | .bl b, v, A, h, _ => by simp only [RV, W.fz] at h ⊢; exact ⟨h.1, by trivial⟩
  | .int i, v, A, h, _ => by simp only [RV, W.fz] at h ⊢; exact ⟨h.1, by trivial⟩
  | .str i, v, A, h, _ => by simp only [RV, W.fz] at h ⊢; exact ⟨h.1, by trivial⟩
  | .tup ws, v, A, h, k => by
    simp only [RV, W.fz] at h ⊢
    obtain ⟨a, vs, e, t, r⟩ := h
    exact ⟨a, vs, e, t.stab fun b u e o => ⟨e, s b o⟩, RVs.fz s ws vs A r k⟩
  | .lst false ws, v, A, h, k => by
    simp only [RV, W.fz] at h ⊢
    obtain ⟨e0, a, vs, e, t, r⟩ := h
    exact ⟨by trivial, a, vs, e, t.stab fun b u e o => ⟨e, s b o⟩, RVs.fz s ws vs [] r (fun _ z => by cases z)⟩
  | .lst true ws, v, A, h, k => by
    simp only [RV, W.fz] at h ⊢
    obtain ⟨a, vs, B, e, e2, o, t, r⟩ := h
    subst e2
    exact ⟨by trivial, a, vs, e, ⟨t, k a List.mem_cons_self⟩, RVs.fz s ws vs B r fun b hb => k b (List.mem_cons_of_mem _ hb)⟩
  | .dic _ _ _, v, A, h, k => by simp only [RV] at h
  | .ins _ _ _, v, A, h, k => by simp only [RV] at h
  | .ro xs, v, A, h, k => by
    simp only [RV, W.fz] at h ⊢
    obtain ⟨e0, a, e, t⟩ := h
    exact ⟨by trivial, a, e, t.stab fun b u e o => ⟨e, s b o⟩⟩
  | .fn i, v, A, h, _ => by simp only [RV, W.fz] at h ⊢; exact ⟨by trivial, h.2⟩
theorem RVs.fz (s : ∀ a, ¬O a → ¬O' a) : ∀ (w : List W) (v : List V) (A : List Addr), RVs y Hh O w v A → (∀ a ∈ A, ¬O' a) → RVs y Hh O' (W.fzs w) v []
  | [], v, A, h, _ => by simp only [RVs, W.fzs] at h ⊢; exact ⟨h.1, by trivial⟩
  | w :: ws, vs, A, h, k => by
    simp only [RVs, W.fzs] at h ⊢
    obtain ⟨v, r, B, C, e1, e2, h1, h2⟩ := h
    subst e2
    exact ⟨v, r, [], [], e1, rfl, RV.fz s w v B h1 fun a ha => k a (List.mem_append_left _ ha), RVs.fz s ws r C h2 fun a ha => k a (List.mem_append_right _ ha)⟩
end
mutual
theorem RV.own : ∀ (w : W) (v : V) (A : List Addr), RV y Hh O w v A → ∀ a ∈ A, O a
  | .non, v, A, h, a, ha => by simp only [RV] at h; rw [h.2] at ha; cases ha
  | .bl b, v, A, h, a, ha => by simp only [RV] at h; rw [h.2] at ha; cases ha
  | .int i, v, A, h, a, ha => by simp only [RV] at h; rw [h.2] at ha; cases ha
  | .str i, v, A, h, a, ha => by simp only [RV] at h; rw [h.2] at ha; cases ha
  | .tup ws, v, A, h, a, ha => by
    simp only [RV] at h
    obtain ⟨_, vs, e, t, r⟩ := h
    exact RVs.own ws vs A r a ha
  | .lst false ws, v, A, h, a, ha => by simp only [RV] at h; rw [h.1] at ha; cases ha
  | .lst true ws, v, A, h, a, ha => by
    simp only [RV] at h
    obtain ⟨b, vs, B, e, e2, o, t, r⟩ := h
    subst e2
    rcases List.mem_cons.mp ha with rfl | ha
    · exact o
    · exact RVs.own ws vs B r a ha
  | .dic _ _ _, v, A, h, a, ha => by simp only [RV] at h
  | .ins _ _ _, v, A, h, a, ha => by simp only [RV] at h
  | .ro xs, v, A, h, a, ha => by simp only [RV] at h; rw [h.1] at ha; cases ha
  | .fn i, v, A, h, a, ha => by simp only [RV] at h; rw [h.1] at ha; cases ha
theorem RVs.own : ∀ (w : List W) (v : List V) (A : List Addr), RVs y Hh O w v A → ∀ a ∈ A, O a
  | [], v, A, h, a, ha => by simp only [RVs] at h; rw [h.2] at ha; cases ha
  | w :: ws, vs, A, h, a, ha => by
    simp only [RVs] at h
    obtain ⟨v, r, B, C, e1, e2, h1, h2⟩ := h
    subst e2
    rcases List.mem_append.mp ha with ha | ha
    · exact RV.own w v B h1 a ha
    · exact RVs.own ws r C h2 a ha
end
theorem RVs.length : ∀ {ws : List W} {vs : List V} {A : List Addr}, RVs y Hh O ws vs A → ws.length = vs.length
  | [], _, _, h => by simp only [RVs] at h; rw [h.1]; rfl
  | w :: ws, _, _, h => by
    simp only [RVs] at h
    obtain ⟨v, r, B, C, e1, e2, h1, h2⟩ := h
    subst e1
    simp [RVs.length h2]
theorem RVs.get : ∀ {ws : List W} {vs : List V} {A : List Addr} {i : Nat} {w : W}, RVs y Hh O ws vs A → ws[i]? = some w → ∃ v B, vs[i]? = some v ∧ RV y Hh O w v B
  | [], _, _, i, w, h, e => by simp at e
  | w :: ws, _, _, 0, x, h, e => by
    simp only [RVs] at h
    obtain ⟨v, r, B, C, e1, e2, h1, h2⟩ := h
    subst e1
    simp at e; subst e
    exact ⟨v, B, rfl, h1⟩
  | w :: ws, _, _, i + 1, x, h, e => by
    simp only [RVs] at h
    obtain ⟨v, r, B, C, e1, e2, h1, h2⟩ := h
    subst e1
    obtain ⟨v', B', q1, q2⟩ := RVs.get (i := i) (w := x) h2 (by simpa using e)
    exact ⟨v', B', by simpa using q1, q2⟩
theorem RVs.append : ∀ {ws ws' : List W} {vs vs' : List V} {A A' : List Addr}, RVs y Hh O ws vs A → RVs y Hh O ws' vs' A' → RVs y Hh O (ws ++ ws') (vs ++ vs') (A ++ A')
  | [], _, _, _, _, _, h, h' => by simp only [RVs] at h; rw [h.1, h.2]; exact h'
  | w :: ws, ws', _, vs', _, A', h, h' => by
    simp only [RVs, List.cons_append] at h ⊢
    obtain ⟨v, r, B, C, e1, e2, h1, h2⟩ := h
    subst e1 e2
    exact ⟨v, r ++ vs', B, C ++ A', rfl, by simp, h1, h2.append h'⟩
theorem RVs.nil : RVs y Hh O [] [] [] := by simp only [RVs]; trivial
theorem RVs.one {w : W} {v : V} {A : List Addr} (h : RV y Hh O w v A) : RVs y Hh O [w] [v] A := by
  simp only [RVs]
  exact ⟨v, [], A, [], rfl, by simp, h, by trivial, by trivial⟩
theorem RVs.cons {w : W} {v : V} {ws : List W} {vs : List V} {A B : List Addr} (h : RV y Hh O w v A) (h2 : RVs y Hh O ws vs B) : RVs y Hh O (w :: ws) (v :: vs) (A ++ B) := by
  simp only [RVs]
  exact ⟨v, vs, A, B, rfl, rfl, h, h2⟩
theorem RVs.one_inv {w : W} {vs : List V} {A : List Addr} (h : RVs y Hh O [w] vs A) : ∃ v, vs = [v] ∧ RV y Hh O w v A := by
  simp only [RVs] at h
  obtain ⟨v, r, B, C, e1, e2, h1, h2, h3⟩ := h
  subst e1 e2 h2 h3
  exact ⟨v, rfl, by simpa using h1⟩
theorem RVs.two_inv {w w' : W} {vs : List V} {A : List Addr} (h : RVs y Hh O [w, w'] vs A) : ∃ v v' B C, vs = [v, v'] ∧ A = B ++ C ∧ RV y Hh O w v B ∧ RV y Hh O w' v' C := by
  simp only [RVs] at h
  obtain ⟨v, r, B, C, e1, e2, h1, v', r', B', C', f1, f2, g1, g2, g3⟩ := h
  subst e1 e2 f1 f2 g2 g3
  exact ⟨v, v', B, B', rfl, by simp, h1, g1⟩
/-- frozen lists: pairwise -/
theorem RVs.take {ws : List W} {vs : List V} : ∀ (n : Nat), RVs y Hh O ws vs [] → RVs y Hh O (ws.take n) (vs.take n) [] := by
  induction ws generalizing vs with
  | nil => intro n h; simp only [RVs] at h; rw [h.1]; simp only [List.take_nil]; exact .nil
  | cons w ws ih =>
    intro n h
    simp only [RVs] at h
    obtain ⟨v, r, B, C, e1, e2, h1, h2⟩ := h
    have e2 := e2.symm
    rw [List.append_eq_nil_iff] at e2
    obtain ⟨rfl, rfl⟩ := e2
    subst e1
    cases n with
    | zero => exact .nil
    | succ n => exact RVs.cons h1 (ih n h2)
theorem RVs.drop {ws : List W} {vs : List V} : ∀ (n : Nat), RVs y Hh O ws vs [] → RVs y Hh O (ws.drop n) (vs.drop n) [] := by
  induction ws generalizing vs with
  | nil => intro n h; simp only [RVs] at h; rw [h.1]; simp only [List.drop_nil]; exact .nil
  | cons w ws ih =>
    intro n h
    have h' := h
    simp only [RVs] at h
    obtain ⟨v, r, B, C, e1, e2, h1, h2⟩ := h
    have e2 := e2.symm
    rw [List.append_eq_nil_iff] at e2
    obtain ⟨rfl, rfl⟩ := e2
    subst e1
    cases n with
    | zero => exact h'
    | succ n => exact ih n h2
theorem RVs.ints : ∀ {ns : List Int}, RVs y Hh O (ns.map W.int) (ns.map V.int) []
  | [] => .nil
  | n :: ns => RVs.cons (A := []) (B := []) (by simp only [RV]; trivial) RVs.ints
theorem RVs.ints_inv : ∀ {ns : List Int} {vs : List V} {A : List Addr}, RVs y Hh O (ns.map W.int) vs A → vs = ns.map V.int
  | [], vs, A, h => by simp only [List.map_nil, RVs] at h; exact h.1
  | n :: ns, vs, A, h => by
    simp only [List.map_cons, RVs] at h
    obtain ⟨v, r, B, C, e1, e2, h1, h2⟩ := h
    simp only [RV] at h1
    rw [e1, h1.1, RVs.ints_inv h2]; rfl
theorem RVs.bools_inv : ∀ {ns : List Bool} {vs : List V} {A : List Addr}, RVs y Hh O (ns.map W.bl) vs A → vs = ns.map V.bl
  | [], vs, A, h => by simp only [List.map_nil, RVs] at h; exact h.1
  | n :: ns, vs, A, h => by
    simp only [List.map_cons, RVs] at h
    obtain ⟨v, r, B, C, e1, e2, h1, h2⟩ := h
    simp only [RV] at h1
    rw [e1, h1.1, RVs.bools_inv h2]; rfl
theorem RVs.strs_inv : ∀ {ns : List (List Char)} {vs : List V} {A : List Addr}, RVs y Hh O (ns.map W.str) vs A → vs = (ns.map strV).map V.str
  | [], vs, A, h => by simp only [List.map_nil, RVs] at h; exact h.1
  | n :: ns, vs, A, h => by
    simp only [List.map_cons, RVs] at h
    obtain ⟨v, r, B, C, e1, e2, h1, h2⟩ := h
    simp only [RV] at h1
    rw [e1, h1.1, RVs.strs_inv h2]; rfl
end

/-! ### slots -/
def RSl (y : Z) (Hh : Hp) (O : AP) : St → L2.St → List Addr → Prop
  | [], τ, A => τ = [] ∧ A = []
  | none :: σ, τ, A => ∃ x τ', τ = x :: τ' ∧ RSl y Hh O σ τ' A
  | some w :: σ, τ, A => ∃ v τ' B C, τ = some v :: τ' ∧ A = B ++ C ∧ RV y Hh O w v B ∧ RSl y Hh O σ τ' C
section
variable {y : Z} {Hh H' : Hp} {O O' : AP}
theorem RSl.length : ∀ {σ : St} {τ : L2.St} {A : List Addr}, RSl y Hh O σ τ A → σ.length = τ.length
  | [], _, _, h => by rw [h.1]; rfl
  | none :: σ, _, _, ⟨x, τ', e, h⟩ => by rw [e]; simp [RSl.length h]
  | some w :: σ, _, _, ⟨v, τ', B, C, e, e2, h1, h2⟩ => by rw [e]; simp [RSl.length h2]
theorem RSl.stab (s : Stab Hh O H' O') : ∀ {σ : St} {τ : L2.St} {A : List Addr}, RSl y Hh O σ τ A → (∀ a ∈ A, H' a = Hh a ∧ O' a) → RSl y H' O' σ τ A
  | [], _, _, h, _ => h
  | none :: σ, _, _, ⟨x, τ', e, h⟩, k => ⟨x, τ', e, RSl.stab s h k⟩
  | some w :: σ, _, _, ⟨v, τ', B, C, e, e2, h1, h2⟩, k => by
    subst e2
    exact ⟨v, τ', B, C, e, rfl, h1.stab s _ _ _ fun a ha => k a (List.mem_append_left _ ha), RSl.stab s h2 fun a ha => k a (List.mem_append_right _ ha)⟩
theorem RSl.own : ∀ {σ : St} {τ : L2.St} {A : List Addr}, RSl y Hh O σ τ A → ∀ a ∈ A, O a
  | [], _, _, h, a, ha => by rw [h.2] at ha; cases ha
  | none :: σ, _, _, ⟨x, τ', e, h⟩, a, ha => RSl.own h a ha
  | some w :: σ, _, _, ⟨v, τ', B, C, e, e2, h1, h2⟩, a, ha => by
    subst e2
    rcases List.mem_append.mp ha with ha | ha
    · exact RV.own _ _ _ h1 a ha
    · exact RSl.own h2 a ha
/-- a slot's value is taken out -/
theorem RSl.out : ∀ {σ : St} {τ : L2.St} {A : List Addr} {i : Nat} {w : W}, RSl y Hh O σ τ A → σ[i]? = some (some w) → ∃ v B C, τ[i]? = some (some v) ∧ RV y Hh O w v B ∧ RSl y Hh O (σ.set i none) τ C ∧ A.Perm (B ++ C)
  | [], _, _, i, w, h, e => by simp at e
  | none :: σ, _, _, 0, w, h, e => by simp at e
  | none :: σ, _, A, i + 1, w, ⟨x, τ', e, h⟩, e' => by
    subst e
    obtain ⟨v, B, C, q1, q2, q3, q4⟩ := RSl.out (i := i) (w := w) h (by simpa using e')
    exact ⟨v, B, C, by simpa using q1, q2, ⟨x, τ', rfl, q3⟩, q4⟩
  | some w' :: σ, _, _, 0, w, ⟨v, τ', B, C, e, e2, h1, h2⟩, e' => by
    subst e e2
    simp at e'; subst e'
    exact ⟨v, B, C, rfl, h1, ⟨_, τ', rfl, h2⟩, .refl _⟩
  | some w' :: σ, _, _, i + 1, w, ⟨v, τ', B, C, e, e2, h1, h2⟩, e' => by
    subst e e2
    obtain ⟨v', B', C', q1, q2, q3, q4⟩ := RSl.out (i := i) (w := w) h2 (by simpa using e')
    refine ⟨v', B', B ++ C', by simpa using q1, q2, ⟨v, τ', B, C', rfl, rfl, h1, q3⟩, ?_⟩
    exact (q4.append_left B).trans (by rw [← List.append_assoc, ← List.append_assoc]; exact List.perm_append_comm.append_right C')
/-- what stood in a slot is forgotten -/
theorem RSl.drop {σ : St} {τ : L2.St} {A : List Addr} (i : Nat) (h : RSl y Hh O σ τ A) : ∃ B C, RSl y Hh O (σ.set i none) τ C ∧ A.Perm (B ++ C) := by
  cases e : σ[i]? with
  | none =>
    refine ⟨[], A, ?_, .refl _⟩
    rw [List.set_eq_of_length_le (by have := List.getElem?_eq_none_iff.mp e; omega)]
    exact h
  | some o => cases o with
    | none =>
      refine ⟨[], A, ?_, .refl _⟩
      have : σ.set i none = σ := by
        apply List.ext_getElem?
        intro j
        by_cases hj : i = j
        · subst hj
          rw [List.getElem?_set_self (List.getElem?_eq_some_iff.mp e).1, e]
        · rw [List.getElem?_set_ne hj]
      rw [this]; exact h
    | some w =>
      obtain ⟨v, B, C, _, _, q3, q4⟩ := h.out e
      exact ⟨B, C, q3, q4⟩
theorem RSl.setT : ∀ {σ : St} {τ : L2.St} {A : List Addr} {i : Nat} {x : Option V}, RSl y Hh O (σ.set i none) τ A → RSl y Hh O (σ.set i none) (τ.set i x) A
  | [], _, _, i, x, h => by
    simp only [List.set_nil] at h ⊢
    rw [h.1, List.set_nil]; exact ⟨rfl, h.2⟩
  | o :: σ, _, _, 0, x, ⟨z, τ', e, h⟩ => by subst e; exact ⟨x, τ', rfl, h⟩
  | none :: σ, _, _, i + 1, x, ⟨z, τ', e, h⟩ => by subst e; exact ⟨z, _, rfl, RSl.setT h⟩
  | some w :: σ, _, _, i + 1, x, ⟨v, τ', B, C, e, e2, h1, h2⟩ => by subst e; exact ⟨v, _, B, C, rfl, e2, h1, RSl.setT h2⟩
/-- a value is put into an empty slot -/
theorem RSl.put : ∀ {σ : St} {τ : L2.St} {C B : List Addr} {i : Nat} {w : W} {v : V}, RSl y Hh O (σ.set i none) τ C → τ[i]? = some (some v) → RV y Hh O w v B → ∃ A, RSl y Hh O (σ.set i (some w)) τ A ∧ A.Perm (B ++ C)
  | [], _, C, B, i, w, v, h, e, r => by
    simp only [List.set_nil] at h
    rw [h.1] at e; simp at e
  | o :: σ, _, C, B, 0, w, v, ⟨z, τ', e, h⟩, e', r => by
    subst e
    simp at e'; subst e'
    exact ⟨B ++ C, ⟨v, τ', B, C, rfl, rfl, r, h⟩, .refl _⟩
  | none :: σ, _, C, B, i + 1, w, v, ⟨z, τ', e, h⟩, e', r => by
    subst e
    obtain ⟨A, q1, q2⟩ := RSl.put h (by simpa using e') r
    exact ⟨A, ⟨z, τ', rfl, q1⟩, q2⟩
  | some w' :: σ, _, _, B, i + 1, w, v, ⟨v', τ', B', C', e, e2, h1, h2⟩, e', r => by
    subst e e2
    obtain ⟨A, q1, q2⟩ := RSl.put h2 (by simpa using e') r
    refine ⟨B' ++ A, ⟨v', τ', B', A, rfl, rfl, h1, q1⟩, (q2.append_left B').trans ?_⟩
    rw [← List.append_assoc, ← List.append_assoc]
    exact List.perm_append_comm.append_right C'
theorem set_none_none {σ : St} {i : Nat} {x : Option W} : (σ.set i x).set i none = σ.set i none := List.set_set ..
end

/-- the frame's state: F: what the others hold, T: what is at hand (in no slot) -/
structure RS (y : Y) (Hh : Hp) (O : AP) (F : AP) (T : List Addr) (σ : St) (τ : L2.St) : Prop where
  sl : ∃ A, RSl y.z Hh O σ τ A ∧ (T ++ A).Nodup ∧ ∀ a ∈ T ++ A, ¬F a
  tm : ∀ a ∈ T, O a
  fr : ∀ a, F a → O a
  dom : ∀ a, O a → ∃ u, Hh a = some u
  hot : ∀ i v, y.hot = some (i, v) → τ[i]? = some (some v)
  fx : ∀ i v, (i, v) ∈ y.fx → τ[i]? = some (some v)
/-- a slot that may be stored to -/
def Cold (y : Y) (i : Nat) : Prop := (∀ v, y.hot ≠ some (i, v)) ∧ ∀ v, (i, v) ∉ y.fx
/-- a later state, for one who holds F -/
structure Nx (F : AP) (Hh : Hp) (O : AP) (H' : Hp) (O' : AP) : Prop where
  stab : Stab Hh O H' O'
  keep : ∀ a, F a → H' a = Hh a ∧ (O a → O' a)
theorem Nx.refl {F : AP} {Hh : Hp} {O : AP} : Nx F Hh O Hh O := ⟨.refl, fun _ _ => ⟨rfl, id⟩⟩
theorem Nx.trans {F : AP} {H1 H2 H3 : Hp} {O1 O2 O3 : AP} (a : Nx F H1 O1 H2 O2) (b : Nx F H2 O2 H3 O3) : Nx F H1 O1 H3 O3 :=
  ⟨a.stab.trans b.stab, fun x h => ⟨(b.keep x h).1.trans (a.keep x h).1, fun o => (b.keep x h).2 ((a.keep x h).2 o)⟩⟩
theorem Nx.weak {F G : AP} {H1 H2 : Hp} {O1 O2 : AP} (a : Nx F H1 O1 H2 O2) (h : ∀ x, G x → F x) : Nx G H1 O1 H2 O2 := ⟨a.stab, fun x q => a.keep x (h x q)⟩
/-- F and what is at hand -/
def plus (F : AP) (T : List Addr) : AP := fun a => F a ∨ a ∈ T
section
variable {y : Y} {Hh H' : Hp} {O O' : AP} {F : AP} {T T' : List Addr} {σ : St} {τ : L2.St}
theorem RS.len (h : RS y Hh O F T σ τ) : σ.length = τ.length := by
  obtain ⟨A, r, _⟩ := h.sl
  exact r.length
/-- what is at hand becomes the others' -/
theorem RS.park (h : RS y Hh O F T σ τ) : RS y Hh O (plus F T) [] σ τ := by
  obtain ⟨A, r, nd, d⟩ := h.sl
  refine ⟨⟨A, r, (List.nodup_append.mp nd).2.1, fun a ha q => ?_⟩, fun _ z => (by cases z), fun a q => ?_, h.dom, h.hot, h.fx⟩
  · rcases q with q | q
    · exact d a (List.mem_append_right _ ha) q
    · exact (List.nodup_append.mp nd).2.2 a q a ha rfl
  · rcases q with q | q
    · exact h.fr a q
    · exact h.tm a q
/-- .. and is at hand again -/
theorem RS.unpark (h : RS y Hh O (plus F T) T' σ τ) (nd : T.Nodup) (hd : ∀ a ∈ T, ¬F a) : RS y Hh O F (T ++ T') σ τ := by
  obtain ⟨A, r, nd', d⟩ := h.sl
  refine ⟨⟨A, r, ?_, fun a ha => ?_⟩, fun a ha => ?_, fun a q => h.fr a (.inl q), h.dom, h.hot, h.fx⟩
  · rw [List.append_assoc]
    rw [List.nodup_append]
    exact ⟨nd, nd', fun a ha b hb e => d b hb (.inr (e ▸ ha))⟩
  · rw [List.append_assoc] at ha
    rcases List.mem_append.mp ha with ha | ha
    · exact hd a ha
    · exact fun q => d a ha (.inl q)
  · rcases List.mem_append.mp ha with ha | ha
    · exact h.fr a (.inr ha)
    · exact h.tm a ha
/-- what is at hand is thrown away -/
theorem RS.less (h : RS y Hh O F T σ τ) (hs : T'.Sublist T) : RS y Hh O F T' σ τ := by
  obtain ⟨A, r, nd, d⟩ := h.sl
  have s2 : (T' ++ A).Sublist (T ++ A) := hs.append_right A
  exact ⟨⟨A, r, nd.sublist s2, fun a ha => d a (s2.subset ha)⟩, fun a ha => h.tm a (hs.subset ha), h.fr, h.dom, h.hot, h.fx⟩
theorem RS.toss (h : RS y Hh O F T σ τ) : RS y Hh O F [] σ τ := h.less (List.nil_sublist _)
theorem RS.perm (h : RS y Hh O F T σ τ) (p : T.Perm T') : RS y Hh O F T' σ τ := by
  obtain ⟨A, r, nd, d⟩ := h.sl
  have s2 : (T ++ A).Perm (T' ++ A) := p.append_right A
  exact ⟨⟨A, r, s2.nodup_iff.mp nd, fun a ha => d a (s2.mem_iff.mpr ha)⟩, fun a ha => h.tm a (p.mem_iff.mpr ha), h.fr, h.dom, h.hot, h.fx⟩
theorem RS.weakF {G : AP} (h : RS y Hh O F T σ τ) (hs : ∀ a, G a → F a) : RS y Hh O G T σ τ := by
  obtain ⟨A, r, nd, d⟩ := h.sl
  exact ⟨⟨A, r, nd, fun a ha q => d a ha (hs a q)⟩, h.tm, fun a q => h.fr a (hs a q), h.dom, h.hot, h.fx⟩
theorem RS.nodup (h : RS y Hh O F T σ τ) : T.Nodup := by
  obtain ⟨A, r, nd, d⟩ := h.sl
  exact (List.nodup_append.mp nd).1
theorem RS.notF (h : RS y Hh O F T σ τ) : ∀ a ∈ T, ¬F a := by
  obtain ⟨A, r, nd, d⟩ := h.sl
  exact fun a ha => d a (List.mem_append_left _ ha)
/-- a slot's value is taken out, and is at hand -/
theorem RS.out {i : Nat} {w : W} (h : RS y Hh O F T σ τ) (e : σ[i]? = some (some w)) : ∃ v B, τ[i]? = some (some v) ∧ RV y.z Hh O w v B ∧ RS y Hh O F (T ++ B) (σ.set i none) τ := by
  obtain ⟨A, r, nd, d⟩ := h.sl
  obtain ⟨v, B, C, q1, q2, q3, q4⟩ := r.out e
  have p : (T ++ A).Perm ((T ++ B) ++ C) := by rw [List.append_assoc]; exact q4.append_left T
  refine ⟨v, B, q1, q2, ⟨C, q3, p.nodup_iff.mp nd, fun a ha => d a (p.mem_iff.mpr ha)⟩, fun a ha => ?_, h.fr, h.dom, h.hot, h.fx⟩
  rcases List.mem_append.mp ha with ha | ha
  · exact h.tm a ha
  · exact RV.own _ _ _ q2 a ha
/-- looked at, where it stands -/
theorem RS.look {i : Nat} {w : W} (h : RS y Hh O F T σ τ) (e : σ[i]? = some (some w)) : ∃ v B, τ[i]? = some (some v) ∧ RV y.z Hh O w v B := by
  obtain ⟨v, B, q1, q2, _⟩ := h.out e
  exact ⟨v, B, q1, q2⟩
/-- what stood in a slot is forgotten -/
theorem RS.drop (i : Nat) (h : RS y Hh O F T σ τ) : RS y Hh O F T (σ.set i none) τ := by
  obtain ⟨A, r, nd, d⟩ := h.sl
  obtain ⟨B, C, q3, q4⟩ := r.drop i
  have p : (T ++ A).Perm (B ++ (T ++ C)) := (q4.append_left T).trans (by rw [← List.append_assoc, ← List.append_assoc]; exact List.perm_append_comm.append_right C)
  have s2 : (T ++ C).Sublist (B ++ (T ++ C)) := List.sublist_append_right _ _
  exact ⟨⟨C, q3, (p.nodup_iff.mp nd).sublist s2, fun a ha => d a (p.mem_iff.mpr (s2.subset ha))⟩, h.tm, h.fr, h.dom, h.hot, h.fx⟩
/-- a value at hand goes back to its slot -/
theorem RS.putBack {i : Nat} {w : W} {v : V} {B : List Addr} (h : RS y Hh O F (T ++ B) (σ.set i none) τ) (e : τ[i]? = some (some v)) (r : RV y.z Hh O w v B) : RS y Hh O F T (σ.set i (some w)) τ := by
  obtain ⟨C, rc, nd, d⟩ := h.sl
  obtain ⟨A, q1, q2⟩ := rc.put e r
  have p : ((T ++ B) ++ C).Perm (T ++ A) := by rw [List.append_assoc]; exact (q2.symm).append_left T
  exact ⟨⟨A, q1, p.nodup_iff.mp nd, fun a ha => d a (p.mem_iff.mpr ha)⟩, fun a ha => h.tm a (List.mem_append_left _ ha), h.fr, h.dom, h.hot, h.fx⟩
/-- an address of a slot is changed behind our back: the slot must be cold -/
theorem RS.setT {i : Nat} {x : Option V} (h : RS y Hh O F T (σ.set i none) τ) (hc : Cold y i) : RS y Hh O F T (σ.set i none) (τ.set i x) := by
  obtain ⟨A, r, nd, d⟩ := h.sl
  refine ⟨⟨A, r.setT, nd, d⟩, h.tm, h.fr, h.dom, fun j v e => ?_, fun j v e => ?_⟩
  · have hj : i ≠ j := fun z => hc.1 v (by rw [z]; exact e)
    rw [List.getElem?_set_ne hj]
    exact h.hot j v e
  · have hj : i ≠ j := fun z => hc.2 v (by rw [z]; exact e)
    rw [List.getElem?_set_ne hj]
    exact h.fx j v e
/-- a value at hand is stored in a slot -/
theorem RS.set {i : Nat} {w : W} {v : V} {B : List Addr} (h : RS y Hh O F (T ++ B) σ τ) (hc : Cold y i) (hi : i < σ.length) (r : RV y.z Hh O w v B) : RS y Hh O F T (σ.set i (some w)) (τ.set i (some v)) := by
  have h1 := (h.drop i).setT (x := some v) hc
  exact h1.putBack (by rw [List.getElem?_set_self (by rw [← h.len]; exact hi)]) r
theorem RS.forget (h : RS y Hh O F T σ τ) {i : Nat} (hc : Cold y i) : RS y Hh O F T (σ.set i none) (τ.set i none) := (h.drop i).setT hc
theorem RS.drops : ∀ (vs : List Nat), RS y Hh O F T σ τ → RS y Hh O F T (wipe σ vs) τ
  | [], h => h
  | v :: vs, h => (RS.drops vs h).drop v
/-- the slots of a block -/
theorem RS.wipe (h : RS y Hh O F T σ τ) : ∀ (vs : List Nat), (∀ i ∈ vs, Cold y i) → RS y Hh O F T (PV.wipe σ vs) (L2.wipe τ vs)
  | [], _ => h
  | v :: vs, hc => (RS.wipe h vs fun i hi => hc i (List.mem_cons_of_mem _ hi)).forget (hc v List.mem_cons_self)
/-- the heap goes on; all of ours stays -/
theorem RS.step (h : RS y Hh O F T σ τ) (s : Stab Hh O H' O') (k : ∀ a, O a → H' a = Hh a ∧ O' a) (dm : ∀ a, O' a → ∃ u, H' a = some u) : RS y H' O' F T σ τ := by
  obtain ⟨A, r, nd, d⟩ := h.sl
  exact ⟨⟨A, r.stab s fun a ha => k a (r.own a ha), nd, d⟩, fun a ha => (k a (h.tm a ha)).2, fun a q => (k a (h.fr a q)).2, dm, h.hot, h.fx⟩
theorem RS.free (h : RS y Hh O F T σ τ) {p : Addr} (hp : Hh p = none) : ¬O p := fun o => by
  obtain ⟨u, e⟩ := h.dom p o
  rw [hp] at e; cases e
theorem stab_new {p : Addr} {u : HO} (hp : Hh p = none) (hO : ∀ a, a ≠ p → (O' a → O a)) : Stab Hh O (upd Hh p u) O' := fun a x e o => by
  have ne := ne_of_none e hp
  exact ⟨by rw [upd_ne ne]; exact e, fun q => o (hO a ne q)⟩
/-- a new object that nobody may change -/
theorem RS.other {p : Addr} {u : HO} (h : RS y Hh O F T σ τ) (hp : Hh p = none) : RS y (upd Hh p u) O F T σ τ ∧ Nx F Hh O (upd Hh p u) O ∧ ¬O p := by
  have hn := h.free hp
  have k : ∀ a, O a → upd Hh p u a = Hh a ∧ O a := fun a o => ⟨upd_ne fun e => hn (e ▸ o), o⟩
  have s : Stab Hh O (upd Hh p u) O := stab_new hp fun a _ q => q
  refine ⟨h.step s k fun a o => ?_, ⟨s, fun a q => ⟨(k a (h.fr a q)).1, id⟩⟩, hn⟩
  rw [(k a o).1]; exact h.dom a o
/-- a new object of ours, at hand -/
theorem RS.alloc {p : Addr} {u : HO} (h : RS y Hh O F T σ τ) (hp : Hh p = none) : RS y (upd Hh p u) (fun a => O a ∨ a = p) F (T ++ [p]) σ τ ∧ Nx F Hh O (upd Hh p u) (fun a => O a ∨ a = p) := by
  have hn := h.free hp
  have k : ∀ a, O a → upd Hh p u a = Hh a ∧ (O a ∨ a = p) := fun a o => ⟨upd_ne fun e => hn (e ▸ o), .inl o⟩
  have s : Stab Hh O (upd Hh p u) (fun a => O a ∨ a = p) := stab_new hp fun a ne q => q.resolve_right ne
  refine ⟨?_, ⟨s, fun a q => ⟨(k a (h.fr a q)).1, .inl⟩⟩⟩
  obtain ⟨A, r, nd, d⟩ := h.sl
  have hT : p ∉ T ++ A := fun z => by
    rcases List.mem_append.mp z with z | z
    · exact hn (h.tm p z)
    · exact hn (r.own p z)
  have pm : ((T ++ [p]) ++ A).Perm (p :: (T ++ A)) := by
    rw [List.append_assoc]
    exact List.perm_middle
  refine ⟨⟨A, r.stab s fun a ha => k a (r.own a ha), pm.nodup_iff.mpr (List.nodup_cons.mpr ⟨hT, nd⟩), fun a ha q => ?_⟩, fun a ha => ?_, fun a q => .inl (h.fr a q), fun a o => ?_, h.hot, h.fx⟩
  · rcases List.mem_cons.mp (pm.mem_iff.mp ha) with e | ha
    · exact hn (e ▸ h.fr a q)
    · exact d a ha q
  · rcases List.mem_append.mp ha with ha | ha
    · exact .inl (h.tm a ha)
    · exact .inr (List.mem_singleton.mp ha)
  · rcases o with o | o
    · rw [(k a o).1]; exact h.dom a o
    · exact ⟨u, by rw [o, upd_same]⟩
/-- an object of ours, at hand, is changed -/
theorem RS.change {p : Addr} {u : HO} (h : RS y Hh O F T σ τ) (hp : p ∈ T) : RS y (upd Hh p u) O F T σ τ ∧ Nx F Hh O (upd Hh p u) O ∧ (∀ a, a ≠ p → upd Hh p u a = Hh a) := by
  have op := h.tm p hp
  have s : Stab Hh O (upd Hh p u) O := fun a x e o => by
    have ne : a ≠ p := fun z => o (z ▸ op)
    exact ⟨by rw [upd_ne ne]; exact e, o⟩
  obtain ⟨A, r, nd, d⟩ := h.sl
  refine ⟨⟨⟨A, r.stab s fun a ha => ⟨upd_ne fun e => ?_, r.own a ha⟩, nd, d⟩, h.tm, h.fr, fun a o => ?_, h.hot, h.fx⟩, ⟨s, fun a q => ⟨upd_ne fun e => ?_, id⟩⟩, fun a ne => upd_ne ne⟩
  · exact (List.nodup_append.mp nd).2.2 p hp a ha e.symm
  · by_cases e : a = p
    · exact ⟨u, by rw [e, upd_same]⟩
    · rw [upd_ne e]; exact h.dom a o
  · exact d p (List.mem_append_left _ hp) (e ▸ q)
/-- what is at hand is from now on changed by nobody -/
theorem RS.freeze {B : List Addr} (h : RS y Hh O F (T ++ B) σ τ) : RS y Hh (fun a => O a ∧ a ∉ B) F T σ τ ∧ Nx F Hh O Hh (fun a => O a ∧ a ∉ B) ∧ (∀ a ∈ T, a ∉ B) := by
  have s : Stab Hh O Hh (fun a => O a ∧ a ∉ B) := fun a x e o => ⟨e, fun q => o q.1⟩
  obtain ⟨A, r, nd, d⟩ := h.sl
  rw [List.append_assoc] at nd
  obtain ⟨n1, n2, n3⟩ := List.nodup_append.mp nd
  obtain ⟨n4, n5, n6⟩ := List.nodup_append.mp n2
  have hT : ∀ a ∈ T, a ∉ B := fun a ha hb => n3 a ha a (List.mem_append_left _ hb) rfl
  have hA : ∀ a ∈ A, a ∉ B := fun a ha hb => n6 a hb a ha rfl
  have hF : ∀ a, F a → a ∉ B := fun a q hb => d a (List.mem_append_left _ (List.mem_append_right _ hb)) q
  refine ⟨⟨⟨A, r.stab s fun a ha => ⟨rfl, r.own a ha, hA a ha⟩, List.nodup_append.mpr ⟨n1, n5, fun a ha b hb => n3 a ha b (List.mem_append_right _ hb)⟩, fun a ha => d a ?_⟩, fun a ha => ⟨h.tm a (List.mem_append_left _ ha), hT a ha⟩, fun a q => ⟨h.fr a q, hF a q⟩, fun a o => h.dom a o.1, h.hot, h.fx⟩, ⟨s, fun a q => ⟨rfl, fun o => ⟨o, hF a q⟩⟩⟩, hT⟩
  rcases List.mem_append.mp ha with ha | ha
  · exact List.mem_append_left _ (List.mem_append_left _ ha)
  · exact List.mem_append_right _ ha
end

/-! ### what an evaluation is to reach -/
abbrev XX := Exc → Hp → AP → Prop
/-- the relation of results: of what is handed out, and what of it may be changed -/
abbrev RA (α β : Type) := Hp → AP → α → β → List Addr → Prop
def Go {α β : Type} (y : Y) (F : AP) (Hh : Hp) (O : AP) (τ : L2.St) (ra : RA α β) (xx : XX) (r : Option (R α)) (Q : β → Hp → Prop) : Prop :=
  match r with
  | none => False
  | some (.ok a σ') => ∀ H' O' v A, Nx F Hh O H' O' → RS y H' O' F A σ' τ → ra H' O' a v A → Q v H'
  | some (.ex x σ') => ∀ H' O', Nx F Hh O H' O' → RS y H' O' F [] σ' τ → xx x H' O'
section
variable {α β γ δ : Type} {y : Y} {F : AP} {Hh H1 : Hp} {O O1 : AP} {τ : L2.St} {ra : RA α β} {xx : XX} {Q : β → Hp → Prop}
theorem Go.mono {r : Option (R α)} (n : Nx F Hh O H1 O1) (g : Go y F Hh O τ ra xx r Q) : Go y F H1 O1 τ ra xx r Q := by
  cases r with
  | none => exact g
  | some r =>
    cases r with
    | ok a h' => exact fun H' O' v A n' => g H' O' v A (n.trans n')
    | ex x h' => exact fun H' O' n' => g H' O' (n.trans n')
theorem Go.imp {r : Option (R α)} {Q' : β → Hp → Prop} (g : Go y F Hh O τ ra xx r Q) (k : ∀ v H', Q v H' → Q' v H') : Go y F Hh O τ ra xx r Q' := by
  cases r with
  | none => exact g
  | some r =>
    cases r with
    | ok a h' => exact fun H' O' v A n' a b => k _ _ (g H' O' v A n' a b)
    | ex x h' => exact g
/-- first the one, then the other; what the first one hands out is parked meanwhile -/
theorem Go.seq {rb : RA γ δ} {m : M α} {f : α → M γ} {σ : St} {Q : δ → Hp → Prop} (g : Go y F Hh O τ rb xx ((m.bind f) σ) Q) :
    Go y F Hh O τ ra xx (m σ) (fun v H1 => ∃ O1 w1 σ1 A1, Nx F Hh O H1 O1 ∧ RS y H1 O1 F A1 σ1 τ ∧ ra H1 O1 w1 v A1 ∧ Go y F H1 O1 τ rb xx (f w1 σ1) Q) := by
  unfold M.bind at g
  cases e : m σ with
  | none => rw [e] at g; exact g
  | some r =>
    cases r with
    | ex x h' => rw [e] at g; exact g
    | ok a σ' =>
      rw [e] at g
      exact fun H' O' v A n' rs r => ⟨O', a, σ', A, n', rs, r, g.mono n'⟩
/-- the frame may be taken larger by what is at hand -/
theorem Go.grow {r : Option (R α)} {T : List Addr} (nd : T.Nodup) (hd : ∀ a ∈ T, ¬F a) (g : Go y F Hh O τ ra xx r Q) :
    Go y (plus F T) Hh O τ (fun H' O' a v A => ra H' O' a v A) xx r Q := by
  cases r with
  | none => exact g
  | some r =>
    cases r with
    | ok a σ' => exact fun H' O' v A n' rs r => g H' O' v A (n'.weak fun x q => .inl q) ((rs.unpark nd hd).less (List.sublist_append_right _ _)) r
    | ex x σ' => exact fun H' O' n' rs => g H' O' (n'.weak fun x q => .inl q) (rs.weakF fun x q => .inl q)
theorem Go.pure {a : α} {σ : St} {v : β} {A : List Addr} (g : Go y F Hh O τ ra xx ((M.pure a) σ) Q) (rs : RS y Hh O F A σ τ) (r : ra Hh O a v A) : Q v Hh :=
  g Hh O v A .refl rs r
theorem Go.opt {o : Option α} {σ : St} (g : Go y F Hh O τ ra xx ((M.opt o) σ) Q) : ∃ a, o = some a ∧ Go y F Hh O τ ra xx (some (.ok a σ)) Q := by
  unfold M.opt at g
  cases e : o with
  | none => rw [e] at g; exact g.elim
  | some a => rw [e] at g; exact ⟨a, rfl, g⟩
end
end PV

/-! V2b: the operations on values: what V1 says is what the hand layer's rules give. -/
namespace PV
open PySem L2

theorem sz_eq : SZ = sizeLine := by
  rw [sizeLine_eq]
  unfold SZ
  rfl
theorem strV_len (s : List Char) : (strV s).length = s.length := by simp [strV, Str.length]
theorem strV_tl (s : List Char) : (strV s).cps.toList = s.map Char.toNat := by simp [strV]
theorem strV_app (a b : List Char) : strV a ++ strV b = strV (a ++ b) := by
  apply TL.ext_tl
  rw [TL.tl_append]
  simp [TL.tl, strV]
theorem char_inj {a b : Char} (h : a.toNat = b.toNat) : a = b := by
  apply Char.ext
  have : a.val.toNat = b.val.toNat := h
  exact UInt32.toNat_inj.mp this
theorem strV_inj {a b : List Char} (h : strV a = strV b) : a = b := by
  have e : (strV a).cps.toList = (strV b).cps.toList := by rw [h]
  rw [strV_tl, strV_tl] at e
  exact (List.map_inj_right (fun x y => char_inj)).mp e
theorem strV_beq (a b : List Char) : decide (strV a = strV b) = (a == b) := by
  by_cases h : a = b
  · subst h; simp
  · rw [decide_eq_false fun e => h (strV_inj e)]
    exact (beq_eq_false_iff_ne.mpr h).symm

/-! ### data as PyData -/
mutual
def W.py : W → PyData
  | .non => .none
  | .bl b => .bool b
  | .int i => .int i
  | .str s => .str (strV s)
  | .tup xs => .tuple (W.pys xs)
  | .lst _ xs => .list (W.pys xs)
  | .dic _ _ _ => .none
  | .ins _ _ _ => .none
  | .ro _ => .none
  | .fn _ => .none
def W.pys : List W → List PyData
  | [] => []
  | x :: xs => W.py x :: W.pys xs
end
mutual
theorem W.py_eqv : ∀ a b : W, a.dat = true → b.dat = true → PyData.eqv a.py b.py = pyEq a b
  | .non, b, _, _ => by cases b <;> simp_all [W.py, PyData.eqv, pyEq, W.dat]
  | .bl a, b, _, _ => by cases b <;> simp_all [W.py, PyData.eqv, pyEq, W.dat]
  | .int a, b, _, _ => by cases b <;> simp_all [W.py, PyData.eqv, pyEq, W.dat]
  | .str a, b, _, hb => by
    cases b with
    | str b =>
      simp only [W.py, PyData.eqv, pyEq]
      rw [← strV_beq]
      exact Bool.beq_eq_decide_eq _ _
    | _ => simp_all [W.py, PyData.eqv, pyEq, W.dat]
  | .tup a, b, ha, hb => by
    cases b with
    | tup b => simp only [W.py, PyData.eqv, pyEq]; exact W.pys_eqv a b (by simpa only [W.dat] using ha) (by simpa only [W.dat] using hb)
    | _ => simp_all [W.py, PyData.eqv, pyEq, W.dat]
  | .lst _ a, b, ha, hb => by
    cases b with
    | lst o b => simp only [W.py, PyData.eqv, pyEq]; exact W.pys_eqv a b (by simpa only [W.dat] using ha) (by simpa only [W.dat] using hb)
    | _ => simp_all [W.py, PyData.eqv, pyEq, W.dat]
  | .dic _ _ _, b, ha, _ => by simp [W.dat] at ha
  | .ins _ _ _, b, ha, _ => by simp [W.dat] at ha
  | .ro _, b, ha, _ => by simp [W.dat] at ha
  | .fn _, b, ha, _ => by simp [W.dat] at ha
theorem W.pys_eqv : ∀ a b : List W, W.dats a = true → W.dats b = true → PyData.eqvAll (W.pys a) (W.pys b) = pyEqs a b
  | [], b, _, _ => by cases b <;> simp [W.pys, PyData.eqvAll, pyEqs]
  | a :: as, b, ha, hb => by
    cases b with
    | nil => simp [W.pys, PyData.eqvAll, pyEqs]
    | cons b bs =>
      simp only [W.dats, Bool.and_eq_true] at ha hb
      simp only [W.pys, PyData.eqvAll, pyEqs]; rw [W.py_eqv a b ha.1 hb.1, W.pys_eqv as bs ha.2 hb.2]
end
theorem char_lt (c : Char) : c.toNat < 1114112 := by
  have h := c.valid
  have : c.val.toNat = c.toNat := rfl
  simp only [UInt32.isValidChar, Nat.isValidChar] at h
  omega
theorem strOk_strV (s : List Char) : PyData.strOk (strV s) = true := by
  unfold PyData.strOk strV
  simp only [List.all_toArray, List.all_map, List.all_eq_true]
  intro c _
  simp only [Function.comp, decide_eq_true_eq]
  exact char_lt c
mutual
theorem W.py_lay : ∀ a : W, a.py.canLay0 = true
  | .non => by simp [W.py, PyData.canLay0]
  | .bl a => by simp [W.py, PyData.canLay0]
  | .int a => by simp [W.py, PyData.canLay0]
  | .str a => by simp [W.py, PyData.canLay0, strOk_strV]
  | .tup a => by simp only [W.py, PyData.canLay0]; exact W.pys_lay a
  | .lst _ a => by simp only [W.py, PyData.canLay0]; exact W.pys_lay a
  | .dic _ _ _ => by simp [W.py, PyData.canLay0]
  | .ins _ _ _ => by simp [W.py, PyData.canLay0]
  | .ro _ => by simp [W.py, PyData.canLay0]
  | .fn _ => by simp [W.py, PyData.canLay0]
theorem W.pys_lay : ∀ a : List W, PyData.canLayAll0 (W.pys a) = true
  | [] => by simp [W.pys, PyData.canLayAll0]
  | a :: as => by simp only [W.pys, PyData.canLayAll0]; rw [W.py_lay a, W.pys_lay as]; rfl
end
mutual
theorem W.py_depth : ∀ a : W, a.py.depth = a.depth
  | .non => by simp [W.py, PyData.depth, W.depth]
  | .bl a => by simp [W.py, PyData.depth, W.depth]
  | .int a => by simp [W.py, PyData.depth, W.depth]
  | .str a => by simp [W.py, PyData.depth, W.depth]
  | .tup a => by simp only [W.py, PyData.depth, W.depth]; rw [W.pys_depth a]
  | .lst _ a => by simp only [W.py, PyData.depth, W.depth]; rw [W.pys_depth a]
  | .dic _ _ _ => by simp [W.py, PyData.depth, W.depth]
  | .ins _ _ _ => by simp [W.py, PyData.depth, W.depth]
  | .ro _ => by simp [W.py, PyData.depth, W.depth]
  | .fn _ => by simp [W.py, PyData.depth, W.depth]
theorem W.pys_depth : ∀ a : List W, PyData.depthAll (W.pys a) = W.depths a
  | [] => by simp [W.pys, PyData.depthAll, W.depths]
  | a :: as => by simp only [W.pys, PyData.depthAll, W.depths]; rw [W.py_depth a, W.pys_depth as]
end
theorem W.shaped {x : W} (h : x.depth ≤ 64) : SeqAt.shaped x.py = true := by
  unfold SeqAt.shaped
  rw [W.py_lay, W.py_depth]
  simpa using h
section
variable {z : Z} {Hh : Hp} {O : AP}
theorem RV.lst_at {o : Bool} {ws : List W} {v : V} {A : List Addr} (h : RV z Hh O (.lst o ws) v A) : ∃ a vs B, v = .ref a ∧ Hh a = some (.lst vs) ∧ RVs z Hh O ws vs B := by
  cases o with
  | false =>
    simp only [RV] at h
    obtain ⟨_, a, vs, e, t, r⟩ := h
    exact ⟨a, vs, [], e, t.1, r⟩
  | true =>
    simp only [RV] at h
    obtain ⟨a, vs, B, e, _, o, t, r⟩ := h
    exact ⟨a, vs, B, e, t, r⟩
theorem RV.tup_at {ws : List W} {v : V} {A : List Addr} (h : RV z Hh O (.tup ws) v A) : ∃ a vs, v = .ref a ∧ TupAt z.K Hh O a vs ∧ RVs z Hh O ws vs A := by simpa only [RV] using h
theorem RVs.frz' {ws : List W} {vs : List V} {A : List Addr} (h : RVs z Hh O ws vs A) (f : W.frzs ws = true) : RVs z Hh O ws vs [] := by
  have := RVs.frz _ _ _ h f
  subst this
  exact h
theorem RV.frz' {ws : W} {vs : V} {A : List Addr} (h : RV z Hh O ws vs A) (f : W.frz ws = true) : RV z Hh O ws vs [] := by
  have := RV.frz _ _ _ h f
  subst this
  exact h
mutual
theorem dp_of : ∀ (d : W) (v : V) (A : List Addr), d.dat = true → RV z Hh O d v A → Dp z.K Hh v d.py
  | .non, v, A, _, h => by simp only [RV] at h; rw [h.1]; simp only [W.py]; exact .non
  | .bl b, v, A, _, h => by simp only [RV] at h; rw [h.1]; simp only [W.py]; exact .bl b
  | .int b, v, A, _, h => by simp only [RV] at h; rw [h.1]; simp only [W.py]; exact .int b
  | .str b, v, A, _, h => by simp only [RV] at h; rw [h.1]; simp only [W.py]; exact .str _
  | .tup ds, v, A, k, h => by
    simp only [RV] at h
    obtain ⟨a, vs, rfl, ht, hr⟩ := h
    simp only [W.py]
    exact .tup ht.sq (dps_of ds vs A (by simpa only [W.dat] using k) hr)
  | .lst o ds, v, A, k, h => by
    obtain ⟨a, vs, B, rfl, ht, hr⟩ := h.lst_at
    simp only [W.py]
    exact .lst (.of ht) (dps_of ds vs B (by simpa only [W.dat] using k) hr)
  | .dic _ _ _, v, A, k, _ => by simp [W.dat] at k
  | .ins _ _ _, v, A, k, _ => by simp [W.dat] at k
  | .ro _, v, A, k, _ => by simp [W.dat] at k
  | .fn _, v, A, k, _ => by simp [W.dat] at k
theorem dps_of : ∀ (ds : List W) (vs : List V) (A : List Addr), W.dats ds = true → RVs z Hh O ds vs A → DpAll z.K Hh vs (W.pys ds)
  | [], vs, A, _, h => by simp only [RVs] at h; rw [h.1]; simp only [W.pys]; exact .nil
  | d :: ds, vs, A, k, h => by
    simp only [RVs] at h
    simp only [W.dats, Bool.and_eq_true] at k
    obtain ⟨v, r, B, C, rfl, _, h1, h2⟩ := h
    simp only [W.pys]
    exact .cons (dp_of d v B k.1 h1) (dps_of ds r C k.2 h2)
end
end
/-! ### lists of values -/
theorem allI_map : ∀ {ws : List W} {ns : List Int}, allI ws = some ns → ws = ns.map W.int
  | [], ns, h => by simp [allI] at h; subst h; rfl
  | w :: r, ns, h => by
    cases w with
    | int i =>
      simp only [allI] at h
      cases e : allI r with
      | none => rw [e] at h; cases h
      | some xs => rw [e] at h; cases h; rw [allI_map e]; rfl
    | _ => simp [allI] at h
theorem allI_of (ns : List Int) : allI (ns.map W.int) = some ns := by
  induction ns with
  | nil => rfl
  | cons d ds ih => simp only [List.map_cons, allI, ih]
theorem allB_map : ∀ {ws : List W} {ns : List Bool}, allB ws = some ns → ws = ns.map W.bl
  | [], ns, h => by simp [allB] at h; subst h; rfl
  | w :: r, ns, h => by
    cases w with
    | bl i =>
      simp only [allB] at h
      cases e : allB r with
      | none => rw [e] at h; cases h
      | some xs => rw [e] at h; cases h; rw [allB_map e]; rfl
    | _ => simp [allB] at h
theorem allB_of (ns : List Bool) : allB (ns.map W.bl) = some ns := by
  induction ns with
  | nil => rfl
  | cons d ds ih => simp only [List.map_cons, allB, ih]
theorem allS_map : ∀ {ws : List W} {ns : List (List Char)}, allS ws = some ns → ws = ns.map W.str
  | [], ns, h => by simp [allS] at h; subst h; rfl
  | w :: r, ns, h => by
    cases w with
    | str i =>
      simp only [allS] at h
      cases e : allS r with
      | none => rw [e] at h; cases h
      | some xs => rw [e] at h; cases h; rw [allS_map e]; rfl
    | _ => simp [allS] at h
theorem allS_of (ns : List (List Char)) : allS (ns.map W.str) = some ns := by
  induction ns with
  | nil => rfl
  | cons d ds ih => simp only [List.map_cons, allS, ih]

/-! ### results -/
abbrev RVR (y : Y) : RA W V := fun H' O' w v A => RV y.z H' O' w v A
section
variable {y : Y} {F : AP} {Hh : Hp} {O : AP} {τ : L2.St} {σ : St} {xx : XX} {Q : V → Hp → Prop} {T : List Addr}
theorem Go.val {w : W} {v : V} (g : Go y F Hh O τ (RVR y) xx (some (.ok w σ)) Q) (rs : RS y Hh O F T σ τ) (r : RV y.z Hh O w v T) : Q v Hh := g Hh O v T .refl rs r
theorem Go.int {i : Int} (g : Go y F Hh O τ (RVR y) xx (some (.ok (.int i) σ)) Q) (rs : RS y Hh O F T σ τ) : Q (.int i) Hh := g.val rs.toss (by simp only [RV]; trivial)
theorem Go.bl {i : Bool} (g : Go y F Hh O τ (RVR y) xx (some (.ok (.bl i) σ)) Q) (rs : RS y Hh O F T σ τ) : Q (.bl i) Hh := g.val rs.toss (by simp only [RV]; trivial)
theorem Go.str {i : List Char} (g : Go y F Hh O τ (RVR y) xx (some (.ok (.str i) σ)) Q) (rs : RS y Hh O F T σ τ) : Q (.str (strV i)) Hh := g.val rs.toss (by simp only [RV]; trivial)
theorem Go.non (g : Go y F Hh O τ (RVR y) xx (some (.ok .non σ)) Q) (rs : RS y Hh O F T σ τ) : Q .non Hh := g.val rs.toss (by simp only [RV]; trivial)
theorem own_ne {a p : Addr} (rs : RS y Hh O F T σ τ) (hp : Hh p = none) (ha : a ∈ T) : a ≠ p := fun e => rs.free hp (e ▸ rs.tm a ha)
/-- a new tuple -/
theorem Go.tup {ws : List W} {vs : List V} (g : Go y F Hh O τ (RVR y) xx (some (.ok (.tup ws) σ)) Q) (rs : RS y Hh O F T σ τ) (r : RVs y.z Hh O ws vs T) : ∀ p, Hh p = none → Q (.ref p) (upd Hh p (.tup vs)) := fun p hp => by
  obtain ⟨rs', n, hn⟩ := rs.other (u := .tup vs) hp
  refine g _ _ _ T n rs' ?_
  simp only [RV]
  exact ⟨p, vs, rfl, .inl ⟨upd_same, hn⟩, r.stab n.stab _ _ _ fun a ha => ⟨upd_ne (own_ne rs hp ha), rs.tm a ha⟩⟩
/-- a new list -/
theorem Go.lst {ws : List W} {vs : List V} (g : Go y F Hh O τ (RVR y) xx (some (.ok (.lst true ws) σ)) Q) (rs : RS y Hh O F T σ τ) (r : RVs y.z Hh O ws vs T) : ∀ p, Hh p = none → Q (.ref p) (upd Hh p (.lst vs)) := fun p hp => by
  obtain ⟨rs', n⟩ := rs.alloc (u := .lst vs) hp
  refine g _ _ _ (p :: T) n (rs'.perm (by exact (List.perm_append_comm (l₁ := T) (l₂ := [p])))) ?_
  simp only [RV]
  exact ⟨p, vs, T, rfl, rfl, .inr rfl, upd_same, r.stab n.stab _ _ _ fun a ha => ⟨upd_ne (own_ne rs hp ha), .inl (rs.tm a ha)⟩⟩
end

/-! ### + - * // % ** -/
section
variable {X : Cx} {y : Y} {xx : XX}
def rBin (y : Y) (xx : XX) (o : BOp) : R2 := fun v u Hh Q => ∃ F O σ τ w1 w2 A1 A2, RS y Hh O F [] σ τ ∧ RV y.z Hh O w1 v A1 ∧ RV y.z Hh O w2 u A2 ∧ Go y F Hh O τ (RVR y) xx (M.opt (binOp o w1 w2) σ) Q
theorem mulOk_ok {i j : Int} (h : mulOk i j = true) : CMul i j := by
  unfold mulOk at h
  simp only [Bool.or_eq_true, decide_eq_true_eq] at h
  unfold CMul
  omega
theorem bin_add (hK : y.z.K = X.K) : OpR X (binaryOp .Add) (rBin y xx .add) := by
  intro pins s τ0 Hh v u v' u' Q I rv ru ⟨F, O, σ, τ, w1, w2, A1, A2, rs, r1, r2, g⟩
  obtain ⟨w, e, g⟩ := g.opt
  change addW w1 w2 = some w at e
  unfold addW at e
  split at e
  case h_1 i j =>
    simp only [RV] at r1 r2
    cases e
    exact op_add pins s τ0 Hh v u v' u' Q I rv ru ⟨i, j, r1.1, r2.1, g.int rs⟩
  case h_2 a b =>
    simp only [RV] at r1 r2
    split at e
    · cases e
      refine op_add_str pins s τ0 Hh v u v' u' Q I rv ru ⟨_, _, r1.1, r2.1, ?_, ?_⟩
      · rw [strV_len, strV_len, ← sz_eq]; assumption
      · rw [strV_app]; exact g.str rs
    · cases e
  case h_3 a b =>
    obtain ⟨pa, va, rfl, ta, ra⟩ := r1.tup_at
    obtain ⟨pb, vb, rfl, tb, rb⟩ := r2.tup_at
    split at e
    case isFalse => cases e
    case isTrue hz =>
      cases e
      have ra := ra.frz' hz.2.1
      have rb := rb.frz' hz.2.2
      have la := ra.length
      have lb := rb.length
      refine op_catA pins s τ0 Hh _ _ v' u' Q I rv ru ⟨pa, pb, va, vb, rfl, rfl, hK ▸ ta.sq, hK ▸ tb.sq, by rw [← la, ← lb, ← sz_eq]; exact hz.1, fun e => ?_, fun _ e => ?_, fun _ _ p hp => ?_⟩
      · subst e
        have : a = [] := List.length_eq_zero_iff.mp (by simpa using la)
        subst this
        exact g.val rs (by simp only [RV, List.nil_append]; exact ⟨pb, vb, rfl, tb, rb⟩)
      · subst e
        have : b = [] := List.length_eq_zero_iff.mp (by simpa using lb)
        subst this
        exact g.val rs (by simp only [RV, List.append_nil]; exact ⟨pa, va, rfl, ta, ra⟩)
      · exact g.tup rs (ra.append rb) p hp
  case h_4 oa a ob b =>
    split at e
    case isFalse => cases e
    case isTrue hz =>
      cases e
      obtain ⟨pa, va, B1, rfl, ea, ra⟩ := r1.lst_at
      obtain ⟨pb, vb, B2, rfl, eb, rb⟩ := r2.lst_at
      have ra := ra.frz' hz.2.1
      have rb := rb.frz' hz.2.2
      exact op_cat pins s τ0 Hh _ _ v' u' Q I rv ru ⟨pa, pb, va, vb, rfl, rfl, ea, eb, by rw [← ra.length, ← rb.length, ← sz_eq]; exact hz.1, fun p hp => g.lst rs (ra.append rb) p hp⟩
  all_goals cases e
theorem bin_sub : OpR X (binaryOp .Sub) (rBin y xx .sub) := by
  intro pins s τ0 Hh v u v' u' Q I rv ru ⟨F, O, σ, τ, w1, w2, A1, A2, rs, r1, r2, g⟩
  obtain ⟨w, e, g⟩ := g.opt
  change subW w1 w2 = some w at e
  unfold subW at e
  split at e
  case h_1 i j =>
    simp only [RV] at r1 r2
    cases e
    exact op_sub pins s τ0 Hh v u v' u' Q I rv ru ⟨i, j, r1.1, r2.1, g.int rs⟩
  all_goals cases e
theorem RVs.rep {Hh : Hp} {O : AP} {a : List W} {va : List V} (r : RVs y.z Hh O a va []) : ∀ n : Nat, RVs y.z Hh O (List.replicate n a).flatten (List.replicate n va).flatten []
  | 0 => .nil
  | n + 1 => by rw [List.replicate_succ, List.replicate_succ, List.flatten_cons, List.flatten_cons]; exact r.append (RVs.rep r n)
theorem bin_mul : OpR X (binaryOp .Mult) (rBin y xx .mul) := by
  intro pins s τ0 Hh v u v' u' Q I rv ru ⟨F, O, σ, τ, w1, w2, A1, A2, rs, r1, r2, g⟩
  obtain ⟨w, e, g⟩ := g.opt
  change mulW w1 w2 = some w at e
  unfold mulW at e
  split at e
  case h_1 i j =>
    simp only [RV] at r1 r2
    split at e
    case isFalse => cases e
    case isTrue hm =>
      cases e
      exact op_mul pins s τ0 Hh v u v' u' Q I rv ru ⟨i, j, r1.1, r2.1, mulOk_ok hm, g.int rs⟩
  case h_2 oa a k =>
    split at e
    case isFalse => cases e
    case isTrue hz =>
      cases e
      obtain ⟨pa, va, B1, rfl, ea, ra⟩ := r1.lst_at
      have ra := ra.frz' hz.2.2.2
      simp only [RV] at r2
      refine op_rep pins s τ0 Hh _ _ v' u' Q I rv ru ⟨pa, k, va, rfl, r2.1, ea, by omega, by omega, by rw [← ra.length, ← sz_eq]; exact hz.2.2.1, fun p hp => g.lst rs (ra.rep _) p hp⟩
  all_goals cases e
theorem bin_fdiv : OpR X (binaryOp .FloorDiv) (rBin y xx .fdiv) := by
  intro pins s τ0 Hh v u v' u' Q I rv ru ⟨F, O, σ, τ, w1, w2, A1, A2, rs, r1, r2, g⟩
  obtain ⟨w, e, g⟩ := g.opt
  change fdivW w1 w2 = some w at e
  unfold fdivW at e
  split at e
  case h_1 i j =>
    simp only [RV] at r1 r2
    split at e
    case isFalse => cases e
    case isTrue hm =>
      cases e
      exact op_fdivW pins s τ0 Hh v u v' u' Q I rv ru ⟨i, j, r1.1, r2.1, hm, g.int rs⟩
  all_goals cases e
theorem bin_mod : OpR X (binaryOp .Mod) (rBin y xx .mod) := by
  intro pins s τ0 Hh v u v' u' Q I rv ru ⟨F, O, σ, τ, w1, w2, A1, A2, rs, r1, r2, g⟩
  obtain ⟨w, e, g⟩ := g.opt
  change modW w1 w2 = some w at e
  unfold modW at e
  split at e
  case h_1 i j =>
    simp only [RV] at r1 r2
    split at e
    case isFalse => cases e
    case isTrue hm =>
      cases e
      exact op_mod pins s τ0 Hh v u v' u' Q I rv ru ⟨i, j, r1.1, r2.1, hm, g.int rs⟩
  all_goals cases e
theorem bin_pow : OpR X (binaryOp .Pow) (rBin y xx .pow) := by
  intro pins s τ0 Hh v u v' u' Q I rv ru ⟨F, O, σ, τ, w1, w2, A1, A2, rs, r1, r2, g⟩
  obtain ⟨w, e, g⟩ := g.opt
  change powW w1 w2 = some w at e
  unfold powW at e
  split at e
  case h_1 i j =>
    simp only [RV] at r1 r2
    split at e
    case isFalse => cases e
    case isTrue hm =>
      cases e
      exact op_pow pins s τ0 Hh v u v' u' Q I rv ru ⟨i, j, r1.1, r2.1, ⟨hm.1, hm.2.1, by omega⟩, g.int rs⟩
  all_goals cases e
end

/-! ### comparisons -/
def rCmp (y : Y) (o : COp) : R2 := fun v u Hh Q => ∃ O w1 w2 A1 A2 k, RV y.z Hh O w1 v A1 ∧ RV y.z Hh O w2 u A2 ∧ cmpOp o w1 w2 = some k ∧ Q (.bl k) Hh
section
variable {X : Cx} {y : Y}
theorem datOk_iff {a : W} : datOk a = true ↔ a.dat = true ∧ a.depth ≤ 60 := by
  unfold datOk
  simp only [Bool.and_eq_true, decide_eq_true_eq]
/-- values of which == is known -/
theorem eqW_dp {Hh : Hp} {O : AP} {w1 w2 : W} {v u : V} {A1 A2 : List Addr} {k : Bool} (r1 : RV y.z Hh O w1 v A1) (r2 : RV y.z Hh O w2 u A2) (e : eqW w1 w2 = some k) :
    ∃ d e, Dp y.z.K Hh v d ∧ Dp y.z.K Hh u e ∧ SeqAt.shaped d = true ∧ SeqAt.shaped e = true ∧ PyData.eqv d e = k := by
  unfold eqW at e
  split at e
  case isFalse => cases e
  case isTrue hz =>
    have h1 := datOk_iff.mp hz.1
    have h2 := datOk_iff.mp hz.2
    exact ⟨_, _, dp_of _ _ _ h1.1 r1, dp_of _ _ _ h2.1 r2, W.shaped (by omega), W.shaped (by omega), by rw [W.py_eqv _ _ h1.1 h2.1]; exact Option.some.inj e⟩
theorem cmp_eq (hK : y.z.K = X.K) (hu : X.A.units + 64 < cLine) : OpR X (compareOp .Eq) (rCmp y .eq) := by
  intro pins s τ Hh v u v' u' Q I rv ru ⟨O, w1, w2, A1, A2, k, r1, r2, e, q⟩
  obtain ⟨d, e', h1, h2, h3, h4, h5⟩ := eqW_dp r1 r2 e
  exact op_eqD hu pins s τ Hh v u v' u' Q I rv ru ⟨d, e', hK ▸ h1, hK ▸ h2, h3, h4, by rw [h5]; exact q⟩
theorem cmp_ne (hK : y.z.K = X.K) (hu : X.A.units + 64 < cLine) : OpR X (compareOp .NotEq) (rCmp y .ne) := by
  intro pins s τ Hh v u v' u' Q I rv ru ⟨O, w1, w2, A1, A2, k, r1, r2, e, q⟩
  change (eqW w1 w2).map (!·) = some k at e
  cases e0 : eqW w1 w2 with
  | none => rw [e0] at e; cases e
  | some k0 =>
    rw [e0] at e
    have ek : (!k0) = k := Option.some.inj e
    obtain ⟨d, e', h1, h2, h3, h4, h5⟩ := eqW_dp r1 r2 e0
    exact op_neD hu pins s τ Hh v u v' u' Q I rv ru ⟨d, e', hK ▸ h1, hK ▸ h2, h3, h4, by rw [h5, ek]; exact q⟩
theorem ltS_eq (a b : List Char) : ltS a b = decide ((strV a).cps.toList < (strV b).cps.toList) := by
  rw [strV_tl, strV_tl]
  rfl
theorem ltT_eq : ∀ a b : List Int, ltT a b = HT.lexLt a b
  | [], [] => rfl
  | [], _ :: _ => rfl
  | _ :: _, [] => rfl
  | x :: xs, z :: zs => by
    simp only [ltT, HT.lexLt]
    rw [ltT_eq xs zs]
theorem cmp_lt (hK : y.z.K = X.K) (hu : X.A.units < cLine) : OpR X (compareOp .Lt) (rCmp y .lt) := by
  intro pins s τ Hh v u v' u' Q I rv ru ⟨O, w1, w2, A1, A2, k, r1, r2, e, q⟩
  change ltW w1 w2 = some k at e
  unfold ltW at e
  split at e
  case h_1 i j =>
    simp only [RV] at r1 r2
    cases e
    exact op_lt pins s τ Hh v u v' u' Q I rv ru ⟨i, j, r1.1, r2.1, q⟩
  case h_2 a b =>
    simp only [RV] at r1 r2
    cases e
    rw [ltS_eq] at q
    exact op_lt_str pins s τ Hh v u v' u' Q I rv ru ⟨_, _, r1.1, r2.1, q⟩
  case h_3 a b =>
    split at e
    case h_2 => cases e
    case h_1 x z ex ez =>
      cases e
      rw [allI_map ex] at r1
      rw [allI_map ez] at r2
      obtain ⟨pa, va, rfl, ta, ra⟩ := r1.tup_at
      obtain ⟨pb, vb, rfl, tb, rb⟩ := r2.tup_at
      rw [ra.ints_inv] at ta
      rw [rb.ints_inv] at tb
      rw [ltT_eq] at q
      exact op_ltT hu pins s τ Hh _ _ v' u' Q I rv ru ⟨pa, pb, x, z, rfl, rfl, hK ▸ ta.sq, hK ▸ tb.sq, q⟩
  all_goals cases e
theorem cmp_gt : OpR X (compareOp .Gt) (rCmp y .gt) := by
  intro pins s τ Hh v u v' u' Q I rv ru ⟨O, w1, w2, A1, A2, k, r1, r2, e, q⟩
  change gtW w1 w2 = some k at e
  unfold gtW at e
  split at e
  case h_1 i j =>
    simp only [RV] at r1 r2
    cases e
    exact op_gt pins s τ Hh v u v' u' Q I rv ru ⟨i, j, r1.1, r2.1, q⟩
  case h_2 a b =>
    simp only [RV] at r1 r2
    cases e
    rw [ltS_eq] at q
    exact op_gt_str pins s τ Hh v u v' u' Q I rv ru ⟨_, _, r1.1, r2.1, q⟩
  all_goals cases e
theorem cmp_le : OpR X (compareOp .LtE) (rCmp y .le) := by
  intro pins s τ Hh v u v' u' Q I rv ru ⟨O, w1, w2, A1, A2, k, r1, r2, e, q⟩
  change leW w1 w2 = some k at e
  unfold leW at e
  split at e
  case h_1 i j =>
    simp only [RV] at r1 r2
    cases e
    exact op_le pins s τ Hh v u v' u' Q I rv ru ⟨i, j, r1.1, r2.1, q⟩
  case h_2 a b =>
    simp only [RV] at r1 r2
    cases e
    rw [ltS_eq] at q
    exact op_le_str pins s τ Hh v u v' u' Q I rv ru ⟨_, _, r1.1, r2.1, q⟩
  all_goals cases e
theorem cmp_ge : OpR X (compareOp .GtE) (rCmp y .ge) := by
  intro pins s τ Hh v u v' u' Q I rv ru ⟨O, w1, w2, A1, A2, k, r1, r2, e, q⟩
  change geW w1 w2 = some k at e
  unfold geW at e
  split at e
  case h_1 i j =>
    simp only [RV] at r1 r2
    cases e
    exact op_ge pins s τ Hh v u v' u' Q I rv ru ⟨i, j, r1.1, r2.1, q⟩
  case h_2 a b =>
    simp only [RV] at r1 r2
    cases e
    rw [ltS_eq] at q
    exact op_ge_str pins s τ Hh v u v' u' Q I rv ru ⟨_, _, r1.1, r2.1, q⟩
  all_goals cases e
theorem non_of {Hh : Hp} {O : AP} {v : V} {w : W} {A : List Addr} (r : RV y.z Hh O w v A) : decide (v = .non) = w.isNon := by
  cases w with
  | tup ws => obtain ⟨_, _, rfl, _⟩ := r.tup_at; simp [W.isNon]
  | lst o ws => obtain ⟨_, _, _, rfl, _⟩ := r.lst_at; simp [W.isNon]
  | dic _ _ _ => simp only [RV] at r
  | ins _ _ _ => simp only [RV] at r
  | ro xs => simp only [RV] at r; obtain ⟨_, _, rfl, _⟩ := r; simp [W.isNon]
  | fn i => simp only [RV] at r; obtain ⟨_, _, _, rfl⟩ := r; simp [W.isNon]
  | _ => simp only [RV] at r; rw [r.1]; simp [W.isNon]
theorem isNon_eq {Hh : Hp} {O : AP} {w1 w2 : W} {v u : V} {A1 A2 : List Addr} {k : Bool} (r1 : RV y.z Hh O w1 v A1) (r2 : RV y.z Hh O w2 u A2) (e : isNonW w1 w2 = some k) : u = .non ∧ decide (v = .non) = k := by
  unfold isNonW at e
  split at e
  case h_2 => cases e
  case h_1 =>
    simp only [RV] at r2
    refine ⟨r2.1, ?_⟩
    rw [non_of r1]
    exact Option.some.inj e
theorem cmp_is : OpR X (compareOp .Is) (rCmp y .is) := by
  intro pins s τ Hh v u v' u' Q I rv ru ⟨O, w1, w2, A1, A2, k, r1, r2, e, q⟩
  obtain ⟨e1, e2⟩ := isNon_eq r1 r2 (show isNonW w1 w2 = some k from e)
  exact op_isN pins s τ Hh v u v' u' Q I rv ru ⟨e1, by rw [e2]; exact q⟩
theorem cmp_isn : OpR X (compareOp .IsNot) (rCmp y .isn) := by
  intro pins s τ Hh v u v' u' Q I rv ru ⟨O, w1, w2, A1, A2, k, r1, r2, e, q⟩
  change (isNonW w1 w2).map (!·) = some k at e
  cases e0 : isNonW w1 w2 with
  | none => rw [e0] at e; cases e
  | some k0 =>
    rw [e0] at e
    have ek : (!k0) = k := Option.some.inj e
    obtain ⟨e1, e2⟩ := isNon_eq r1 r2 e0
    exact op_notN pins s τ Hh v u v' u' Q I rv ru ⟨e1, by rw [e2, ek]; exact q⟩
end
end PV

/-! V2c: in, truth, subscripts, slices, built-ins, methods. -/
namespace PV
open PySem L2

section
variable {X : Cx} {y : Y}
theorem flat_eqV {Hh : Hp} {O : AP} : ∀ {a b : W} {v u : V} {A B : List Addr}, a.flat = true → b.flat = true → RV y.z Hh O a v A → RV y.z Hh O b u B → flatV v = true ∧ eqV v u = pyEq a b := fun {a b v u A B} fa fb ra rb => by
  cases a with
  | non =>
    simp only [RV] at ra; rw [ra.1]
    refine ⟨rfl, ?_⟩
    cases b <;> first | (cases fb; done) | (simp only [RV] at rb; rw [rb.1]; simp [eqV, pyEq])
  | bl _ =>
    simp only [RV] at ra; rw [ra.1]
    refine ⟨rfl, ?_⟩
    cases b <;> first | (cases fb; done) | (simp only [RV] at rb; rw [rb.1]; simp [eqV, pyEq])
  | int _ =>
    simp only [RV] at ra; rw [ra.1]
    refine ⟨rfl, ?_⟩
    cases b <;> first | (cases fb; done) | (simp only [RV] at rb; rw [rb.1]; simp [eqV, pyEq])
  | str a =>
    simp only [RV] at ra; rw [ra.1]
    refine ⟨rfl, ?_⟩
    cases b with
    | str b => simp only [RV] at rb; rw [rb.1]; simp only [eqV, pyEq]; rw [← strV_beq]; exact Bool.beq_eq_decide_eq _ _
    | _ => first | (cases fb; done) | (simp only [RV] at rb; rw [rb.1]; simp [eqV, pyEq])
  | _ => cases fa
theorem flat_any {Hh : Hp} {O : AP} {x : W} {v : V} {A : List Addr} (fx : x.flat = true) (rx : RV y.z Hh O x v A) : ∀ {ds : List W} {vs : List V} {B : List Addr}, RVs y.z Hh O ds vs B → ds.all W.flat = true → vs.all flatV = true ∧ inV v vs = ds.any fun z => pyEq z x
  | [], vs, B, h, _ => by simp only [RVs] at h; rw [h.1]; exact ⟨rfl, rfl⟩
  | d :: ds, vs, B, h, f => by
    simp only [RVs] at h
    obtain ⟨u, r, B, C, rfl, _, h1, h2⟩ := h
    rw [List.all_cons, Bool.and_eq_true] at f
    obtain ⟨q1, q2⟩ := flat_any fx rx h2 f.2
    obtain ⟨z1, z2⟩ := flat_eqV f.1 fx h1 rx
    refine ⟨by rw [List.all_cons, z1, q1]; rfl, ?_⟩
    unfold inV at q2 ⊢
    rw [List.any_cons, List.any_cons, q2, z2]
theorem any_py (x : W) (hx : x.dat = true) : ∀ db : List W, W.dats db = true → ((W.pys db).any fun z => PyData.eqv z x.py) = db.any fun z => pyEq z x
  | [], _ => rfl
  | d :: ds, h => by
    simp only [W.dats, Bool.and_eq_true] at h
    simp only [W.pys, List.any_cons, W.py_eqv _ _ h.1 hx, any_py x hx ds h.2]
theorem inW_ok (hK : y.z.K = X.K) (hu : X.A.units + 65 < cLine) {neg : Bool} {o : CmpOp} (ho : o = if neg then .NotIn else .In) {O : AP} {Hh : Hp} {w1 w2 : W} {v u : V} {A1 A2 : List Addr} {k : Bool} (r1 : RV y.z Hh O w1 v A1) (r2 : RV y.z Hh O w2 u A2) (e : inW w1 w2 = some k)
    {pins : List (Addr × Obj)} {s : Shared} {τ : L2.St} {v' u' : Value} {Q : VK} (I : L2.Inv X pins τ Hh s) (rv : RelV v v') (ru : RelV u u') (q : Q (.bl (if neg then !k else k)) Hh) :
    wpAny (model X.prog X.w) X.A (compareOp o v' u') (EP X pins τ Q) X.xe s := by
  subst ho
  unfold inW at e
  split at e
  case h_1 c b =>
    cases e
    simp only [RV] at r1 r2
    have hm : decide (c.toNat ∈ (strV b).cps.toList) = decide (c ∈ b) := by
      rw [strV_tl]
      by_cases hc : c ∈ b
      · rw [decide_eq_true hc, decide_eq_true (List.mem_map_of_mem hc)]
      · rw [decide_eq_false hc]
        refine decide_eq_false fun hm => hc ?_
        obtain ⟨d, hd, e⟩ := List.mem_map.mp hm
        rw [← char_inj e]; exact hd
    cases neg with
    | false => exact op_in_sign pins s τ Hh v u v' u' Q I rv ru ⟨c.toNat, strV b, r1.1, r2.1, by rw [hm]; exact q⟩
    | true => exact op_notIn_sign pins s τ Hh v u v' u' Q I rv ru ⟨c.toNat, strV b, r1.1, r2.1, by rw [hm]; exact q⟩
  case h_2 x b _ =>
    split at e
    case isFalse => cases e
    case isTrue hf =>
      cases e
      obtain ⟨pb, vb, rfl, tb, rb⟩ := r2.tup_at
      obtain ⟨q1, q2⟩ := flat_any hf.1 r1 rb hf.2
      have fv : flatV v = true := (flat_eqV hf.1 hf.1 r1 r1).1
      cases neg with
      | false => exact op_in_seq pins s τ Hh v _ v' u' Q I rv ru ⟨pb, vb, rfl, .inr (hK ▸ tb.sq), fv, q1, by rw [q2]; exact q⟩
      | true => exact op_notIn_seq pins s τ Hh v _ v' u' Q I rv ru ⟨pb, vb, rfl, .inr (hK ▸ tb.sq), fv, q1, by rw [q2]; exact q⟩
  case h_3 ob b =>
    split at e
    case isFalse => cases e
    case isTrue hz =>
      cases e
      obtain ⟨pb, vb, B, rfl, f2, f3⟩ := r2.lst_at
      have h1 := datOk_iff.mp hz.1
      have h2 := datOk_iff.mp hz.2
      simp only [W.dat, W.depth] at h2
      have sh : SeqAt.shaped (.list (W.pys b)) = true := by
        unfold SeqAt.shaped
        simp only [PyData.canLay0, PyData.depth, W.pys_lay, W.pys_depth, Bool.true_and, decide_eq_true_eq]
        omega
      have han := any_py _ h1.1 b h2.1
      cases neg with
      | false => exact op_inD hu pins s τ Hh v _ v' u' Q I rv ru ⟨_, _, hK ▸ dp_of _ _ _ h1.1 r1, hK ▸ .lst (SqL.of f2) (dps_of _ _ _ h2.1 f3), W.shaped (by omega), sh, by rw [han]; exact q⟩
      | true => exact op_notInD hu pins s τ Hh v _ v' u' Q I rv ru ⟨_, _, hK ▸ dp_of _ _ _ h1.1 r1, hK ▸ .lst (SqL.of f2) (dps_of _ _ _ h2.1 f3), W.shaped (by omega), sh, by rw [han]; exact q⟩
  all_goals cases e
theorem cmp_inn (hK : y.z.K = X.K) (hu : X.A.units + 65 < cLine) : OpR X (compareOp .In) (rCmp y .inn) := by
  intro pins s τ Hh v u v' u' Q I rv ru ⟨O, w1, w2, A1, A2, k, r1, r2, e, q⟩
  exact inW_ok (neg := false) hK hu rfl r1 r2 e I rv ru q
theorem cmp_nin (hK : y.z.K = X.K) (hu : X.A.units + 65 < cLine) : OpR X (compareOp .NotIn) (rCmp y .nin) := by
  intro pins s τ Hh v u v' u' Q I rv ru ⟨O, w1, w2, A1, A2, k, r1, r2, e, q⟩
  change (inW w1 w2).map (!·) = some k at e
  cases e0 : inW w1 w2 with
  | none => rw [e0] at e; cases e
  | some k0 =>
    rw [e0] at e
    have ek : (!k0) = k := Option.some.inj e
    subst ek
    exact inW_ok (neg := true) hK hu rfl r1 r2 e0 I rv ru q
theorem truth_ok {Hh : Hp} {O : AP} {w : W} {v : V} {A : List Addr} {k : Bool} (hK : y.z.K = X.K) (r : RV y.z Hh O w v A) (e : truth w = some k) : TruV X.K v Hh k := by
  unfold truth at e
  split at e
  case h_1 => simp only [RV] at r; rw [r.1]; exact (Option.some.inj e).symm
  case h_2 b => simp only [RV] at r; rw [r.1]; exact (Option.some.inj e).symm
  case h_3 i =>
    simp only [RV] at r; rw [r.1]
    show k = (i != 0)
    rw [← Option.some.inj e]
    by_cases hi : i = 0 <;> simp [hi]
  case h_4 s =>
    simp only [RV] at r; rw [r.1]
    split at e
    case isFalse => cases e
    case isTrue hz =>
      refine ⟨by rw [strV_len, ← sz_eq]; exact hz, ?_⟩
      rw [strV_len, ← Option.some.inj e]
      cases s with
      | nil => rfl
      | cons c s =>
        simp only [List.isEmpty_cons, Bool.not_false, List.length_cons]
        exact (bne_iff_ne.mpr (by omega)).symm
  case h_5 xs =>
    obtain ⟨a, vs, rfl, ta, ra⟩ := r.tup_at
    refine .inr (.inl ⟨vs, hK ▸ ta.sq, ?_⟩)
    rw [← Option.some.inj e]
    have l := ra.length
    cases xs <;> cases vs <;> simp at l ⊢
  case h_6 o xs =>
    obtain ⟨a, vs, B, rfl, e2, e3⟩ := r.lst_at
    refine .inl ⟨vs, .of e2, ?_⟩
    rw [← Option.some.inj e]
    have l := e3.length
    cases xs <;> cases vs <;> simp at l ⊢
  case h_7 xs =>
    simp only [RV] at r
    obtain ⟨_, a, rfl, ra⟩ := r
    refine .inl ⟨_, hK ▸ ra.sq, ?_⟩
    rw [← Option.some.inj e]
    cases xs <;> simp
  all_goals cases e

/-! ### subscripts -/
theorem ixn_eq (n : Nat) (i : Int) : ixn n i = ixN n i := by
  unfold ixn ixN
  by_cases h0 : 0 ≤ i
  · rw [if_pos h0, if_pos h0]
  · rw [if_neg h0, if_neg h0]
    by_cases h1 : 0 ≤ i + n
    · rw [if_pos h1, if_pos (by omega)]
    · rw [if_neg h1, if_neg (by omega)]
def rGet (y : Y) : R2 := fun v u Hh Q => ∃ O w1 w2 A1 A2 w, RV y.z Hh O w1 v A1 ∧ RV y.z Hh O w2 u A2 ∧ getIx w1 w2 = some w ∧ ∀ z A, RV y.z Hh O w z A → Q z Hh
theorem ix_ok (hK : y.z.K = X.K) : IxR X (rGet y) := by
  intro va sl pins s τ Hh v u v' u' Q I rv ru ⟨O, w1, w2, A1, A2, w, r1, r2, e, q⟩ hs
  unfold getIx at e
  split at e
  case h_1 xs i =>
    obtain ⟨a, vs, rfl, ta, ra⟩ := r1.tup_at
    simp only [RV] at r2
    cases ei : ixn xs.length i with
    | none => rw [ei] at e; cases e
    | some k =>
      rw [ei, Option.bind_some] at e
      obtain ⟨z, B, ez, rz⟩ := ra.get e
      refine ix_tup va sl pins s τ Hh _ u v' u' Q I rv ru ⟨a, vs, i, z, rfl, r2.1, hK ▸ ta.sq, ?_, q z B rz⟩ hs
      unfold atI
      rw [← ixn_eq, ← ra.length, ei]
      exact ez
  case h_2 t i =>
    simp only [RV] at r1 r2
    split at e
    case isFalse => cases e
    case isTrue hz =>
      cases ei : ixn t.length i with
      | none => rw [ei] at e; cases e
      | some k =>
        rw [ei] at e
        cases ek : t[k]? with
        | none => rw [Option.bind_some, ek] at e; cases e
        | some c =>
          rw [Option.bind_some, ek] at e
          have ew : W.str [c] = w := Option.some.inj e
          subst ew
          refine ix_str va sl pins s τ Hh v u v' u' Q I rv ru ⟨strV t, i, c.toNat, r1.1, r2.1, by rw [strV_len, ← sz_eq]; exact hz, ?_, q _ [] ?_⟩ hs
          · unfold atI
            rw [strV_tl, List.length_map, ← ixn_eq, ei]
            simp [ek]
          · simp only [RV]; exact ⟨rfl, trivial⟩
  case h_3 o xs i =>
    obtain ⟨a, vs, B, rfl, e2, e3⟩ := r1.lst_at
    simp only [RV] at r2
    cases ei : ixn xs.length i with
    | none => rw [ei] at e; cases e
    | some k =>
      rw [ei, Option.bind_some] at e
      obtain ⟨z, B', ez, rz⟩ := e3.get e
      refine ix_list va sl pins s τ Hh _ u v' u' Q I rv ru ⟨a, vs, i, z, rfl, r2.1, .of e2, ?_, q z B' rz⟩ hs
      unfold atI
      rw [← ixn_eq, ← e3.length, ei]
      exact ez
  case h_4 xs i =>
    simp only [RV] at r1 r2
    obtain ⟨_, a, rfl, ra⟩ := r1
    cases ei : ixn xs.length i with
    | none => rw [ei] at e; cases e
    | some k =>
      rw [ei] at e
      cases ek : xs[k]? with
      | none => rw [Option.bind_some, ek] at e; cases e
      | some d =>
        rw [Option.bind_some, ek] at e
        have ew : W.int d = w := Option.some.inj e
        subst ew
        refine ix_list va sl pins s τ Hh _ u v' u' Q I rv ru ⟨a, _, i, .int d, rfl, r2.1, hK ▸ ra.sq, ?_, q _ [] (by simp only [RV]; trivial)⟩ hs
        unfold atI
        rw [← ixn_eq, List.length_map, ei]
        simp [ek]
  all_goals cases e

/-! ### slices -/
theorem slIx_eq (n d : Nat) (o : Option Int) : slIx n d o = HT.sIx n d o := by cases o <;> rfl
theorem cut_len {α : Type} (xs : List α) (lo hi : Option Int) : (cut xs lo hi).length ≤ xs.length := by
  unfold cut
  rw [List.length_take, List.length_drop]
  omega
theorem RVs.cut {Hh : Hp} {O : AP} {ds : List W} {vs : List V} (h : RVs y.z Hh O ds vs []) (lo hi : Option Int) : RVs y.z Hh O (PV.cut ds lo hi) (cutV vs lo hi) [] := by
  unfold PV.cut cutV
  rw [← h.length, slIx_eq, slIx_eq]
  exact (h.drop _).take _
theorem cut_str (t : List Char) (lo hi : Option Int) : cutS (strV t) lo hi = strV (cut t lo hi) := by
  unfold cutS cut
  rw [strV_len, strV_tl, slIx_eq, slIx_eq]
  unfold strV
  rw [List.map_take, List.map_drop]
theorem cut_whole {α : Type} {xs : List α} {lo hi : Option Int} (h : HT.sIx xs.length 0 lo = 0 ∧ HT.sIx xs.length xs.length hi = xs.length) : cut xs lo hi = xs := by
  unfold cut
  rw [slIx_eq, slIx_eq, h.1, h.2]
  simp
def rSl (y : Y) (xx : XX) : V → Option Int → Option Int → Hp → VK → Prop := fun v lo hi Hh Q => ∃ F O σ τ w A, RS y Hh O F [] σ τ ∧ RV y.z Hh O w v A ∧ Go y F Hh O τ (RVR y) xx (M.opt (slice w lo hi) σ) Q
theorem sl_ok {xx : XX} (hK : y.z.K = X.K) : SlR X (rSl y xx) := by
  intro pins s τ0 Hh v v' vl vu lo hi sl Q I rv hs pl pu ⟨F, O, σ, τ, w, A, rs, r, g⟩
  obtain ⟨w', e, g⟩ := g.opt
  unfold slice at e
  split at e
  case h_1 xs =>
    split at e
    case isFalse => cases e
    case isTrue hf =>
      cases e
      obtain ⟨a, vs, rfl, ta, ra⟩ := r.tup_at
      have ra := ra.frz' hf
      have hl := ra.length
      refine sl_tupA pins s τ0 Hh _ v' vl vu lo hi sl Q I rv hs pl pu ⟨a, vs, rfl, hK ▸ ta.sq, fun hw => ?_, fun hw p hp => g.tup rs (ra.cut lo hi) p hp⟩
      rw [← hl] at hw
      refine g.val rs ?_
      rw [cut_whole hw]
      simp only [RV]
      exact ⟨a, vs, rfl, ta, ra⟩
  case h_2 t =>
    simp only [RV] at r
    split at e
    case isFalse => cases e
    case isTrue hz =>
      cases e
      refine sl_str pins s τ0 Hh _ v' vl vu lo hi sl Q I rv hs pl pu ⟨_, r.1, by rw [strV_len, ← sz_eq]; exact hz, ?_⟩
      rw [cut_str]
      exact g.str rs
  case h_3 o xs =>
    split at e
    case isFalse => cases e
    case isTrue hf =>
      cases e
      obtain ⟨a, vs, B, rfl, e2, ra⟩ := r.lst_at
      have ra := ra.frz' hf
      exact sl_list pins s τ0 Hh _ v' vl vu lo hi sl Q I rv hs pl pu ⟨a, vs, rfl, .of e2, fun p hp => g.lst rs (ra.cut lo hi) p hp⟩
  all_goals cases e

/-! ### built-ins, by the values of their arguments -/
def rBif (y : Y) (xx : XX) (b : BI) : List V → Hp → VK → Prop := fun vs Hh Q => ∃ F O σ τ ws A, RS y Hh O F [] σ τ ∧ RVs y.z Hh O ws vs A ∧ Go y F Hh O τ (RVR y) xx (M.opt (bifn b ws) σ) Q
variable {xx : XX}
theorem bi_len (hK : y.z.K = X.K) : CallR X (.builtin "len") (rBif y xx .len) := by
  intro pins s τ0 Hh vs us Q I r ⟨F, O, σ, τ, ws, A, rs, rw_, g⟩
  obtain ⟨w, e, g⟩ := g.opt
  change lenW ws = some w at e
  unfold lenW at e
  split at e
  case h_1 t =>
    obtain ⟨v, rfl, r1⟩ := rw_.one_inv
    simp only [RV] at r1
    split at e
    case isFalse => cases e
    case isTrue hz =>
      cases e
      exact call_len pins s τ0 Hh _ us Q I r ⟨v, t.length, rfl, by rw [r1.1]; exact ⟨by rw [strV_len, ← sz_eq]; exact hz, (strV_len t).symm⟩, g.int rs⟩
  case h_2 xs =>
    obtain ⟨v, rfl, r1⟩ := rw_.one_inv
    cases e
    obtain ⟨a, vs, rfl, ta, ra⟩ := r1.tup_at
    exact call_len pins s τ0 Hh _ us Q I r ⟨_, xs.length, rfl, .inr ⟨vs, hK ▸ ta.sq, ra.length⟩, g.int rs⟩
  case h_3 xs =>
    obtain ⟨v, rfl, r1⟩ := rw_.one_inv
    cases e
    simp only [RV] at r1
    obtain ⟨_, a, rfl, ra⟩ := r1
    exact call_len pins s τ0 Hh _ us Q I r ⟨_, xs.length, rfl, .inl ⟨_, hK ▸ ra.sq, by simp⟩, g.int rs⟩
  case h_4 o xs =>
    obtain ⟨v, rfl, r1⟩ := rw_.one_inv
    cases e
    obtain ⟨a, vs, B, rfl, e2, ra⟩ := r1.lst_at
    exact call_len pins s τ0 Hh _ us Q I r ⟨_, xs.length, rfl, .inl ⟨vs, .of e2, ra.length⟩, g.int rs⟩
  all_goals cases e
theorem bi_abs : CallR X (.builtin "abs") (rBif y xx .abs) := by
  intro pins s τ0 Hh vs us Q I r ⟨F, O, σ, τ, ws, A, rs, rw_, g⟩
  obtain ⟨w, e, g⟩ := g.opt
  change absW ws = some w at e
  unfold absW at e
  split at e
  case h_1 i =>
    cases e
    obtain ⟨v, rfl, r1⟩ := rw_.one_inv
    simp only [RV] at r1
    exact call_abs pins s τ0 Hh _ us Q I r ⟨i, by rw [r1.1], g.int rs⟩
  all_goals cases e
theorem bi_int : CallR X (.type "int") (rBif y xx .int) := by
  intro pins s τ0 Hh vs us Q I r ⟨F, O, σ, τ, ws, A, rs, rw_, g⟩
  obtain ⟨w, e, g⟩ := g.opt
  change intW ws = some w at e
  unfold intW at e
  split at e
  case h_1 i =>
    cases e
    obtain ⟨v, rfl, r1⟩ := rw_.one_inv
    simp only [RV] at r1
    exact call_int1 pins s τ0 Hh _ us Q I r (.inl ⟨i, by rw [r1.1], g.int rs⟩)
  case h_2 b =>
    cases e
    obtain ⟨v, rfl, r1⟩ := rw_.one_inv
    simp only [RV] at r1
    exact call_int1 pins s τ0 Hh _ us Q I r (.inr ⟨b, by rw [r1.1], g.int rs⟩)
  all_goals cases e
theorem bi_max2 (hc : X.calm = true) : CallR X (.builtin "max") (rBif y xx .max2) := by
  intro pins s τ0 Hh vs us Q I r ⟨F, O, σ, τ, ws, A, rs, rw_, g⟩
  obtain ⟨w, e, g⟩ := g.opt
  change max2W ws = some w at e
  unfold max2W at e
  split at e
  case h_1 i j =>
    cases e
    obtain ⟨v, v', B, C, rfl, _, r1, r2⟩ := rw_.two_inv
    simp only [RV] at r1 r2
    exact call_max2 hc pins s τ0 Hh _ us Q I r ⟨i, j, by rw [r1.1, r2.1], g.int rs⟩
  all_goals cases e
theorem bi_min2 (hc : X.calm = true) : CallR X (.builtin "min") (rBif y xx .min2) := by
  intro pins s τ0 Hh vs us Q I r ⟨F, O, σ, τ, ws, A, rs, rw_, g⟩
  obtain ⟨w, e, g⟩ := g.opt
  change min2W ws = some w at e
  unfold min2W at e
  split at e
  case h_1 i j =>
    cases e
    obtain ⟨v, v', B, C, rfl, _, r1, r2⟩ := rw_.two_inv
    simp only [RV] at r1 r2
    exact call_min2 hc pins s τ0 Hh _ us Q I r ⟨i, j, by rw [r1.1, r2.1], g.int rs⟩
  all_goals cases e
theorem bi_tuple (hK : y.z.K = X.K) : CallR X (.type "tuple") (rBif y xx .tuple) := by
  intro pins s τ0 Hh vs us Q I r ⟨F, O, σ, τ, ws, A, rs, rw_, g⟩
  obtain ⟨w, e, g⟩ := g.opt
  change tupleW ws = some w at e
  unfold tupleW at e
  split at e
  case h_1 xs =>
    split at e
    case isFalse => cases e
    case isTrue hf =>
      cases e
      obtain ⟨v, rfl, r1⟩ := rw_.one_inv
      obtain ⟨a, vs, rfl, ta, ra⟩ := r1.tup_at
      exact call_tuple_of pins s τ0 Hh _ us Q I r ⟨a, vs, rfl, .inr ⟨hK ▸ ta.sq, g.val rs (by simp only [RV]; exact ⟨a, vs, rfl, ta, ra.frz' hf⟩)⟩⟩
  case h_2 o xs =>
    split at e
    case isFalse => cases e
    case isTrue hf =>
      cases e
      obtain ⟨v, rfl, r1⟩ := rw_.one_inv
      obtain ⟨a, vs, B, rfl, e2, ra⟩ := r1.lst_at
      exact call_tuple_of pins s τ0 Hh _ us Q I r ⟨a, vs, rfl, .inl ⟨.of e2, fun l hl => g.tup rs (ra.frz' hf) l hl⟩⟩
  all_goals cases e
theorem bi_list (hK : y.z.K = X.K) : CallR X (.type "list") (rBif y xx .list) := by
  intro pins s τ0 Hh vs us Q I r ⟨F, O, σ, τ, ws, A, rs, rw_, g⟩
  obtain ⟨w, e, g⟩ := g.opt
  change listW ws = some w at e
  unfold listW at e
  split at e
  case h_1 xs =>
    split at e
    case isFalse => cases e
    case isTrue hf =>
      cases e
      obtain ⟨v, rfl, r1⟩ := rw_.one_inv
      obtain ⟨a, vs, rfl, ta, ra⟩ := r1.tup_at
      exact call_list_of pins s τ0 Hh _ us Q I r ⟨a, vs, rfl, .inr (hK ▸ ta.sq), g.lst rs (ra.frz' hf)⟩
  case h_2 o xs =>
    split at e
    case isFalse => cases e
    case isTrue hf =>
      cases e
      obtain ⟨v, rfl, r1⟩ := rw_.one_inv
      obtain ⟨a, vs, B, rfl, e2, ra⟩ := r1.lst_at
      exact call_list_of pins s τ0 Hh _ us Q I r ⟨a, vs, rfl, .inl (.of e2), g.lst rs (ra.frz' hf)⟩
  case h_3 xs =>
    cases e
    obtain ⟨v, rfl, r1⟩ := rw_.one_inv
    simp only [RV] at r1
    obtain ⟨_, a, rfl, ra⟩ := r1
    exact call_list_of pins s τ0 Hh _ us Q I r ⟨a, _, rfl, .inl (hK ▸ ra.sq), g.lst rs RVs.ints⟩
  all_goals cases e
theorem intsOf_ok (hK : y.z.K = X.K) {Hh : Hp} {O : AP} {w : W} {v : V} {A : List Addr} {ns : List Int} (r : RV y.z Hh O w v A) (e : intsOf w = some ns) : ∃ a, v = .ref a ∧ SqL X.K Hh a (ns.map V.int) := by
  unfold intsOf at e
  split at e
  case h_1 o xs =>
    obtain ⟨a, vs, B, rfl, e2, ra⟩ := r.lst_at
    rw [allI_map e] at ra
    rw [ra.ints_inv] at e2
    exact ⟨a, rfl, .of e2⟩
  case h_2 xs =>
    cases e
    simp only [RV] at r
    obtain ⟨_, a, rfl, ra⟩ := r
    exact ⟨a, rfl, hK ▸ ra.sq⟩
  all_goals cases e
theorem boolsOf_ok {Hh : Hp} {O : AP} {w : W} {v : V} {A : List Addr} {ns : List Bool} (r : RV y.z Hh O w v A) (e : boolsOf w = some ns) : ∃ a, v = .ref a ∧ SqL X.K Hh a (ns.map V.bl) := by
  unfold boolsOf at e
  split at e
  case h_1 o xs =>
    obtain ⟨a, vs, B, rfl, e2, ra⟩ := r.lst_at
    rw [allB_map e] at ra
    rw [ra.bools_inv] at e2
    exact ⟨a, rfl, .of e2⟩
  all_goals cases e
theorem bi_sum (hK : y.z.K = X.K) (hc : X.calm = true) : CallR X (.builtin "sum") (rBif y xx .sum) := by
  intro pins s τ0 Hh vs us Q I r ⟨F, O, σ, τ, ws, A, rs, rw_, g⟩
  obtain ⟨w, e, g⟩ := g.opt
  change sumW ws = some w at e
  unfold sumW at e
  split at e
  case h_1 w0 =>
    obtain ⟨v, rfl, r1⟩ := rw_.one_inv
    split at e
    case h_2 => cases e
    case h_1 ns en =>
      cases e
      obtain ⟨a, rfl, sq⟩ := intsOf_ok hK r1 en
      exact cr_sum hc pins s τ0 Hh _ us Q I r ⟨a, ns, rfl, sq, g.int rs⟩
  all_goals cases e
theorem maxI_spec : ∀ (l : List Int) (m : Int), maxI m l ∈ m :: l ∧ ∀ z ∈ m :: l, z ≤ maxI m l
  | [], m => ⟨by simp [maxI], fun z hz => by simp at hz; subst hz; exact Int.le_refl _⟩
  | x :: l, m => by
    obtain ⟨h1, h2⟩ := maxI_spec l (if x > m then x else m)
    have hm : (if x > m then x else m) = m ∨ (if x > m then x else m) = x := by split <;> simp
    have hb : m ≤ (if x > m then x else m) ∧ x ≤ (if x > m then x else m) := by split <;> omega
    have e : maxI m (x :: l) = maxI (if x > m then x else m) l := rfl
    rw [e]
    generalize (if x > m then x else m) = m' at h1 h2 hm hb
    refine ⟨?_, fun z hz => ?_⟩
    · rcases List.mem_cons.mp h1 with e | e
      · rw [e]
        rcases hm with e | e <;> rw [e] <;> simp
      · exact List.mem_cons_of_mem _ (List.mem_cons_of_mem _ e)
    · have h3 := h2 m' List.mem_cons_self
      rcases List.mem_cons.mp hz with e | hz
      · subst e; omega
      · rcases List.mem_cons.mp hz with e | hz
        · subst e; omega
        · exact h2 z (List.mem_cons_of_mem _ hz)
theorem minI_spec : ∀ (l : List Int) (m : Int), minI m l ∈ m :: l ∧ ∀ z ∈ m :: l, minI m l ≤ z
  | [], m => ⟨by simp [minI], fun z hz => by simp at hz; subst hz; exact Int.le_refl _⟩
  | x :: l, m => by
    obtain ⟨h1, h2⟩ := minI_spec l (if x < m then x else m)
    have hm : (if x < m then x else m) = m ∨ (if x < m then x else m) = x := by split <;> simp
    have hb : (if x < m then x else m) ≤ m ∧ (if x < m then x else m) ≤ x := by split <;> omega
    have e : minI m (x :: l) = minI (if x < m then x else m) l := rfl
    rw [e]
    generalize (if x < m then x else m) = m' at h1 h2 hm hb
    refine ⟨?_, fun z hz => ?_⟩
    · rcases List.mem_cons.mp h1 with e | e
      · rw [e]
        rcases hm with e | e <;> rw [e] <;> simp
      · exact List.mem_cons_of_mem _ (List.mem_cons_of_mem _ e)
    · have h3 := h2 m' List.mem_cons_self
      rcases List.mem_cons.mp hz with e | hz
      · subst e; omega
      · rcases List.mem_cons.mp hz with e | hz
        · subst e; omega
        · exact h2 z (List.mem_cons_of_mem _ hz)
theorem bi_maxL (hK : y.z.K = X.K) (hc : X.calm = true) : CallR X (.builtin "max") (rBif y xx .maxL) := by
  intro pins s τ0 Hh vs us Q I r ⟨F, O, σ, τ, ws, A, rs, rw_, g⟩
  obtain ⟨w, e, g⟩ := g.opt
  change maxLW ws = some w at e
  unfold maxLW at e
  split at e
  case h_1 w0 =>
    obtain ⟨v, rfl, r1⟩ := rw_.one_inv
    split at e
    case h_2 => cases e
    case h_1 n ns en =>
      cases e
      obtain ⟨a, rfl, sq⟩ := intsOf_ok hK r1 en
      refine cr_max hc pins s τ0 Hh _ us Q I r ⟨a, n :: ns, rfl, sq, by simp, fun m hm hle => ?_⟩
      obtain ⟨q1, q2⟩ := maxI_spec ns n
      have : m = maxI n ns := Int.le_antisymm (q2 m hm) (hle _ q1)
      subst this
      exact g.int rs
  all_goals cases e
theorem bi_minL (hK : y.z.K = X.K) (hc : X.calm = true) : CallR X (.builtin "min") (rBif y xx .minL) := by
  intro pins s τ0 Hh vs us Q I r ⟨F, O, σ, τ, ws, A, rs, rw_, g⟩
  obtain ⟨w, e, g⟩ := g.opt
  change minLW ws = some w at e
  unfold minLW at e
  split at e
  case h_1 w0 =>
    obtain ⟨v, rfl, r1⟩ := rw_.one_inv
    split at e
    case h_2 => cases e
    case h_1 n ns en =>
      cases e
      obtain ⟨a, rfl, sq⟩ := intsOf_ok hK r1 en
      refine cr_min hc pins s τ0 Hh _ us Q I r ⟨a, n :: ns, rfl, sq, by simp, fun m hm hle => ?_⟩
      obtain ⟨q1, q2⟩ := minI_spec ns n
      have : m = minI n ns := Int.le_antisymm (hle _ q1) (q2 m hm)
      subst this
      exact g.int rs
  all_goals cases e
theorem bi_any (hc : X.calm = true) : CallR X (.builtin "any") (rBif y xx .any) := by
  intro pins s τ0 Hh vs us Q I r ⟨F, O, σ, τ, ws, A, rs, rw_, g⟩
  obtain ⟨w, e, g⟩ := g.opt
  change anyW ws = some w at e
  unfold anyW at e
  split at e
  case h_1 w0 =>
    obtain ⟨v, rfl, r1⟩ := rw_.one_inv
    split at e
    case h_2 => cases e
    case h_1 ns en =>
      cases e
      obtain ⟨a, rfl, sq⟩ := boolsOf_ok (X := X) r1 en
      exact cr_any hc pins s τ0 Hh _ us Q I r ⟨a, ns, rfl, sq, g.bl rs⟩
  all_goals cases e
theorem bi_all (hc : X.calm = true) : CallR X (.builtin "all") (rBif y xx .all) := by
  intro pins s τ0 Hh vs us Q I r ⟨F, O, σ, τ, ws, A, rs, rw_, g⟩
  obtain ⟨w, e, g⟩ := g.opt
  change allW ws = some w at e
  unfold allW at e
  split at e
  case h_1 w0 =>
    obtain ⟨v, rfl, r1⟩ := rw_.one_inv
    split at e
    case h_2 => cases e
    case h_1 ns en =>
      cases e
      obtain ⟨a, rfl, sq⟩ := boolsOf_ok (X := X) r1 en
      exact cr_all hc pins s τ0 Hh _ us Q I r ⟨a, ns, rfl, sq, g.bl rs⟩
  all_goals cases e
theorem insI_perm (x : Int) : ∀ l : List Int, (insI x l).Perm (x :: l)
  | [] => .refl _
  | z :: l => by
    unfold insI
    split
    · exact .refl _
    · exact ((insI_perm x l).cons z).trans (.swap _ _ _)
theorem insI_sorted (x : Int) : ∀ l : List Int, l.Pairwise (· ≤ ·) → (insI x l).Pairwise (· ≤ ·)
  | [], _ => by simp [insI]
  | z :: l, h => by
    obtain ⟨h1, h2⟩ := List.pairwise_cons.mp h
    unfold insI
    split
    case isTrue hx => exact List.pairwise_cons.mpr ⟨fun a ha => (List.mem_cons.mp ha).elim (fun e => e ▸ hx) fun ha => Int.le_trans hx (h1 a ha), h⟩
    case isFalse hx =>
      refine List.pairwise_cons.mpr ⟨fun a ha => ?_, insI_sorted x l h2⟩
      rcases List.mem_cons.mp ((insI_perm x l).mem_iff.mp ha) with e | e
      · omega
      · exact h1 a e
theorem sortI_perm : ∀ l : List Int, (sortI l).Perm l
  | [] => .refl _
  | x :: l => (insI_perm x _).trans ((sortI_perm l).cons x)
theorem sortI_sorted : ∀ l : List Int, (sortI l).Pairwise (· ≤ ·)
  | [] => .nil
  | x :: l => insI_sorted x _ (sortI_sorted l)
theorem sorted_same {a b : List Int} (hp : a.Perm b) (ha : a.Pairwise (· ≤ ·)) (hb : b.Pairwise (· ≤ ·)) : a = b := hp.eq_of_pairwise (fun x y _ _ h1 h2 => Int.le_antisymm h1 h2) ha hb
theorem bi_sorted (hK : y.z.K = X.K) : CallR X (.builtin "sorted") (rBif y xx .sorted) := by
  intro pins s τ0 Hh vs us Q I r ⟨F, O, σ, τ, ws, A, rs, rw_, g⟩
  obtain ⟨w, e, g⟩ := g.opt
  change sortedW ws = some w at e
  unfold sortedW at e
  split at e
  case h_1 w0 =>
    obtain ⟨v, rfl, r1⟩ := rw_.one_inv
    split at e
    case h_2 => cases e
    case h_1 ns en =>
      cases e
      obtain ⟨a, rfl, sq⟩ := intsOf_ok hK r1 en
      refine cr_sortedI pins s τ0 Hh _ us Q I r ⟨a, ns, rfl, sq, fun ns' p hp hs hn => ?_⟩
      have : ns' = sortI ns := sorted_same (hp.trans (sortI_perm ns).symm) hs (sortI_sorted ns)
      subst this
      exact g.lst rs RVs.ints p hn
  all_goals cases e

/-! ### methods that change a list that a slot holds -/
def rMut (y : Y) (xx : XX) (m : MV) (i : Nat) : V → List V → Hp → VK → Prop := fun v vs Hh Q => ∃ F O σ τ ws A, RS y Hh O F A σ τ ∧ RVs y.z Hh O ws vs A ∧ τ[i]? = some (some v) ∧ Go y F Hh O τ (RVR y) xx (doMut m i ws σ) Q
theorem mut_go {F : AP} {Hh : Hp} {O : AP} {τ : L2.St} {σ : St} {Q : V → Hp → Prop} {i : Nat} {a : Addr} {A B B' T L : List Addr} {xs' : List W} {vs' : List V} {w : W} {u : V} (rs : RS y Hh O F (A ++ (a :: B)) (σ.set i none) τ) (et : τ[i]? = some (some (.ref a))) (r' : RVs y.z Hh O xs' vs' B') (ru : RV y.z Hh O w u T)
    (p1 : (A ++ (a :: B)).Perm L) (p2 : (T ++ (a :: B')).Sublist L) (g : Go y F Hh O τ (RVR y) xx (some (.ok w (σ.set i (some (.lst true xs'))))) Q) : Q u (upd Hh a (.lst vs')) := by
  have ma : a ∈ A ++ (a :: B) := List.mem_append_right _ List.mem_cons_self
  obtain ⟨rs', n, ne⟩ := rs.change (u := .lst vs') ma
  have rs2 := (rs'.perm p1).less p2
  have nd := rs2.nodup
  obtain ⟨n1, n2, n3⟩ := List.nodup_append.mp nd
  have n4 := List.nodup_cons.mp n2
  refine g _ _ _ T n (rs2.putBack et ?_) (ru.stab n.stab _ _ _ fun b hb => ⟨ne b fun e => n3 b hb a List.mem_cons_self e, rs2.tm b (List.mem_append_left _ hb)⟩)
  simp only [RV]
  refine ⟨a, vs', B', rfl, rfl, rs2.tm a (List.mem_append_right _ List.mem_cons_self), upd_same, r'.stab n.stab _ _ _ fun b hb => ⟨ne b fun e => n4.1 (e ▸ hb), rs2.tm b (List.mem_append_right _ (List.mem_cons_of_mem _ hb))⟩⟩
/-- what a changing method begins with -/
theorem mut_in {F : AP} {Hh : Hp} {O : AP} {τ : L2.St} {σ : St} {Q : V → Hp → Prop} {i : Nat} {m : MV} {ws : List W} {A : List Addr} {v : V} (rs : RS y Hh O F A σ τ) (et : τ[i]? = some (some v)) (g : Go y F Hh O τ (RVR y) xx (doMut m i ws σ) Q) :
    ∃ a xs vs B w xs', v = .ref a ∧ Hh a = some (.lst vs) ∧ RVs y.z Hh O xs vs B ∧ RS y Hh O F (A ++ (a :: B)) (σ.set i none) τ ∧ mutW m xs ws = some (w, xs') ∧ Go y F Hh O τ (RVR y) xx (some (.ok w (σ.set i (some (.lst true xs'))))) Q := by
  unfold doMut at g
  split at g
  case h_2 => exact g.elim
  case h_1 xs ex =>
    split at g
    case h_2 => exact g.elim
    case h_1 w xs' em =>
      obtain ⟨v', B0, e1, r1, rs1⟩ := rs.out ex
      rw [et] at e1; cases e1
      simp only [RV] at r1
      obtain ⟨a, vs, B, e2, e3, _, e4, r2⟩ := r1
      subst e3
      exact ⟨a, xs, vs, B, w, xs', e2, e4, r2, rs1, em, g⟩
theorem mi_append {i : Nat} : MtR X "list.append" (rMut y xx .append i) := by
  intro pins s τ0 Hh v vs0 v' us Q I rv r ⟨F, O, σ, τ, ws, A, rs, rws, et, g⟩
  obtain ⟨a, xs, vs, B, w, xs', rfl, ea, rx, rs1, em, g⟩ := mut_in rs et g
  unfold mutW at em
  split at em
  case h_1 z =>
    split at em
    case isFalse => cases em
    case isTrue hz =>
      cases em
      obtain ⟨u, rfl, ru⟩ := rws.one_inv
      refine mt_append pins s τ0 Hh _ _ v' us Q I rv r ⟨a, vs, u, rfl, rfl, ea, by rw [← rx.length, ← sz_eq]; exact hz, ?_⟩
      exact mut_go (T := []) (L := a :: (B ++ A)) rs1 et (rx.append (RVs.one ru)) (by simp only [RV]; trivial) (List.perm_append_comm.trans (by exact .refl _)) (List.Sublist.refl _) g
  all_goals first | (simp_all; done) | cases em
theorem mi_extend {i : Nat} : MtR X "list.extend" (rMut y xx .extend i) := by
  intro pins s τ0 Hh v vs0 v' us Q I rv r ⟨F, O, σ, τ, ws, A, rs, rws, et, g⟩
  obtain ⟨a, xs, vs, B, w, xs', rfl, ea, rx, rs1, em, g⟩ := mut_in rs et g
  unfold mutW at em
  split at em
  case h_2 o zs =>
    split at em
    case isFalse => cases em
    case isTrue hz =>
      cases em
      obtain ⟨u, rfl, ru⟩ := rws.one_inv
      obtain ⟨b, us', B2, rfl, eb, rz⟩ := ru.lst_at
      have rz := rz.frz' hz.2
      refine mt_extend pins s τ0 Hh _ _ v' us Q I rv r ⟨a, b, vs, us', rfl, rfl, ea, eb, by rw [← rx.length, ← rz.length, ← sz_eq]; exact hz.1, ?_⟩
      exact mut_go (T := []) (L := a :: (B ++ A)) rs1 et (rx.append rz) (by simp only [RV]; trivial) (List.perm_append_comm.trans (by exact .refl _)) (by simp) g
  all_goals first | (simp_all; done) | cases em
theorem RVs.split_last {Hh : Hp} {O : AP} : ∀ {xs : List W} {vs : List V} {B : List Addr} {z : W}, RVs y.z Hh O xs vs B → xs[xs.length - 1]? = some z → ∃ u T B', vs[vs.length - 1]? = some u ∧ RV y.z Hh O z u T ∧ RVs y.z Hh O xs.dropLast vs.dropLast B' ∧ B = B' ++ T
  | [], _, _, z, h, e => by simp at e
  | [x], _, _, z, h, e => by
    obtain ⟨v, rfl, r⟩ := h.one_inv
    simp at e; subst e
    exact ⟨v, _, [], rfl, r, .nil, rfl⟩
  | x :: x2 :: xs, _, _, z, h, e => by
    simp only [RVs] at h
    obtain ⟨v, r, B, C, rfl, rfl, h1, h2⟩ := h
    have h2' : RVs y.z Hh O (x2 :: xs) r C := by simpa only [RVs] using h2
    obtain ⟨u, T, B', q1, q2, q3, q4⟩ := RVs.split_last (z := z) h2' (by simpa using e)
    have hl := h2'.length
    cases r with
    | nil => simp at hl
    | cons r0 r =>
      exact ⟨u, T, B ++ B', by simpa using q1, q2, RVs.cons h1 q3, by rw [q4, List.append_assoc]⟩
theorem mi_pop {i : Nat} : MtR X "list.pop" (rMut y xx .pop i) := by
  intro pins s τ0 Hh v vs0 v' us Q I rv r ⟨F, O, σ, τ, ws, A, rs, rws, et, g⟩
  obtain ⟨a, xs, vs, B, w, xs', rfl, ea, rx, rs1, em, g⟩ := mut_in rs et g
  unfold mutW at em
  split at em
  case h_3 =>
    split at em
    case h_2 => cases em
    case h_1 z ez =>
      cases em
      simp only [RVs] at rws
      obtain ⟨rfl, rfl⟩ := rws
      obtain ⟨u, T, B', q1, q2, q3, q4⟩ := rx.split_last ez
      subst q4
      refine mt_pop pins s τ0 Hh _ _ v' us Q I rv r ⟨a, vs, u, rfl, rfl, ea, q1, ?_⟩
      refine mut_go (T := T) (L := T ++ (a :: B')) rs1 et q3 q2 ?_ (List.Sublist.refl _) g
      rw [List.nil_append]
      exact (List.perm_append_comm (l₁ := a :: B') (l₂ := T))
  all_goals first | (simp_all; done) | cases em
theorem RVs.rev {Hh : Hp} {O : AP} : ∀ {xs : List W} {vs : List V} {B : List Addr}, RVs y.z Hh O xs vs B → ∃ C, RVs y.z Hh O xs.reverse vs.reverse C ∧ B.Perm C
  | [], _, _, h => by simp only [RVs] at h; rw [h.1, h.2]; exact ⟨[], .nil, .refl _⟩
  | x :: xs, _, _, h => by
    simp only [RVs] at h
    obtain ⟨v, r, B, C, rfl, rfl, h1, h2⟩ := h
    obtain ⟨D, q1, q2⟩ := RVs.rev h2
    rw [List.reverse_cons, List.reverse_cons]
    exact ⟨D ++ B, q1.append (.one h1), (q2.append_left B).trans List.perm_append_comm⟩
theorem mi_reverse {i : Nat} : MtR X "list.reverse" (rMut y xx .reverse i) := by
  intro pins s τ0 Hh v vs0 v' us Q I rv r ⟨F, O, σ, τ, ws, A, rs, rws, et, g⟩
  obtain ⟨a, xs, vs, B, w, xs', rfl, ea, rx, rs1, em, g⟩ := mut_in rs et g
  unfold mutW at em
  split at em
  case h_4 =>
    cases em
    simp only [RVs] at rws
    obtain ⟨rfl, rfl⟩ := rws
    obtain ⟨C, q1, q2⟩ := rx.rev
    refine mt_reverse pins s τ0 Hh _ _ v' us Q I rv r ⟨a, vs, rfl, rfl, ea, ?_⟩
    exact mut_go (T := []) (L := a :: C) rs1 et q1 (by simp only [RV]; trivial) (q2.cons a) (List.Sublist.refl _) g
  all_goals first | (simp_all; done) | cases em
theorem mi_clear {i : Nat} : MtR X "list.clear" (rMut y xx .clear i) := by
  intro pins s τ0 Hh v vs0 v' us Q I rv r ⟨F, O, σ, τ, ws, A, rs, rws, et, g⟩
  obtain ⟨a, xs, vs, B, w, xs', rfl, ea, rx, rs1, em, g⟩ := mut_in rs et g
  unfold mutW at em
  split at em
  case h_5 =>
    cases em
    simp only [RVs] at rws
    obtain ⟨rfl, rfl⟩ := rws
    refine mt_clear pins s τ0 Hh _ _ v' us Q I rv r ⟨a, vs, rfl, rfl, ea, ?_⟩
    exact mut_go (T := []) (L := a :: B) (vs' := []) rs1 et .nil (by simp only [RV]; trivial) (.refl _) (by simp) g
  all_goals first | (simp_all; done) | cases em

/-! ### methods that change nothing -/
def rMet (y : Y) (xx : XX) (m : MI) : V → List V → Hp → VK → Prop := fun v vs Hh Q => ∃ F O σ τ w ws A B, RS y Hh O F [] σ τ ∧ RV y.z Hh O w v A ∧ RVs y.z Hh O ws vs B ∧ Go y F Hh O τ (RVR y) xx (M.opt (meth m w ws) σ) Q
theorem join_str (t : List Char) : ∀ ys : List (List Char), Txt.join (strV t) (ys.map strV) = strV (joinC t ys) := fun ys => by
  rw [TL.join_eq]
  apply TL.ext_tl
  rw [TL.tl_join]
  induction ys with
  | nil => rfl
  | cons x ys ih =>
    cases ys with
    | nil => rfl
    | cons z zs =>
      simp only [List.map_cons, TL.joinL, joinC] at ih ⊢
      rw [ih]
      simp [TL.tl, strV_tl, List.map_append]
theorem sum_map_len (ys : List (List Char)) : ((ys.map strV).map (·.length)).sum = (ys.map (·.length)).sum := by
  induction ys with
  | nil => rfl
  | cons x ys ih => simp only [List.map_cons, List.sum_cons, ih, strV_len]
theorem mi_join (hK : y.z.K = X.K) : MtR X "str.join" (rMet y xx .join) := by
  intro pins s τ0 Hh v vs0 v' us Q I rv r ⟨F, O, σ, τ, w, ws, A, B, rs, rwv, rws, g⟩
  obtain ⟨w', e, g⟩ := g.opt
  change joinW w ws = some w' at e
  unfold joinW at e
  split at e
  case h_1 t o xs =>
    simp only [RV] at rwv
    obtain ⟨u, rfl, ru⟩ := rws.one_inv
    split at e
    case h_2 => cases e
    case h_1 ys eys =>
      split at e
      case isFalse => cases e
      case isTrue hz =>
        cases e
        obtain ⟨a, vs, B2, rfl, ea, rx⟩ := ru.lst_at
        rw [allS_map eys] at rx
        rw [rx.strs_inv] at ea
        refine mt_join pins s τ0 Hh _ _ v' us Q I rv r ⟨strV t, a, ys.map strV, rwv.1, rfl, .inl (.of ea), ?_, ?_⟩
        · rw [sum_map_len, List.length_map, strV_len]
          have := sz_eq
          rw [sizeLine_eq] at this
          omega
        · rw [join_str]; exact g.str rs
  all_goals cases e

theorem W.pys_map : ∀ {xs : List W}, W.pys xs = xs.map W.py
  | [] => rfl
  | x :: xs => by rw [W.pys, W.pys_map, List.map_cons]
theorem findW_spec {x : W} : ∀ {xs : List W} {j : Nat}, findW x xs = some j → ∃ z, xs[j]? = some z ∧ pyEq z x = true ∧ ∀ m z', m < j → xs[m]? = some z' → pyEq z' x = false
  | [], j, h => by cases h
  | y :: ys, j, h => by
    unfold findW at h
    split at h
    case isTrue hy => cases h; exact ⟨y, rfl, hy, fun m z' hm => absurd hm (Nat.not_lt_zero _)⟩
    case isFalse hy =>
      cases e : findW x ys with
      | none => rw [e] at h; cases h
      | some i =>
        rw [e] at h
        cases h
        obtain ⟨z, h1, h2, h3⟩ := findW_spec e
        refine ⟨z, by simpa using h1, h2, fun m z' hm hz => ?_⟩
        cases m with
        | zero => simp at hz; subst hz; simpa using hy
        | succ m => exact h3 m z' (Nat.lt_of_succ_lt_succ hm) (by simpa using hz)
theorem dats_at : ∀ {xs : List W} {i : Nat} {z : W}, W.dats xs = true → xs[i]? = some z → z.dat = true
  | [], _, _, _, h => by simp at h
  | x :: xs, 0, z, h, e => by
    simp only [W.dats, Bool.and_eq_true] at h
    simp at e; subst e; exact h.1
  | x :: xs, i + 1, z, h, e => by
    simp only [W.dats, Bool.and_eq_true] at h
    exact dats_at (i := i) h.2 (by simpa using e)
theorem mi_index (hK : y.z.K = X.K) (hu : X.A.units + 65 < cLine) : MtR X "list.index" (rMet y xx .index) := by
  intro pins s τ0 Hh v vs0 v' us Q I rv r ⟨F, O, σ, τ, w, ws, A, B, rs, rwv, rws, g⟩
  obtain ⟨w', ew, g⟩ := g.opt
  change indexW w ws = some w' at ew
  unfold indexW at ew
  split at ew
  case h_1 o xs x =>
    split at ew
    case isFalse => cases ew
    case isTrue hz =>
      cases ef : findW x xs with
      | none => rw [ef] at ew; cases ew
      | some j =>
        rw [ef] at ew
        cases ew
        obtain ⟨a, vs, B1, rfl, f2, f3⟩ := rwv.lst_at
        obtain ⟨u, rfl, ru⟩ := rws.one_inv
        have h1 := datOk_iff.mp hz.1
        have h2 := datOk_iff.mp hz.2
        simp only [W.dat, W.depth] at h2
        have sh : SeqAt.shaped (.list (W.pys xs)) = true := by
          unfold SeqAt.shaped
          simp only [PyData.canLay0, PyData.depth, W.pys_lay, W.pys_depth, Bool.true_and, decide_eq_true_eq]
          omega
        obtain ⟨z, hz1, hz2, hz3⟩ := findW_spec ef
        refine mt_indexD hu pins s τ0 Hh _ _ v' us Q I rv r ⟨a, u, x.py, W.pys xs, j, z.py, rfl, rfl, hK ▸ .lst (SqL.of f2) (dps_of _ _ _ h2.1 f3), hK ▸ dp_of _ _ _ h1.1 ru, sh, W.shaped (by omega), ?_, ?_, ?_, g.int rs⟩
        · rw [W.pys_map, List.getElem?_map, hz1]; rfl
        · rw [W.py_eqv _ _ (dats_at h2.1 hz1) h1.1]; exact hz2
        · intro m z' hm hz'
          rw [W.pys_map, List.getElem?_map] at hz'
          cases em : xs[m]? with
          | none => rw [em] at hz'; cases hz'
          | some zz =>
            rw [em] at hz'
            cases hz'
            rw [W.py_eqv _ _ (dats_at h2.1 em) h1.1]
            exact hz3 m zz hm em
  all_goals cases ew

/-! ### isinstance -/
def tyN : Ty → String
  | .int => "int"
  | .bool => "bool"
  | .str => "str"
  | .tuple => "tuple"
  | .list => "list"
  | .dict => "dict"
  | .cls _ => "?"
  | .valueError => "ValueError"
theorem tyB_ok (hK : y.z.K = X.K) {Hh : Hp} {O : AP} {w : W} {v : V} {A : List Addr} {t0 : Ty} {b0 : Bool} (r : RV y.z Hh O w v A) (e0 : tyB t0 w = some b0) :
    ∃ T, TyX X.K Hh v T ∧ ∀ t b, tyB t w = some b → PySem.W.kitOne X.K T (.type (tyN t)) = some b := by
  have fin : ∀ {T : Value}, TyX X.K Hh v T → (∀ t b, tyB t w = some b → PySem.W.kitOne X.K T (.type (tyN t)) = some b) → ∃ T, TyX X.K Hh v T ∧ ∀ t b, tyB t w = some b → PySem.W.kitOne X.K T (.type (tyN t)) = some b := fun a b => ⟨_, a, b⟩
  cases w with
  | non =>
    simp only [RV] at r; obtain ⟨rfl, _⟩ := r
    refine fin (.base .non) fun t b e => ?_
    cases t <;> first | cases e; done | (cases e; exact kit_ty (by decide +kernel))
  | bl z =>
    simp only [RV] at r; obtain ⟨rfl, _⟩ := r
    refine fin (.base (.bl _)) fun t b e => ?_
    cases t <;> first | cases e; done | (cases e; exact kit_ty (by decide +kernel))
  | int z =>
    simp only [RV] at r; obtain ⟨rfl, _⟩ := r
    refine fin (.base (.int _)) fun t b e => ?_
    cases t <;> first | cases e; done | (cases e; exact kit_ty (by decide +kernel))
  | str z =>
    simp only [RV] at r; obtain ⟨rfl, _⟩ := r
    refine fin (.base (.str _)) fun t b e => ?_
    cases t <;> first | cases e; done | (cases e; exact kit_ty (by decide +kernel))
  | tup xs =>
    obtain ⟨a, vs, rfl, ta, ra⟩ := r.tup_at
    have ty : TyX X.K Hh (.ref a) (.type "tuple") := by
      rcases ta with ta | ⟨o, its, n, lk, hc, _⟩
      · exact .base (.tup ta.1)
      · exact .kTuple (hK ▸ lk) hc
    refine fin ty fun t b e => ?_
    cases t <;> first | cases e; done | (cases e; exact kit_ty (by decide +kernel))
  | lst o xs =>
    obtain ⟨a, vs, B, rfl, e2, e3⟩ := r.lst_at
    refine fin (.base (.lst e2)) fun t b e => ?_
    cases t <;> first | cases e; done | (cases e; exact kit_ty (by decide +kernel))
  | _ => cases e0
theorem tyAny_ok (hK : y.z.K = X.K) {Hh : Hp} {O : AP} {w : W} {v : V} {A : List Addr} (r : RV y.z Hh O w v A) {ts : List Ty} {b : Bool} (ht : ts ≠ []) (e : tyAny ts w = some b) : ∃ T, TyX X.K Hh v T ∧ PySem.W.kitAny X.K T (ts.map fun t => .type (tyN t)) = some b := by
  cases ts with
  | nil => exact absurd rfl ht
  | cons t ts =>
    have e' := e
    unfold tyAny at e'
    cases e0 : tyB t w with
    | none => rw [e0] at e'; cases e'
    | some b0 =>
      clear e'
      obtain ⟨T, ty, k⟩ := tyB_ok hK r e0
      refine ⟨T, ty, ?_⟩
      clear e0 ht
      generalize t :: ts = us at e
      induction us with
      | nil => cases e; exact kitAny_nil
      | cons u us ih =>
        unfold tyAny at e
        split at e
        case h_1 => cases e
        case h_2 e1 => cases e; exact kitAny_cons (k _ _ e1) (fun z => nomatch z) fun _ => rfl
        case h_3 e1 => exact kitAny_cons (k _ _ e1) (fun _ => ih e) fun z => nomatch z
end
end PV

/-! W1: sleeping generators that nobody wakes are left as they are: what runs beside sealed ones, which could not be woken at all, runs beside the true ones. -/
namespace GF
open PySem
open Sem (wp)
/-- it cannot be woken -/
def sealed : GenState → GenState
  | .suspended _ l c p fs cl => .suspended (fun _ => .unsupported "") l c p fs cl
  | x => x
def asleep : GenState → Bool
  | .suspended .. => true
  | _ => false
/-- no generator's mark in its frames -/
def gf : GenState → Prop
  | .suspended _ _ _ _ fs _ => splitAtGen fs = none
  | _ => True
theorem no_run {M : Model} {Γ : Ctx} {p : Pos} {t : Sem PySem.Fin} {fs : List Frame} {s s' : Shared} {e : End} (h : Runs M Γ p t fs s e s') : (∃ w, t = .unsupported w) → False := by
  induction h with
  | segRet _ _ i1 _ => exact i1
  | segGen _ _ i1 _ => exact i1
  | segSuspOut _ _ i1 => exact i1
  | segSuspGen _ _ _ _ i1 _ => exact i1
  | _ => rintro ⟨w, e⟩; cases e
theorem seen_sealed : ∀ x : GenState, (sealed x).seen = x.seen
  | .suspended .. => rfl
  | .fresh _ => rfl
  | .running => rfl
  | .finished => rfl
theorem bare_sealed : ∀ x : GenState, (sealed x).bare = x.bare
  | .suspended .. => rfl
  | .fresh _ => rfl
  | .running => rfl
  | .finished => rfl
/-- a: the generators where those of F are sealed; b: the true ones -/
structure U (F : Nat → Option GenState) (a b : Array GenState) : Prop where
  size : a.size = b.size
  at_ : ∀ i, match F i with
    | some st => asleep st = true ∧ a[i]? = some (sealed st) ∧ b[i]? = some st
    | none => a[i]? = b[i]? ∧ ∀ x, a[i]? = some x → gf x
section
variable {F : Nat → Option GenState} {a b : Array GenState} {i : Nat} {x y : GenState}
theorem U.some (u : U F a b) {st : GenState} (h : F i = some st) : asleep st = true ∧ a[i]? = .some (sealed st) ∧ b[i]? = .some st := by
  have := u.at_ i
  rw [h] at this
  exact this
theorem U.none (u : U F a b) (h : F i = none) : a[i]? = b[i]? ∧ ∀ x, a[i]? = .some x → gf x := by
  have := u.at_ i
  rw [h] at this
  exact this
/-- what is not asleep is no sealed one -/
theorem U.awake (u : U F a b) (h : a[i]? = .some x) (hx : asleep x = false) : F i = .none := by
  cases e : F i with
  | none => rfl
  | some st =>
    obtain ⟨h1, h2, _⟩ := u.some e
    rw [h] at h2
    cases h2
    cases st <;> simp_all [asleep, sealed]
theorem U.same (u : U F a b) (h : a[i]? = .some x) (hf : F i = .none) : b[i]? = .some x := by rw [← (u.none hf).1]; exact h
theorem U.look (u : U F a b) (h : a[i]? = .some x) : ∃ y, b[i]? = .some y ∧ y.seen = x.seen := by
  cases e : F i with
  | none => exact ⟨x, u.same h e, rfl⟩
  | some st =>
    obtain ⟨h1, h2, h3⟩ := u.some e
    rw [h] at h2
    cases h2
    exact ⟨st, h3, (seen_sealed st).symm⟩
theorem U.runs (u : U F a b) {M : Model} {Γ : Ctx} {p p1 : Pos} {k : Resume → Sem PySem.Fin} {l : List Value} {c : Code} {fs : List Frame} {cl : Bool} {r : Resume} {e : End} {s s' : Shared} (h : a[i]? = .some (.suspended k l c p fs cl)) (hr : Runs M Γ p1 (k r) fs s e s') : F i = .none := by
  cases hF : F i with
  | none => rfl
  | some st =>
    obtain ⟨h1, h2, _⟩ := u.some hF
    rw [h] at h2
    cases st with
    | suspended k1 l1 c1 p1 fs1 cl1 =>
      simp only [sealed, Option.some.injEq, GenState.suspended.injEq] at h2
      exact (no_run hr ⟨"", by rw [h2.1]⟩).elim
    | _ => simp [asleep] at h1
theorem U.set (u : U F a b) (hf : F i = .none) (hx : gf x) : U F (a.setIfInBounds i x) (b.setIfInBounds i x) := by
  refine ⟨by simp [u.size], fun j => ?_⟩
  by_cases hj : i = j
  · subst hj
    rw [hf]
    have hs := u.size
    by_cases hl : i < a.size
    · have hl2 : i < b.size := by omega
      refine ⟨by simp [hl, hl2], fun y hy => ?_⟩
      rw [show (a.setIfInBounds i x)[i]? = .some x by simp [hl]] at hy
      cases hy
      exact hx
    · have hl2 : ¬ i < b.size := by omega
      refine ⟨by rw [Array.getElem?_eq_none (by simp; omega), Array.getElem?_eq_none (by simp; omega)], fun y hy => ?_⟩
      rw [Array.getElem?_eq_none (by simp; omega)] at hy
      cases hy
  · have := u.at_ j
    rw [Array.getElem?_setIfInBounds_ne hj, Array.getElem?_setIfInBounds_ne hj]
    exact this
theorem U.push (u : U F a b) (hx : gf x) : U F (a.push x) (b.push x) := by
  have hs := u.size
  refine ⟨by simp [hs], fun j => ?_⟩
  have := u.at_ j
  by_cases hj : j < a.size
  · rw [Array.getElem?_push_lt hj, Array.getElem?_push_lt (by omega), ← Array.getElem?_eq_getElem hj, ← Array.getElem?_eq_getElem (by omega)]
    exact this
  · have h1 : a[j]? = .none := Array.getElem?_eq_none (by omega)
    cases e : F j with
    | some st =>
      obtain ⟨_, h2, _⟩ := u.some e
      rw [h1] at h2
      cases h2
    | none =>
      by_cases hj2 : j = a.size
      · subst hj2
        refine ⟨by rw [Array.getElem?_push_size, hs, Array.getElem?_push_size], fun y hy => ?_⟩
        rw [Array.getElem?_push_size] at hy
        cases hy
        exact hx
      · have q1 : (a.push x)[j]? = .none := Array.getElem?_eq_none (by simp; omega)
        have q2 : (b.push x)[j]? = .none := Array.getElem?_eq_none (by simp; omega)
        exact ⟨by rw [q1, q2], fun y hy => by rw [q1] at hy; cases hy⟩
end
def gfE : End → Prop
  | .susp _ _ _ _ _ _ fs => splitAtGen fs = none
  | .ret _ => True
theorem gfE_state : ∀ {e : End}, gfE e → gf e.genState
  | .susp .., h => h
  | .ret _, _ => trivial
theorem split_ret {k : Result → Sem PySem.Fin} {h : Option Value} {g : Bool} {l kp : List Value} {c : Code} {p : Pos} {fs : List Frame} : splitAtGen (.ret k h g l c p kp :: fs) = none ↔ splitAtGen fs = none := by
  show ((splitAtGen fs).map _) = none ↔ _
  cases splitAtGen fs <;> simp
theorem split_app : ∀ {a b : List Frame}, splitAtGen a = none → splitAtGen b = none → splitAtGen (a ++ b) = none
  | [], b, _, h => h
  | .gen .. :: a, b, h, _ => by cases h
  | .ret .. :: a, b, h, h2 => by
    rw [List.cons_append, split_ret]
    exact split_app (split_ret.mp h) h2
abbrev wg (s : Shared) (B : Array GenState) : Shared := { s with gens := B }
theorem U.run {F : Nat → Option GenState} {M : Model} {Γ : Ctx} {p : Pos} {t : Sem PySem.Fin} {fs : List Frame} {s s' : Shared} {e : End} (h : Runs M Γ p t fs s e s') : ∀ B, splitAtGen fs = .none → U F s.gens B → gfE e ∧ ∃ B', U F s'.gens B' ∧ Runs M Γ p t fs (wg s B) e (wg s' B') := by
  induction h with
  | done => exact fun B _ u => ⟨trivial, B, u, .done⟩
  | raise => exact fun B _ u => ⟨trivial, B, u, .raise⟩
  | again q _ ih => intro B g u; obtain ⟨z, B', u', r⟩ := ih B g u; exact ⟨z, B', u', .again q r⟩
  | rule _ ih => intro B g u; obtain ⟨z, B', u', r⟩ := ih B g u; exact ⟨z, B', u', .rule r⟩
  | «at» _ ih => intro B g u; obtain ⟨z, B', u', r⟩ := ih B g u; exact ⟨z, B', u', .at r⟩
  | load q _ ih => intro B g u; obtain ⟨z, B', u', r⟩ := ih B g u; exact ⟨z, B', u', .load q r⟩
  | update q _ ih => intro B g u; obtain ⟨z, B', u', r⟩ := ih B g u; exact ⟨z, B', u', .update q r⟩
  | loadIfAlive _ ih => intro B g u; obtain ⟨z, B', u', r⟩ := ih B g u; exact ⟨z, B', u', .loadIfAlive r⟩
  | point _ ih => intro B g u; obtain ⟨z, B', u', r⟩ := ih B g u; exact ⟨z, B', u', .point r⟩
  | alloc _ ih => intro B g u; obtain ⟨z, B', u', r⟩ := ih B g u; exact ⟨z, B', u', .alloc r⟩
  | fresh _ ih => intro B g u; obtain ⟨z, B', u', r⟩ := ih B g u; exact ⟨z, B', u', .fresh r⟩
  | ask _ ih => intro B g u; obtain ⟨z, B', u', r⟩ := ih B g u; exact ⟨z, B', u', .ask r⟩
  | choose q _ ih => intro B g u; obtain ⟨z, B', u', r⟩ := ih B g u; exact ⟨z, B', u', .choose q r⟩
  | os _ ih => intro B g u; obtain ⟨z, B', u', r⟩ := ih B g u; exact ⟨z, B', u', .os r⟩
  | handled _ ih => intro B g u; obtain ⟨z, B', u', r⟩ := ih B g u; exact ⟨z, B', u', .handled r⟩
  | genState q _ ih =>
    intro B g u
    obtain ⟨z, B', u', r⟩ := ih B g u
    obtain ⟨y, q2, e2⟩ := u.look q
    exact ⟨z, B', u', .genState q2 (by rw [e2]; exact r)⟩
  | stack _ ih => intro B g u; obtain ⟨z, B', u', r⟩ := ih B g u; exact ⟨z, B', u', .stack r⟩
  | thread _ ih => intro B g u; obtain ⟨z, B', u', r⟩ := ih B g u; exact ⟨z, B', u', .thread r⟩
  | newGen _ ih =>
    intro B g u
    obtain ⟨z, B', u', r⟩ := ih _ g (u.push trivial)
    refine ⟨z, B', u', .newGen ?_⟩
    rw [show (wg _ B).gens.size = _ from u.size.symm]
    exact r
  | call _ _ i1 i2 =>
    intro B g u
    obtain ⟨_, B1, u1, r1⟩ := i1 B rfl u
    obtain ⟨z, B2, u2, r2⟩ := i2 B1 g u1
    exact ⟨z, B2, u2, .call r1 r2⟩
  | callSusp _ i1 =>
    intro B g u
    obtain ⟨z, B1, u1, r1⟩ := i1 B rfl u
    exact ⟨split_app z rfl, B1, u1, .callSusp r1⟩
  | yield => exact fun B g u => ⟨rfl, B, u, .yield⟩
  | resumeFresh q _ hq _ i1 i2 =>
    intro B g u
    have hf := u.awake q rfl
    obtain ⟨z1, B1, u1, r1⟩ := i1 _ rfl (u.set hf trivial)
    obtain ⟨z, B2, u2, r2⟩ := i2 _ g (u1.set hf (gfE_state z1))
    exact ⟨z, B2, u2, .resumeFresh (u.same q hf) r1 hq r2⟩
  | resumeSuspended q hr hq _ i1 i2 =>
    intro B g u
    have hf := u.runs q hr
    obtain ⟨z1, B1, u1, r1⟩ := i1 _ ((u.none hf).2 _ q) (u.set hf trivial)
    obtain ⟨z, B2, u2, r2⟩ := i2 _ g (u1.set hf (gfE_state z1))
    exact ⟨z, B2, u2, .resumeSuspended (u.same q hf) r1 hq r2⟩
  | resumeJustStarted q hv _ ih =>
    intro B g u
    have hf := u.awake q rfl
    obtain ⟨z, B', u', r⟩ := ih B g u
    exact ⟨z, B', u', .resumeJustStarted (u.same q hf) hv r⟩
  | resumeThrowFresh q _ ih =>
    intro B g u
    have hf := u.awake q rfl
    obtain ⟨z, B', u', r⟩ := ih _ g (u.set hf trivial)
    exact ⟨z, B', u', .resumeThrowFresh (u.same q hf) r⟩
  | resumeRunning q _ ih =>
    intro B g u
    have hf := u.awake q rfl
    obtain ⟨z, B', u', r⟩ := ih B g u
    exact ⟨z, B', u', .resumeRunning (u.same q hf) r⟩
  | resumeFinished q _ ih =>
    intro B g u
    have hf := u.awake q rfl
    obtain ⟨z, B', u', r⟩ := ih B g u
    exact ⟨z, B', u', .resumeFinished (u.same q hf) r⟩
  | segRet _ _ i1 i2 =>
    intro B g u
    obtain ⟨_, B1, u1, r1⟩ := i1 B rfl u
    obtain ⟨z, B2, u2, r2⟩ := i2 B1 (split_ret.mp g) u1
    exact ⟨z, B2, u2, .segRet r1 r2⟩
  | segGen _ _ _ _ => intro B g; cases g
  | segSuspOut q _ i1 =>
    intro B g u
    obtain ⟨z, B1, u1, r1⟩ := i1 B rfl u
    exact ⟨split_app z g, B1, u1, .segSuspOut q r1⟩
  | segSuspGen q _ _ _ _ _ => intro B g; rw [q] at g; cases g
theorem U.wakes {F : Nat → Option GenState} {M : Model} {Γ : Ctx} {p : Pos} {g : Nat} {r : Resume} {s s' : Shared} {res : GenResult} {B : Array GenState} (h : Wakes M Γ p g r s res s') (u : U F s.gens B) : ∃ B', U F s'.gens B' ∧ Wakes M Γ p g r (wg s B) res (wg s' B') := by
  unfold Wakes at h ⊢
  cases hs : s.gens[g]? with
  | none => rw [hs] at h; exact h.elim
  | some x =>
    rw [hs] at h
    cases x with
    | fresh c =>
      have hf := u.awake hs rfl
      rw [show (wg s B).gens[g]? = _ from u.same hs hf]
      cases r with
      | send v =>
        by_cases hv : v = .none
        · subst hv
          obtain ⟨e₁, s₁, hr, h1, h2, rfl⟩ := h
          obtain ⟨z1, B1, u1, r1⟩ := U.run hr _ rfl (u.set hf trivial)
          exact ⟨_, u1.set hf (gfE_state z1), e₁, wg s₁ B1, r1, h1, h2, rfl⟩
        · have : res = .justStarted ∧ s' = s := by
            revert h
            cases v <;> first | exact fun h => h | exact absurd rfl hv
          obtain ⟨rfl, rfl⟩ := this
          refine ⟨B, u, ?_⟩
          cases v <;> first | exact ⟨rfl, rfl⟩ | exact absurd rfl hv
      | throw x =>
        obtain ⟨rfl, rfl⟩ := h
        exact ⟨_, u.set hf trivial, rfl, rfl⟩
    | suspended k l c q fs cl =>
      obtain ⟨e₁, s₁, hr, h1, h2, rfl⟩ := h
      have hf := u.runs hs hr
      rw [show (wg s B).gens[g]? = _ from u.same hs hf]
      obtain ⟨z1, B1, u1, r1⟩ := U.run hr _ ((u.none hf).2 _ hs) (u.set hf trivial)
      exact ⟨_, u1.set hf (gfE_state z1), e₁, wg s₁ B1, r1, h1, h2, rfl⟩
    | running =>
      obtain ⟨rfl, rfl⟩ := h
      rw [show (wg s' B).gens[g]? = _ from u.same hs (u.awake hs rfl)]
      exact ⟨B, u, rfl, rfl⟩
    | finished =>
      obtain ⟨rfl, rfl⟩ := h
      rw [show (wg s' B).gens[g]? = _ from u.same hs (u.awake hs rfl)]
      exact ⟨B, u, rfl, rfl⟩
/-- what holds of the sealed world, told of the true one -/
def Tr (F : Nat → Option GenState) {α : Type} (Q : α → Pos → Shared → Prop) : α → Pos → Shared → Prop := fun a p s => ∃ s₁, s = wg s₁ s.gens ∧ U F s₁.gens s.gens ∧ Q a p s₁
theorem U.wp {F : Nat → Option GenState} {M : Model} {Γ : Ctx} {α : Type} (t : Sem α) : ∀ (Q : α → Pos → Shared → Prop) (E : Value → Pos → Shared → Prop) (p : Pos) (s : Shared) (B : Array GenState), U F s.gens B → Sem.wp M Γ t Q E p s → Sem.wp M Γ t (Tr F Q) (Tr F E) p (wg s B) := by
  induction t with
  | pure a => intro Q E p s B u h; exact ⟨s, rfl, u, h⟩
  | raise e => intro Q E p s B u h; exact ⟨s, rfl, u, h⟩
  | unsupported _ => intro Q E p s B _ h; exact h
  | finish _ => intro Q E p s B _ h; exact h
  | rule _ k ih => intro Q E p s B u h; exact ih () Q E p s B u h
  | «at» p' k ih => intro Q E p s B u h; exact ih () Q E p' s B u h
  | load a _ k ih => intro Q E p s B u h; obtain ⟨o, ho, h⟩ := h; exact ⟨o, ho, ih o Q E p s B u h⟩
  | update a _ f k ih => intro Q E p s B u h; exact ⟨h.1, by refine ih () Q E p _ B ?_ h.2; exact u⟩
  | loadIfAlive a k ih => intro Q E p s B u h; exact ih _ Q E p s B u h
  | point _ k ih => intro Q E p s B u h; exact ih () Q E p s B u h
  | register _ _ => intro Q E p s B _ h; exact h
  | alloc o k ih => intro Q E p s B u h; refine ih _ Q E p _ B ?_ h; exact u
  | fresh k ih => intro Q E p s B u h; refine ih _ Q E p _ B ?_ h; exact u
  | ask k ih => intro Q E p s B u h; exact ih _ Q E p s B u h
  | choose src m k ih => intro Q E p s B u h; exact ⟨h.1, by refine ih _ Q E p _ B ?_ h.2; exact u⟩
  | os q _ k ih => intro Q E p s B u h; refine ih _ Q E p _ B ?_ h; exact u
  | call c hd _ _ k ih =>
    intro Q E p s B u h
    obtain ⟨r, s', hr, h⟩ := h
    obtain ⟨_, B', u', r'⟩ := U.run hr B rfl u
    exact ⟨r, wg s' B', r', ih r Q E p s' B' u' h⟩
  | handled own k ih => intro Q E p s B u h; exact ih _ Q E p s B u h
  | genState g k ih =>
    intro Q E p s B u h
    obtain ⟨st, hs, h⟩ := h
    obtain ⟨y, q2, e2⟩ := u.look hs
    exact ⟨y, q2, by rw [e2]; exact ih _ Q E p s B u h⟩
  | newGen c k ih =>
    intro Q E p s B u h
    have := ih _ Q E p _ _ (u.push (x := .fresh c) trivial) h
    show Sem.wp M Γ (k B.size) _ _ p _
    rw [← u.size]
    exact this
  | resume g r _ k ih =>
    intro Q E p s B u h
    obtain ⟨res, s', hw, h⟩ := h
    obtain ⟨B', u', w'⟩ := U.wakes hw u
    exact ⟨res, wg s' B', w', ih res Q E p s' B' u' h⟩
  | yield _ _ _ _ => intro Q E p s B _ h; exact h
  | stack k ih => intro Q E p s B u h; exact ih _ Q E p s B u h
  | fork _ _ => intro Q E p s B _ h; exact h
  | thread k ih => intro Q E p s B u h; exact ih _ Q E p s B u h
  | await _ _ _ _ _ => intro Q E p s B _ h; exact h
def sleepers (a : Array GenState) : Nat → Option GenState := fun i => match a[i]? with
  | some st => if asleep st = true then some st else none
  | none => none
theorem u_start (a : Array GenState) : U (sleepers a) (a.map sealed) a := by
  refine ⟨by simp, fun i => ?_⟩
  unfold sleepers
  cases h : a[i]? with
  | none => simp [h]
  | some st =>
    cases hs : asleep st with
    | true =>
      dsimp only
      rw [if_pos hs]
      exact ⟨hs, by simp [h], rfl⟩
    | false =>
      have e : sealed st = st := by cases st <;> simp_all [asleep, sealed]
      dsimp only
      rw [if_neg (by rw [hs]; exact Bool.false_ne_true)]
      refine ⟨by simp [h, e], fun x hx => ?_⟩
      simp [h, e] at hx
      subst hx
      cases st <;> simp_all [asleep, gf]
theorem u_stays {a b c : Array GenState} (u : U (sleepers a) c b) {i : Nat} {st : GenState} (h : a[i]? = some st) (hs : asleep st = true) : b[i]? = some st := by
  have : sleepers a i = some st := by unfold sleepers; rw [h]; simp [hs]
  exact (u.some this).2.2
/-- the sealed world of a state -/
abbrev sl (s : Shared) : Shared := wg s (s.gens.map sealed)
theorem sl_bare {s : Shared} (h : PyProof.Rows.AllBare s.gens) : PyProof.Rows.AllBare (sl s).gens := fun y hy => by
  obtain ⟨x, hx, rfl⟩ := Array.mem_map.mp hy
  rw [bare_sealed]
  exact h x hx
/-- those of F need no cleaning up -/
def bareF (F : Nat → Option GenState) : Prop := ∀ (i : Nat) (st : GenState), F i = some st → st.bare = true
/-- s: the true state to s₁ of the sealed world -/
structure Sim (F : Nat → Option GenState) (s₁ s : Shared) : Prop where
  eq : s = wg s₁ s.gens
  u : U F s₁.gens s.gens
  bf : bareF F
theorem Sim.heap {F : Nat → Option GenState} {s₁ s : Shared} (h : Sim F s₁ s) : s.heap = s₁.heap := by rw [h.eq]
theorem Sim.os {F : Nat → Option GenState} {s₁ s : Shared} (h : Sim F s₁ s) : s.os = s₁.os := by rw [h.eq]
theorem Sim.bare {F : Nat → Option GenState} {s₁ s : Shared} (h : Sim F s₁ s) (hc : PyProof.Rows.AllBare s₁.gens) : PyProof.Rows.AllBare s.gens := fun y hy => by
  obtain ⟨i, hi, e⟩ := Array.mem_iff_getElem.mp hy
  have hb : s.gens[i]? = some y := by rw [Array.getElem?_eq_getElem hi, e]
  cases h2 : F i with
  | some st =>
    obtain ⟨_, _, h3⟩ := h.u.some h2
    rw [hb] at h3
    cases h3
    exact h.bf i _ h2
  | none =>
    have := (h.u.none h2).1
    rw [hb] at this
    exact hc _ (Array.mem_of_getElem? this)
/-- THE RULE -/
theorem Sim.wpAny {F : Nat → Option GenState} {M : Model} {A : Around} {α : Type} {t : Sem α} {Q : α → Shared → Prop} {E : Value → Shared → Prop} {s₁ s : Shared} (z : Sim F s₁ s) (h : PySem.wpAny M A t Q E s₁) :
    PySem.wpAny M A t (fun x s' => ∃ s₂, Sim F s₂ s' ∧ Q x s₂) (fun e s' => ∃ s₂, Sim F s₂ s' ∧ E e s₂) s := fun Γ p hΓ => by
  have := U.wp t _ _ p s₁ s.gens z.u (h Γ p hΓ)
  have go : ∀ {β : Type} {Q : β → Shared → Prop} {x : β} {p' : Pos} {s' : Shared}, Tr F (fun b _ s' => Q b s') x p' s' → ∃ s₂, Sim F s₂ s' ∧ Q x s₂ := fun {β Q x p' s'} ⟨s₂, e, u, q⟩ => ⟨s₂, ⟨e, u, z.bf⟩, q⟩
  have r := Sem.wp_mono M Γ t (fun x p' s' q => go q) (fun x p' s' q => go q) p _ this
  rw [z.eq]
  exact r
theorem sim_start {s : Shared} (h : PyProof.Rows.AllBare s.gens) : Sim (sleepers s.gens) (sl s) s := ⟨rfl, u_start s.gens, fun i st e => by
  unfold sleepers at e
  cases ha : s.gens[i]? with
  | none => rw [ha] at e; cases e
  | some x =>
    rw [ha] at e
    dsimp only at e
    split at e
    · cases e
      exact h _ (Array.mem_of_getElem? ha)
    · cases e⟩
theorem Sim.stays {s : Shared} {s₁ s' : Shared} (z : Sim (sleepers s.gens) s₁ s') {i : Nat} {st : GenState} (h : s.gens[i]? = some st) (hs : asleep st = true) : s'.gens[i]? = some st := u_stays z.u h hs
end GF

/-! W2a: what a generator is to one who walks over it. -/
namespace PV
open PySem PySem.Spec PyProof.Rows L2 GenW GF
/-- what the generator's run may turn of what is not described: what is younger than its frame -/
def chOf (L : Nat) (H : Hp) (h : Heap) : List Addr := (List.range h.objs.size).filter fun b => decide (L ≤ b) && (H b).isNone
theorem mem_ch {L : Nat} {H : Hp} {h : Heap} {b : Addr} : b ∈ chOf L H h ↔ b < h.objs.size ∧ L ≤ b ∧ H b = none := by
  unfold chOf
  rw [List.mem_filter, List.mem_range, Bool.and_eq_true, decide_eq_true_eq, Option.isNone_iff_eq_none]
/-- one turn of the generator, as it is seen from without -/
structure Step (P : Program) (w : World) (outer : List Env) (L : Nat) (H : Hp) (O : AP) (H' : Hp) (s0 s : Shared) : Prop where
  os : s.os = s0.os
  bare : AllBare s.gens
  un : Un (frs outer) (chOf L H s0.heap) H H' s0.heap s.heap
  hok : L2.HOk P w H' s.heap
  stab : Stab H O H' O
  own : ∀ a, O a → H' a = H a
abbrev Gd := Nat → Shared → Hp → AP → Prop
/-- what the sleeping generator holds -/
def Fp (L : Nat) (H : Hp) (h : Heap) (fp : List (Addr × Obj)) : Prop := ∀ p ∈ fp, h.get? p.1 = some p.2 ∧ H p.1 = none ∧ L ≤ p.1 ∧ ∀ v, p.2.data ≠ .cell v
def YG (P : Program) (w : World) (outer : List Env) (z : Z) (it : Addr) (g L : Nat) (xs : List W) (Good : Gd) : Protocol := fun m s₀ v s kap =>
  ∃ (i : Nat) (H : Hp) (O : AP) (w1 : W) (H' : Hp) (x : V) (fp : List (Addr × Obj)), i + m = xs.length ∧ Good i s₀ H O ∧ xs[i]? = some w1 ∧ Step P w outer L H O H' s₀ s ∧ RelV x v ∧ RV z H' O w1 x [] ∧
    Fp L H' s.heap fp ∧ (∀ h : Heap, (∀ p ∈ fp, h.get? p.1 = some p.2) → h.IsGen it g) ∧
    ∀ s' H2 O2, Good (i + 1) s' H2 O2 → Stab H' O H2 O2 → (∀ p ∈ fp, s'.heap.get? p.1 = some p.2 ∧ H2 p.1 = none) → kap (.send .none) s'
def EG (P : Program) (w : World) (outer : List Env) (L : Nat) (xs : List W) (Good : Gd) : Nat → Shared → Shared → Prop := fun n s₀ s => n = 1 ∧ ∃ H O H', Good xs.length s₀ H O ∧ Step P w outer L H O H' s₀ s
def RG (P : Program) (w : World) (outer : List Env) (L : Nat) (xs : List W) (Good : Gd) : GenEnd := fun n s₀ r s => ((r = .ok (.ret .none) ∨ r = .ok .next) ∧ EG P w outer L xs Good n s₀ s) ∨ ∃ e, r = .error e ∧ False
/-- what the walker must be at each turn -/
def GdOk (P : Program) (w : World) (K : PySem.W.Frag) (mg : Str → Option Value) (base : Heap) (A : Around) (outer : List Env) (s : Shared) (Good : Gd) : Prop :=
  ∀ i s' H' O', Good i s' H' O' → Env0 P w K mg base A outer s' H' ∧ s'.os = s.os ∧ (∀ a, O' a → ∃ u, H' a = some u)
/-- a generator that has not begun, and what it will hand out -/
def GenV (P : Program) (w : World) (K : PySem.W.Frag) (mg : Str → Option Value) (base : Heap) (k : Nat) (outer : List Env) (z : Z) (xs : List W) (H : Hp) (O : AP) (s : Shared) (u : Value) (s1 : Shared) : Prop :=
  ∃ (it : Addr) (g : Nat) (c : Code) (L : Nat) (fp : List (Addr × Obj)), u = .ref it ∧ s.heap.objs.size ≤ L ∧ s1.gens[g]? = some (.fresh c) ∧ s1.os = s.os ∧ AllBare s1.gens ∧ (∀ b o, s.heap.get? b = some o → s1.heap.get? b = some o) ∧
    Fp L H s1.heap fp ∧ (∀ h : Heap, (∀ p ∈ fp, h.get? p.1 = some p.2) → h.IsGen it g) ∧
    ∀ (A : Around) (Good : Gd), Room k A → A.frames = some outer → GdOk P w K mg base A outer s Good → ∀ s2 H2 O2, Good 0 s2 H2 O2 → Stab H O H2 O2 → (∀ p ∈ fp, s2.heap.get? p.1 = some p.2 ∧ H2 p.1 = none) →
      Seg (model P w) A (RG P w outer L xs Good) (YG P w outer z it g L xs Good) (xs.length + 1) s2 c ((model P w).den c) [] s2
/-- a generator def's promise -/
def GFnP (P : Program) (w : World) (K : PySem.W.Frag) (mg : Str → Option Value) (base : Heap) (k : Nat) (f : Addr) (fd : FuncData) (ps : List Str) (z : Z) (gn : List W → Option (List W)) : Prop :=
  (∀ ws xs, gn ws = some xs → ws.length = ps.length) ∧
  ∀ (A : Around) (outer : List Env) (s : Shared) (H : Hp) (O : AP) (args : Args) (us : List Value) (vs : List V) (ws xs : List W), Room k A → Env0 P w K mg base A outer s H → (∀ a, O a → ∃ u, H a = some u) → BindsTo s fd args (ps.zip us) → Vals vs us → RVs z H O ws vs [] → gn ws = some xs →
    codeAny (model P w) A (.call (.ref f) args) (fun r s1 => match r with | .ok (.ret u) => GenV P w K mg base k outer z xs H O s u s1 | _ => False) s
end PV

/-! V2d: expressions: each form of the program's text and the term of ours that says what it does. -/
namespace PV
open PySem L2

/-! ### more of what an evaluation is to reach -/
section
variable {α β γ δ : Type} {y : Y} {F : AP} {Hh H1 : Hp} {O O1 : AP} {τ : L2.St} {ra : RA α β} {xx : XX} {Q : β → Hp → Prop} {T : List Addr}
/-- first the one, with T parked, then the other -/
theorem Go.seqP {rb : RA γ δ} {m : M α} {f : α → M γ} {σ : St} {Q : δ → Hp → Prop} (nd : T.Nodup) (hd : ∀ a ∈ T, ¬F a) (g : Go y F Hh O τ rb xx ((m.bind f) σ) Q) :
    Go y (plus F T) Hh O τ ra xx (m σ) (fun v H1 => ∃ O1 w1 σ1 A1, Nx (plus F T) Hh O H1 O1 ∧ RS y H1 O1 (plus F T) A1 σ1 τ ∧ ra H1 O1 w1 v A1 ∧ Go y F H1 O1 τ rb xx (f w1 σ1) Q) := by
  unfold M.bind at g
  cases e : m σ with
  | none => rw [e] at g; exact g
  | some r =>
    cases r with
    | ex x h' => rw [e] at g; exact fun H' O' n rs => g H' O' (n.weak fun _ q => .inl q) (rs.weakF fun _ q => .inl q)
    | ok a σ' =>
      rw [e] at g
      exact fun H' O' v A n' rs r => ⟨O', a, σ', A, n', rs, r, g.mono (n'.weak fun _ q => .inl q)⟩
theorem Go.get {rb : RA γ δ} {p : P} {f : W → M γ} {σ : St} {Q : δ → Hp → Prop} (g : Go y F Hh O τ rb xx (((M.get p).bind f) σ) Q) : ∃ w, p.get σ = some w ∧ Go y F Hh O τ rb xx (f w σ) Q := by
  unfold M.bind M.get at g
  cases e : p.get σ with
  | none => rw [e] at g; exact g.elim
  | some w => rw [e] at g; exact ⟨w, rfl, g⟩
theorem Go.optB {rb : RA γ δ} {o : Option α} {f : α → M γ} {σ : St} {Q : δ → Hp → Prop} (g : Go y F Hh O τ rb xx (((M.opt o).bind f) σ) Q) : ∃ a, o = some a ∧ Go y F Hh O τ rb xx (f a σ) Q := by
  unfold M.bind M.opt at g
  cases e : o with
  | none => rw [e] at g; exact g.elim
  | some w => rw [e] at g; exact ⟨w, rfl, g⟩
end
/-- what stands at a name, or is at hand -/
def RP (y : Z) (τ : L2.St) (Hh : Hp) (O : AP) : P → V → List Addr → Prop
  | .val w, v, A => RV y Hh O w v A
  | .at i, v, A => A = [] ∧ τ[i]? = some (some v)
abbrev RPR (y : Y) (τ : L2.St) : RA P V := fun H' O' p v A => RP y.z τ H' O' p v A
def RPs (y : Z) (τ : L2.St) (Hh : Hp) (O : AP) : List P → List V → List Addr → Prop
  | [], vs, A => vs = [] ∧ A = []
  | p :: ps, vs, A => ∃ v r B C, vs = v :: r ∧ A = B ++ C ∧ RP y τ Hh O p v B ∧ RPs y τ Hh O ps r C
abbrev RPsR (y : Y) (τ : L2.St) : RA (List P) (List V) := fun H' O' p v A => RPs y.z τ H' O' p v A
section
variable {y : Y} {F G : AP} {Hh H1 : Hp} {O O1 : AP} {τ : L2.St} {σ : St} {A T : List Addr}
theorem RP.later {p : P} {v : V} (r : RP y.z τ Hh O p v A) (n : Nx (plus F A) Hh O H1 O1) (o : ∀ a ∈ A, O a) : RP y.z τ H1 O1 p v A := by
  cases p with
  | val w => exact RV.stab n.stab _ _ _ r fun a ha => ⟨(n.keep a (.inr ha)).1, (n.keep a (.inr ha)).2 (o a ha)⟩
  | «at» i => exact r
theorem RP.look {p : P} {v : V} {w : W} (r : RP y.z τ Hh O p v A) (rs : RS y Hh O F T σ τ) (e : p.get σ = some w) : ∃ B, RV y.z Hh O w v B := by
  cases p with
  | val w' => cases e; exact ⟨A, r⟩
  | «at» i =>
    simp only [P.get] at e
    split at e
    case h_2 => cases e
    case h_1 w' ew =>
      cases e
      obtain ⟨v', B, q1, q2⟩ := rs.look ew
      rw [r.2] at q1
      cases q1
      exact ⟨B, q2⟩
theorem RPs.gets : ∀ {ps : List P} {vs : List V} {A : List Addr} {r : R (List W)}, RPs y.z τ Hh O ps vs A → RS y Hh O F T σ τ → M.gets ps σ = some r → ∃ ws B, r = .ok ws σ ∧ RVs y.z Hh O ws vs B
  | [], _, _, r, h, rs, e => by
    cases e
    rw [h.1]
    exact ⟨[], [], rfl, .nil⟩
  | p :: ps, _, _, r, ⟨v, r0, B, C, e1, e2, h1, h2⟩, rs, e => by
    subst e1 e2
    unfold M.gets M.bind M.get at e
    cases ep : p.get σ with
    | none => rw [ep] at e; cases e
    | some w =>
      rw [ep] at e
      dsimp only at e
      cases eq : M.gets ps σ with
      | none => rw [eq] at e; cases e
      | some r1 =>
        obtain ⟨ws, B', q1, q2⟩ := RPs.gets h2 rs eq
        subst q1
        rw [eq] at e
        cases e
        obtain ⟨B1, q3⟩ := h1.look rs ep
        exact ⟨w :: ws, _, rfl, RVs.cons q3 q2⟩
end

/-! ### where one stands -/
/-- what a name of the module is -/
inductive Gv where
  | fn (i : Nat) | bltn | cst (d : D) | xc (i : Nat) | gen (i : Nat)
  /-- a dict from texts to defs -/
  | fdic (tbl : List (List Char × Nat))
  deriving DecidableEq
structure Gm where
  N : List Str
  sc : Scope
  calm : Bool
  G : List (Str × Gv)
  /-- the classes by name, with the numbers of the exceptions that are instances of them -/
  Hd : List (Str × List Nat)
  /-- the name of the exception at hand -/
  hot : Option Str
  /-- a def's own context: its cells may be stored -/
  top : Bool
  /-- the slots that are not stored to -/
  fx : List Nat
  /-- by line: what a loop's turn leaves behind that nobody reads -/
  wp : List (Nat × List Nat)
  /-- a generator may be walked over -/
  walk : Bool
/-- an exception of ours as the hand layer has it -/
def RX (y : Y) (xc : Nat → Option Addr) (x : Exc) (Hh : Hp) (O : AP) (cls : Value) (d : Option Addr) : Prop :=
  ∃ C, xc x.c = some C ∧ cls = .ref C ∧ d = none ∧ x.fs = []
def XW (y : Y) (xc : Nat → Option Addr) (Wx : WX) (τ : L2.St) : XX := fun x H' O' => ∀ cls d, RX y xc x H' O' cls d → Wx cls d τ H'
/-- the state between two frames: A: what is handed over -/
def CS (z : Z) (Hh : Hp) (O F : AP) (A : List Addr) : Prop := RS ⟨z, none, []⟩ Hh O F A [] []
theorem CS.of {y : Y} {Hh : Hp} {O F : AP} {A : List Addr} {σ : St} {τ : L2.St} (h : RS y Hh O F A σ τ) : CS y.z Hh O F A := by
  obtain ⟨B, r, nd, d⟩ := h.sl
  exact ⟨⟨[], ⟨rfl, rfl⟩, by rw [List.append_nil]; exact (List.nodup_append.mp nd).1, fun a ha => d a (by rw [List.append_nil] at ha; exact List.mem_append_left _ ha)⟩, h.tm, h.fr, h.dom, fun _ _ e => (by cases e), fun _ _ e => (by cases e)⟩
/-- what a call is to reach -/
def GoC (z : Z) (xc : Nat → Option Addr) (F : AP) (Hh : Hp) (O : AP) (vs : List V) (r : Option CR) (Q : V → Hp → Prop) (E : Value → Option Addr → Hp → Prop) : Prop :=
  match r with
  | none => False
  | some (.ok w outs) => ∀ H' O' v A B, Nx F Hh O H' O' → CS z H' O' F (A ++ B) → RV z H' O' w v A → RVs z H' O' outs vs B → Q v H'
  | some (.ex x outs) => ∀ H' O' B cls d, Nx F Hh O H' O' → CS z H' O' F B → RVs z H' O' outs vs B → RX ⟨z, none, []⟩ xc x H' O' cls d → E cls d H'
/-- what a def of ours promises -/
def spI (z : Z) (xc : Nat → Option Addr) (C : Calls) (i : Nat) : Sp := fun vs Hh Q E => ∃ F O ws A, CS z Hh O F A ∧ RVs z Hh O ws vs A ∧ GoC z xc F Hh O vs (C.f i ws) Q E
structure CallOk (X : Cx) (z : Z) (xc : Nat → Option Addr) (C : Calls) (i : Nat) (a : Addr) : Prop where
  kp : PySem.W.keepIn X.K (.ref a) = true
  fn : ∃ (fd : FuncData) (ps : List Str) (k : Nat), Binds X.K fd ps [] ∧ FnOk X.prog X.w X.K X.mg X.base (L2.CX X.prog X.w) k a fd ps (spI z xc C i) ∧ Room k X.A
/-- a generator def that may be called -/
structure GenCall (X : Cx) (z : Z) (C : Calls) (i : Nat) (a : Addr) : Prop where
  kp : PySem.W.keepIn X.K (.ref a) = true
  fn : ∃ (fd : FuncData) (ps : List Str) (k : Nat), Binds X.K fd ps [] ∧ GFnP X.prog X.w X.K X.mg X.base k a fd ps z (C.g i) ∧ Room (k + 1) X.A
/-- what an exception class without a method of its own must be -/
structure XcOk (K : PySem.W.Frag) (C : Addr) : Prop where
  is : ExcC K C
  exc : PySem.W.excIn K C [.type "ValueError", .type "Exception", .type "BaseException", .type "object"] "ValueError.__new__" = true
  kp : PySem.W.keepIn K (.ref C) = true
  sub : PySem.W.subIn K (.ref C) (.type "BaseException") = some true
  ty : PySem.W.typeIn K (.ref C) = some (.type "type")
def GOk (X : Cx) (y : Y) (xc : Nat → Option Addr) (x : Str) : Gv → Prop
  | .fn i => ∃ a, y.z.fa i = some a ∧ X.mg x = some (.ref a)
  | .gen i => ∃ a, y.z.fa i = some a ∧ X.mg x = some (.ref a)
  | .bltn => X.mg x = none
  | .cst d => ∃ u v, X.mg x = some u ∧ RelV v u ∧ ∀ Hh O, RV y.z Hh O d.w v []
  | .fdic tbl => ∃ a, X.mg x = some (.ref a) ∧ ∀ s i, tbl.lookup s = some i → ∃ f, y.z.fa i = some f ∧ KDct X.K X.w a (strV s) (.ref f)
  | .xc i => ∃ C, xc i = some C ∧ X.mg x = some (.ref C) ∧ XcOk X.K C
/-- a class by its name: which exceptions of ours are instances of it -/
structure HOk (X : Cx) (xc : Nat → Option Addr) (T : Str) (cs : List Nat) (c : Value) : Prop where
  cls : (∃ D, c = .ref D ∧ X.mg T = some c) ∨ (∃ n, c = .type n ∧ X.mg T = none ∧ bootBuiltins T = some c)
  nm : T ≠ "__name__"
  exm : ∀ i C, xc i = some C → PySem.W.exmOne X.K (.ref C) c = some (cs.contains i)
  kit : ∀ i C, xc i = some C → PySem.W.kitOne X.K (.ref C) c = some (cs.contains i)
/-- isinstance of the exception at hand, with one class, with several -/
def IsR (X : Cx) (v : V) (c : Value) (b : Bool) : Prop := ∀ u, RelV u c → CallR X (.builtin "isinstance") (fun xs Hh Q => xs = [v, u] ∧ Q (.bl b) Hh)
def IsT (X : Cx) (v : V) (cs : List Value) (b : Bool) : Prop := ∀ us, Paired ClsV us cs → CallR X (.builtin "isinstance") (fun xs Hh Q => ∃ tp, xs = [v, .ref tp] ∧ Hh tp = some (.tup us) ∧ Q (.bl b) Hh)
structure Cok (g : Gm) (X : Cx) (y : Y) (xc : Nat → Option Addr) (C : Calls) (Wx : WX) : Prop where
  N : X.N = g.N
  nd : X.N.Nodup
  sc : X.env.scope = g.sc
  K : y.z.K = X.K
  calm : g.calm = true → X.calm = true
  units : X.A.units + 66 < cLine
  glob : ∀ x v, g.G.lookup x = some v → GOk X y xc x v
  calls : g.calm = true → ∀ i a, y.z.fa i = some a → CallOk X y.z xc C i a
  hd : ∀ T cs, g.Hd.lookup T = some cs → ∃ c, HOk X xc T cs c
  hot' : ∀ x, g.hot = some x → ∃ p, y.hot = some p
  hot : ∀ i v, y.hot = some (i, v) → g.calm = false ∧ ∃ x xo, g.hot = some x ∧ g.N[i]? = some x ∧ C.x = some xo ∧ (∀ T cs c, HOk X xc T cs c → IsR X v c (cs.contains xo.c)) ∧
    ∀ l : List (Str × List Nat × Value), l ≠ [] → (∀ p ∈ l, HOk X xc p.1 p.2.1 p.2.2) → IsT X v (l.map (·.2.2)) (l.any fun p => p.2.1.contains xo.c)
  tk : Takes X Wx
  own : PassesOwn (model X.prog X.w) X.A X.env X.xe
  fnx : g.top = true → ∀ x, X.fn x = true
  xcs : ∀ i C, xc i = some C → ExcC X.K C
  cfx : C.fx = g.fx
  fx : ∀ i v, (i, v) ∈ y.fx → i ∈ g.fx
  gens : g.calm = true → ∀ i a, y.z.fa i = some a → GenCall X y.z C i a
  xeg : g.walk = true → ∀ (F : Nat → Option GenState) (s₁ s : Shared) (e : Value), GF.Sim F s₁ s → X.xe e s₁ → X.xe e s

def tE (y : Y) (xc : Nat → Option Addr) (Wx : WX) (C : Calls) (e : E) : TE := fun τ Hh Q => ∃ F O σ, RS y Hh O F [] σ τ ∧ Go y F Hh O τ (RVR y) (XW y xc Wx τ) (ev C e σ) Q
def tP (y : Y) (xc : Nat → Option Addr) (Wx : WX) (C : Calls) (e : E) : TE := fun τ Hh Q => ∃ F O σ, RS y Hh O F [] σ τ ∧ Go y F Hh O τ (RPR y τ) (XW y xc Wx τ) (pk e (ev C e) σ) Q
def tT (y : Y) (xc : Nat → Option Addr) (Wx : WX) (C : Calls) (e : E) : TT := fun τ Hh Q => ∃ F O σ, RS y Hh O F [] σ τ ∧ Go y F Hh O τ (fun _ _ k v A => v = k ∧ A = []) (XW y xc Wx τ) (evT C e σ) Q
abbrev RVsR (y : Y) : RA (List W) (List V) := fun H' O' w v A => RVs y.z H' O' w v A
def tA (y : Y) (xc : Nat → Option Addr) (Wx : WX) (C : Calls) (es : Es) : TA := fun τ Hh Q => ∃ F O σ, RS y Hh O F [] σ τ ∧ Go y F Hh O τ (RVsR y) (XW y xc Wx τ) (evs C es σ) Q
def tAp (y : Y) (xc : Nat → Option Addr) (Wx : WX) (C : Calls) (es : Es) : TA := fun τ Hh Q => ∃ F O σ, RS y Hh O F [] σ τ ∧ Go y F Hh O τ (RPsR y τ) (XW y xc Wx τ) (evPs C es σ) Q
def tOo (y : Y) (xc : Nat → Option Addr) (Wx : WX) (C : Calls) (e : Eo) : TO := fun τ Hh Q => ∃ F O σ, RS y Hh O F [] σ τ ∧ Go y F Hh O τ (fun _ _ o v A => v = o ∧ A = []) (XW y xc Wx τ) (evo C e σ) Q
def SE (g : Gm) (e : Expr) (e' : E) : Prop := ∀ X y xc C Wx, Cok g X y xc C Wx → PE X e (tE y xc Wx C e')
def SP (g : Gm) (e : Expr) (e' : E) : Prop := ∀ X y xc C Wx, Cok g X y xc C Wx → PE X e (tP y xc Wx C e')
def ST (g : Gm) (e : Expr) (e' : E) : Prop := ∀ X y xc C Wx, Cok g X y xc C Wx → PT X e (tT y xc Wx C e')
def SA (g : Gm) (es : List Expr) (es' : Es) : Prop := ∀ X y xc C Wx, Cok g X y xc C Wx → PA X es (tA y xc Wx C es')
def SAp (g : Gm) (es : List Expr) (es' : Es) : Prop := ∀ X y xc C Wx, Cok g X y xc C Wx → PA X es (tAp y xc Wx C es')
def SO (g : Gm) (e : Option Expr) (e' : Eo) : Prop := ∀ X y xc C Wx, Cok g X y xc C Wx → PO X e (tOo y xc Wx C e')

theorem PE.imp {X : Cx} {e : Expr} {t t' : TE} (h : PE X e t) (k : ∀ τ Hh Q, t' τ Hh Q → t τ Hh Q) : PE X e t' := ⟨fun pins s τ Hh Q I q => h.run pins s τ Hh Q I (k τ Hh Q q)⟩
theorem PT.imp {X : Cx} {e : Expr} {t t' : TT} (h : PT X e t) (k : ∀ τ Hh Q, t' τ Hh Q → t τ Hh Q) : PT X e t' := ⟨fun pins s τ Hh Q I q => h.run pins s τ Hh Q I (k τ Hh Q q)⟩
theorem PW.imp {X : Cx} {e : Expr} {t t' : TT} (h : PW X e t) (k : ∀ τ Hh Q, t' τ Hh Q → t τ Hh Q) : PW X e t' := ⟨fun wh pins s τ Hh Q I q => h.run wh pins s τ Hh Q I (k τ Hh Q q)⟩
theorem PA.imp {X : Cx} {e : List Expr} {t t' : TA} (h : PA X e t) (k : ∀ τ Hh Q, t' τ Hh Q → t τ Hh Q) : PA X e t' := ⟨fun p pins s τ Hh Q I q => h.run p pins s τ Hh Q I (k τ Hh Q q)⟩
theorem PO.imp {X : Cx} {e : Option Expr} {t t' : TO} (h : PO X e t) (k : ∀ τ Hh Q, t' τ Hh Q → t τ Hh Q) : PO X e t' := ⟨fun pins s τ Hh Q I q => h.run pins s τ Hh Q I (k τ Hh Q q)⟩
theorem PS.imp {X : Cx} {e : Stmt} {t t' : TS} (h : PS X e t) (k : ∀ D τ Hh, t' D τ Hh → t D τ Hh) : PS X e t' := ⟨fun pins s τ Hh D I q => h.run pins s τ Hh D I (k D τ Hh q)⟩
theorem PSs.imp {X : Cx} {e : List Stmt} {t t' : TS} (h : PSs X e t) (k : ∀ D τ Hh, t' D τ Hh → t D τ Hh) : PSs X e t' := ⟨fun pins s τ Hh D I q => h.run pins s τ Hh D I (k D τ Hh q)⟩

/-! ### the shapes of the text -/
def nst : Expr → Bool
  | .Starred _ _ => false
  | _ => true
theorem star_cons {e : Expr} {es : List Expr} {env : Env} (h : nst e = true) : starEach (e :: es) env = (false, eval e env) :: starEach es env := by
  cases e <;> first | rfl | cases h
theorem star_any {env : Env} {pos : Pos} : ∀ {es : List Expr}, es.all nst = true → (backTo pos (starEach es env)).any (·.1) = false
  | [], _ => rfl
  | e :: es, h => by
    rw [List.all_cons, Bool.and_eq_true] at h
    rw [star_cons h.1]
    exact star_any (es := es) h.2
theorem star_len {env : Env} : ∀ {es : List Expr}, (starEach es env).length = es.length
  | [] => rfl
  | e :: es => by
    have ih := star_len (env := env) (es := es)
    cases e <;> simp [starEach, ih]
def notSet : Expr → Bool
  | .Set _ _ _ => false
  | _ => true
theorem notSet_in {e : Expr} {op : CmpOp} (h : notSet e = true) : behindInMarks op e = false := by
  cases e <;> first | rfl | cases h
def notSlice : Expr → Bool
  | .Slice _ _ _ _ => false
  | _ => true
theorem plainIx {e : Expr} (h : notSlice e = true) : PlainIx e := by
  cases e <;> first | exact fun _ _ => rfl | cases h
/-- no call super() -/
def notCall0 : Expr → Bool
  | .Call (.Name _ _) [] [] _ => false
  | _ => true
theorem base_of {e : Expr} {f : Str} {env : Env} (h : notCall0 e = true) : attributeBase e f env (eval e env) = eval e env := by
  unfold attributeBase
  split
  · cases h
  · rfl
def plainTest : Expr → Bool
  | .UnaryOp .Not _ _ => false
  | .BoolOp _ _ _ => false
  | .IfExp _ _ _ _ => false
  | .Compare _ _ _ _ => false
  | _ => true
theorem test_of {e : Expr} {env : Env} (h : plainTest e = true) : ∀ whole, isTrue e env whole = (do let v ← whole; standAt e.pos; holding [v] (truthy v)) := by
  intro whole
  cases e <;> first | rfl | cases h | skip
  case UnaryOp op x pos => cases op <;> first | rfl | cases h


section
variable {g : Gm}
theorem vis_pe {i : Nat} {x : Str} {pos : Pos} {X : Cx} {y : Y} {xc : Nat → Option Addr} {C : Calls} {Wx : WX} (hN : g.N[i]? = some x) (hv : Vis g.sc x) (hd : (x == ("__debug__" : Str)) = false) (hcd : (x == ("__classdict__" : Str)) = false) (k : Cok g X y xc C Wx) : PE X (.Name x pos) (tVar i) :=
  pe_var (i := i) (by rw [k.N]; exact hN) (by rw [k.sc]; exact hv) hd hcd
theorem s_var {i : Nat} {x : Str} {pos : Pos} (hN : g.N[i]? = some x) (hv : Vis g.sc x) (hd : (x == ("__debug__" : Str)) = false) (hcd : (x == ("__classdict__" : Str)) = false) : SE g (.Name x pos) (.var i) := fun X y xc C Wx k => by
  refine PE.imp (vis_pe hN hv hd hcd k) fun τ Hh Q ⟨F, O, σ, rs, go⟩ => ?_
  unfold ev at go
  split at go
  case h_2 => exact go.elim
  case h_1 w e =>
    obtain ⟨v, B, et, rv, rs1⟩ := rs.out e
    rw [List.nil_append] at rs1
    refine ⟨v, et, ?_⟩
    split at go
    case isTrue hf =>
      exact go.val rs (rv.frz' hf)
    case isFalse hf =>
      have rs1' : RS y Hh O F ([] ++ B) (σ.set i none) τ := rs1
      obtain ⟨rs2, n, _⟩ := rs1'.freeze
      have rf : RV y.z Hh (fun a => O a ∧ a ∉ B) w.fz v [] := RV.fz (fun a h q => h q.1) _ _ _ rv fun a ha q => q.2 ha
      have rs3 : RS y Hh (fun a => O a ∧ a ∉ B) F [] (σ.set i (some w.fz)) τ := RS.putBack (B := []) (by simpa using rs2) et rf
      exact go Hh _ v [] n rs3 rf
theorem s_mov {i : Nat} {x : Str} {pos : Pos} (hN : g.N[i]? = some x) (hv : Vis g.sc x) (hd : (x == ("__debug__" : Str)) = false) (hcd : (x == ("__classdict__" : Str)) = false) : SE g (.Name x pos) (.mov i) := fun X y xc C Wx k => by
  refine PE.imp (vis_pe hN hv hd hcd k) fun τ Hh Q ⟨F, O, σ, rs, go⟩ => ?_
  unfold ev at go
  split at go
  case h_2 => exact go.elim
  case h_1 w e =>
    obtain ⟨v, B, et, rv, rs1⟩ := rs.out e
    rw [List.nil_append] at rs1
    exact ⟨v, et, go.val rs1 rv⟩
theorem p_var {i : Nat} {x : Str} {pos : Pos} (hN : g.N[i]? = some x) (hv : Vis g.sc x) (hd : (x == ("__debug__" : Str)) = false) (hcd : (x == ("__classdict__" : Str)) = false) : SP g (.Name x pos) (.var i) := fun X y xc C Wx k => by
  refine PE.imp (vis_pe hN hv hd hcd k) fun τ Hh Q ⟨F, O, σ, rs, go⟩ => ?_
  unfold pk at go
  dsimp only at go
  split at go
  case h_2 => exact go.elim
  case h_1 w e =>
    obtain ⟨v, B, et, rv⟩ := rs.look e
    exact ⟨v, et, go Hh O v [] .refl rs ⟨rfl, et⟩⟩
def isVar : E → Bool
  | .var _ => true
  | _ => false
theorem pk_of {C : Calls} {e : E} (h : isVar e = false) : pk e (ev C e) = (ev C e).bind fun w => M.pure (.val w) := by
  cases e <;> first | rfl | cases h
theorem p_of {e : Expr} {e' : E} (h : isVar e' = false) (he : SE g e e') : SP g e e' := fun X y xc C Wx k => by
  refine PE.imp (he X y xc C Wx k) fun τ Hh Q ⟨F, O, σ, rs, go⟩ => ?_
  rw [pk_of h] at go
  refine ⟨F, O, σ, rs, (Go.seq go).imp fun v1 H1 ⟨O1, w1, σ1, A1, n1, rs1, r1, go1⟩ => ?_⟩
  exact go1.pure rs1 r1
theorem s_cst {e : Expr} {d : D} {v : V} (h : ∀ X : Cx, PE X e (tC v)) (r : ∀ z Hh O, RV z Hh O d.w v []) : SE g e (.cst d) := fun X y xc C Wx k => by
  refine PE.imp (h X) fun τ Hh Q ⟨F, O, σ, rs, go⟩ => ?_
  unfold ev at go
  exact go.val rs (r _ _ _)
theorem s_int {i : Int} {j : Nat} {pos : Pos} : SE g (.Constant (.int i) j pos) (.cst (.int i)) := s_cst (fun X => pe_int) (fun _ _ _ => by simp only [D.w, RV]; trivial)
theorem s_bl {i : Bool} {j : Nat} {pos : Pos} : SE g (.Constant (.bool i) j pos) (.cst (.bl i)) := s_cst (fun X => pe_bl) (fun _ _ _ => by simp only [D.w, RV]; trivial)
theorem s_non {j : Nat} {pos : Pos} : SE g (.Constant .none j pos) (.cst .non) := s_cst (fun X => pe_non) (fun _ _ _ => by simp only [D.w, RV]; trivial)
theorem s_str {x : Str} {s : List Char} {j : Nat} {pos : Pos} (h : x = strV s) : SE g (.Constant (.str x) j pos) (.cst (.str s)) := by
  subst h
  exact s_cst (fun X => pe_str) (fun _ _ _ => by simp only [D.w, RV]; trivial)
theorem s_glob {x : Str} {d : D} {pos : Pos} (hg : g.G.lookup x = some (.cst d)) (hk : g.sc.names.lookup x = some .globalImplicit) (hd : (x == ("__debug__" : Str)) = false) : SE g (.Name x pos) (.cst d) := fun X y xc C Wx k => by
  obtain ⟨u, v, h1, h2, h3⟩ := k.glob x _ hg
  refine PE.imp (pe_glob (x := x) (pos := pos) (by unfold Gl Env.kindOf; rw [k.sc]; exact hk) h1 h2 hd) fun τ Hh Q ⟨F, O, σ, rs, go⟩ => ?_
  unfold ev at go
  exact go.val rs (h3 _ _)

/-! ### operators -/
theorem s_bin {op : Operator} {o : BOp} {a b : Expr} {a' b' : E} {pos : Pos} (ho : ∀ (X : Cx) (y : Y) (xx : XX), y.z.K = X.K → OpR X (binaryOp op) (rBin y xx o)) (ha : SP g a a') (hb : SP g b b') : SE g (.BinOp a op b pos) (.bin o a' b') := fun X y xc C Wx k => by
  refine ⟨fun pins s τ Hh Q I ⟨F, O, σ, rs, go⟩ => ?_⟩
  refine (pe_op (ho X y (XW y xc Wx τ) k.K) (ha X y xc C Wx k) (hb X y xc C Wx k)).run pins s τ Hh Q I ?_
  unfold ev at go
  refine ⟨F, O, σ, rs, (Go.seq go).imp fun v1 H1 ⟨O1, p1, σ1, A1, n1, rs1, r1, go1⟩ => ⟨plus F A1, O1, σ1, rs1.park, (Go.seqP rs1.nodup rs1.notF go1).imp fun v2 H2 ⟨O2, p2, σ2, A2, n2, rs2, r2, go2⟩ => ?_⟩⟩
  obtain ⟨w1, e1, go2⟩ := go2.get
  obtain ⟨w2, e2, go2⟩ := go2.get
  obtain ⟨B1, q1⟩ := (r1.later n2 rs1.tm).look rs2 e1
  obtain ⟨B2, q2⟩ := r2.look rs2 e2
  exact ⟨F, O2, σ2, τ, w1, w2, B1, B2, (rs2.weakF fun _ q => .inl q).toss, q1, q2, go2⟩
theorem s_add {a b : Expr} {a' b' : E} {pos : Pos} (ha : SP g a a') (hb : SP g b b') : SE g (.BinOp a .Add b pos) (.bin .add a' b') := s_bin (fun _ _ _ hK => bin_add hK) ha hb
theorem s_sub {a b : Expr} {a' b' : E} {pos : Pos} (ha : SP g a a') (hb : SP g b b') : SE g (.BinOp a .Sub b pos) (.bin .sub a' b') := s_bin (fun _ _ _ _ => bin_sub) ha hb
theorem s_mul {a b : Expr} {a' b' : E} {pos : Pos} (ha : SP g a a') (hb : SP g b b') : SE g (.BinOp a .Mult b pos) (.bin .mul a' b') := s_bin (fun _ _ _ _ => bin_mul) ha hb
theorem s_fdiv {a b : Expr} {a' b' : E} {pos : Pos} (ha : SP g a a') (hb : SP g b b') : SE g (.BinOp a .FloorDiv b pos) (.bin .fdiv a' b') := s_bin (fun _ _ _ _ => bin_fdiv) ha hb
theorem s_mod {a b : Expr} {a' b' : E} {pos : Pos} (ha : SP g a a') (hb : SP g b b') : SE g (.BinOp a .Mod b pos) (.bin .mod a' b') := s_bin (fun _ _ _ _ => bin_mod) ha hb
theorem s_pow {a b : Expr} {a' b' : E} {pos : Pos} (ha : SP g a a') (hb : SP g b b') : SE g (.BinOp a .Pow b pos) (.bin .pow a' b') := s_bin (fun _ _ _ _ => bin_pow) ha hb

/-! ### comparisons -/
def CmpR (op : CmpOp) (o : COp) : Prop := ∀ (X : Cx) (y : Y), y.z.K = X.K → X.A.units + 66 < cLine → OpR X (compareOp op) (rCmp y o)
theorem c_eq : CmpR .Eq .eq := fun X y hK hu => cmp_eq hK (by omega)
theorem c_ne : CmpR .NotEq .ne := fun X y hK hu => cmp_ne hK (by omega)
theorem c_lt : CmpR .Lt .lt := fun X y hK hu => cmp_lt hK (by omega)
theorem c_le : CmpR .LtE .le := fun X y hK hu => cmp_le
theorem c_gt : CmpR .Gt .gt := fun X y hK hu => cmp_gt
theorem c_ge : CmpR .GtE .ge := fun X y hK hu => cmp_ge
theorem c_is : CmpR .Is .is := fun X y hK hu => cmp_is
theorem c_isn : CmpR .IsNot .isn := fun X y hK hu => cmp_isn
theorem c_in : CmpR .In .inn := fun X y hK hu => cmp_inn hK (by omega)
theorem c_nin : CmpR .NotIn .nin := fun X y hK hu => cmp_nin hK (by omega)
theorem map_bl {o : Option Bool} {w : W} (h : o.map W.bl = some w) : ∃ k, o = some k ∧ w = .bl k := by
  cases o with
  | none => cases h
  | some k => cases h; exact ⟨k, rfl, rfl⟩
theorem s_cmp {op : CmpOp} {o : COp} {a b : Expr} {a' b' : E} {pos : Pos} (ho : CmpR op o) (hs : notSet b = true) (ha : SP g a a') (hb : SP g b b') : SE g (.Compare a [op] [b] pos) (.cmp o a' b') := fun X y xc C Wx k => by
  refine PE.imp (pe_cmpR (ho X y k.K k.units) (ha X y xc C Wx k) (hb X y xc C Wx k) (notSet_in hs)) fun τ Hh Q ⟨F, O, σ, rs, go⟩ => ?_
  unfold ev at go
  refine ⟨F, O, σ, rs, (Go.seq go).imp fun v1 H1 ⟨O1, p1, σ1, A1, n1, rs1, r1, go1⟩ => ⟨plus F A1, O1, σ1, rs1.park, (Go.seqP rs1.nodup rs1.notF go1).imp fun v2 H2 ⟨O2, p2, σ2, A2, n2, rs2, r2, go2⟩ => ?_⟩⟩
  obtain ⟨w1, e1, go2⟩ := go2.get
  obtain ⟨w2, e2, go2⟩ := go2.get
  obtain ⟨B1, q1⟩ := (r1.later n2 rs1.tm).look rs2 e1
  obtain ⟨B2, q2⟩ := r2.look rs2 e2
  obtain ⟨w, ew, go2⟩ := go2.opt
  obtain ⟨kk, ek, rfl⟩ := map_bl ew
  exact ⟨O2, w1, w2, B1, B2, kk, q1, q2, ek, go2.bl (rs2.weakF fun _ q => .inl q)⟩
theorem Go.tst {y : Y} {F : AP} {Hh : Hp} {O : AP} {τ : L2.St} {σ : St} {xx : XX} {Q : Bool → Hp → Prop} {T : List Addr} {k : Bool} (g : Go y F Hh O τ (fun _ _ k v A => v = k ∧ A = []) xx (some (.ok k σ)) Q) (rs : RS y Hh O F T σ τ) : Q k Hh := g Hh O k [] .refl rs.toss ⟨rfl, rfl⟩
theorem t_cmp {op : CmpOp} {o : COp} {a b : Expr} {a' b' : E} {pos : Pos} (ho : CmpR op o) (hs : notSet b = true) (ha : SP g a a') (hb : SP g b b') : ST g (.Compare a [op] [b] pos) (.cmp o a' b') := fun X y xc C Wx k => by
  refine PT.imp (pt_cmpR (ho X y k.K k.units) (ha X y xc C Wx k) (hb X y xc C Wx k) (notSet_in hs)) fun τ Hh Q ⟨F, O, σ, rs, go⟩ => ?_
  unfold evT at go
  refine ⟨F, O, σ, rs, (Go.seq go).imp fun v1 H1 ⟨O1, p1, σ1, A1, n1, rs1, r1, go1⟩ => ⟨plus F A1, O1, σ1, rs1.park, (Go.seqP rs1.nodup rs1.notF go1).imp fun v2 H2 ⟨O2, p2, σ2, A2, n2, rs2, r2, go2⟩ => ?_⟩⟩
  obtain ⟨w1, e1, go2⟩ := go2.get
  obtain ⟨w2, e2, go2⟩ := go2.get
  obtain ⟨B1, q1⟩ := (r1.later n2 rs1.tm).look rs2 e1
  obtain ⟨B2, q2⟩ := r2.look rs2 e2
  obtain ⟨kk, ek, go2⟩ := go2.opt
  exact ⟨O2, w1, w2, B1, B2, kk, q1, q2, ek, kk, rfl, go2.tst (rs2.weakF fun _ q => .inl q)⟩
theorem notSet_last {op op' : CmpOp} {b c : Expr} (hs : notSet c = true) : lastMarks [op, op'] [b, c] = false := notSet_in (op := op') hs
theorem s_ch2 {op op' : CmpOp} {o o' : COp} {a b c : Expr} {a' b' c' : E} {pos : Pos} (ho : CmpR op o) (ho' : CmpR op' o') (hs : notSet c = true) (ha : SP g a a') (hb : SP g b b') (hc : SP g c c') : SE g (.Compare a [op, op'] [b, c] pos) (.ch2 o o' a' b' c') := fun X y xc C Wx k => by
  refine PE.imp (pe_chain (ho X y k.K k.units) (ho' X y k.K k.units) (ha X y xc C Wx k) (hb X y xc C Wx k) (hc X y xc C Wx k) (notSet_last hs)) fun τ Hh Q ⟨F, O, σ, rs, go⟩ => ?_
  unfold ev at go
  refine ⟨F, O, σ, rs, (Go.seq go).imp fun v1 H1 ⟨O1, p1, σ1, A1, n1, rs1, r1, go1⟩ => ⟨plus F A1, O1, σ1, rs1.park, (Go.seqP rs1.nodup rs1.notF go1).imp fun v2 H2 ⟨O2, p2, σ2, A2, n2, rs2, r2, go2⟩ => ?_⟩⟩
  obtain ⟨w1, e1, go2⟩ := go2.get
  obtain ⟨w2, e2, go2⟩ := go2.get
  obtain ⟨B1, q1⟩ := (r1.later n2 rs1.tm).look rs2 e1
  obtain ⟨B2, q2⟩ := r2.look rs2 e2
  obtain ⟨kk, ek, go2⟩ := go2.optB
  have rsF := rs2.unpark rs1.nodup rs1.notF
  have rs2' := rsF.less (List.sublist_append_right A1 A2)
  refine ⟨O2, w1, w2, B1, B2, kk, q1, q2, ek, kk, rfl, ?_⟩
  cases kk with
  | false => exact go2.pure rs2'.toss (by simp only [RV]; trivial)
  | true =>
    show tP y xc Wx C c' τ H2 _
    refine ⟨plus F A2, O2, σ2, rs2'.park, (Go.seqP rs2'.nodup rs2'.notF go2).imp fun v4 H4 ⟨O4, p4, σ4, A4, n4, rs4, r4, go4⟩ => ?_⟩
    obtain ⟨w2', e2', go4⟩ := go4.get
    obtain ⟨w4, e4, go4⟩ := go4.get
    obtain ⟨B2', q2'⟩ := (r2.later n4 rs2'.tm).look rs4 e2'
    obtain ⟨B4, q4⟩ := r4.look rs4 e4
    obtain ⟨w, ew, go4⟩ := go4.opt
    obtain ⟨kk, ek, rfl⟩ := map_bl ew
    exact ⟨O4, w2', w4, B2', B4, kk, q2', q4, ek, go4.bl (rs4.weakF fun _ q => .inl q)⟩
theorem t_ch2 {op op' : CmpOp} {o o' : COp} {a b c : Expr} {a' b' c' : E} {pos : Pos} (ho : CmpR op o) (ho' : CmpR op' o') (hs : notSet c = true) (ha : SP g a a') (hb : SP g b b') (hc : SP g c c') : ST g (.Compare a [op, op'] [b, c] pos) (.ch2 o o' a' b' c') := fun X y xc C Wx k => by
  refine PT.imp (pt_chain (ho X y k.K k.units) (ho' X y k.K k.units) (ha X y xc C Wx k) (hb X y xc C Wx k) (hc X y xc C Wx k) (notSet_last hs)) fun τ Hh Q ⟨F, O, σ, rs, go⟩ => ?_
  unfold evT at go
  refine ⟨F, O, σ, rs, (Go.seq go).imp fun v1 H1 ⟨O1, p1, σ1, A1, n1, rs1, r1, go1⟩ => ⟨plus F A1, O1, σ1, rs1.park, (Go.seqP rs1.nodup rs1.notF go1).imp fun v2 H2 ⟨O2, p2, σ2, A2, n2, rs2, r2, go2⟩ => ?_⟩⟩
  obtain ⟨w1, e1, go2⟩ := go2.get
  obtain ⟨w2, e2, go2⟩ := go2.get
  obtain ⟨B1, q1⟩ := (r1.later n2 rs1.tm).look rs2 e1
  obtain ⟨B2, q2⟩ := r2.look rs2 e2
  obtain ⟨kk, ek, go2⟩ := go2.optB
  have rsF := rs2.unpark rs1.nodup rs1.notF
  have rs2' := rsF.less (List.sublist_append_right A1 A2)
  refine ⟨O2, w1, w2, B1, B2, kk, q1, q2, ek, kk, rfl, ?_⟩
  cases kk with
  | false => exact ⟨false, rfl, Go.pure go2 rs2'.toss ⟨rfl, rfl⟩⟩
  | true =>
    show tP y xc Wx C c' τ H2 _
    refine ⟨plus F A2, O2, σ2, rs2'.park, (Go.seqP rs2'.nodup rs2'.notF go2).imp fun v4 H4 ⟨O4, p4, σ4, A4, n4, rs4, r4, go4⟩ => ?_⟩
    obtain ⟨w2', e2', go4⟩ := go4.get
    obtain ⟨w4, e4, go4⟩ := go4.get
    obtain ⟨B2', q2'⟩ := (r2.later n4 rs2'.tm).look rs4 e2'
    obtain ⟨B4, q4⟩ := r4.look rs4 e4
    obtain ⟨kk, ek, go4⟩ := go4.opt
    exact ⟨O4, w2', w4, B2', B4, kk, q2', q4, ek, kk, rfl, go4.tst (rs4.weakF fun _ q => .inl q)⟩

/-! ### and, or, not, - , if -/
theorem s_one {op : PySem.BoolOp} {a : Expr} {a' : E} {pos : Pos} (ha : SE g a a') : SE g (.BoolOp op [a] pos) a' := fun X y xc C Wx k => pe_one (ha X y xc C Wx k)
theorem s_and {a b : Expr} {r : List Expr} {a' b' : E} {pos : Pos} (ha : SE g a a') (hb : SE g (.BoolOp .And (b :: r) pos) b') : SE g (.BoolOp .And (a :: b :: r) pos) (.and a' b') := fun X y xc C Wx k => by
  refine PE.imp (pe_and (ha X y xc C Wx k) (hb X y xc C Wx k)) fun τ Hh Q ⟨F, O, σ, rs, go⟩ => ?_
  unfold ev at go
  refine ⟨F, O, σ, rs, (Go.seq go).imp fun v1 H1 ⟨O1, w1, σ1, A1, n1, rs1, r1, go1⟩ => ?_⟩
  split at go1
  case h_1 => simp only [RV] at r1; exact ⟨true, r1.1, ⟨F, O1, σ1, rs1.toss, go1⟩⟩
  case h_2 => simp only [RV] at r1; exact ⟨false, r1.1, go1.pure rs1.toss (by simp only [RV]; trivial)⟩
  case h_3 => exact go1.elim
theorem s_or {a b : Expr} {r : List Expr} {a' b' : E} {pos : Pos} (ha : SE g a a') (hb : SE g (.BoolOp .Or (b :: r) pos) b') : SE g (.BoolOp .Or (a :: b :: r) pos) (.or a' b') := fun X y xc C Wx k => by
  refine PE.imp (pe_or (ha X y xc C Wx k) (hb X y xc C Wx k)) fun τ Hh Q ⟨F, O, σ, rs, go⟩ => ?_
  unfold ev at go
  refine ⟨F, O, σ, rs, (Go.seq go).imp fun v1 H1 ⟨O1, w1, σ1, A1, n1, rs1, r1, go1⟩ => ?_⟩
  split at go1
  case h_1 => simp only [RV] at r1; exact ⟨false, r1.1, ⟨F, O1, σ1, rs1.toss, go1⟩⟩
  case h_2 => simp only [RV] at r1; exact ⟨true, r1.1, go1.pure rs1.toss (by simp only [RV]; trivial)⟩
  case h_3 => exact go1.elim
theorem s_not {a : Expr} {a' : E} {pos : Pos} (ha : SP g a a') : SE g (.UnaryOp .Not a pos) (.not a') := fun X y xc C Wx k => by
  refine PE.imp (pe_notT (ha X y xc C Wx k)) fun τ Hh Q ⟨F, O, σ, rs, go⟩ => ?_
  unfold ev at go
  refine ⟨F, O, σ, rs, (Go.seq go).imp fun v1 H1 ⟨O1, p1, σ1, A1, n1, rs1, r1, go1⟩ => ?_⟩
  obtain ⟨w1, e1, go1⟩ := go1.get
  obtain ⟨B1, q1⟩ := r1.look rs1 e1
  obtain ⟨w, ew, go1⟩ := go1.opt
  cases et : truth w1 with
  | none => rw [et] at ew; cases ew
  | some b =>
    rw [et] at ew
    cases ew
    exact ⟨b, truth_ok k.K q1 et, go1.bl rs1⟩
theorem s_neg {a : Expr} {a' : E} {pos : Pos} (ha : SE g a a') : SE g (.UnaryOp .USub a pos) (.neg a') := fun X y xc C Wx k => by
  refine PE.imp (pe_un un_neg (ha X y xc C Wx k)) fun τ Hh Q ⟨F, O, σ, rs, go⟩ => ?_
  unfold ev at go
  refine ⟨F, O, σ, rs, (Go.seq go).imp fun v1 H1 ⟨O1, w1, σ1, A1, n1, rs1, r1, go1⟩ => ?_⟩
  split at go1
  case h_1 i => simp only [RV] at r1; exact ⟨i, r1.1, go1.pure rs1.toss (by simp only [RV]; trivial)⟩
  case h_2 => exact go1.elim
theorem s_ife {c a b : Expr} {c' a' b' : E} {pos : Pos} (hc : ST g c c') (ha : SE g a a') (hb : SE g b b') : SE g (.IfExp c a b pos) (.ife c' a' b') := fun X y xc C Wx k => by
  refine PE.imp (pe_ifExp (hc X y xc C Wx k) (ha X y xc C Wx k) (hb X y xc C Wx k)) fun τ Hh Q ⟨F, O, σ, rs, go⟩ => ?_
  unfold ev at go
  refine ⟨F, O, σ, rs, (Go.seq go).imp fun v1 H1 ⟨O1, k1, σ1, A1, n1, rs1, r1, go1⟩ => ?_⟩
  obtain ⟨rfl, _⟩ := r1
  cases v1 with
  | true => exact ⟨F, O1, σ1, rs1.toss, go1⟩
  | false => exact ⟨F, O1, σ1, rs1.toss, go1⟩
/-- a test within and, or: whatever its whole is -/
def SW (g : Gm) (e : Expr) (e' : E) : Prop := ∀ X y xc C Wx, Cok g X y xc C Wx → PW X e (tT y xc Wx C e')
theorem SW.t {e : Expr} {e' : E} (h : SW g e e') : ST g e e' := fun X y xc C Wx k => (h X y xc C Wx k).pt
theorem w_and1 {a : Expr} {a' : E} {pos : Pos} (ha : ST g a a') : SW g (.BoolOp .And [a] pos) a' := fun X y xc C Wx k => pw_and1 (ha X y xc C Wx k)
theorem w_or1 {a : Expr} {a' : E} {pos : Pos} (ha : ST g a a') : SW g (.BoolOp .Or [a] pos) a' := fun X y xc C Wx k => pw_or1 (ha X y xc C Wx k)
theorem w_and {a b : Expr} {r : List Expr} {a' b' : E} {pos : Pos} (ha : ST g a a') (hb : SW g (.BoolOp .And (b :: r) pos) b') : SW g (.BoolOp .And (a :: b :: r) pos) (.and a' b') := fun X y xc C Wx k => by
  refine PW.imp (pw_and (ha X y xc C Wx k) (hb X y xc C Wx k)) fun τ Hh Q ⟨F, O, σ, rs, go⟩ => ?_
  unfold evT at go
  refine ⟨F, O, σ, rs, (Go.seq go).imp fun v1 H1 ⟨O1, k1, σ1, A1, n1, rs1, r1, go1⟩ => ?_⟩
  obtain ⟨rfl, _⟩ := r1
  cases v1 with
  | true => exact ⟨F, O1, σ1, rs1.toss, go1⟩
  | false => exact Go.pure go1 rs1.toss ⟨rfl, rfl⟩
theorem w_or {a b : Expr} {r : List Expr} {a' b' : E} {pos : Pos} (ha : ST g a a') (hb : SW g (.BoolOp .Or (b :: r) pos) b') : SW g (.BoolOp .Or (a :: b :: r) pos) (.or a' b') := fun X y xc C Wx k => by
  refine PW.imp (pw_or (ha X y xc C Wx k) (hb X y xc C Wx k)) fun τ Hh Q ⟨F, O, σ, rs, go⟩ => ?_
  unfold evT at go
  refine ⟨F, O, σ, rs, (Go.seq go).imp fun v1 H1 ⟨O1, k1, σ1, A1, n1, rs1, r1, go1⟩ => ?_⟩
  obtain ⟨rfl, _⟩ := r1
  cases v1 with
  | false => exact ⟨F, O1, σ1, rs1.toss, go1⟩
  | true => exact Go.pure go1 rs1.toss ⟨rfl, rfl⟩
theorem t_not {a : Expr} {a' : E} {pos : Pos} (ha : ST g a a') : ST g (.UnaryOp .Not a pos) (.not a') := fun X y xc C Wx k => by
  refine PT.imp (pt_not (ha X y xc C Wx k)) fun τ Hh Q ⟨F, O, σ, rs, go⟩ => ?_
  unfold evT at go
  refine ⟨F, O, σ, rs, (Go.seq go).imp fun v1 H1 ⟨O1, k1, σ1, A1, n1, rs1, r1, go1⟩ => ?_⟩
  obtain ⟨rfl, _⟩ := r1
  exact Go.pure go1 rs1.toss ⟨rfl, rfl⟩
/-- a value's truth -/
theorem t_val {a : Expr} {a' : E} (hp : plainTest a = true) (ha : SP g a a') (he : ∀ C, evT C a' = (pk a' (ev C a')).bind fun p => (M.get p).bind fun w => M.opt (truth w)) : ST g a a' := fun X y xc C Wx k => by
  refine PT.imp (pt_truth (ha X y xc C Wx k) (test_of hp)) fun τ Hh Q ⟨F, O, σ, rs, go⟩ => ?_
  rw [he] at go
  refine ⟨F, O, σ, rs, (Go.seq go).imp fun v1 H1 ⟨O1, p1, σ1, A1, n1, rs1, r1, go1⟩ => ?_⟩
  obtain ⟨w1, e1, go1⟩ := go1.get
  obtain ⟨B1, q1⟩ := r1.look rs1 e1
  obtain ⟨b, e, go1⟩ := go1.opt
  exact ⟨b, truth_ok k.K q1 e, go1.tst rs1⟩

/-! ### lists of expressions -/
theorem a_nil : SA g [] .nil := fun X y xc C Wx k => by
  refine PA.imp pa_nil fun τ Hh Q ⟨F, O, σ, rs, go⟩ => ?_
  unfold evs at go
  exact Go.pure go rs RVs.nil
theorem RV.later {y : Y} {F : AP} {Hh H1 : Hp} {O O1 : AP} {A : List Addr} {w : W} {v : V} (r : RV y.z Hh O w v A) (n : Nx (plus F A) Hh O H1 O1) (o : ∀ a ∈ A, O a) : RV y.z H1 O1 w v A :=
  RV.stab n.stab _ _ _ r fun a ha => ⟨(n.keep a (.inr ha)).1, (n.keep a (.inr ha)).2 (o a ha)⟩
theorem a_cons {e : Expr} {es : List Expr} {e' : E} {es' : Es} (hn : nst e = true) (he : SE g e e') (hs : SA g es es') : SA g (e :: es) (.cons e' es') := fun X y xc C Wx k => by
  refine PA.imp (pa_cons (he X y xc C Wx k) (hs X y xc C Wx k) (star_cons hn)) fun τ Hh Q ⟨F, O, σ, rs, go⟩ => ?_
  unfold evs at go
  refine ⟨F, O, σ, rs, (Go.seq go).imp fun v1 H1 ⟨O1, w1, σ1, A1, n1, rs1, r1, go1⟩ => ⟨plus F A1, O1, σ1, rs1.park, (Go.seqP rs1.nodup rs1.notF go1).imp fun v2 H2 ⟨O2, w2, σ2, A2, n2, rs2, r2, go2⟩ => ?_⟩⟩
  exact Go.pure go2 (rs2.unpark rs1.nodup rs1.notF) (RVs.cons (r1.later n2 rs1.tm) r2)
theorem ap_nil : SAp g [] .nil := fun X y xc C Wx k => by
  refine PA.imp pa_nil fun τ Hh Q ⟨F, O, σ, rs, go⟩ => ?_
  unfold evPs at go
  exact Go.pure go rs ⟨rfl, rfl⟩
theorem ap_cons {e : Expr} {es : List Expr} {e' : E} {es' : Es} (hn : nst e = true) (he : SP g e e') (hs : SAp g es es') : SAp g (e :: es) (.cons e' es') := fun X y xc C Wx k => by
  refine PA.imp (pa_cons (he X y xc C Wx k) (hs X y xc C Wx k) (star_cons hn)) fun τ Hh Q ⟨F, O, σ, rs, go⟩ => ?_
  unfold evPs at go
  refine ⟨F, O, σ, rs, (Go.seq go).imp fun v1 H1 ⟨O1, w1, σ1, A1, n1, rs1, r1, go1⟩ => ⟨plus F A1, O1, σ1, rs1.park, (Go.seqP rs1.nodup rs1.notF go1).imp fun v2 H2 ⟨O2, w2, σ2, A2, n2, rs2, r2, go2⟩ => ?_⟩⟩
  exact Go.pure go2 (rs2.unpark rs1.nodup rs1.notF) ⟨v1, v2, A1, A2, rfl, rfl, r1.later n2 rs1.tm, r2⟩
theorem s_tup {es : List Expr} {es' : Es} {k1 : Nat} {pos : Pos} (hs : SA g es es') : SE g (.Tuple es k1 pos) (.tup es') := fun X y xc C Wx k => by
  refine PE.imp (pe_tup (hs X y xc C Wx k)) fun τ Hh Q ⟨F, O, σ, rs, go⟩ => ?_
  unfold ev at go
  refine ⟨F, O, σ, rs, (Go.seq go).imp fun vs H1 ⟨O1, ws, σ1, A1, n1, rs1, r1, go1⟩ => ?_⟩
  obtain ⟨w, e, go1⟩ := go1.opt
  split at e
  case isFalse => cases e
  case isTrue hz =>
    cases e
    exact ⟨by rw [← r1.length, ← sz_eq]; exact hz, go1.tup rs1 r1⟩
theorem s_lst {es : List Expr} {es' : Es} {pos : Pos} (hs : SA g es es') : SE g (.List es pos) (.lst es') := fun X y xc C Wx k => by
  refine PE.imp (pe_lst (hs X y xc C Wx k)) fun τ Hh Q ⟨F, O, σ, rs, go⟩ => ?_
  unfold ev at go
  refine ⟨F, O, σ, rs, (Go.seq go).imp fun vs H1 ⟨O1, ws, σ1, A1, n1, rs1, r1, go1⟩ => ?_⟩
  obtain ⟨w, e, go1⟩ := go1.opt
  split at e
  case isFalse => cases e
  case isTrue hz =>
    cases e
    exact ⟨by rw [← r1.length, ← sz_eq]; exact hz, go1.lst rs1 r1⟩
theorem s_ix {a b : Expr} {a' b' : E} {pos : Pos} (hs : notSlice b = true) (ha : SP g a a') (hb : SE g b b') : SE g (.Subscript a b pos) (.ix a' b') := fun X y xc C Wx k => by
  refine PE.imp (pe_ix (ix_ok k.K) (ha X y xc C Wx k) (hb X y xc C Wx k) (plainIx hs)) fun τ Hh Q ⟨F, O, σ, rs, go⟩ => ?_
  unfold ev at go
  refine ⟨F, O, σ, rs, (Go.seq go).imp fun v1 H1 ⟨O1, p1, σ1, A1, n1, rs1, r1, go1⟩ => ⟨plus F A1, O1, σ1, rs1.park, (Go.seqP rs1.nodup rs1.notF go1).imp fun v2 H2 ⟨O2, w2, σ2, A2, n2, rs2, r2, go2⟩ => ?_⟩⟩
  obtain ⟨w1, e1, go2⟩ := go2.get
  obtain ⟨B1, q1⟩ := (r1.later n2 rs1.tm).look rs2 e1
  obtain ⟨w, e, go2⟩ := go2.opt
  cases eg : getIx w1 w2 with
  | none => rw [eg] at e; cases e
  | some w' =>
    rw [eg, Option.bind_some] at e
    split at e
    case isFalse => cases e
    case isTrue hf =>
      cases e
      exact ⟨O2, w1, w2, B1, A2, _, q1, r2, eg, fun z A q => go2.val (rs2.weakF fun _ q => .inl q).toss (q.frz' hf)⟩
theorem o_none : SO g none .none := fun X y xc C Wx k => by
  refine PO.imp po_none fun τ Hh Q ⟨F, O, σ, rs, go⟩ => ?_
  unfold evo at go
  exact Go.pure go rs ⟨rfl, rfl⟩
theorem o_some {e : Expr} {e' : E} (he : SE g e e') : SO g (some e) (.some e') := fun X y xc C Wx k => by
  refine PO.imp (po_some (he X y xc C Wx k)) fun τ Hh Q ⟨F, O, σ, rs, go⟩ => ?_
  unfold evo at go
  refine ⟨F, O, σ, rs, (Go.seq go).imp fun v1 H1 ⟨O1, w1, σ1, A1, n1, rs1, r1, go1⟩ => ?_⟩
  split at go1
  case h_1 i => simp only [RV] at r1; exact ⟨i, r1.1, Go.pure go1 rs1.toss ⟨rfl, rfl⟩⟩
  case h_2 => exact go1.elim
theorem s_sl {a : Expr} {lo hi : Option Expr} {a' : E} {lo' hi' : Eo} {pos p2 : Pos} (ha : SP g a a') (hl : SO g lo lo') (hh : SO g hi hi') : SE g (.Subscript a (.Slice lo hi none p2) pos) (.sl a' lo' hi') := fun X y xc C Wx k => by
  refine ⟨fun pins s τ Hh Q I ⟨F, O, σ, rs, go⟩ => ?_⟩
  refine (pe_slice (sl_ok (xx := XW y xc Wx τ) k.K) (ha X y xc C Wx k) (hl X y xc C Wx k) (hh X y xc C Wx k)).run pins s τ Hh Q I ?_
  unfold ev at go
  refine ⟨F, O, σ, rs, (Go.seq go).imp fun v1 H1 ⟨O1, p1, σ1, A1, n1, rs1, r1, go1⟩ => ⟨plus F A1, O1, σ1, rs1.park, (Go.seqP rs1.nodup rs1.notF go1).imp fun v2 H2 ⟨O2, w2, σ2, A2, n2, rs2, r2, go2⟩ => ?_⟩⟩
  obtain ⟨rfl, rfl⟩ := r2
  refine ⟨plus F A1, O2, σ2, rs2, (Go.seqP rs1.nodup rs1.notF go2).imp fun v3 H3 ⟨O3, w3, σ3, A3, n3, rs3, r3, go3⟩ => ?_⟩
  obtain ⟨rfl, rfl⟩ := r3
  obtain ⟨w1, e1, go3⟩ := go3.get
  have r2' := r1.later n2 rs1.tm
  obtain ⟨B1, q1⟩ := (RP.later (F := F) r2' n3 (fun a ha => rs2.fr a (.inr ha))).look rs3 e1
  exact ⟨F, O3, σ3, τ, w1, B1, rs3.weakF fun _ q => .inl q, q1, go3⟩

/-! ### calls -/
def gl (g : Gm) (x : Str) : Prop := g.sc.names.lookup x = some .globalImplicit
theorem Cok.nohot {X : Cx} {y : Y} {xc : Nat → Option Addr} {C : Calls} {Wx : WX} (k : Cok g X y xc C Wx) (hc : g.calm = true) : y.hot = none := by
  cases e : y.hot with
  | none => rfl
  | some p =>
    obtain ⟨i, v⟩ := p
    obtain ⟨h, _⟩ := k.hot i v e
    rw [hc] at h
    cases h
theorem Cok.gl {X : Cx} {y : Y} {xc : Nat → Option Addr} {C : Calls} {Wx : WX} {x : Str} (k : Cok g X y xc C Wx) (h : gl g x) : Gl X x := by
  unfold Gl Env.kindOf
  rw [k.sc]
  exact h
/-- the names at which the lent things stood -/
def Lk (τ : L2.St) : List (Option Nat) → List V → Prop
  | [], vs => vs = []
  | none :: ls, vs => ∃ v r, vs = v :: r ∧ Lk τ ls r
  | some i :: ls, vs => ∃ v r, vs = v :: r ∧ τ[i]? = some (some v) ∧ Lk τ ls r
theorem lend_ok {y : Y} {F : AP} {Hh : Hp} {O : AP} {τ : L2.St} : ∀ {ps : List P} {vs : List V} {A T : List Addr} {σ σ' : St} {ws : List W} {ls : List (Option Nat)}, RPs y.z τ Hh O ps vs A → RS y Hh O F (T ++ A) σ τ → lend ps σ = some (ws, ls, σ') →
    ∃ B, RVs y.z Hh O ws vs B ∧ RS y Hh O F (T ++ B) σ' τ ∧ Lk τ ls vs
  | [], vs, A, T, σ, σ', ws, ls, h, rs, e => by
    cases e
    obtain ⟨rfl, rfl⟩ := h
    exact ⟨[], .nil, rs, rfl⟩
  | .val w :: ps, vs, A, T, σ, σ', ws, ls, ⟨v, r, B, C, e1, e2, h1, h2⟩, rs, e => by
    subst e1 e2
    unfold lend at e
    split at e
    case h_2 => cases e
    case h_1 ws' ls' σ1 e' =>
      cases e
      obtain ⟨D, q1, q2, q3⟩ := lend_ok (T := T ++ B) h2 (by rw [List.append_assoc]; exact rs) e'
      exact ⟨B ++ D, RVs.cons h1 q1, by rw [← List.append_assoc]; exact q2, v, r, rfl, q3⟩
  | .at i :: ps, vs, A, T, σ, σ', ws, ls, ⟨v, r, B, C, e1, e2, h1, h2⟩, rs, e => by
    subst e1 e2
    obtain ⟨rfl, et⟩ := h1
    rw [List.nil_append] at rs
    unfold lend at e
    split at e
    case h_2 => cases e
    case h_1 w ew =>
      split at e
      case isTrue hf =>
        split at e
        case h_2 => cases e
        case h_1 ws' ls' σ1 e' =>
          cases e
          obtain ⟨v', B', q1, q2⟩ := rs.look ew
          rw [et] at q1; cases q1
          obtain ⟨D, q3, q4, q5⟩ := lend_ok (T := T) h2 rs e'
          exact ⟨[] ++ D, RVs.cons (q2.frz' hf) q3, q4, v, r, rfl, q5⟩
      case isFalse hf =>
        split at e
        case h_2 => cases e
        case h_1 ws' ls' σ1 e' =>
          cases e
          obtain ⟨v', B', q1, q2, q3⟩ := rs.out ew
          rw [et] at q1; cases q1
          obtain ⟨D, q4, q5, q6⟩ := lend_ok (T := T ++ B') h2 (q3.perm (by rw [List.append_assoc, List.append_assoc]; exact List.perm_append_comm.append_left T)) e'
          exact ⟨B' ++ D, RVs.cons q2 q4, by rw [← List.append_assoc]; exact q5, v, r, rfl, et, q6⟩
theorem back_ok {y : Y} {F : AP} {Hh : Hp} {O : AP} {τ : L2.St} : ∀ {ls : List (Option Nat)} {ws : List W} {vs : List V} {B T : List Addr} {σ : St}, Lk τ ls vs → RVs y.z Hh O ws vs B → RS y Hh O F (T ++ B) σ τ → RS y Hh O F T (back ls ws σ) τ
  | [], [], vs, B, T, σ, _, r, rs => by
    unfold back
    exact rs.less (List.sublist_append_left _ _)
  | [], w :: ws, vs, B, T, σ, hl, r, rs => by
    cases hl
    simp only [RVs] at r
    obtain ⟨_, _, _, _, e, _⟩ := r
    cases e
  | none :: ls, [], vs, B, T, σ, ⟨v, r, e, h⟩, rr, rs => by
    subst e
    simp only [RVs] at rr
    cases rr.1
  | some i :: ls, [], vs, B, T, σ, ⟨v, r, e, _, h⟩, rr, rs => by
    subst e
    simp only [RVs] at rr
    cases rr.1
  | none :: ls, w :: ws, vs, B, T, σ, ⟨v, r, e, h⟩, rr, rs => by
    subst e
    simp only [RVs] at rr
    obtain ⟨v', r', B1, C, e1, e2, h1, h2⟩ := rr
    cases e1
    subst e2
    unfold back
    exact back_ok h h2 (rs.less ((List.sublist_append_right B1 C).append_left T))
  | some i :: ls, w :: ws, vs, B, T, σ, ⟨v, r, e, et, h⟩, rr, rs => by
    subst e
    simp only [RVs] at rr
    obtain ⟨v', r', B1, C, e1, e2, h1, h2⟩ := rr
    cases e1
    subst e2
    unfold back
    refine back_ok h h2 ?_
    refine RS.putBack (B := B1) ?_ et h1
    refine ((rs.drop i).perm ?_)
    rw [List.append_assoc]
    exact List.perm_append_comm.append_left T
theorem rsl_none {z : Z} {Hh : Hp} {O : AP} : ∀ {σ : St} {τ : L2.St}, σ.length = τ.length → RSl z Hh O (σ.map fun _ => none) τ []
  | [], [], _ => ⟨rfl, rfl⟩
  | [], _ :: _, h => by simp at h
  | _ :: _, [], h => by simp at h
  | _ :: σ, t :: τ, h => ⟨t, τ, rfl, rsl_none (by simpa using h)⟩
theorem call_fin {y : Y} {xc : Nat → Option Addr} {C : Calls} {Wx : WX} {i : Nat} {F : AP} {H1 : Hp} {O1 : AP} {τ : L2.St} {σ1 : St} {ps1 : List P} {vs : List V} {A1 : List Addr} {Q : V → Hp → Prop} (rs1 : RS y H1 O1 F A1 σ1 τ) (r1 : RPs y.z τ H1 O1 ps1 vs A1)
    (go1 : Go y F H1 O1 τ (RVR y) (XW y xc Wx τ) (doCall (C.f i) ps1 σ1) Q) : spI y.z xc C i vs H1 Q (WE Wx τ) := by
  unfold doCall at go1
  split at go1
  case h_1 => exact go1.elim
  case h_2 ws ls σ2 el =>
    obtain ⟨B, q1, q2, q3⟩ := lend_ok (T := []) r1 rs1 el
    rw [List.nil_append] at q2
    obtain ⟨AA, qa, qnd, qd⟩ := q2.sl
    have hsl : RS y H1 O1 F (B ++ AA) (σ2.map fun _ => none) τ := by
      refine ⟨⟨[], ?_, by rw [List.append_nil]; exact qnd, fun a ha => qd a (by rw [List.append_nil] at ha; exact ha)⟩, fun a ha => ?_, q2.fr, q2.dom, q2.hot, q2.fx⟩
      · exact rsl_none qa.length
      · rcases List.mem_append.mp ha with ha | ha
        · exact q2.tm a ha
        · exact qa.own a ha
    have cs0 := CS.of hsl
    have cs : CS y.z H1 O1 (plus F AA) B := by
      obtain ⟨Z, r0, nd0, d0⟩ := cs0.sl
      refine ⟨⟨[], ⟨rfl, rfl⟩, by rw [List.append_nil]; exact (List.nodup_append.mp qnd).1, fun a ha q => ?_⟩, q2.tm, fun a q => ?_, q2.dom, fun _ _ e => (by cases e), fun _ _ e => (by cases e)⟩
      · rw [List.append_nil] at ha
        rcases q with q | q
        · exact qd a (List.mem_append_left _ ha) q
        · exact (List.nodup_append.mp qnd).2.2 a ha a q rfl
      · rcases q with q | q
        · exact q2.fr a q
        · exact qa.own a q
    have later : ∀ {H' : Hp} {O' : AP} {T : List Addr}, Nx (plus F AA) H1 O1 H' O' → CS y.z H' O' (plus F AA) T → RS y H' O' F T σ2 τ := fun {H' O' T} n c => by
      obtain ⟨Z, r0, nd0, d0⟩ := c.sl
      obtain ⟨_, rfl⟩ := r0
      rw [List.append_nil] at nd0
      refine ⟨⟨AA, qa.stab n.stab fun a ha => ⟨(n.keep a (.inr ha)).1, (n.keep a (.inr ha)).2 (qa.own a ha)⟩, List.nodup_append.mpr ⟨nd0, (List.nodup_append.mp qnd).2.1, fun a ha b hb e => d0 a (List.mem_append_left _ ha) (.inr (e ▸ hb))⟩, fun a ha q => ?_⟩, c.tm, fun a q => c.fr a (.inl q), c.dom, q2.hot, q2.fx⟩
      rcases List.mem_append.mp ha with ha | ha
      · exact d0 a (List.mem_append_left _ ha) (.inl q)
      · exact qd a (List.mem_append_right _ ha) q
    refine ⟨plus F AA, O1, ws, B, cs, q1, ?_⟩
    unfold GoC
    split at go1
    case h_1 w outs ec =>
      rw [ec]
      intro H' O' v A B' n c rv ro
      exact go1 H' O' v A (n.weak fun _ q => .inl q) (back_ok q3 ro (later n c)) rv
    case h_2 x outs ec =>
      rw [ec]
      intro H' O' B' cls d n c ro rx
      exact go1 H' O' (n.weak fun _ q => .inl q) (back_ok (T := []) q3 ro (later n c)) cls d rx
    case h_3 => exact go1.elim
theorem s_call {x : Str} {i : Nat} {e : Expr} {es : List Expr} {es' : Es} {p pos : Pos} (hc : g.calm = true) (hg : g.G.lookup x = some (.fn i)) (hk : gl g x) (hd : (x == ("__debug__" : Str)) = false) (hn : (e :: es).all nst = true) (hs : SAp g (e :: es) es') :
    SE g (.Call (.Name x p) (e :: es) [] pos) (.call i es') := fun X y xc C Wx k => by
  obtain ⟨a, ea, hm⟩ := k.glob x _ hg
  obtain ⟨kp, fd, ps, lv, hb, Fn, hr⟩ := k.calls hc i a ea
  rw [List.all_cons, Bool.and_eq_true] at hn
  refine PE.imp (pe_callS Fn hr (k.gl hk) hm kp hb (fun σ => passAt k.tk σ) (hs X y xc C Wx k) hd (star_cons hn.1) (star_any hn.2)) fun τ Hh Q ⟨F, O, σ, rs, go⟩ => ?_
  unfold ev at go
  exact ⟨F, O, σ, rs, (Go.seq go).imp fun vs H1 ⟨O1, ps1, σ1, A1, n1, rs1, r1, go1⟩ => call_fin rs1 r1 go1⟩
/-- a call without arguments -/
theorem s_call0 {x : Str} {i : Nat} {p pos : Pos} (hc : g.calm = true) (hg : g.G.lookup x = some (.fn i)) (hk : gl g x) (hd : (x == ("__debug__" : Str)) = false) :
    SE g (.Call (.Name x p) [] [] pos) (.call i .nil) := fun X y xc C Wx k => by
  obtain ⟨a, ea, hm⟩ := k.glob x _ hg
  obtain ⟨kp, fd, ps, lv, hb, Fn, hr⟩ := k.calls hc i a ea
  refine ⟨fun pins s τ Hh Q I ⟨F, O, σ, rs, go⟩ => ?_⟩
  refine wpAny_Call_Name_kw (ld_glob I (k.gl hk) hm ?_ hd)
  refine PySem.W.callWith_K0 I.kIn kp (run_fnS (E := WE Wx) (us := []) Fn hr hb (passAt k.tk τ) I .nil ?_)
  unfold ev evPs at go
  exact call_fin (ps1 := []) (A1 := []) rs ⟨rfl, rfl⟩ go
/-- the def that a name holds is called -/
theorem s_callv {x : Str} {i : Nat} {e : Expr} {es : List Expr} {es' : Es} {p pos : Pos} (hc : g.calm = true) (hN : g.N[i]? = some x) (hv : Vis g.sc x) (hd : (x == ("__debug__" : Str)) = false) (hcd : (x == ("__classdict__" : Str)) = false) (hn : (e :: es).all nst = true) (hs : SAp g (e :: es) es') :
    SE g (.Call (.Name x p) (e :: es) [] pos) (.callv i es') := fun X y xc C Wx k => by
  rw [List.all_cons, Bool.and_eq_true] at hn
  refine ⟨fun pins s τ Hh Q I ⟨F, O, σ, rs, go⟩ => ?_⟩
  unfold ev at go
  split at go
  case h_2 => exact go.elim
  case h_1 f e =>
    obtain ⟨v, B, et, rv⟩ := rs.look e
    simp only [RV] at rv
    obtain ⟨_, a, ea, rfl⟩ := rv
    obtain ⟨kp, fd, ps, lv, hb, Fn, hr⟩ := k.calls hc f a ea
    have q : tAp y xc Wx C es' τ Hh (fun vs H1 => spI y.z xc C f vs H1 Q (WE Wx τ)) := ⟨F, O, σ, rs, (Go.seq go).imp fun vs H1 ⟨O1, ps1, σ1, A1, n1, rs1, r1, go1⟩ => call_fin rs1 r1 go1⟩
    refine wpAny_Call_Name_kw (thn ((vis_pe (pos := p) hN hv hd hcd k).run pins s τ Hh (fun v H1 => v = .ref a ∧ H1 = Hh) I ⟨.ref a, et, rfl, rfl⟩) fun u s1 ⟨v, H1, I1, r1, q1⟩ => ?_)
    obtain ⟨rfl, rfl⟩ := q1
    cases r1
    refine PySem.W.callWith_K (h₀ := X.base) I.ok.mod.kin kp (thn ((hs X y xc C Wx k).run pos pins s1 τ _ _ I1 q) fun us s2 ⟨vs, H2, I2, r, q⟩ => ⟨I2.kIn, ?_⟩) (star_cons hn.1) (star_any hn.2)
    exact run_fnS (E := WE Wx) Fn hr hb (passAt k.tk τ) I2 r q
/-- an item of a dict from texts to defs -/
theorem s_fdx {x : Str} {tbl : List (List Char × Nat)} {b : Expr} {b' : E} {px pos : Pos} (hg : g.G.lookup x = some (.fdic tbl)) (hk : gl g x) (hd : (x == ("__debug__" : Str)) = false) (hs : notSlice b = true) (hb : SE g b b') : SE g (.Subscript (.Name x px) b pos) (.fdx tbl b') := fun X y xc C Wx k => by
  obtain ⟨a, hm, ht⟩ := k.glob x _ hg
  refine PE.imp (pe_ix ix_kdict (pe_glob (x := x) (pos := px) (v := .ref a) (k.gl hk) hm (show RelV (.ref a) (Value.ref a) from rfl) hd) (hb X y xc C Wx k) (plainIx hs)) fun τ Hh Q ⟨F, O, σ, rs, go⟩ => ?_
  unfold ev at go
  refine ⟨F, O, σ, rs, (Go.seq go).imp fun v1 H1 ⟨O1, w1, σ1, A1, n1, rs1, r1, go1⟩ => ?_⟩
  obtain ⟨w, ew, go1⟩ := go1.opt
  unfold fdxW at ew
  split at ew
  case h_2 => cases ew
  case h_1 s =>
    cases el : tbl.lookup s with
    | none => rw [el] at ew; cases ew
    | some i =>
      rw [el] at ew
      cases ew
      obtain ⟨f, ef, kd⟩ := ht s i el
      simp only [RV] at r1
      refine ⟨a, strV s, .ref f, rfl, r1.1, kd, go1.val rs1.toss ?_⟩
      simp only [RV]
      exact ⟨by trivial, f, ef, rfl⟩
theorem s_bif {x : Str} {id : Value} {b : BI} {e : Expr} {es : List Expr} {es' : Es} {p pos : Pos} (hid : (∃ n, id = .builtin n) ∨ ∃ n, id = .type n) (hr : ∀ (X : Cx) (y : Y) (xx : XX), y.z.K = X.K → (g.calm = true → X.calm = true) → CallR X id (rBif y xx b)) (hg : g.G.lookup x = some .bltn) (hk : gl g x) (hv : bootBuiltins x = some id)
    (hd : (x == ("__debug__" : Str)) = false) (hnm : x ≠ "__name__") (hn : (e :: es).all nst = true) (hs : SAp g (e :: es) es') : SE g (.Call (.Name x p) (e :: es) [] pos) (.blt b es') := fun X y xc C Wx k => by
  refine ⟨fun pins s τ Hh Q I ⟨F, O, σ, rs, go⟩ => ?_⟩
  rw [List.all_cons, Bool.and_eq_true] at hn
  have q : tCB (rBif y (XW y xc Wx τ) b) (tAp y xc Wx C es') τ Hh Q := by
    unfold ev at go
    refine ⟨F, O, σ, rs, (Go.seq go).imp fun vs H1 ⟨O1, ps1, σ1, A1, n1, rs1, r1, go1⟩ => ?_⟩
    unfold M.bind at go1
    cases eg : M.gets ps1 σ1 with
    | none => rw [eg] at go1; exact go1.elim
    | some r =>
      obtain ⟨ws, B, rfl, q1⟩ := r1.gets rs1 eg
      rw [eg] at go1
      exact ⟨F, O1, σ1, τ, ws, B, rs1.toss, q1, go1⟩
  rcases hid with ⟨n, rfl⟩ | ⟨n, rfl⟩
  · exact (pe_callB (hr X y (XW y xc Wx τ) k.K k.calm) (k.gl hk) (k.glob x _ hg) hv (hs X y xc C Wx k) hnm hd (star_cons hn.1) (star_any hn.2)).run pins s τ Hh Q I q
  · exact (pe_callTy (hr X y (XW y xc Wx τ) k.K k.calm) (k.gl hk) (k.glob x _ hg) hv (hs X y xc C Wx k) hnm hd (star_cons hn.1) (star_any hn.2)).run pins s τ Hh Q I q
end
end PV

/-! V2e: methods, isinstance, walks, targets. -/
namespace PV
open PySem L2

theorem wipe_get (τ : L2.St) : ∀ (vs : List Nat) (j : Nat), (L2.wipe τ vs)[j]? = if j ∈ vs then (if j < τ.length then some none else none) else τ[j]?
  | [], j => by simp [L2.wipe]
  | v :: vs, j => by
    unfold L2.wipe
    by_cases hj : v = j
    · subst hj
      rw [if_pos List.mem_cons_self]
      by_cases hl : v < τ.length
      · rw [if_pos hl, List.getElem?_set_self (by rw [wipe_length]; exact hl)]
      · rw [if_neg hl, List.getElem?_eq_none (by rw [List.length_set, wipe_length]; omega)]
    · rw [List.getElem?_set_ne hj, wipe_get τ vs j]
      by_cases hm : j ∈ vs
      · rw [if_pos hm, if_pos (List.mem_cons_of_mem _ hm)]
      · rw [if_neg hm, if_neg (by simp only [List.mem_cons, not_or]; exact ⟨fun e => hj e.symm, hm⟩)]
theorem wipe_set {τ : L2.St} {vs : List Nat} {i : Nat} {x : Option V} (h : i ∈ vs) : L2.wipe (τ.set i x) vs = L2.wipe τ vs := by
  apply List.ext_getElem?
  intro j
  rw [wipe_get, wipe_get, List.length_set]
  by_cases hm : j ∈ vs
  · rw [if_pos hm, if_pos hm]
  · rw [if_neg hm, if_neg hm, List.getElem?_set_ne (fun e : i = j => hm (by rw [← e]; exact h))]
theorem wipe_wipe {τ : L2.St} {vs : List Nat} : L2.wipe (L2.wipe τ vs) vs = L2.wipe τ vs := by
  apply List.ext_getElem?
  intro j
  rw [wipe_get, wipe_get, wipe_length]
  by_cases hm : j ∈ vs
  · rw [if_pos hm, if_pos hm]
  · rw [if_neg hm, if_neg hm]

theorem frzs_get : ∀ {ws : List W} {i : Nat} {w : W}, W.frzs ws = true → ws[i]? = some w → w.frz = true
  | [], i, w, _, e => by simp at e
  | x :: ws, 0, w, h, e => by
    simp only [W.frzs, Bool.and_eq_true] at h
    simp at e; subst e
    exact h.1
  | x :: ws, i + 1, w, h, e => by
    simp only [W.frzs, Bool.and_eq_true] at h
    exact frzs_get (i := i) h.2 (by simpa using e)
section
variable {g : Gm}
/-! ### methods that change a list that a name holds -/
theorem recvL_ty {z : Z} {Hh : Hp} {O : AP} {w : W} {v : V} {A : List Addr} {u : Unit} {K : PySem.W.Frag} (r : RV z Hh O w v A) (e : recvL w = some u) : tyV K "list" v Hh := by
  unfold recvL at e
  split at e
  case h_1 o xs =>
    obtain ⟨a, vs, B, rfl, e2, _⟩ := r.lst_at
    exact .inl ⟨rfl, vs, .of e2⟩
  case h_2 => cases e
theorem s_mut0 {id : String} {name : Str} {m : MV} {i : Nat} {x : Str} {p1 apos pos : Pos} (slot : Slot "list" name id) (hty : typeOf (.builtin id) = pure (.type "method_descriptor")) (hr : ∀ (X : Cx) (y : Y) (xx : XX), MtR X id (rMut y xx m i))
    (hN : g.N[i]? = some x) (hv : Vis g.sc x) (hd : (x == ("__debug__" : Str)) = false) (hcd : (x == ("__classdict__" : Str)) = false) (hl : (apos.endLine == pos.line) = true) : SE g (.Call (.Attribute (.Name x p1) name apos) [] [] pos) (.mut m i .nil) := fun X y xc C Wx k => by
  refine ⟨fun pins s τ Hh Q I ⟨F, O, σ, rs, go⟩ => ?_⟩
  refine (pe_bm0 PySem.F.plainAttrs_list slot hty (hr X y (XW y xc Wx τ)) (vis_pe hN hv hd hcd k) rfl hl).run pins s τ Hh Q I ?_
  unfold ev at go
  obtain ⟨w, ew, go⟩ := go.get
  obtain ⟨u, eu, go⟩ := go.optB
  simp only [P.get] at ew
  split at ew
  case h_2 => cases ew
  case h_1 w' e =>
    cases ew
    obtain ⟨v, B, et, rv⟩ := rs.look e
    refine ⟨v, et, recvL_ty rv eu, ?_⟩
    unfold evs at go
    exact ⟨F, O, σ, τ, [], [], rs, .nil, et, go⟩
theorem s_mut1 {id : String} {name : Str} {m : MV} {i : Nat} {x : Str} {e : Expr} {es' : Es} {p1 apos pos : Pos} (slot : Slot "list" name id) (hty : typeOf (.builtin id) = pure (.type "method_descriptor")) (hr : ∀ (X : Cx) (y : Y) (xx : XX), MtR X id (rMut y xx m i))
    (hN : g.N[i]? = some x) (hv : Vis g.sc x) (hd : (x == ("__debug__" : Str)) = false) (hcd : (x == ("__classdict__" : Str)) = false) (hl : (apos.endLine == pos.line) = true) (hn : nst e = true) (ha : SA g [e] es') : SE g (.Call (.Attribute (.Name x p1) name apos) [e] [] pos) (.mut m i es') := fun X y xc C Wx k => by
  refine ⟨fun pins s τ Hh Q I ⟨F, O, σ, rs, go⟩ => ?_⟩
  refine (pe_bm PySem.F.plainAttrs_list slot hty (hr X y (XW y xc Wx τ)) (vis_pe hN hv hd hcd k) (ha X y xc C Wx k) rfl (by rw [star_cons hn]; rfl) hl (star_cons hn) rfl).run pins s τ Hh Q I ?_
  unfold ev at go
  obtain ⟨w, ew, go⟩ := go.get
  obtain ⟨u, eu, go⟩ := go.optB
  simp only [P.get] at ew
  split at ew
  case h_2 => cases ew
  case h_1 w' e =>
    cases ew
    obtain ⟨v, B, et, rv⟩ := rs.look e
    refine ⟨v, et, recvL_ty rv eu, F, O, σ, rs, (Go.seq go).imp fun vs H1 ⟨O1, ws, σ1, A1, n1, rs1, r1, go1⟩ => ?_⟩
    exact ⟨F, O1, σ1, τ, ws, A1, rs1, r1, et, go1⟩
theorem recvS_ty {z : Z} {Hh : Hp} {O : AP} {w : W} {v : V} {A : List Addr} {u : Unit} {K : PySem.W.Frag} (r : RV z Hh O w v A) (e : recvS w = some u) : tyV K "str" v Hh := by
  unfold recvS at e
  split at e
  case h_1 t => simp only [RV] at r; rw [r.1]; rfl
  case h_2 => cases e
def recT : MI → String
  | .join => "str"
  | .index => "list"
theorem recv_ty {z : Z} {Hh : Hp} {O : AP} {m : MI} {w : W} {v : V} {A : List Addr} {u : Unit} {K : PySem.W.Frag} (r : RV z Hh O w v A) (e : recv m w = some u) : tyV K (recT m) v Hh := by
  cases m
  case join => exact recvS_ty r e
  case index => exact recvL_ty r e
theorem s_meth1 {T id : String} {name : Str} {m : MI} {o e : Expr} {o' : E} {es' : Es} {apos pos : Pos} (pa : PlainAttrs T) (slot : Slot T name id) (hty : typeOf (.builtin id) = pure (.type "method_descriptor")) (hr : ∀ (X : Cx) (y : Y) (xx : XX), y.z.K = X.K → X.A.units + 65 < cLine → MtR X id (rMet y xx m))
    (hT : recT m = T) (hb : notCall0 o = true) (hl : (apos.endLine == pos.line) = true) (hn : nst e = true) (ho : SP g o o') (ha : SAp g [e] es') : SE g (.Call (.Attribute o name apos) [e] [] pos) (.meth m o' es') := fun X y xc C Wx k => by
  refine ⟨fun pins s τ Hh Q I ⟨F, O, σ, rs, go⟩ => ?_⟩
  refine (pe_bm pa slot hty (hr X y (XW y xc Wx τ) k.K (by have := k.units; omega)) (ho X y xc C Wx k) (ha X y xc C Wx k) (base_of hb) (by rw [star_cons hn]; rfl) hl (star_cons hn) rfl).run pins s τ Hh Q I ?_
  unfold ev at go
  refine ⟨F, O, σ, rs, (Go.seq go).imp fun v1 H1 ⟨O1, p1, σ1, A1, n1, rs1, r1, go1⟩ => ?_⟩
  obtain ⟨w1, e1, go1⟩ := go1.get
  obtain ⟨B1, q1⟩ := r1.look rs1 e1
  obtain ⟨u, eu, go1⟩ := go1.optB
  refine ⟨hT ▸ recv_ty q1 eu, plus F A1, O1, σ1, rs1.park, (Go.seqP rs1.nodup rs1.notF go1).imp fun v2 H2 ⟨O2, p2, σ2, A2, n2, rs2, r2, go2⟩ => ?_⟩
  obtain ⟨w1', e1', go2⟩ := go2.get
  obtain ⟨B2, q2⟩ := (r1.later n2 rs1.tm).look rs2 e1'
  unfold M.bind at go2
  cases eg : M.gets p2 σ2 with
  | none => rw [eg] at go2; exact go2.elim
  | some r =>
    obtain ⟨ws, B3, rfl, q3⟩ := r2.gets rs2 eg
    rw [eg] at go2
    exact ⟨F, O2, σ2, τ, w1', ws, B2, B3, (rs2.weakF fun _ q => .inl q).toss, q2, q3, go2⟩
theorem s_join {o e : Expr} {o' : E} {es' : Es} {apos pos : Pos} (hb : notCall0 o = true) (hl : (apos.endLine == pos.line) = true) (hn : nst e = true) (ho : SP g o o') (ha : SAp g [e] es') : SE g (.Call (.Attribute o "join" apos) [e] [] pos) (.meth .join o' es') :=
  s_meth1 PySem.F.plainAttrs_str PySem.F.slot_str_join PySem.F.type_str_join (fun _ _ _ hK _ => mi_join hK) rfl hb hl hn ho ha
theorem s_index {o e : Expr} {o' : E} {es' : Es} {apos pos : Pos} (hb : notCall0 o = true) (hl : (apos.endLine == pos.line) = true) (hn : nst e = true) (ho : SP g o o') (ha : SAp g [e] es') : SE g (.Call (.Attribute o "index" apos) [e] [] pos) (.meth .index o' es') :=
  s_meth1 PySem.F.plainAttrs_list PySem.F.slot_list_index PySem.F.type_list_index (fun _ _ _ hK hu => mi_index hK hu) rfl hb hl hn ho ha
/-! ### a list within a list of one's own -/
theorem RVs.spl {z : Z} {Hh : Hp} {O : AP} : ∀ {ws : List W} {vs : List V} {A : List Addr} {n : Nat} {w : W}, RVs z Hh O ws vs A → ws[n]? = some w → ∃ v P B S, vs[n]? = some v ∧ A = P ++ (B ++ S) ∧ RV z Hh O w v B ∧
    ∀ (H' : Hp) (O' : AP) (w' : W) (B' : List Addr), Stab Hh O H' O' → (∀ c, c ∈ P ∨ c ∈ S → H' c = Hh c ∧ O' c) → RV z H' O' w' v B' → RVs z H' O' (ws.set n w') vs (P ++ (B' ++ S))
  | [], _, _, n, w, h, e => by simp at e
  | w0 :: ws, _, _, 0, w, h, e => by
    simp only [RVs] at h
    obtain ⟨v, r, B, C, e1, e2, h1, h2⟩ := h
    subst e1 e2
    simp at e; subst e
    exact ⟨v, [], B, C, rfl, rfl, h1, fun H' O' w' B' s k r' => RVs.cons (A := B') (B := C) r' (RVs.stab s _ _ _ h2 fun a ha => k a (.inr ha))⟩
  | w0 :: ws, _, _, n + 1, w, h, e => by
    simp only [RVs] at h
    obtain ⟨v, r, B, C, e1, e2, h1, h2⟩ := h
    subst e1 e2
    obtain ⟨v', P, B', S, q1, q2, q3, q4⟩ := RVs.spl (n := n) (w := w) h2 (by simpa using e)
    subst q2
    refine ⟨v', B ++ P, B', S, by simpa using q1, by simp, q3, fun H' O' w' B'' s k r => ?_⟩
    rw [List.append_assoc]
    exact RVs.cons (RV.stab s _ _ _ h1 fun a ha => k a (.inl (List.mem_append_left _ ha))) (q4 H' O' w' B'' s (fun c hc => k c (hc.imp (List.mem_append_right _) id)) r)
theorem inAt_inv {x y : W} (h : inAt y x = true) : ∃ xs j n ys, x = .lst true xs ∧ y = .int j ∧ ixn xs.length j = some n ∧ xs[n]? = some (.lst true ys) := by
  unfold inAt at h
  split at h
  case h_2 => cases h
  case h_1 xs =>
    split at h
    case h_2 => cases h
    case h_1 j =>
      split at h
      case h_2 => cases h
      case h_1 n en =>
        split at h
        case h_2 => cases h
        case h_1 ys ey => exact ⟨xs, j, n, ys, rfl, rfl, en, ey⟩
theorem s_appAt {x : Str} {o : Nat} {i e : Expr} {i' e' : E} {p1 p2 apos pos : Pos} (hN : g.N[o]? = some x) (hv : Vis g.sc x) (hd : (x == ("__debug__" : Str)) = false) (hcd : (x == ("__classdict__" : Str)) = false) (hl : (apos.endLine == pos.line) = true) (hsl : notSlice i = true) (hn : nst e = true) (hi : SE g i i') (he : SE g e e') :
    SE g (.Call (.Attribute (.Subscript (.Name x p1) i p2) "append" apos) [e] [] pos) (.appAt o i' e') := fun X y xc C Wx k => by
  refine ⟨fun pins s τ Hh Q I ⟨F, O, σ, rs, go⟩ => ?_⟩
  refine (pe_bm PySem.F.plainAttrs_list PySem.F.slot_list_append PySem.F.type_list_append mt_append (pe_ix ix_list (vis_pe (pos := p1) hN hv hd hcd k) (hi X y xc C Wx k) (plainIx hsl)) (pa_cons (he X y xc C Wx k) pa_nil (star_cons hn)) (base_of rfl) (by rw [star_cons hn]; rfl) hl (star_cons hn) rfl).run pins s τ Hh Q I ?_
  unfold ev at go
  obtain ⟨w0, ew, go⟩ := go.get
  simp only [P.get] at ew
  split at ew
  case h_2 => cases ew
  case h_1 w0' e0 =>
    obtain ⟨v0, B0, et, _⟩ := rs.look e0
    refine ⟨v0, et, F, O, σ, rs, (Go.seq go).imp fun v1 H1 ⟨O1, w1, σ1, A1, n1, rs1, r1, go1⟩ => ?_⟩
    have rs1 := rs1.toss
    unfold M.bind takeAt at go1
    split at go1
    case h_1 en => 
      split at en
      case h_2 => exact go1.elim
      case h_1 xx ex =>
        split at en
        case isTrue => cases en
        case isFalse => exact go1.elim
    case h_2 en =>
      split at en
      case h_2 => cases en
      case h_1 xx ex =>
        split at en
        case isTrue => cases en
        case isFalse => cases en
    case h_3 x' σ' en =>
      split at en
      case h_2 => cases en
      case h_1 xx ex =>
        split at en
        case isFalse => cases en
        case isTrue hin =>
          cases en
          obtain ⟨xs, j, n, ys, rfl, rfl, hixn, hys⟩ := inAt_inv hin
          simp only [RV] at r1
          obtain ⟨rfl, rfl⟩ := r1
          obtain ⟨v', B, e1, rl, rs2⟩ := rs1.out ex
          rw [et] at e1; cases e1
          rw [List.nil_append] at rs2
          simp only [RV] at rl
          obtain ⟨a, vs, B1, rfl, rfl, oa, ea, rx⟩ := rl
          obtain ⟨vn, Pp, Bn, Ss, q1, q2, q3, q4⟩ := rx.spl hys
          subst q2
          simp only [RV] at q3
          obtain ⟨b, us, B2, rfl, rfl, ob, eb, ry⟩ := q3
          refine ⟨a, vs, j, .ref b, rfl, rfl, SqL.of ea, ?_, .inl ⟨rfl, us, .of eb⟩, plus F (a :: (Pp ++ ((b :: B2) ++ Ss))), O1, σ1.set o none, rs2.park, (Go.seqP rs2.nodup rs2.notF go1).imp fun v2 H2 ⟨O2, w2, σ2, A2, n2, rs3, r2, go2⟩ => ?_⟩
          · unfold atI
            rw [← rx.length, ← ixn_eq, hixn]
            exact q1
          · have mb : b ∈ a :: (Pp ++ ((b :: B2) ++ Ss)) := by simp
            unfold putAt at go2
            split at go2
            case h_2 => exact go2.elim
            case h_1 x2 ea2 =>
              unfold appAtW at ea2
              dsimp only at ea2
              rw [hixn] at ea2
              dsimp only at ea2
              rw [hys] at ea2
              dsimp only at ea2
              split at ea2
              case isFalse => cases ea2
              case isTrue hz =>
                cases ea2
                have eb2 : H2 b = some (.lst us) := (n2.keep b (.inr mb)).1 ▸ eb
                refine ⟨b, us, v2, rfl, rfl, eb2, by rw [← ry.length, ← sz_eq]; exact hz, ?_⟩
                have rs4 := (rs3.unpark rs2.nodup rs2.notF).drop o
                have hnd := rs4.nodup
                have nd1 := List.nodup_cons.mp (show (a :: ((Pp ++ ((b :: B2) ++ Ss)) ++ A2)).Nodup from hnd)
                obtain ⟨rs5, n5, ne⟩ := rs4.change (u := .lst (us ++ [v2])) (p := b) (List.mem_append_left _ mb)
                have hst : Stab H1 O1 (upd H2 b (.lst (us ++ [v2]))) O2 := n2.stab.trans n5.stab
                have own2 : ∀ c ∈ a :: (Pp ++ ((b :: B2) ++ Ss)), O2 c := fun c hc => rs4.tm c (List.mem_append_left _ hc)
                have pm : ((Pp ++ ((b :: B2) ++ Ss)) ++ A2).Perm (b :: ((Pp ++ B2 ++ Ss) ++ A2)) := by
                  rw [show (Pp ++ ((b :: B2) ++ Ss)) ++ A2 = Pp ++ b :: (B2 ++ (Ss ++ A2)) by simp, show b :: ((Pp ++ B2 ++ Ss) ++ A2) = b :: (Pp ++ (B2 ++ (Ss ++ A2))) by simp]
                  exact List.perm_middle
                have nd2 := List.nodup_cons.mp (pm.nodup_iff.mp nd1.2)
                have sameH : ∀ c, c ∈ Pp ++ B2 ++ Ss → upd H2 b (.lst (us ++ [v2])) c = H1 c := fun c hc => by
                  have hcm : c ∈ a :: (Pp ++ ((b :: B2) ++ Ss)) := by
                    simp only [List.mem_append] at hc
                    simp only [List.mem_cons, List.mem_append]
                    rcases hc with (h | h) | h
                    · exact .inr (.inl h)
                    · exact .inr (.inr (.inl (.inr h)))
                    · exact .inr (.inr (.inr h))
                  rw [ne c fun z => nd2.1 (List.mem_append_left _ (z ▸ hc)), (n2.keep c (.inr hcm)).1]
                have own3 : ∀ c, c ∈ Pp ++ B2 ++ Ss → O2 c := fun c hc => own2 c (by
                  simp only [List.mem_append] at hc
                  simp only [List.mem_cons, List.mem_append]
                  rcases hc with (h | h) | h
                  · exact .inr (.inl h)
                  · exact .inr (.inr (.inl (.inr h)))
                  · exact .inr (.inr (.inr h)))
                have inner : RV y.z (upd H2 b (.lst (us ++ [v2]))) O2 (.lst true (ys ++ [w2])) (.ref b) (b :: (B2 ++ A2)) := by
                  simp only [RV]
                  refine ⟨b, us ++ [v2], B2 ++ A2, rfl, rfl, own2 b mb, upd_same, ?_⟩
                  refine (RVs.stab hst _ _ _ ry fun c hc => ⟨sameH c (by simp [hc]), own3 c (by simp [hc])⟩).append (RVs.one ?_)
                  refine RV.stab n5.stab _ _ _ r2 fun c hc => ⟨ne c fun z => nd2.1 (List.mem_append_right _ (z ▸ hc)), rs4.tm c (List.mem_append_right _ hc)⟩
                have outer := q4 (upd H2 b (.lst (us ++ [v2]))) O2 (.lst true (ys ++ [w2])) (b :: (B2 ++ A2)) hst (fun c hc => ⟨sameH c (by simp only [List.mem_append]; rcases hc with h | h <;> simp [h]), own3 c (by simp only [List.mem_append]; rcases hc with h | h <;> simp [h])⟩) inner
                have pm2 : (a :: (Pp ++ ((b :: B2) ++ Ss)) ++ A2).Perm (a :: (Pp ++ ((b :: (B2 ++ A2)) ++ Ss))) := by
                  refine List.Perm.cons a ?_
                  show (Pp ++ ((b :: B2) ++ Ss) ++ A2).Perm _
                  rw [show Pp ++ ((b :: B2) ++ Ss) ++ A2 = Pp ++ ((b :: B2) ++ (Ss ++ A2)) by simp, show Pp ++ ((b :: (B2 ++ A2)) ++ Ss) = Pp ++ ((b :: B2) ++ (A2 ++ Ss)) by simp]
                  exact (List.perm_append_comm.append_left _).append_left _
                refine go2 _ _ .non [] (n5.weak fun _ q => q) (RS.putBack (T := []) (rs5.perm pm2) et ?_) (by simp only [RV]; trivial)
                simp only [RV]
                exact ⟨a, vs, _, rfl, rfl, own2 a List.mem_cons_self, by rw [ne a fun z => nd1.1 (z ▸ List.mem_append_left _ (by simp)), (n2.keep a (.inr List.mem_cons_self)).1, ea], outer⟩

/-! ### isinstance -/
/-- the text of a built-in class -/
def STy (g : Gm) (e : Expr) (t : Ty) : Prop := nst e = true ∧ ∀ X y xc C Wx, Cok g X y xc C Wx → PE X e (tC (.ty (tyN t)))
theorem ty_name {x : Str} {t : Ty} {p : Pos} (hg : g.G.lookup x = some .bltn) (hk : gl g x) (hv : bootBuiltins x = some (.type (tyN t))) (hn : x ≠ "__name__") (hd : (x == ("__debug__" : Str)) = false) : STy g (.Name x p) t :=
  ⟨rfl, fun X y xc C Wx k => pe_bltn (k.gl hk) (k.glob x _ hg) hv rfl hn hd⟩
theorem s_isin1 {a b : Expr} {a' : E} {t : Ty} {p pos : Pos} (hg : g.G.lookup (Str.ofString "isinstance") = some .bltn) (hk : gl g "isinstance") (hn : nst a = true) (ha : SP g a a') (hb : STy g b t) : SE g (.Call (.Name "isinstance" p) [a, b] [] pos) (.isin a' [t]) := fun X y xc C Wx k => by
  refine ⟨fun pins s τ Hh Q I ⟨F, O, σ, rs, go⟩ => ?_⟩
  refine (pe_callB (x := "isinstance") (call_isi (X := X)) (k.gl hk) (k.glob _ _ hg) PyProof.Rows.boot_isinstance (pa_cons (ha X y xc C Wx k) (pa_cons (hb.2 X y xc C Wx k) pa_nil (star_cons hb.1)) (star_cons hn)) (by decide) (by decide) (star_cons hn) (star_any (by simp [hb.1]))).run pins s τ Hh Q I ?_
  unfold ev at go
  refine ⟨F, O, σ, rs, (Go.seq go).imp fun v1 H1 ⟨O1, p1, σ1, A1, n1, rs1, r1, go1⟩ => ?_⟩
  obtain ⟨w1, e1, go1⟩ := go1.get
  obtain ⟨B1, q1⟩ := r1.look rs1 e1
  obtain ⟨w, e, q⟩ := go1.opt
  cases et : tyB t w1 with
  | none => simp only [tyAny, et] at e; cases e
  | some b =>
    have ew : some (W.bl b) = some w := by
      rw [← e]
      cases b <;> simp only [tyAny, et, Option.map_some]
    cases ew
    obtain ⟨T, ty, kk⟩ := tyB_ok k.K q1 et
    exact ⟨v1, .ty (tyN t), T, .type (tyN t), b, rfl, .ty _, ty, kk t b et, q.bl rs1⟩
/-- the texts of several built-in classes -/
def STys (g : Gm) : List Expr → List Ty → Prop
  | [], ts => ts = []
  | e :: es, ts => ∃ t r, ts = t :: r ∧ STy g e t ∧ STys g es r
theorem tys_pa {X : Cx} {y : Y} {xc : Nat → Option Addr} {C : Calls} {Wx : WX} (k : Cok g X y xc C Wx) : ∀ {es : List Expr} {ts : List Ty}, STys g es ts → PA X es (fun _ Hh Q => Q (ts.map fun t => V.ty (tyN t)) Hh)
  | [], ts, h => by
    have e : ts = [] := h
    subst e
    exact pa_nil
  | e :: es, ts, ⟨t, r, e1, h1, h2⟩ => by
    subst e1
    exact PA.imp (pa_cons (h1.2 X y xc C Wx k) (tys_pa k h2) (star_cons h1.1)) fun τ Hh Q q => q
theorem cls_all : ∀ ts : List Ty, Paired ClsV (ts.map fun t => V.ty (tyN t)) (ts.map fun t => Value.type (tyN t))
  | [] => .nil
  | t :: ts => .cons (.ty _) (cls_all ts)
theorem TyX.nxt {K : PySem.W.Frag} {Hh : Hp} {v : V} {T : Value} {p : Addr} {u : HO} (h : TyX K Hh v T) (hp : Hh p = none) : TyX K (upd Hh p u) v T := by
  have nn : ∀ {a : Addr} {o : HO}, Hh a = some o → (upd Hh p u) a = some o := fun e => by rw [upd_ne (ne_of_none e hp)]; exact e
  cases h with
  | base b =>
    cases b with
    | non => exact .base .non
    | bl x => exact .base (.bl x)
    | int x => exact .base (.int x)
    | str x => exact .base (.str x)
    | flt x => exact .base (.flt x)
    | lst e => exact .base (.lst (nn e))
    | frz e => exact .base (.frz (nn e))
    | tup e => exact .base (.tup (nn e))
    | dK e => exact .base (.dK (nn e))
    | dT e => exact .base (.dT (nn e))
    | ins e cl ha hn htk hm => exact .base (.ins (nn e) cl ha hn htk hm)
  | byt b => exact .byt b
  | set e => exact .set (nn e)
  | kList e c => exact .kList e c
  | kTuple e c => exact .kTuple e c
  | kDict e c => exact .kDict e c
  | fTuple e => exact .fTuple (nn e)
  | fDict e => exact .fDict (nn e)
theorem s_isinT {a : Expr} {a' : E} {bs : List Expr} {ts : List Ty} {n : Nat} {p p2 pos : Pos} (hg : g.G.lookup (Str.ofString "isinstance") = some .bltn) (hk : gl g "isinstance") (hn : nst a = true) (ht : ts ≠ []) (hz : ts.length ≤ 100) (ha : SP g a a') (hb : STys g bs ts) : SE g (.Call (.Name "isinstance" p) [a, .Tuple bs n p2] [] pos) (.isin a' ts) := fun X y xc C Wx k => by
  refine ⟨fun pins s τ Hh Q I ⟨F, O, σ, rs, go⟩ => ?_⟩
  refine (pe_callB (x := "isinstance") (call_isiT (X := X)) (k.gl hk) (k.glob _ _ hg) PyProof.Rows.boot_isinstance (pa_cons (ha X y xc C Wx k) (pa_cons (pe_tup (tys_pa k hb)) pa_nil rfl) (star_cons hn)) (by decide) (by decide) (star_cons hn) rfl).run pins s τ Hh Q I ?_
  unfold ev at go
  refine ⟨F, O, σ, rs, (Go.seq go).imp fun v1 H1 ⟨O1, p1, σ1, A1, n1, rs1, r1, go1⟩ => ?_⟩
  obtain ⟨w1, e1, go1⟩ := go1.get
  obtain ⟨B1, q1⟩ := r1.look rs1 e1
  obtain ⟨w, e, q⟩ := go1.opt
  cases et : tyAny ts w1 with
  | none => rw [et] at e; cases e
  | some b =>
    rw [et] at e
    cases e
    refine ⟨by rw [List.length_map, sizeLine_eq]; omega, fun tp hp => ?_⟩
    obtain ⟨T, ty, kk⟩ := tyAny_ok k.K q1 ht et
    refine ⟨v1, tp, _, T, _, b, rfl, upd_same, cls_all ts, TyX.nxt ty hp, kk, ?_⟩
    obtain ⟨rs', n', _⟩ := rs1.other (u := .tup (ts.map fun t => V.ty (tyN t))) hp
    exact (q.mono n').bl rs'

/-! ### what a for walks -/
def RItem (z : Z) (Hh : Hp) (O : AP) : Item → V → List Addr → Prop
  | .one w, v, A => RV z Hh O w v A
  | .many ws, v, A => ∃ T vs, v = .ref T ∧ TupAt z.K Hh O T vs ∧ RVs z Hh O ws vs A
/-- the hand layer's walk J hands out what ours says, for good -/
def WOk (y : Y) (F : AP) (H0 : Hp) (O0 : AP) (xs : List Item) (J : L2.It) : Prop :=
  ∀ Hh O G T σ τ, (∀ a, F a → G a) → Nx F H0 O0 Hh O → RS y Hh O G T σ τ →
    (∀ i x, xs[i]? = some x → J.go i Hh ∧ ∀ v H', J.yld i Hh v H' → Nx G Hh O H' O ∧ RS y H' O G T σ τ ∧ RItem y.z H' O x v []) ∧ J.stop xs.length Hh
def tI (y : Y) (xc : Nat → Option Addr) (Wx : WX) (C : Calls) (it : It) : TI := fun τ Hh R => ∃ F O σ, RS y Hh O F [] σ τ ∧ Go y F Hh O τ (fun H' O' xs J A => A = [] ∧ WOk y F H' O' xs J) (XW y xc Wx τ) (evI C it σ) R
def SI (g : Gm) (tg : Expr) (it : Expr) (it' : It) : Prop := ∀ X y xc C Wx, g.calm = true → Cok g X y xc C Wx → PI X tg it (tI y xc Wx C it')
theorem PI.imp {X : Cx} {tg e : Expr} {t t' : TI} (h : PI X tg e t) (k : ∀ τ Hh R, t' τ Hh R → t τ Hh R) : PI X tg e t' := ⟨fun pins s τ Hh Q I q => h.run pins s τ Hh Q I (k τ Hh Q q)⟩

/-- a value that is walked: a list, a tuple, a text -/
def iAny (K : PySem.W.Frag) (te : TE) : TI := fun τ Hh R => te τ Hh fun v H1 =>
  (∃ a, v = .ref a ∧ (∃ xs, SqL K H1 a xs) ∧ R (Itl K a) H1) ∨ (∃ a, v = .ref a ∧ (∃ xs, SqT K H1 a xs) ∧ R (Itt K a) H1) ∨ ∃ z, v = .str z ∧ R (Its z) H1
theorem pi_any {X : Cx} {tg e : Expr} {te : TE} (he : PE X e te) : PI X tg e (iAny X.K te) := by
  constructor
  intro pins s τ Hh R I q
  apply thn (he.run pins s τ Hh _ I q)
  rintro u s1 ⟨v, H1, I1, ru, q1⟩
  have fp : ∀ {o : Obj} {b : Addr}, b ∈ [s1.heap.objs.size] → FpOk X pins H1 b := fun {o b} hb => by
    have e := List.mem_singleton.mp hb
    rw [e]
    exact I1.fpOk (Nat.le_refl _) (I1.hok.fresh (Nat.le_refl _))
  have kp : ∀ {o : Obj}, L2.Inv X pins τ H1 { s1 with heap := s1.heap.push o } := fun {o} => I1.kept (t' := s1.toks) fun b o' z => Heap.get?_push_of_some _ z
  rcases q1 with ⟨a, rfl, ⟨xs, hx⟩, r⟩ | ⟨a, rfl, ⟨xs, hx⟩, r⟩ | ⟨z, rfl, r⟩
  · obtain rfl : u = Value.ref a := ru
    obtain ⟨its, rv, pl, _⟩ := I1.list hx
    apply wpAny_pyIter_list pl.isList
    exact ⟨_, _, _, _, H1, rfl, kp, turn_list a _, ⟨_, Heap.get?_push_size _ rfl, rfl, rfl⟩, fun b hb => fp (o := default) hb, r⟩
  · obtain rfl : u = Value.ref a := ru
    obtain ⟨its, rv, pl, _⟩ := I1.tuple hx
    apply wpAny_pyIter_tuple (show s1.heap.IsTuple a its.toArray from pl)
    exact ⟨_, _, _, _, H1, rfl, kp, turn_tuple a _, ⟨_, Heap.get?_push_size _ rfl, rfl, rfl⟩, fun b hb => fp (o := default) hb, r⟩
  · obtain ⟨t, rfl⟩ := ru
    cases hz : z.cps.all (· < 128) with
    | false => exact wpAny_pyIter_wide hz (pi_one (tk := s1.toks) I1 _ (turn_str _ z t "str_iterator" (.inr rfl)) ⟨_, Heap.get?_push_size _ rfl, rfl, rfl⟩ r)
    | true => exact wpAny_pyIter_ascii hz (pi_one (tk := s1.toks) I1 _ (turn_str _ z t "str_ascii_iterator" (.inl rfl)) ⟨_, Heap.get?_push_size _ rfl, rfl, rfl⟩ r)
theorem lst_still {H0 Hh : Hp} {O0 O : AP} {F : AP} {a : Addr} {vs : List V} (n : Nx F H0 O0 Hh O) (h : H0 a = some (.lst vs) ∧ ¬O0 a) : Hh a = some (.lst vs) ∧ ¬O a := n.stab _ _ h.1 h.2
theorem RV.fz_lst {z : Z} {Hh : Hp} {O : AP} {ws : List W} {v : V} (h : RV z Hh O (.lst false ws) v []) : ∃ a vs, v = .ref a ∧ (Hh a = some (.lst vs) ∧ ¬O a) ∧ RVs z Hh O ws vs [] := by
  simp only [RV] at h
  obtain ⟨_, a, vs, e, t, r⟩ := h
  exact ⟨a, vs, e, t, r⟩
theorem wok_seq {y : Y} {F : AP} {H0 : Hp} {O0 : AP} {w : W} {v : V} {xs : List Item} {R : L2.It → Hp → Prop} (rw0 : RV y.z H0 O0 w v []) (e : seqWalk w = some xs) (q : ∀ J, WOk y F H0 O0 xs J → R J H0) :
    (∃ a, v = .ref a ∧ (∃ xs, SqL y.z.K H0 a xs) ∧ R (Itl y.z.K a) H0) ∨ (∃ a, v = .ref a ∧ (∃ xs, SqT y.z.K H0 a xs) ∧ R (Itt y.z.K a) H0) ∨ ∃ z, v = .str z ∧ R (Its z) H0 := by
  unfold seqWalk at e
  split at e
  case h_1 ds =>
    split at e
    case isFalse => cases e
    case isTrue hf =>
      cases e
      obtain ⟨a, vs, rfl, ta, ra⟩ := rw0.tup_at
      refine .inr (.inl ⟨a, rfl, ⟨vs, ta.sq⟩, q _ fun Hh O G T σ τ hG n rs => ?_⟩)
      have ta' := ta.stab n.stab
      have ra' := RVs.stab n.stab _ _ _ ra (fun a z => by cases z)
      refine ⟨fun i x hx => ?_, ?_⟩
      · rw [List.getElem?_map] at hx
        cases ed : ds[i]? with
        | none => rw [ed] at hx; cases hx
        | some d =>
          rw [ed] at hx
          have ex : Item.one d = x := Option.some.inj hx
          subst ex
          obtain ⟨z, B, ez, rz⟩ := ra'.get ed
          refine ⟨⟨vs, z, ta'.sq, ez⟩, fun v H' hy => ?_⟩
          obtain ⟨rfl, hy⟩ := hy
          have := hy vs ta'.sq
          rw [ez] at this
          cases this
          have fd : d.frz = true := frzs_get hf ed
          exact ⟨.refl, rs, rz.frz' fd⟩
      · exact ⟨vs, ta'.sq, by rw [List.length_map, ra'.length]; exact Nat.le_refl _⟩
  case h_2 t =>
    cases e
    simp only [RV] at rw0
    refine .inr (.inr ⟨_, rw0.1, q _ fun Hh O G T σ τ hG n rs => ⟨fun i x hx => ?_, ?_⟩⟩)
    · rw [List.getElem?_map] at hx
      cases ed : t[i]? with
      | none => rw [ed] at hx; cases hx
      | some c =>
        rw [ed] at hx
        have ex : Item.one (.str [c]) = x := Option.some.inj hx
        subst ex
        have hi : (strV t).cps[i]? = some c.toNat := by
          unfold strV
          simp [ed]
        refine ⟨(Array.getElem?_eq_some_iff.mp hi).1, fun v H' hy => ?_⟩
        obtain ⟨rfl, c', ec, rfl⟩ := hy
        rw [hi] at ec
        cases ec
        exact ⟨.refl, rs, by simp only [RItem, RV]; exact ⟨rfl, trivial⟩⟩
    · show (strV t).cps.size ≤ _
      rw [List.length_map]
      exact Nat.le_of_eq (strV_len t)
  case h_3 ws =>
    split at e
    case isFalse => cases e
    case isTrue hf =>
      cases e
      obtain ⟨a, vs, rfl, ta, ra⟩ := rw0.fz_lst
      refine .inl ⟨a, rfl, ⟨vs, .of ta.1⟩, q _ fun Hh O G T σ τ hG n rs => ?_⟩
      have ta' := lst_still n ta
      have ra' := RVs.stab n.stab _ _ _ ra (fun a z => by cases z)
      refine ⟨fun i x hx => ?_, ?_⟩
      · rw [List.getElem?_map] at hx
        cases ed : ws[i]? with
        | none => rw [ed] at hx; cases hx
        | some d =>
          rw [ed] at hx
          have ex : Item.one d = x := Option.some.inj hx
          subst ex
          obtain ⟨z, B, ez, rz⟩ := ra'.get ed
          refine ⟨⟨vs, z, .of ta'.1, ez⟩, fun v H' hy => ?_⟩
          obtain ⟨rfl, hy⟩ := hy
          have := hy vs (.of ta'.1)
          rw [ez] at this
          cases this
          exact ⟨.refl, rs, rz.frz' (frzs_get hf ed)⟩
      · exact ⟨vs, .of ta'.1, by rw [List.length_map, ra'.length]; exact Nat.le_refl _⟩
  case h_4 xs =>
    cases e
    simp only [RV] at rw0
    obtain ⟨_, a, rfl, ra⟩ := rw0
    refine .inl ⟨a, rfl, ⟨_, ra.sq⟩, q _ fun Hh O G T σ τ hG n rs => ?_⟩
    have ra' := ra.stab n.stab
    refine ⟨fun i x hx => ?_, ?_⟩
    · rw [List.getElem?_map] at hx
      cases ed : xs[i]? with
      | none => rw [ed] at hx; cases hx
      | some d =>
        rw [ed] at hx
        have ex : Item.one (.int d) = x := Option.some.inj hx
        subst ex
        have ez : (xs.map V.int)[i]? = some (.int d) := by rw [List.getElem?_map, ed]; rfl
        refine ⟨⟨_, _, ra'.sq, ez⟩, fun v H' hy => ?_⟩
        obtain ⟨rfl, hy⟩ := hy
        have := hy _ ra'.sq
        rw [ez] at this
        cases this
        exact ⟨.refl, rs, by simp only [RItem, RV]; trivial⟩
    · exact ⟨_, ra'.sq, by simp⟩
  all_goals cases e
/-- what is at hand is frozen, then walked -/
theorem Go.fzI {y : Y} {F : AP} {Hh : Hp} {O : AP} {τ : L2.St} {σ : St} {xx : XX} {R : L2.It → Hp → Prop} {A : List Addr} {w : W} {v : V} (rs : RS y Hh O F A σ τ) (r : RV y.z Hh O w v A) : ∃ O', RV y.z Hh O' w.fz v [] ∧ RS y Hh O' F [] σ τ ∧ Nx F Hh O Hh O' := by
  have rs' : RS y Hh O F ([] ++ A) σ τ := rs
  obtain ⟨rs2, n, _⟩ := rs'.freeze
  exact ⟨_, RV.fz (fun a h q => h q.1) _ _ _ r fun a ha q => q.2 ha, rs2, n⟩
theorem i_seq {tg e : Expr} {e' : E} (he : SE g e e') : SI g tg e (.seq e') := fun X y xc C Wx hc k => by
  refine PI.imp (pi_any (he X y xc C Wx k)) fun τ Hh R ⟨F, O, σ, rs, go⟩ => ?_
  unfold evI at go
  refine ⟨F, O, σ, rs, (Go.seq go).imp fun v1 H1 ⟨O1, w1, σ1, A1, n1, rs1, r1, go1⟩ => ?_⟩
  obtain ⟨xs, e, go1⟩ := go1.opt
  obtain ⟨O2, r2, rs2, n2⟩ := Go.fzI (xx := XW y xc Wx τ) (R := R) rs1 r1
  have := wok_seq (F := F) (R := R) r2 e fun J w => go1 H1 O2 J [] n2 rs2 ⟨rfl, w⟩
  rw [k.K] at this
  exact this
theorem rng_get {lo c : Int} {n i : Nat} {x : Item} (h : (rngItems lo n c)[i]? = some x) : i < n ∧ x = .one (.int (lo + (i : Int) * c)) := by
  unfold rngItems at h
  rw [List.getElem?_map] at h
  by_cases hi : i < n
  · rw [List.getElem?_range hi] at h
    exact ⟨hi, (Option.some.inj h).symm⟩
  · rw [List.getElem?_eq_none (by simpa using hi)] at h
    cases h
theorem rng_len (lo c : Int) (n : Nat) : (rngItems lo n c).length = n := by simp [rngItems]
theorem wok_rng {y : Y} {F : AP} {H0 : Hp} {O0 : AP} {lo : Int} {n : Nat} : WOk y F H0 O0 (rngItems lo n 1) (Itr lo n) := fun Hh O G T σ τ hG n' rs => by
  refine ⟨fun i x hx => ?_, ?_⟩
  · obtain ⟨hi, rfl⟩ := rng_get hx
    refine ⟨hi, fun v H' hy => ?_⟩
    obtain ⟨rfl, rfl⟩ := hy
    exact ⟨.refl, rs, by simp only [RItem, RV, Int.mul_one]; trivial⟩
  · show n ≤ _
    rw [rng_len]; exact Nat.le_refl _
theorem wok_rngC {y : Y} {F : AP} {H0 : Hp} {O0 : AP} {lo c : Int} {n : Nat} : WOk y F H0 O0 (rngItems lo n c) (Itc lo c n) := fun Hh O G T σ τ hG n' rs => by
  refine ⟨fun i x hx => ?_, ?_⟩
  · obtain ⟨hi, rfl⟩ := rng_get hx
    refine ⟨hi, fun v H' hy => ?_⟩
    obtain ⟨rfl, rfl⟩ := hy
    exact ⟨.refl, rs, by simp only [RItem, RV]; trivial⟩
  · show n ≤ _
    rw [rng_len]; exact Nat.le_refl _
theorem Go.itm {y : Y} {F : AP} {Hh : Hp} {O : AP} {τ : L2.St} {σ : St} {xx : XX} {R : L2.It → Hp → Prop} {T : List Addr} {xs : List Item} (g : Go y F Hh O τ (fun H' O' xs J A => A = [] ∧ WOk y F H' O' xs J) xx (some (.ok xs σ)) R) (rs : RS y Hh O F T σ τ) {J : L2.It} (w : WOk y F Hh O xs J) : R J Hh := g Hh O J [] .refl rs.toss ⟨rfl, w⟩
theorem i_rng1 {tg a : Expr} {a' : E} {p pos : Pos} (hg : g.G.lookup (Str.ofString "range") = some .bltn) (hk : gl g "range") (hn : nst a = true) (ha : SE g a a') : SI g tg (.Call (.Name "range" p) [a] [] pos) (.rng1 a') := fun X y xc C Wx hc k => by
  refine PI.imp (pi_range1 (k.gl hk) (k.glob _ _ hg) (pa_cons (ha X y xc C Wx k) pa_nil (star_cons hn)) (star_cons hn)) fun τ Hh R ⟨F, O, σ, rs, go⟩ => ?_
  unfold evI at go
  refine ⟨F, O, σ, rs, (Go.seq go).imp fun v1 H1 ⟨O1, w1, σ1, A1, n1, rs1, r1, go1⟩ => ?_⟩
  split at go1
  case h_2 => exact go1.elim
  case h_1 j =>
    simp only [RV] at r1
    obtain ⟨rfl, _⟩ := r1
    obtain ⟨wk, e, q⟩ := go1.opt
    unfold rngWalk at e
    split at e
    case isFalse => cases e
    case isTrue hz =>
      cases e
      unfold big at hz
      refine ⟨j, rfl, by omega, by omega, ?_⟩
      have := q.itm rs1 (wok_rng (lo := 0) (n := (j - 0).toNat))
      rw [Int.sub_zero] at this
      exact this
theorem i_rng2 {tg a b : Expr} {a' b' : E} {p pos : Pos} (hg : g.G.lookup (Str.ofString "range") = some .bltn) (hk : gl g "range") (hn : nst a = true) (hn2 : nst b = true) (ha : SE g a a') (hb : SE g b b') : SI g tg (.Call (.Name "range" p) [a, b] [] pos) (.rng2 a' b') := fun X y xc C Wx hc k => by
  refine PI.imp (pi_range2 (k.gl hk) (k.glob _ _ hg) (pa_cons (ha X y xc C Wx k) (pa_cons (hb X y xc C Wx k) pa_nil (star_cons hn2)) (star_cons hn)) (by rw [star_cons hn, star_cons hn2]; rfl) (by rw [star_cons hn2]; rfl)) fun τ Hh R ⟨F, O, σ, rs, go⟩ => ?_
  unfold evI at go
  refine ⟨F, O, σ, rs, (Go.seq go).imp fun v1 H1 ⟨O1, w1, σ1, A1, n1, rs1, r1, go1⟩ => ⟨F, O1, σ1, rs1.toss, (Go.seq go1).imp fun v2 H2 ⟨O2, w2, σ2, A2, n2, rs2, r2, go2⟩ => ?_⟩⟩
  split at go2
  case h_2 => exact go2.elim
  case h_1 =>
    simp only [RV] at r1 r2
    obtain ⟨rfl, _⟩ := r1
    obtain ⟨rfl, _⟩ := r2
    obtain ⟨wk, e, q⟩ := go2.opt
    unfold rngWalk at e
    split at e
    case isFalse => cases e
    case isTrue hz =>
      cases e
      unfold big at hz
      exact ⟨_, _, rfl, ⟨by omega, by omega, by omega, by omega⟩, q.itm rs2 wok_rng⟩
theorem i_rng3 {tg a b c : Expr} {a' b' c' : E} {p pos : Pos} (hg : g.G.lookup (Str.ofString "range") = some .bltn) (hk : gl g "range") (hn : nst a = true) (hn2 : nst b = true) (hn3 : nst c = true) (ha : SE g a a') (hb : SE g b b') (hcc : SE g c c') : SI g tg (.Call (.Name "range" p) [a, b, c] [] pos) (.rng3 a' b' c') := fun X y xc C Wx hc k => by
  refine PI.imp (pi_range3 (k.gl hk) (k.glob _ _ hg) (pa_cons (ha X y xc C Wx k) (pa_cons (hb X y xc C Wx k) (pa_cons (hcc X y xc C Wx k) pa_nil (star_cons hn3)) (star_cons hn2)) (star_cons hn)) (star_cons hn) (star_any (by simp [hn2, hn3]))) fun τ Hh R ⟨F, O, σ, rs, go⟩ => ?_
  unfold evI at go
  refine ⟨F, O, σ, rs, (Go.seq go).imp fun v1 H1 ⟨O1, w1, σ1, A1, n1, rs1, r1, go1⟩ => ⟨F, O1, σ1, rs1.toss, (Go.seq go1).imp fun v2 H2 ⟨O2, w2, σ2, A2, n2, rs2, r2, go2⟩ => ⟨F, O2, σ2, rs2.toss, (Go.seq go2).imp fun v3 H3 ⟨O3, w3, σ3, A3, n3, rs3, r3, go3⟩ => ?_⟩⟩⟩
  split at go3
  case h_2 => exact go3.elim
  case h_1 =>
    simp only [RV] at r1 r2 r3
    obtain ⟨rfl, _⟩ := r1
    obtain ⟨rfl, _⟩ := r2
    obtain ⟨rfl, _⟩ := r3
    obtain ⟨wk, e, q⟩ := go3.opt
    unfold rngWalk3 at e
    split at e
    case isFalse => cases e
    case isTrue hz =>
      cases e
      unfold big at hz
      obtain ⟨z1, z2, rfl⟩ := hz
      exact ⟨_, _, -1, _, rfl, .neg (by omega) (by omega) (by omega) (by omega), q.itm rs3 wok_rngC⟩
theorem enum_get : ∀ {xs : List W} {k i : Nat} {x : Item}, (enumFrom k xs)[i]? = some x → ∃ w, xs[i]? = some w ∧ x = .many [.int ((k + i : Nat) : Int), w]
  | [], _, _, _, h => by simp [enumFrom] at h
  | w :: r, k, 0, x, h => by
    simp [enumFrom] at h
    exact ⟨w, rfl, by rw [← h]; simp⟩
  | w :: r, k, i + 1, x, h => by
    simp only [enumFrom, List.getElem?_cons_succ] at h
    obtain ⟨w', e1, e2⟩ := enum_get h
    exact ⟨w', by simpa using e1, by rw [e2, show k + 1 + i = k + (i + 1) from by omega]⟩
theorem enum_len : ∀ (xs : List W) (k : Nat), (enumFrom k xs).length = xs.length
  | [], _ => rfl
  | _ :: r, k => by simp [enumFrom, enum_len r (k + 1)]
theorem wok_enm {y : Y} {F : AP} {H0 : Hp} {O0 : AP} {ws : List W} {a : Addr} {vs : List V} (hf : W.frzs ws = true) (ta : H0 a = some (.lst vs) ∧ ¬O0 a) (ra : RVs y.z H0 O0 ws vs []) : WOk y F H0 O0 (enumFrom 0 ws) (Ite y.z.K a) := fun Hh O G T σ τ hG n rs => by
  have ta' := lst_still n ta
  have ra' := RVs.stab n.stab _ _ _ ra (fun a z => by cases z)
  refine ⟨fun i x hx => ?_, ?_⟩
  · obtain ⟨w, ew, rfl⟩ := enum_get hx
    obtain ⟨z, B, ez, rz⟩ := ra'.get ew
    refine ⟨⟨vs, z, .of ta'.1, ez⟩, fun v H' hy => ?_⟩
    obtain ⟨T', z', rfl, hT, rfl, hy⟩ := hy
    have := hy vs (.of ta'.1)
    rw [ez] at this
    cases this
    obtain ⟨rs', nx, hn⟩ := rs.other (u := .tup [.int (i : Nat), z]) hT
    refine ⟨nx, rs', T', _, rfl, .inl ⟨upd_same, hn⟩, RVs.cons (A := []) (B := []) (by simp only [RV, Nat.zero_add]; trivial) (RVs.one (RV.stab nx.stab _ _ _ (rz.frz' (frzs_get hf ew)) (fun a z => by cases z)))⟩
  · exact ⟨vs, .of ta'.1, by rw [enum_len, ra'.length]; exact Nat.le_refl _⟩
theorem i_enm {e : Expr} {es : List Expr} {k1 : Nat} {e' : E} {p p2 pos : Pos} (hg : g.G.lookup (Str.ofString "enumerate") = some .bltn) (hk : gl g "enumerate") (hn : nst e = true) (he : SE g e e') : SI g (.Tuple es k1 p2) (.Call (.Name "enumerate" p) [e] [] pos) (.enm e') := fun X y xc C Wx hc k => by
  refine PI.imp (pi_enum (k.gl hk) (k.glob _ _ hg) (pa_cons (he X y xc C Wx k) pa_nil (star_cons hn)) (star_cons hn)) fun τ Hh R ⟨F, O, σ, rs, go⟩ => ?_
  unfold evI at go
  refine ⟨F, O, σ, rs, (Go.seq go).imp fun v1 H1 ⟨O1, w1, σ1, A1, n1, rs1, r1, go1⟩ => ?_⟩
  obtain ⟨xs, e, go1⟩ := go1.opt
  obtain ⟨O2, r2, rs2, n2⟩ := Go.fzI (xx := XW y xc Wx τ) (R := R) rs1 r1
  unfold enmWalk at e
  split at e
  case h_2 => cases e
  case h_1 ws ew =>
    split at e
    case isFalse => cases e
    case isTrue hf =>
      cases e
      rw [ew] at r2
      obtain ⟨a, vs, rfl, ta, ra⟩ := r2.fz_lst
      exact ⟨a, vs, rfl, .of ta.1, k.K ▸ go1 H1 O2 _ [] n2 rs2 ⟨rfl, wok_enm hf ta ra⟩⟩
theorem zip_get : ∀ {xs ys : List W} {i : Nat} {x : Item}, (zipItems xs ys)[i]? = some x → ∃ v w, xs[i]? = some v ∧ ys[i]? = some w ∧ x = .many [v, w]
  | [], _, _, _, h => by simp [zipItems] at h
  | _ :: _, [], _, _, h => by simp [zipItems] at h
  | v :: r, w :: r', 0, x, h => by
    simp [zipItems] at h
    exact ⟨v, w, rfl, rfl, h.symm⟩
  | v :: r, w :: r', i + 1, x, h => by
    simp only [zipItems, List.getElem?_cons_succ] at h
    obtain ⟨v', w', e1, e2, e3⟩ := zip_get h
    exact ⟨v', w', by simpa using e1, by simpa using e2, e3⟩
theorem zip_len : ∀ (xs ys : List W), xs.length ≤ (zipItems xs ys).length ∨ ys.length ≤ (zipItems xs ys).length
  | [], _ => .inl (Nat.zero_le _)
  | _ :: _, [] => .inr (Nat.zero_le _)
  | _ :: r, _ :: r' => by
    rcases zip_len r r' with h | h
    · exact .inl (by simp only [zipItems, List.length_cons]; omega)
    · exact .inr (by simp only [zipItems, List.length_cons]; omega)
theorem wok_zip {y : Y} {F : AP} {H0 : Hp} {O0 : AP} {xs ys : List W} {a b : Addr} {vs us : List V} (hf : W.frzs xs = true) (hf2 : W.frzs ys = true) (ta : H0 a = some (.lst vs) ∧ ¬O0 a) (tb : H0 b = some (.lst us) ∧ ¬O0 b) (ra : RVs y.z H0 O0 xs vs []) (rb : RVs y.z H0 O0 ys us []) : WOk y F H0 O0 (zipItems xs ys) (Itz y.z.K a b) := fun Hh O G T σ τ hG n rs => by
  have ta' := lst_still n ta
  have tb' := lst_still n tb
  have ra' := RVs.stab n.stab _ _ _ ra (fun a z => by cases z)
  have rb' := RVs.stab n.stab _ _ _ rb (fun a z => by cases z)
  refine ⟨fun i x hx => ?_, ?_⟩
  · obtain ⟨v, w, ev, ew, rfl⟩ := zip_get hx
    obtain ⟨z, B, ez, rz⟩ := ra'.get ev
    obtain ⟨z2, B2, ez2, rz2⟩ := rb'.get ew
    refine ⟨⟨vs, us, z, z2, .of ta'.1, .of tb'.1, ez, ez2⟩, fun v H' hy => ?_⟩
    obtain ⟨T', z', z2', rfl, hT, rfl, hy, hy2⟩ := hy
    have := hy vs (.of ta'.1)
    rw [ez] at this
    cases this
    have := hy2 us (.of tb'.1)
    rw [ez2] at this
    cases this
    obtain ⟨rs', nx, hn⟩ := rs.other (u := .tup [z, z2]) hT
    refine ⟨nx, rs', T', _, rfl, .inl ⟨upd_same, hn⟩, RVs.cons (A := []) (B := []) (RV.stab nx.stab _ _ _ (rz.frz' (frzs_get hf ev)) (fun a z => by cases z)) (RVs.one (RV.stab nx.stab _ _ _ (rz2.frz' (frzs_get hf2 ew)) (fun a z => by cases z)))⟩
  · refine ⟨vs, us, .of ta'.1, .of tb'.1, ?_⟩
    rw [← ra'.length, ← rb'.length]
    exact zip_len xs ys
theorem i_zip {e e2 : Expr} {es : List Expr} {k1 : Nat} {e' e2' : E} {p p2 pos : Pos} (hg : g.G.lookup (Str.ofString "zip") = some .bltn) (hk : gl g "zip") (hn : nst e = true) (hn2 : nst e2 = true) (he : SE g e e') (he2 : SE g e2 e2') : SI g (.Tuple es k1 p2) (.Call (.Name "zip" p) [e, e2] [] pos) (.zip e' e2') := fun X y xc C Wx hc k => by
  refine PI.imp (pi_zip (k.gl hk) (k.glob _ _ hg) (pa_cons (he X y xc C Wx k) (pa_cons (he2 X y xc C Wx k) pa_nil (star_cons hn2)) (star_cons hn)) (star_cons hn) (star_any (by simp [hn2]))) fun τ Hh R ⟨F, O, σ, rs, go⟩ => ?_
  unfold evI at go
  refine ⟨F, O, σ, rs, (Go.seq go).imp fun v1 H1 ⟨O1, w1, σ1, A1, n1, rs1, r1, go1⟩ => ⟨plus F A1, O1, σ1, rs1.park, (Go.seqP rs1.nodup rs1.notF go1).imp fun v2 H2 ⟨O2, w2, σ2, A2, n2, rs2, r2, go2⟩ => ?_⟩⟩
  obtain ⟨xs, e, go2⟩ := go2.opt
  have r1' := r1.later n2 rs1.tm
  have rs3 := rs2.unpark rs1.nodup rs1.notF
  obtain ⟨rs4, n4, _⟩ := RS.freeze (T := []) (B := A1 ++ A2) rs3
  have q1 := RV.fz (O' := fun a => O2 a ∧ a ∉ A1 ++ A2) (fun a h q => h q.1) _ _ _ r1' fun a ha q => q.2 (List.mem_append_left _ ha)
  have q2 := RV.fz (O' := fun a => O2 a ∧ a ∉ A1 ++ A2) (fun a h q => h q.1) _ _ _ r2 fun a ha q => q.2 (List.mem_append_right _ ha)
  unfold zipWalk at e
  split at e
  case h_2 => cases e
  case h_1 xs ys ex ey =>
    split at e
    case isFalse => cases e
    case isTrue hf =>
      cases e
      rw [ex] at q1
      rw [ey] at q2
      obtain ⟨a, vs, rfl, ta, ra⟩ := q1.fz_lst
      obtain ⟨b, us, rfl, tb, rb⟩ := q2.fz_lst
      exact ⟨a, b, vs, us, rfl, .of ta.1, .of tb.1, k.K ▸ go2 H2 _ _ [] n4 rs4 ⟨rfl, wok_zip hf.1 hf.2 ta tb ra rb⟩⟩

/-! ### targets -/
/-- a name that may be stored -/
def Sto (g : Gm) (x : Str) : Prop := (g.sc.names.lookup x = some .local ∨ (g.top = true ∧ g.sc.names.lookup x = some .cell)) ∧ g.hot ≠ some x
theorem Sto.loc {x : Str} {X : Cx} (h : Sto g x) (hsc : X.env.scope = g.sc) : Loc X.env.scope x := by
  rw [hsc]
  exact h.1.elim .inl fun z => .inr z.2
theorem Sto.fn {x : Str} {X : Cx} (h : Sto g x) (hsc : X.env.scope = g.sc) (hf : g.top = true → ∀ x, X.fn x = true) : X.fn x = true ∨ X.env.scope.names.lookup x = some .local := by
  rw [hsc]
  exact h.1.elim .inr fun z => .inl (hf z.1 x)
/-- the texts of names, by their slots -/
def TNs (g : Gm) : List Expr → List Nat → Prop
  | [], is => is = []
  | e :: es, is => ∃ x p i r, e = .Name x p ∧ is = i :: r ∧ g.N[i]? = some x ∧ Sto g x ∧ TNs g es r
theorem gl_len {g : Gm} {env : Env} : ∀ {es : List Expr} {is : List Nat}, TNs g es is → (assignEach es env).length = is.length ∧ (assignEach es env).findIdx? (·.1) = none ∧ ∀ b ∈ assignEach es env, b.1 = false
  | [], is, h => by
    have e : is = [] := h
    subst e
    exact ⟨rfl, rfl, fun b hb => absurd hb (by simp [assignEach])⟩
  | e :: es, is, ⟨x, p, i, r, e1, e2, _, _, h⟩ => by
    subst e1 e2
    obtain ⟨h1, h2, h3⟩ := gl_len (env := env) h
    have e0 : assignEach (.Name x p :: es) env = (false, assign (.Name x p) env) :: assignEach es env := rfl
    refine ⟨by rw [e0]; simp [h1], ?_, ?_⟩
    · rw [e0, List.findIdx?_cons]
      simp only [h2]
      rfl
    · rw [e0]
      intro b hb
      rcases List.mem_cons.mp hb with e | hb
      · rw [e]
      · exact h3 b hb
/-- the slots take the values, one by one -/
def gSlots : List Nat → TGs
  | [] => gNil
  | i :: is => gCons (gName i) (gSlots is)
theorem pgs_of {X : Cx} (hN : X.N = g.N) (hnd : X.N.Nodup) (hsc : X.env.scope = g.sc) (hf : g.top = true → ∀ x, X.fn x = true) : ∀ {es : List Expr} {is : List Nat}, TNs g es is → PGs X es (gSlots is)
  | [], is, h => by
    have e : is = [] := h
    subst e
    exact pgs_nil
  | e :: es, is, ⟨x, p, i, r, e1, e2, hi, hs, h⟩ => by
    subst e1 e2
    exact pgs_cons (pg_name (i := i) hnd (by rw [hN]; exact hi) (hs.loc hsc) (hs.fn hsc hf)) (pgs_of hN hnd hsc hf h) rfl
theorem Cok.cold {X : Cx} {y : Y} {xc : Nat → Option Addr} {C : Calls} {Wx : WX} (k : Cok g X y xc C Wx) (hc : g.calm = true) {i : Nat} (hi : C.fx.contains i = false) : Cold y i := by
  refine ⟨fun v e => (by rw [k.nohot hc] at e; cases e), fun v e => ?_⟩
  have := k.fx i v e
  rw [k.cfx] at hi
  have h2 : g.fx.contains i = true := List.contains_iff_mem.mpr this
  rw [h2] at hi
  cases hi
theorem slots_ok {y : Y} {F : AP} {Hh : Hp} {O : AP} {fx : List Nat} (hc : ∀ i, fx.contains i = false → Cold y i) : ∀ {is : List Nat} {ws : List W} {vs : List V} {A : List Addr} {σ σ' : St} {τ : L2.St} {Q : L2.St → Hp → Prop}, RVs y.z Hh O ws vs A → RS y Hh O F A σ τ → setAll fx is ws σ = some σ' → (∀ τ', RS y Hh O F [] σ' τ' → (∀ vs, (∀ i ∈ is, i ∈ vs) → L2.wipe τ' vs = L2.wipe τ vs) → Q τ' Hh) → gSlots is vs τ Hh Q
  | [], [], vs, A, σ, σ', τ, Q, hp, rs, e, q => by
    simp only [RVs] at hp
    obtain ⟨rfl, rfl⟩ := hp
    cases e
    exact ⟨rfl, q τ rs fun _ _ => rfl⟩
  | i :: is, w :: ws, vs, A, σ, σ', τ, Q, hp, rs, e, q => by
    simp only [RVs] at hp
    obtain ⟨v, r, B, C, rfl, rfl, h1, h2⟩ := hp
    unfold setAll at e
    split at e
    case isFalse => cases e
    case isTrue hz =>
      refine ⟨v, r, rfl, slots_ok hc h2 ((rs.perm List.perm_append_comm).set (hc i hz.2) hz.1 h1) e fun τ' r' hw => q τ' r' fun vs hv => ?_⟩
      rw [hw vs fun j hj => hv j (List.mem_cons_of_mem _ hj), wipe_set (hv i List.mem_cons_self)]
  | [], _ :: _, _, _, _, _, _, _, _, _, e, _ => by cases e
  | _ :: _, [], _, _, _, _, _, _, _, _, e, _ => by cases e
/-- the text of a target -/
inductive TT' (g : Gm) : Expr → T → Prop where
  | name {x : Str} {p : Pos} {i : Nat} (hi : g.N[i]? = some x) (hs : Sto g x) : TT' g (.Name x p) (.name i)
  | tup {es : List Expr} {is : List Nat} {k : Nat} {p : Pos} (h : TNs g es is) : TT' g (.Tuple es k p) (.tup is)
def T.slots : T → List Nat
  | .name i => [i]
  | .tup is => is
def gT (y : Y) (fx : List Nat) (tg : T) : TG := fun v τ Hh Q => ∃ F O σ x A σ', RS y Hh O F A σ τ ∧ RItem y.z Hh O x v A ∧ take fx tg x σ = some σ' ∧ ∀ τ', RS y Hh O F [] σ' τ' → (∀ vs, (∀ i ∈ tg.slots, i ∈ vs) → L2.wipe τ' vs = L2.wipe τ vs) → Q τ' Hh
theorem PG.imp {X : Cx} {e : Expr} {t t' : TG} (h : PG X e t) (k : ∀ v τ Hh Q, t' v τ Hh Q → t v τ Hh Q) : PG X e t' := ⟨fun pins s τ Hh v u Q I r q => h.run pins s τ Hh v u Q I r (k v τ Hh Q q)⟩
theorem setAll_len {fx : List Nat} : ∀ {is : List Nat} {ws : List W} {σ σ' : St}, setAll fx is ws σ = some σ' → ws.length = is.length
  | [], [], _, _, _ => rfl
  | [], _ :: _, _, _, e => by cases e
  | _ :: _, [], _, _, e => by cases e
  | i :: is, w :: ws, σ, σ', e => by
    unfold setAll at e
    split at e
    case isFalse => cases e
    case isTrue hz => simp [setAll_len e]
theorem pg_of {X : Cx} {y : Y} {fx : List Nat} {e : Expr} {tg : T} (hN : X.N = g.N) (hnd : X.N.Nodup) (hsc : X.env.scope = g.sc) (hf : g.top = true → ∀ x, X.fn x = true) (hK : y.z.K = X.K) (hc : X.calm = true) (cold : ∀ i, fx.contains i = false → Cold y i) (h : TT' g e tg) : PG X e (gT y fx tg) := by
  cases h with
  | @name x p i hi hs =>
    refine PG.imp (pg_name (i := i) hnd (by rw [hN]; exact hi) (hs.loc hsc) (hs.fn hsc hf)) fun v τ Hh Q ⟨F, O, σ, x, A, σ', rs, ri, e, q⟩ => ?_
    unfold take at e
    split at e
    case h_1 _ _ j w ei =>
      injection ei with ei
      subst ei
      split at e
      case isFalse => cases e
      case isTrue hz =>
        cases e
        exact q _ (RS.set (T := []) rs (cold _ hz.2) hz.1 ri) fun vs hv => wipe_set (hv _ List.mem_cons_self)
    case h_2 ei => cases ei
    case h_3 ei => cases ei
    case h_4 => cases e
  | @tup es is k p h =>
    obtain ⟨h1, h2, _⟩ := gl_len (env := X.env) h
    refine PG.imp (pg_tup hc (pgs_of hN hnd hsc hf h) h1 h2) fun v τ Hh Q ⟨F, O, σ, x, A, σ', rs, ri, e, q⟩ => ?_
    unfold take at e
    split at e
    case h_1 ei => cases ei
    case h_2 _ _ js ws ei =>
      injection ei with ei
      subst ei
      obtain ⟨a, vs, rfl, ta, ra⟩ := RV.tup_at ri
      refine ⟨a, vs, rfl, hK ▸ ta.sq, ?_, slots_ok cold ra rs e q⟩
      rw [← ra.length]
      exact setAll_len e
    case h_3 _ _ js ws ei =>
      injection ei with ei
      subst ei
      obtain ⟨a, vs, rfl, ta, pw⟩ := ri
      refine ⟨a, vs, rfl, hK ▸ ta.sq, ?_, slots_ok cold pw rs e q⟩
      rw [← pw.length]
      exact setAll_len e
    case h_4 => cases e
end
end PV

/-! V2f: comprehensions, statements. -/
namespace PV
open PySem L2

/-! ### slots -/
theorem wipeW_len (σ : St) : ∀ vs : List Nat, (PV.wipe σ vs).length = σ.length
  | [] => rfl
  | v :: vs => by unfold PV.wipe; rw [List.length_set, wipeW_len σ vs]
theorem wipeW_get (σ : St) : ∀ (vs : List Nat) (j : Nat) (w : W), (PV.wipe σ vs)[j]? = some (some w) → j ∉ vs ∧ σ[j]? = some (some w)
  | [], j, w, h => ⟨by simp, h⟩
  | v :: vs, j, w, h => by
    unfold PV.wipe at h
    by_cases hj : v = j
    · subst hj
      by_cases hl : v < (PV.wipe σ vs).length
      · rw [List.getElem?_set_self hl] at h; cases h
      · rw [List.getElem?_eq_none (by rw [List.length_set]; omega)] at h; cases h
    · rw [List.getElem?_set_ne hj] at h
      obtain ⟨q1, q2⟩ := wipeW_get σ vs j w h
      exact ⟨by simp only [List.mem_cons, not_or]; exact ⟨fun e => hj e.symm, q1⟩, q2⟩
theorem RSl.congr {z : Z} {Hh : Hp} {O : AP} : ∀ {σ : St} {τ τ' : L2.St} {A : List Addr}, RSl z Hh O σ τ A → τ'.length = τ.length → (∀ (i : Nat) (w : W), σ[i]? = some (some w) → τ'[i]? = τ[i]?) → RSl z Hh O σ τ' A
  | [], τ, τ', A, h, hl, _ => by
    obtain ⟨rfl, rfl⟩ := h
    cases τ' with
    | nil => exact ⟨rfl, rfl⟩
    | cons => simp at hl
  | none :: σ, _, τ', A, ⟨x, t, e, h⟩, hl, k => by
    subst e
    cases τ' with
    | nil => simp at hl
    | cons x' t' => exact ⟨x', t', rfl, RSl.congr h (by simpa using hl) fun i w e => by simpa using k (i + 1) w (by simpa using e)⟩
  | some w :: σ, _, τ', A, ⟨v, t, B, C, e, e2, h1, h2⟩, hl, k => by
    subst e e2
    cases τ' with
    | nil => simp at hl
    | cons x' t' =>
      have := k 0 w rfl
      simp at this
      subst this
      exact ⟨v, t', B, C, rfl, rfl, h1, RSl.congr h2 (by simpa using hl) fun i w e => by simpa using k (i + 1) w (by simpa using e)⟩
theorem RS.unwipe {y : Y} {Hh : Hp} {O F : AP} {T : List Addr} {σ : St} {τ τ' : L2.St} {vs : List Nat} (h : RS y Hh O F T (PV.wipe σ vs) τ') (e : L2.wipe τ' vs = L2.wipe τ vs) (hot : ∀ i v, y.hot = some (i, v) → τ[i]? = some (some v)) (fx : ∀ i v, (i, v) ∈ y.fx → τ[i]? = some (some v)) : RS y Hh O F T (PV.wipe σ vs) τ := by
  obtain ⟨A, r, nd, d⟩ := h.sl
  refine ⟨⟨A, r.congr ?_ fun i w ei => ?_, nd, d⟩, h.tm, h.fr, h.dom, hot, fx⟩
  · have := congrArg List.length e
    rw [wipe_length, wipe_length] at this
    exact this.symm
  · obtain ⟨q1, _⟩ := wipeW_get _ _ _ _ ei
    have h1 := wipe_get τ' vs i
    have h2 := wipe_get τ vs i
    rw [e, h2, if_neg q1, if_neg q1] at h1
    exact h1

section
variable {g : Gm}
/-! ### comprehensions -/
def Gm.blk (g : Gm) (scope : Scope) : Gm := { g with sc := relS scope g.sc, top := false }
/-- no exception is wished -/
abbrev noW : WX := fun _ _ _ _ => False
theorem Cok.blk {X : Cx} {y : Y} {xc : Nat → Option Addr} {C : Calls} {Wx : WX} (hc : g.calm = true) (k : Cok g X y xc C Wx) (s : Shared) (Hh : Hp) (scope : Scope) (cl : List (Str × Addr)) (D : Addr) (fp : List Addr) :
    Cok (g.blk scope) (X.blk s Hh scope (compEnvC scope cl D X.env) fp) y xc C noW where
  N := k.N
  nd := k.nd
  sc := by
    show (compEnvC scope cl D X.env).scope = relS scope g.sc
    rw [← k.sc]
    rfl
  K := k.K
  calm := k.calm
  units := k.units
  glob := fun x v h => by
    have q := k.glob x v h
    cases v <;> exact q
  calls := fun hc i a e => by
    obtain ⟨h1, fd, ps, lv, h2, h3, h4⟩ := k.calls hc i a e
    exact ⟨h1, fd, ps, lv, h2, h3, h4⟩
  tk := fun u s' h => by
    obtain ⟨_, _, _, _, _, _, _, _, _, _, _, _, _, _, _, _, w⟩ := h
    exact w
  hd := fun T cs e => by
    obtain ⟨c, q⟩ := k.hd T cs e
    exact ⟨c, q.cls, q.nm, q.exm, q.kit⟩
  hot' := k.hot'
  hot := fun i v e => by
    obtain ⟨h, _⟩ := k.hot i v e
    rw [hc] at h
    cases h
  own := PassesOwn.never
  fnx := fun h => by cases h
  xcs := k.xcs
  cfx := k.cfx
  fx := k.fx
  gens := fun hc i a e => by
    obtain ⟨h1, fd, ps, lv, h2, h3, h4⟩ := k.gens hc i a e
    exact ⟨h1, fd, ps, lv, h2, h3, h4⟩
  xeg := fun _ _ _ _ _ _ h => h
def tCo (y : Y) (xc : Nat → Option Addr) (Wx : WX) (C : Calls) (e : Eo) : TT := fun τ Hh Q => ∃ F O σ, RS y Hh O F [] σ τ ∧ Go y F Hh O τ (fun _ _ k v A => v = k ∧ A = []) (XW y xc Wx τ) (evC C e σ) Q
/-- the tests of a comprehension: none or one -/
def SC (g : Gm) : List Expr → Eo → Prop
  | [], e => e = .none
  | [c], e => ∃ c', e = .some c' ∧ ST g c c'
  | _, _ => False
theorem PTs.imp {X : Cx} {es : List Expr} {t t' : TT} (h : PTs X es t) (k : ∀ τ Hh Q, t' τ Hh Q → t τ Hh Q) : PTs X es t' := ⟨fun pins s τ Hh Q I q => h.run pins s τ Hh Q I (k τ Hh Q q)⟩
theorem pts_of {X : Cx} {y : Y} {xc : Nat → Option Addr} {C : Calls} {Wx : WX} (k : Cok g X y xc C Wx) : ∀ {cs : List Expr} {c' : Eo}, SC g cs c' → PTs X cs (tCo y xc Wx C c')
  | [], c', h => by
    have e : c' = .none := h
    subst e
    refine PTs.imp pts_nil fun τ Hh Q ⟨F, O, σ, rs, go⟩ => ?_
    unfold evC at go
    exact Go.pure go rs ⟨rfl, rfl⟩
  | [c], c', ⟨e, e1, h⟩ => by
    subst e1
    refine PTs.imp (pts_one (h X y xc C Wx k)) fun τ Hh Q ⟨F, O, σ, rs, go⟩ => ?_
    unfold evC at go
    exact ⟨F, O, σ, rs, go⟩
  | _ :: _ :: _, _, h => h.elim
theorem notSet_fold {e : Expr} {env : Env} (h : notSet e = true) : ∀ x, foldedSetIterable e env x = pure x := by
  intro x
  cases e <;> first | rfl | cases h
theorem plus_cons_keep {F : AP} {D : Addr} {A : List Addr} {H1 H2 : Hp} {O1 O2 : AP} (n : Nx (plus F (D :: A)) H1 O1 H2 O2) : H2 D = H1 D ∧ (O1 D → O2 D) := n.keep D (.inr List.mem_cons_self)
theorem lc_read {y : Y} {xc : Nat → Option Addr} {C : Calls} {Wx : WX} {elt' : E} {tg' : T} {it' : It} {c' : Eo} {wp : List Nat} {τ : L2.St} {Hh : Hp} {Q : VK} (cold : ∀ i, C.fx.contains i = false → Cold y i) (hwp : ∀ i ∈ wp, C.fx.contains i = false) (hw : ∀ i ∈ tg'.slots, i ∈ wp) (h : tE y xc Wx C (.comp elt' tg' it' c' wp) τ Hh Q) :
    tLc (tI y xc Wx C it') (gT y C.fx tg') (tCo y xc noW C c') (tE y xc noW C elt') wp τ Hh Q := by
  obtain ⟨F, O, σ, rs, go⟩ := h
  unfold ev at go
  refine ⟨F, O, σ, rs, (Go.seq go).imp fun J H1 ⟨O1, xs, σ1, A1, n1, rs1, wok, go1⟩ D hD => ?_⟩
  obtain ⟨rfl, wok⟩ := wok
  obtain ⟨rs0, n0⟩ := rs1.alloc (u := .lst []) hD
  rw [List.nil_append] at rs0
  unfold M.bind at go1
  cases ec : compL C.fx tg' wp (evC C c') (ev C elt') xs [] σ1 with
  | none => rw [ec] at go1; exact go1.elim
  | some r =>
    rw [ec] at go1
    have nox : ∀ (xs : List Item) (acc : List W) (σ : St) (x : Exc) (σ' : St), compL C.fx tg' wp (evC C c') (ev C elt') xs acc σ ≠ some (.ex x σ') := by
      intro xs
      induction xs with
      | nil => intro acc σ x σ' e; unfold compL at e; cases e
      | cons a xs ih =>
        intro acc σ x σ' e
        unfold compL at e
        split at e
        case h_1 => cases e
        case h_2 =>
          split at e
          case h_1 =>
            split at e
            case h_1 =>
              split at e
              case isTrue => exact ih _ _ _ _ e
              case isFalse => cases e
            case h_2 => cases e
          case h_2 => exact ih _ _ _ _ e
          case h_3 => cases e
    cases r with
    | ex x h2 => exact absurd ec (nox _ _ _ _ _)
    | ok ws σ2 =>
      dsimp only at go1
      have fin : ∀ {H' : Hp} {O' : AP} {A vs}, Nx F H1 O1 H' O' → RS y H' O' F (D :: A) σ2 τ → H' D = some (.lst vs) → RVs y.z H' O' ws vs A → Q (.ref D) H' := fun {H' O' A vs} n' rs' eD r => by
        refine Go.pure (go1.mono n') rs' ?_
        simp only [RV]
        exact ⟨D, vs, A, rfl, rfl, rs'.tm D List.mem_cons_self, eD, r⟩
      refine ⟨fun i m H => m = xs.length - i ∧ i ≤ xs.length ∧ ∃ O' σ' acc vs A, Nx F H1 O1 H O' ∧ RS y H O' F (D :: A) σ' τ ∧ H D = some (.lst vs) ∧ RVs y.z H O' acc vs A ∧
        compL C.fx tg' wp (evC C c') (ev C elt') (xs.drop i) acc σ' = some (.ok ws σ2), ⟨_, rfl, Nat.zero_le _, _, σ1, [], [], [], n0, rs0, upd_same, .nil, by simpa using ec⟩, ?_⟩
      rintro i m H ⟨rfl, hi, O', σ', acc, vs, A, n', rs', eD, ra, e'⟩
      by_cases hlt : i < xs.length
      · right
        rw [List.drop_eq_getElem_cons hlt] at e'
        unfold compL at e'
        obtain ⟨turn, _⟩ := wok H O' F (D :: A) σ' τ (fun _ q => q) n' rs'
        obtain ⟨hgo, hy⟩ := turn i _ (List.getElem?_eq_getElem hlt)
        refine ⟨hgo, fun H' => ∃ O' σ' acc vs A, Nx F H1 O1 H' O' ∧ RS y H' O' F (D :: A) σ' τ ∧ H' D = some (.lst vs) ∧ RVs y.z H' O' acc vs A ∧ compL C.fx tg' wp (evC C c') (ev C elt') (xs.drop (i + 1)) acc σ' = some (.ok ws σ2), fun H' ⟨O'', σ'', acc', vs', A', a, b, c, d, e⟩ => ⟨_, by omega, rfl, hlt, O'', σ'', acc', vs', A', a, b, c, d, e⟩, fun v H2 hv => ?_⟩
        -- the turn, with what is made so far parked
        obtain ⟨turnP, _⟩ := wok H O' (plus F (D :: A)) [] σ' τ (fun _ q => .inl q) n' rs'.park
        obtain ⟨_, hyP⟩ := turnP i _ (List.getElem?_eq_getElem hlt)
        obtain ⟨n2, rs2, ri⟩ := hyP v H2 hv
        split at e'
        case h_1 => cases e'
        case h_2 σt et =>
          have cw : ∀ i ∈ wp, Cold y i := fun i hi => cold i (hwp i hi)
          refine ⟨plus F (D :: A), O', PV.wipe σ' wp, _, [], σt, rs2.wipe wp cw, ri, et, fun τ' rst hw' => ⟨by rw [hw' wp hw, wipe_wipe], plus F (D :: A), O', σt, rst, ?_⟩⟩
          have hτ' : L2.wipe τ' wp = L2.wipe τ wp := by rw [hw' wp hw, wipe_wipe]
          have endT : ∀ {H3 : Hp} {O3 : AP} {T : List Addr} {σ3 : St}, RS y H3 O3 (plus F (D :: A)) T σ3 τ' → RS y H3 O3 (plus F (D :: A)) T (PV.wipe σ3 wp) τ := fun {H3 O3 T σ3} r3 =>
            RS.unwipe (τ' := τ') (RS.drops wp r3) hτ' rs'.hot rs'.fx
          cases e1 : evC C c' σt with
          | none => rw [e1] at e'; cases e'
          | some r =>
            rw [e1] at e'
            cases r with
            | ex x hx => cases e'
            | ok b σ3 =>
              intro H3 O3 bv A3 n3 rs3 eb
              obtain ⟨rfl, rfl⟩ := eb
              have n23 := n2.trans n3
              have keep3 : ∀ a ∈ D :: A, H3 a = H a ∧ O3 a := fun a ha => ⟨(n23.keep a (.inr ha)).1, (n23.keep a (.inr ha)).2 (rs'.tm a ha)⟩
              have ra3 : RVs y.z H3 O3 acc vs A := RVs.stab n23.stab _ _ _ ra fun a ha => keep3 a (List.mem_cons_of_mem _ ha)
              cases bv with
              | false =>
                refine ⟨O3, PV.wipe σ3 wp, acc, vs, A, n'.trans (n23.weak fun _ q => .inl q), ?_, by rw [(keep3 D List.mem_cons_self).1]; exact eD, ra3, e'⟩
                have := (endT rs3).unpark rs'.nodup rs'.notF
                rwa [List.append_nil] at this
              | true =>
                dsimp only at e'
                refine ⟨plus F (D :: A), O3, σ3, rs3, ?_⟩
                cases e2 : ev C elt' σ3 with
                | none => rw [e2] at e'; cases e'
                | some r =>
                  rw [e2] at e'
                  cases r with
                  | ex x hx => cases e'
                  | ok w σ4 =>
                    intro H4 O4 wv A4 n4 rs4 rw4
                    dsimp only at e'
                    split at e'
                    case isFalse => cases e'
                    case isTrue hz =>
                      have n24 := n23.trans n4
                      have keep4 : ∀ a ∈ D :: A, H4 a = H a ∧ O4 a := fun a ha => ⟨(n24.keep a (.inr ha)).1, (n24.keep a (.inr ha)).2 (rs'.tm a ha)⟩
                      have ra4 : RVs y.z H4 O4 acc vs A := RVs.stab n24.stab _ _ _ ra fun a ha => keep4 a (List.mem_cons_of_mem _ ha)
                      have rs5 := (endT rs4).unpark rs'.nodup rs'.notF
                      have hDm : D ∈ (D :: A) ++ A4 := List.mem_append_left _ List.mem_cons_self
                      obtain ⟨rs6, n6, ne6⟩ := rs5.change (u := .lst (vs ++ [wv])) hDm
                      have nd := rs5.nodup
                      have hDn : D ∉ A ++ A4 := (List.nodup_cons.mp (by simpa using nd)).1
                      have neD : ∀ a ∈ A ++ A4, a ≠ D := fun a ha e => hDn (e ▸ ha)
                      have own6 : ∀ a ∈ A ++ A4, upd H4 D (.lst (vs ++ [wv])) a = H4 a ∧ O4 a := fun a ha => ⟨ne6 a (neD a ha), rs5.tm a (by rw [List.cons_append]; exact List.mem_cons_of_mem _ ha)⟩
                      refine ⟨vs, by rw [(keep4 D List.mem_cons_self).1]; exact eD, by rw [← ra.length, ← sz_eq]; exact hz, O4, PV.wipe σ4 wp, acc ++ [w], vs ++ [wv], A ++ A4, n'.trans ((n24.weak fun _ q => .inl q).trans n6), by simpa using rs6, upd_same, (RVs.stab n6.stab _ _ _ ra4 fun a ha => own6 a (List.mem_append_left _ ha)).append (RVs.one (RV.stab n6.stab _ _ _ rw4 fun a ha => own6 a (List.mem_append_right _ ha))), e'⟩
      · have hi' : i = xs.length := by omega
        subst hi'
        rw [List.drop_length] at e'
        unfold compL at e'
        cases e'
        obtain ⟨_, hstop⟩ := wok H O' F (D :: A) _ τ (fun _ q => q) n' rs'
        exact .inl ⟨hstop, fin n' rs' eD ra⟩
theorem s_comp {elt tg iter : Expr} {ifs : List Expr} {scope : Scope} {own : List (Str × Nat)} {pos : Pos} {elt' : E} {tg' : T} {it' : It} {c' : Eo} (hc : g.calm = true) (hi : SI g tg iter it') (ok : blkC g.N g.sc scope own = true) (ht : TT' (g.blk scope) tg tg') (hw : ∀ i ∈ tg'.slots, i ∈ own.map (·.2)) (hx : ∀ i ∈ own.map (·.2), g.fx.contains i = false)
    (hcs : SC (g.blk scope) ifs c') (he : SE (g.blk scope) elt elt') (hs : notSet iter = true) : SE g (.ListComp elt [⟨tg, iter, ifs, 0⟩] scope pos) (.comp elt' tg' it' c' (own.map (·.2))) := fun X y xc C Wx k => by
  have okB : BlkOk X.N X.env.scope scope own := by
    rw [k.N, k.sc]
    exact blkOk_by ok
  exact PE.imp (pe_lc (k.calm hc) k.nd (hi X y xc C Wx hc k) okB (fun s Hh D cl fp => by
      have kb := k.blk hc s Hh scope cl D fp
      exact pg_of (fx := C.fx) kb.N kb.nd kb.sc kb.fnx kb.K (k.calm hc) (fun i hi => k.cold hc hi) ht) (fun s Hh D cl fp => pts_of (k.blk hc s Hh scope cl D fp) hcs) (fun s Hh D cl fp => he _ y xc C noW (k.blk hc s Hh scope cl D fp)) (notSet_fold hs)) fun τ Hh Q h => lc_read (fun i hi => k.cold hc hi) (by rw [k.cfx]; exact hx) hw h

/-! ### statements -/
def GoS (y : Y) (xc : Nat → Option Addr) (F : AP) (Hh : Hp) (O : AP) (Wx : WX) (r : Option Out) (D : Ends) : Prop :=
  match r with
  | none => False
  | some (.ok (.nx σ)) => ∀ H' O' τ, Nx F Hh O H' O' → RS y H' O' F [] σ τ → D.nx τ H'
  | some (.ok (.bk σ)) => ∀ H' O' τ, Nx F Hh O H' O' → RS y H' O' F [] σ τ → D.bk τ H'
  | some (.ok (.ct σ)) => ∀ H' O' τ, Nx F Hh O H' O' → RS y H' O' F [] σ τ → D.ct τ H'
  | some (.ok (.rt w σ)) => ∀ H' O' v A τ, Nx F Hh O H' O' → RS y H' O' F A σ τ → RV y.z H' O' w v A → D.rt v H'
  | some (.ex x σ) => ∀ H' O' τ cls d, Nx F Hh O H' O' → RS y H' O' F [] σ τ → RX y xc x H' O' cls d → Wx cls d τ H'
section
variable {y : Y} {xc : Nat → Option Addr} {F : AP} {Hh H1 : Hp} {O O1 : AP} {Wx : WX} {D : Ends}
theorem GoS.mono {r : Option Out} (n : Nx F Hh O H1 O1) (go : GoS y xc F Hh O Wx r D) : GoS y xc F H1 O1 Wx r D := by
  unfold GoS at go ⊢
  split at go
  · exact go
  · exact fun H' O' τ n' => go H' O' τ (n.trans n')
  · exact fun H' O' τ n' => go H' O' τ (n.trans n')
  · exact fun H' O' τ n' => go H' O' τ (n.trans n')
  · exact fun H' O' v A τ n' => go H' O' v A τ (n.trans n')
  · exact fun H' O' τ cls d n' => go H' O' τ cls d (n.trans n')
theorem GoS.onEP {α β : Type} {ra : RA α β} {T : List Addr} {σ : St} {τ : L2.St} {m : M α} {k : α → St → Option Out} (nd : T.Nodup) (hd : ∀ a ∈ T, ¬F a) (go : GoS y xc F Hh O Wx (onE m k σ) D) :
    Go y (plus F T) Hh O τ ra (XW y xc Wx τ) (m σ) (fun v H1 => ∃ O1 a σ1 A1, Nx (plus F T) Hh O H1 O1 ∧ RS y H1 O1 (plus F T) A1 σ1 τ ∧ ra H1 O1 a v A1 ∧ GoS y xc F H1 O1 Wx (k a σ1) D) := by
  unfold PV.onE at go
  cases e : m σ with
  | none => rw [e] at go; exact go.elim
  | some r =>
    rw [e] at go
    cases r with
    | ok a σ1 => exact fun H' O' v A n rs r => ⟨O', a, σ1, A, n, rs, r, go.mono (n.weak fun _ q => .inl q)⟩
    | ex x σ1 => exact fun H' O' n rs cls d rx => go H' O' τ cls d (n.weak fun _ q => .inl q) (rs.weakF fun _ q => .inl q) rx
theorem GoS.onE {α β : Type} {ra : RA α β} {σ : St} {τ : L2.St} {m : M α} {k : α → St → Option Out} (go : GoS y xc F Hh O Wx (onE m k σ) D) :
    Go y F Hh O τ ra (XW y xc Wx τ) (m σ) (fun v H1 => ∃ O1 a σ1 A1, Nx F Hh O H1 O1 ∧ RS y H1 O1 F A1 σ1 τ ∧ ra H1 O1 a v A1 ∧ GoS y xc F H1 O1 Wx (k a σ1) D) := by
  unfold PV.onE at go
  cases e : m σ with
  | none => rw [e] at go; exact go.elim
  | some r =>
    rw [e] at go
    cases r with
    | ok a σ1 => exact fun H' O' v A n rs r => ⟨O', a, σ1, A, n, rs, r, go.mono n⟩
    | ex x σ1 => exact fun H' O' n rs cls d rx => go H' O' τ cls d n rs rx
end
def tS (y : Y) (xc : Nat → Option Addr) (Wx : WX) (XS : List XCls) (C : Calls) (s : S) : TS := fun D τ Hh => ∃ F O σ, RS y Hh O F [] σ τ ∧ GoS y xc F Hh O Wx (exec XS C s σ) D
/-- what the statements lean on besides: the frame -/
structure Cks (g : Gm) (X : Cx) (y : Y) (xc : Nat → Option Addr) (C : Calls) (Wx : WX) : Prop where
  ok : Cok g X y xc C Wx
  st : X.stack = X.env :: X.outer
  fr : X.env.frame = some X.env.locals
def SS (g : Gm) (XS : List XCls) (st : Stmt) (s : S) : Prop := ∀ X y xc C Wx, Cks g X y xc C Wx → PS X st (tS y xc Wx XS C s)
def SB (g : Gm) (XS : List XCls) (st : List Stmt) (s : S) : Prop := ∀ X y xc C Wx, Cks g X y xc C Wx → PSs X st (tS y xc Wx XS C s)
variable {XS : List XCls}
theorem b_nil : SB g XS [] .skip := fun X y xc C Wx k => by
  refine PSs.imp pss_nil fun D τ Hh ⟨F, O, σ, rs, go⟩ => ?_
  exact go Hh O τ .refl rs
theorem b_one {st : Stmt} {s : S} (h : SS g XS st s) : SB g XS [st] s := fun X y xc C Wx k => pss_one (h X y xc C Wx k)
theorem b_cons {st : Stmt} {r : List Stmt} {a b : S} (h1 : SS g XS st a) (h2 : SB g XS r b) : SB g XS (st :: r) (.seq a b) := fun X y xc C Wx k => by
  refine PSs.imp (pss_cons (h1 X y xc C Wx k) (h2 X y xc C Wx k)) fun D τ Hh ⟨F, O, σ, rs, go⟩ => ⟨F, O, σ, rs, ?_⟩
  unfold exec at go
  cases e : exec XS C a σ with
  | none => rw [e] at go; exact go.elim
  | some o =>
    rw [e] at go
    cases o with
    | ex x σ1 => exact go
    | ok f =>
      cases f with
      | nx σ1 => exact fun H' O' τ' n rs' => ⟨F, O', σ1, rs', go.mono n⟩
      | bk σ1 => exact go
      | ct σ1 => exact go
      | rt w σ1 => exact go
theorem st_pass {pos : Pos} : SS g XS (.Pass pos) .skip := fun X y xc C Wx k => by
  refine PS.imp ps_pass fun D τ Hh ⟨F, O, σ, rs, go⟩ => ?_
  exact go Hh O τ .refl rs
theorem st_brk {pos : Pos} : SS g XS (.Break pos) .brk := fun X y xc C Wx k => by
  refine PS.imp ps_break fun D τ Hh ⟨F, O, σ, rs, go⟩ => ?_
  exact go Hh O τ .refl rs
theorem st_cnt {pos : Pos} : SS g XS (.Continue pos) .cnt := fun X y xc C Wx k => by
  refine PS.imp ps_continue fun D τ Hh ⟨F, O, σ, rs, go⟩ => ?_
  exact go Hh O τ .refl rs
def notComp : Expr → Bool
  | .ListComp _ _ _ _ => false
  | .SetComp _ _ _ _ => false
  | .DictComp _ _ _ _ _ => false
  | _ => true
theorem swaps_no {e : Expr} {t : Option Expr} {l : Nat} {env : Env} (h : notComp e = true) : swapsWith e t l env = pure false := by
  cases e <;> first | rfl | cases h
theorem sole_no {e t : Expr} {l : Nat} {env : Env} (h : notComp e = true) : swapsWithSole [t] e l env = pure false := by
  unfold swapsWithSole
  exact swaps_no h
theorem st_expr {e : Expr} {e' : E} {pos : Pos} (hn : notComp e = true) (he : SE g e e') : SS g XS (.Expr e pos) (.expr e') := fun X y xc C Wx k => by
  refine PS.imp (ps_expr (he X y xc C Wx k.ok) (swaps_no hn)) fun D τ Hh ⟨F, O, σ, rs, go⟩ => ?_
  unfold exec at go
  exact ⟨F, O, σ, rs, (GoS.onE go).imp fun v H1 ⟨O1, a, σ1, A1, n1, rs1, _, go1⟩ => go1 H1 O1 τ .refl rs1.toss⟩
theorem Cks.cold {X : Cx} {y : Y} {xc : Nat → Option Addr} {C : Calls} {Wx : WX} {i : Nat} {x : Str} {σ : St} (k : Cks g X y xc C Wx) (hi : g.N[i]? = some x) (hs : Sto g x) (ho : okSet C σ i = true) : Cold y i ∧ i < σ.length := by
  unfold okSet at ho
  rw [Bool.and_eq_true, decide_eq_true_eq, Bool.not_eq_true'] at ho
  refine ⟨⟨fun v e => ?_, fun v e => ?_⟩, ho.1⟩
  · obtain ⟨_, x', _, h1, h2, _⟩ := k.ok.hot i v e
    rw [hi] at h2
    cases h2
    exact hs.2 h1
  · have := k.ok.fx i v e
    rw [k.ok.cfx] at ho
    have h2 : g.fx.contains i = true := List.contains_iff_mem.mpr this
    rw [h2] at ho
    cases ho.2
theorem st_set {x : Str} {i : Nat} {e : Expr} {e' : E} {p pos : Pos} (hi : g.N[i]? = some x) (hs : Sto g x) (hn : notComp e = true) (he : SE g e e') : SS g XS (.Assign [.Name x p] e pos) (.set i e') := fun X y xc C Wx k => by
  refine PS.imp (ps_set (i := i) k.ok.nd (by rw [k.ok.N]; exact hi) (hs.loc k.ok.sc) (he X y xc C Wx k.ok) (swaps_no hn) (hs.fn k.ok.sc k.ok.fnx)) fun D τ Hh ⟨F, O, σ, rs, go⟩ => ?_
  unfold exec at go
  refine ⟨F, O, σ, rs, (GoS.onE go).imp fun v H1 ⟨O1, w, σ1, A1, n1, rs1, r1, go1⟩ => ?_⟩
  split at go1
  case isFalse => exact go1.elim
  case isTrue ho =>
    obtain ⟨hc, hl⟩ := k.cold hi hs ho
    exact go1 H1 O1 _ .refl (RS.set (T := []) rs1 hc hl r1)
theorem st_setLc {x : Str} {i : Nat} {p pos : Pos} {elt tg iter : Expr} {ifs : List Expr} {scope : Scope} {own : List (Str × Nat)} {cpos : Pos} {elt' : E} {tg' : T} {it' : It} {c' : Eo} (hix : g.N[i]? = some x) (hsx : Sto g x) (hsl : g.sc.names.lookup x = some .local) (hk : g.sc.kind = .function) (hl : (p.line == cpos.line) = true) (ha : (scope.names.any fun (n, k) => n == x && (k == .local || k == .cell)) = false)
    (hc : g.calm = true) (hi : SI g tg iter it') (ok : blkC g.N g.sc scope own = true) (ht : TT' (g.blk scope) tg tg') (hw : ∀ i ∈ tg'.slots, i ∈ own.map (·.2)) (hx : ∀ i ∈ own.map (·.2), g.fx.contains i = false) (hcs : SC (g.blk scope) ifs c') (he : SE (g.blk scope) elt elt') (hs : notSet iter = true) :
    SS g XS (.Assign [.Name x p] (.ListComp elt [⟨tg, iter, ifs, 0⟩] scope cpos) pos) (.set i (.comp elt' tg' it' c' (own.map (·.2)))) := fun X y xc C Wx ks => by
  have k := ks.ok
  have hloc : X.env.scope.names.lookup x = some .local := by rw [k.sc]; exact hsl
  have okB : BlkOk X.N X.env.scope scope own := by
    rw [k.N, k.sc]
    exact blkOk_by ok
  refine PS.imp (ps_setLc (i := i) (k.calm hc) k.nd (by rw [k.N]; exact hix) hloc (sw_true (by rw [k.sc]; exact hk) hloc hl ha) (hi X y xc C Wx hc k) okB (fun s Hh D cl fp => by
      have kb := k.blk hc s Hh scope cl D fp
      exact pg_of (fx := C.fx) kb.N kb.nd kb.sc kb.fnx kb.K (k.calm hc) (fun i hi => k.cold hc hi) ht) (fun s Hh D cl fp => pts_of (k.blk hc s Hh scope cl D fp) hcs) (fun s Hh D cl fp => he _ y xc C noW (k.blk hc s Hh scope cl D fp)) (notSet_fold hs)) fun D τ Hh ⟨F, O, σ, rs, go⟩ => ?_
  unfold exec at go
  refine lc_read (fun i hi => k.cold hc hi) (by rw [k.cfx]; exact hx) hw (Q := fun v H1 => gName i v τ H1 D.nx) ⟨F, O, σ, rs, (GoS.onE go).imp fun v H1 ⟨O1, w, σ1, A1, n1, rs1, r1, go1⟩ => ?_⟩
  split at go1
  case isFalse => exact go1.elim
  case isTrue ho =>
    obtain ⟨hc, hl⟩ := ks.cold hix hsx ho
    exact go1 H1 O1 _ .refl (RS.set (T := []) rs1 hc hl r1)
def notTup : Expr → Bool
  | .Tuple _ _ _ => false
  | _ => true
theorem st_setT {es : List Expr} {is : List Nat} {e : Expr} {e' : E} {k1 : Nat} {p pos : Pos} (hc : g.calm = true) (ht : TT' g (.Tuple es k1 p) (.tup is)) (hn : notComp e = true) (hnt : notTup e = true) (he : SE g e e') : SS g XS (.Assign [.Tuple es k1 p] e pos) (.setT is e') := fun X y xc C Wx k => by
  refine PS.imp (ps_asg (he X y xc C Wx k.ok) (pg_of (fx := C.fx) k.ok.N k.ok.nd k.ok.sc k.ok.fnx k.ok.K (k.ok.calm hc) (fun i hi => k.ok.cold hc hi) ht) (sole_no hn) (by cases e <;> first | rfl | cases hnt)) fun D τ Hh ⟨F, O, σ, rs, go⟩ => ?_
  unfold exec at go
  refine ⟨F, O, σ, rs, (GoS.onE go).imp fun v H1 ⟨O1, w, σ1, A1, n1, rs1, r1, go1⟩ => ?_⟩
  split at go1
  case h_2 => exact go1.elim
  case h_1 σ2 et =>
    exact ⟨F, O1, σ1, .one w, A1, σ2, rs1, r1, et, fun τ' rs' _ => go1 H1 O1 τ' .refl rs'⟩
theorem st_par {x x2 : Str} {i j : Nat} {a b : Expr} {a' b' : E} {px px2 pt : Pos} {kt k2 : Nat} {pt2 pos : Pos} (hc : g.calm = true) (hi : g.N[i]? = some x) (hj : g.N[j]? = some x2) (hij : i ≠ j) (hs : Sto g x) (hs2 : Sto g x2) (hsl : g.sc.names.lookup x = some .local) (hsl2 : g.sc.names.lookup x2 = some .local) (hn : nst a = true) (hn2 : nst b = true) (ha : SE g a a') (hb : SE g b b')
    (hp : ∀ (X : Cx) (ta : TA), X.calm = true → X.N.Nodup → X.N[i]? = some x → X.N[j]? = some x2 → i ≠ j → X.env.scope.names.lookup x = some .local → X.env.scope.names.lookup x2 = some .local → PA X [a, b] ta → X.env.scope = g.sc → PS X (.Assign [.Tuple [.Name x px, .Name x2 px2] kt pt] (.Tuple [a, b] k2 pt2) pos) (tPar i j ta)) :
    SS g XS (.Assign [.Tuple [.Name x px, .Name x2 px2] kt pt] (.Tuple [a, b] k2 pt2) pos) (.par i j a' b') := fun X y xc C Wx k => by
  have hl : X.env.scope.names.lookup x = some .local := by rw [k.ok.sc]; exact hsl
  have hl2 : X.env.scope.names.lookup x2 = some .local := by rw [k.ok.sc]; exact hsl2
  refine PS.imp (hp X _ (k.ok.calm hc) k.ok.nd (by rw [k.ok.N]; exact hi) (by rw [k.ok.N]; exact hj) hij hl hl2 (pa_cons (ha X y xc C Wx k.ok) (pa_cons (hb X y xc C Wx k.ok) pa_nil (star_cons hn2)) (star_cons hn)) k.ok.sc) fun D τ Hh ⟨F, O, σ, rs, go⟩ => ?_
  unfold exec at go
  refine ⟨F, O, σ, rs, (GoS.onE go).imp fun v H1 ⟨O1, w1, σ1, A1, n1, rs1, r1, go1⟩ => ⟨plus F A1, O1, σ1, rs1.park, (GoS.onEP rs1.nodup rs1.notF go1).imp fun u H2 ⟨O2, w2, σ2, A2, n2, rs2, r2, go2⟩ => ?_⟩⟩
  refine ⟨v, u, rfl, ?_⟩
  split at go2
  case isFalse => exact go2.elim
  case isTrue ho =>
    obtain ⟨hc1, hl1⟩ := k.cold hi hs ho.1
    obtain ⟨hc2, hl2⟩ := k.cold hj hs2 ho.2
    have rs3 := (rs2.unpark rs1.nodup rs1.notF).perm (List.perm_append_comm)
    have rs4 := RS.set (T := A2) rs3 hc1 hl1 (r1.later n2 rs1.tm)
    exact go2 H2 O2 _ .refl (RS.set (T := []) rs4 hc2 (by rw [List.length_set]; exact hl2) r2)
theorem RVs.setI {z : Z} {Hh : Hp} {O : AP} {w : W} {v : V} {A : List Addr} (r : RV z Hh O w v A) : ∀ {xs : List W} {vs : List V} {B : List Addr} {j : Nat}, RVs z Hh O xs vs B → ∃ B' L, RVs z Hh O (xs.set j w) (vs.set j v) B' ∧ (A ++ B).Perm L ∧ B'.Sublist L
  | [], _, _, j, h => by
    simp only [RVs] at h
    obtain ⟨rfl, rfl⟩ := h
    exact ⟨[], A ++ [], .nil, .refl _, List.nil_sublist _⟩
  | x :: xs, _, _, 0, h => by
    simp only [RVs] at h
    obtain ⟨v0, r0, B, C, rfl, rfl, h1, h2⟩ := h
    refine ⟨A ++ C, A ++ (B ++ C), RVs.cons r h2, .refl _, ?_⟩
    exact (List.sublist_append_right B C).append_left A
  | x :: xs, _, _, j + 1, h => by
    simp only [RVs] at h
    obtain ⟨v0, r0, B, C, rfl, rfl, h1, h2⟩ := h
    obtain ⟨B', L, q1, q2, q3⟩ := RVs.setI r (j := j) h2
    refine ⟨B ++ B', B ++ L, RVs.cons h1 q1, ?_, q3.append_left B⟩
    refine List.Perm.trans ?_ (q2.append_left B)
    rw [← List.append_assoc, ← List.append_assoc]
    exact List.perm_append_comm.append_right C
theorem st_setI {x : Str} {o : Nat} {i e : Expr} {i' e' : E} {po p pos : Pos} (hN : g.N[o]? = some x) (hv : Vis g.sc x) (hd : (x == ("__debug__" : Str)) = false) (hcd : (x == ("__classdict__" : Str)) = false) (hn : notComp e = true) (hsl : notSlice i = true) (hi : SE g i i') (he : SE g e e') : SS g XS (.Assign [.Subscript (.Name x po) i p] e pos) (.setI o i' e') := fun X y xc C Wx k => by
  refine PS.imp (ps_asg (he X y xc C Wx k.ok) (pg_sub (vis_pe hN hv hd hcd k.ok) (hi X y xc C Wx k.ok) set_list (by intro v; cases i <;> first | rfl | cases hsl)) (sole_no hn) (by cases e <;> rfl)) fun D τ Hh ⟨F, O, σ, rs, go⟩ => ?_
  unfold exec at go
  refine ⟨F, O, σ, rs, (GoS.onE go).imp fun v H1 ⟨O1, w1, σ1, A1, n1, rs1, r1, go1⟩ => ?_⟩
  split at go1
  case h_2 => exact go1.elim
  case h_1 w0 e0 =>
    obtain ⟨u, B0, et, _⟩ := rs1.look e0
    refine ⟨u, et, plus F A1, O1, σ1, rs1.park, (GoS.onEP rs1.nodup rs1.notF go1).imp fun z H2 ⟨O2, w2, σ2, A2, n2, rs2, r2, go2⟩ => ?_⟩
    split at go2
    case h_2 => exact go2.elim
    case h_1 xs ex =>
      split at go2
      case h_2 => exact go2.elim
      case h_1 xs' es =>
        cases w2 with
        | int kk =>
          simp only [RV] at r2
          obtain ⟨rfl, rfl⟩ := r2
          unfold setIx at es
          dsimp only at es
          cases ei : ixn xs.length kk with
          | none => rw [ei] at es; cases es
          | some j =>
            rw [ei] at es
            cases es
            have rs3 := rs2.unpark rs1.nodup rs1.notF
            rw [List.append_nil] at rs3
            obtain ⟨u', B, e1, rl, rs4⟩ := rs3.out ex
            rw [et] at e1; cases e1
            simp only [RV] at rl
            obtain ⟨a, vs, B1, rfl, rfl, oa, ea, rx⟩ := rl
            obtain ⟨B', L, q1, q2, q3⟩ := RVs.setI (j := j) (r1.later n2 rs1.tm) rx
            refine ⟨a, vs, kk, j, rfl, rfl, ea, by rw [← rx.length, ← ixn_eq]; exact ei, ?_⟩
            obtain ⟨rs5, n5, ne⟩ := rs4.change (u := .lst (vs.set j v)) (p := a) (List.mem_append_right _ List.mem_cons_self)
            have pm : (A1 ++ a :: B1).Perm (a :: L) := List.perm_middle.trans (q2.cons a)
            have rs6 := (rs5.perm pm).less (q3.cons_cons a)
            have n4 := List.nodup_cons.mp rs6.nodup
            refine go2 _ _ τ (n5.weak fun _ q => q) (RS.putBack (T := []) rs6 et ?_)
            simp only [RV]
            exact ⟨a, vs.set j v, B', rfl, rfl, rs6.tm a List.mem_cons_self, upd_same, RVs.stab n5.stab _ _ _ q1 fun b hb => ⟨ne b fun e => n4.1 (e ▸ hb), rs6.tm b (List.mem_cons_of_mem _ hb)⟩⟩
        | _ => cases es
def rAug (y : Y) (o : BOp) : TIp := fun v u Hh Q => ∃ O w1 w2 A1 A2 w, RV y.z Hh O w1 v A1 ∧ RV y.z Hh O w2 u A2 ∧ augOp o w1 w2 = some w ∧ ∀ z, RV y.z Hh O w z [] → Q z Hh
theorem aug_ok {X : Cx} {y : Y} {op : Operator} {o : BOp} (h : (op = .Add ∧ o = .add) ∨ (op = .Sub ∧ o = .sub) ∨ (op = .Mult ∧ o = .mul)) : PIp X op (rAug y o) := by
  intro pins s τ Hh v u v' u' Q I rv ru ⟨O, w1, w2, A1, A2, w, r1, r2, e0, go⟩
  unfold augOp at e0
  split at e0
  case h_1 i j =>
    simp only [RV] at r1 r2
    cases e0
    rcases h with ⟨rfl, _⟩ | ⟨_, e⟩ | ⟨_, e⟩
    · exact iop_add pins s τ Hh v u v' u' Q I rv ru ⟨_, _, r1.1, r2.1, go _ (by simp only [RV]; trivial)⟩
    · cases e
    · cases e
  case h_2 a b =>
    simp only [RV] at r1 r2
    rcases h with ⟨rfl, _⟩ | ⟨_, e⟩ | ⟨_, e⟩
    · split at e0
      case isFalse => cases e0
      case isTrue hz =>
        cases e0
        refine iop_add_str pins s τ Hh v u v' u' Q I rv ru ⟨_, _, r1.1, r2.1, ?_, go _ ?_⟩
        · rw [strV_len, strV_len, ← sz_eq]; exact hz
        · simp only [RV]; rw [strV_app]; exact ⟨rfl, trivial⟩
    · cases e
    · cases e
  case h_3 i j =>
    simp only [RV] at r1 r2
    cases e0
    rcases h with ⟨_, e⟩ | ⟨rfl, _⟩ | ⟨_, e⟩
    · cases e
    · exact iop_sub pins s τ Hh v u v' u' Q I rv ru ⟨_, _, r1.1, r2.1, go _ (by simp only [RV]; trivial)⟩
    · cases e
  case h_4 i j =>
    simp only [RV] at r1 r2
    rcases h with ⟨_, e⟩ | ⟨_, e⟩ | ⟨rfl, _⟩
    · cases e
    · cases e
    · split at e0
      case isFalse => cases e0
      case isTrue hz =>
        cases e0
        exact iop_mul pins s τ Hh v u v' u' Q I rv ru ⟨_, _, r1.1, r2.1, mulOk_ok hz, go _ (by simp only [RV]; trivial)⟩
  case h_5 => cases e0
theorem st_aug {x : Str} {i : Nat} {op : Operator} {o : BOp} {e : Expr} {e' : E} {p pos : Pos} (ho : (op = .Add ∧ o = .add) ∨ (op = .Sub ∧ o = .sub) ∨ (op = .Mult ∧ o = .mul)) (hi : g.N[i]? = some x) (hs : Sto g x) (he : SE g e e') : SS g XS (.AugAssign (.Name x p) op e pos) (.aug i o e') := fun X y xc C Wx k => by
  refine ⟨fun pins s τ Hh D I ⟨F, O, σ, rs, go⟩ => ?_⟩
  refine (ps_aug (i := i) k.ok.nd (by rw [k.ok.N]; exact hi) (hs.loc k.ok.sc) (he X y xc C Wx k.ok) (aug_ok (y := y) ho) (hs.fn k.ok.sc k.ok.fnx)).run pins s τ Hh D I ?_
  unfold exec at go
  split at go
  case h_2 => exact go.elim
  case h_1 w0 e0 =>
    obtain ⟨v, B0, et, _⟩ := rs.look e0
    refine ⟨v, et, F, O, σ, rs, (GoS.onE go).imp fun u H1 ⟨O1, w1, σ1, A1, n1, rs1, r1, go1⟩ => ?_⟩
    split at go1
    case h_2 => exact go1.elim
    case h_1 w2 e2 =>
      obtain ⟨v2, B2, et2, r2⟩ := rs1.look e2
      rw [et] at et2; cases et2
      split at go1
      case h_2 => exact go1.elim
      case h_1 w3 e3 =>
        split at go1
        case isFalse => exact go1.elim
        case isTrue hk =>
          obtain ⟨hc, hl⟩ := k.cold hi hs hk
          exact ⟨O1, w2, w1, B2, A1, w3, r2, r1, e3, fun z rz => go1 H1 O1 _ .refl (RS.set (T := []) rs1.toss hc hl rz)⟩
theorem st_if {c : Expr} {a b : List Stmt} {c' : E} {a' b' : S} {pos : Pos} (hc : ST g c c') (ha : SB g XS a a') (hb : SB g XS b b') : SS g XS (.If c a b pos) (.ife c' a' b') := fun X y xc C Wx k => by
  refine PS.imp (ps_if (hc X y xc C Wx k.ok) (ha X y xc C Wx k) (hb X y xc C Wx k)) fun D τ Hh ⟨F, O, σ, rs, go⟩ => ?_
  unfold exec at go
  refine ⟨F, O, σ, rs, (GoS.onE go).imp fun v H1 ⟨O1, w1, σ1, A1, n1, rs1, r1, go1⟩ => ?_⟩
  obtain ⟨rfl, _⟩ := r1
  cases v with
  | true => exact ⟨F, O1, σ1, rs1.toss, go1⟩
  | false => exact ⟨F, O1, σ1, rs1.toss, go1⟩
theorem st_ret {e : Expr} {e' : E} {pos : Pos} (he : SE g e e') : SS g XS (.Return (some e) pos) (.ret (.some e')) := fun X y xc C Wx k => by
  refine PS.imp (ps_ret (he X y xc C Wx k.ok)) fun D τ Hh ⟨F, O, σ, rs, go⟩ => ?_
  unfold exec at go
  exact ⟨F, O, σ, rs, (GoS.onE go).imp fun v H1 ⟨O1, w1, σ1, A1, n1, rs1, r1, go1⟩ => go1 H1 O1 v A1 τ .refl rs1 r1⟩
theorem st_retN {pos : Pos} : SS g XS (.Return none pos) (.ret .none) := fun X y xc C Wx k => by
  refine PS.imp ps_retN fun D τ Hh ⟨F, O, σ, rs, go⟩ => ?_
  unfold exec at go
  exact go Hh O .non [] τ .refl rs (by simp only [RV]; trivial)
theorem st_whl {c : Expr} {b : List Stmt} {c' : E} {b' : S} {wp : List Nat} {pos : Pos} (hc : ST g c c') (hb : SB g XS b b') : SS g XS (.While c b [] pos) (.whl c' b' wp) := fun X y xc C Wx k => by
  refine PS.imp (ps_while k.ok.own (hc X y xc C Wx k.ok) (hb X y xc C Wx k)) fun D τ Hh ⟨F, O, σ, rs, go⟩ => ?_
  unfold exec at go
  generalize FUEL = fuel at go
  refine ⟨fun m τ Hh => ∃ F O σ, RS y Hh O F [] σ τ ∧ GoS y xc F Hh O Wx (whlL wp (evT C c') (fun σ => exec XS C b' σ) m σ) D, ⟨fuel, F, O, σ, rs, go⟩, ?_⟩
  rintro m τ Hh ⟨F, O, σ, rs, go⟩
  cases m with
  | zero => exact go.elim
  | succ m =>
    unfold whlL at go
    refine ⟨F, O, σ, rs, (GoS.onE go).imp fun v H1 ⟨O1, w1, σ1, A1, n1, rs1, r1, go1⟩ => ?_⟩
    obtain ⟨rfl, _⟩ := r1
    cases v with
    | false => exact go1 H1 O1 τ .refl rs1.toss
    | true =>
      refine ⟨fun τ Hh => ∃ F O σ, RS y Hh O F [] σ τ ∧ GoS y xc F Hh O Wx (whlL wp (evT C c') (fun σ => exec XS C b' σ) m σ) D, fun τ' H' q => ⟨m, Nat.lt_succ_self _, q⟩, ⟨F, O1, σ1, rs1.toss, ?_⟩⟩
      dsimp only at go1
      cases e : exec XS C b' σ1 with
      | none => rw [e] at go1; exact go1.elim
      | some o =>
        rw [e] at go1
        cases o with
        | ex x σ2 => exact go1
        | ok f =>
          cases f with
          | nx σ2 => exact fun H' O' τ' n rs' => ⟨F, O', _, rs'.drops wp, go1.mono n⟩
          | ct σ2 => exact fun H' O' τ' n rs' => ⟨F, O', _, rs'.drops wp, go1.mono n⟩
          | bk σ2 => exact fun H' O' τ' n rs' => go1 H' O' τ' n (rs'.drops wp)
          | rt w σ2 => exact go1
theorem st_for {tg iter : Expr} {tg' : T} {it' : It} {b : List Stmt} {b' : S} {wp : List Nat} {pos : Pos} (hc : g.calm = true) (hs : notSet iter = true) (ht : TT' g tg tg') (hi : SI g tg iter it') (hb : SB g XS b b') : SS g XS (.For tg iter b [] pos) (.for tg' it' b' wp) := fun X y xc C Wx k => by
  refine PS.imp (ps_for k.ok.own (k.ok.calm hc) (hi X y xc C Wx hc k.ok) (pg_of (fx := C.fx) k.ok.N k.ok.nd k.ok.sc k.ok.fnx k.ok.K (k.ok.calm hc) (fun i hi => k.ok.cold hc hi) ht) (hb X y xc C Wx k) (notSet_fold hs)) fun D τ Hh ⟨F, O, σ, rs, go⟩ => ?_
  unfold exec at go
  refine ⟨F, O, σ, rs, (GoS.onE go).imp fun J H1 ⟨O1, xs, σ1, A1, n1, rs1, wok, go1⟩ => ?_⟩
  obtain ⟨rfl, wok⟩ := wok
  refine ⟨fun i m τ Hh => m = xs.length - i ∧ i ≤ xs.length ∧ ∃ O σ, Nx F H1 O1 Hh O ∧ RS y Hh O F [] σ τ ∧ GoS y xc F Hh O Wx (forL C.fx tg' wp (fun σ => exec XS C b' σ) (xs.drop i) σ) D, ⟨_, rfl, Nat.zero_le _, O1, σ1, .refl, rs1, by simpa using go1⟩, ?_⟩
  rintro i m τ Hh ⟨rfl, hi', O', σ', n', rs', go'⟩
  obtain ⟨turn, hstop⟩ := wok Hh O' F [] σ' τ (fun _ q => q) n' rs'
  by_cases hlt : i < xs.length
  · right
    rw [List.drop_eq_getElem_cons hlt] at go'
    unfold forL at go'
    obtain ⟨hgo, hy⟩ := turn i _ (List.getElem?_eq_getElem hlt)
    refine ⟨hgo, fun τ Hh => ∃ O σ, Nx F H1 O1 Hh O ∧ RS y Hh O F [] σ τ ∧ GoS y xc F Hh O Wx (forL C.fx tg' wp (fun σ => exec XS C b' σ) (xs.drop (i + 1)) σ) D, fun τ2 H2 ⟨O2, σ2, a, b, c⟩ => ⟨_, by omega, rfl, hlt, O2, σ2, a, b, c⟩, fun v H2 hv => ?_⟩
    obtain ⟨n2, rs2, ri⟩ := hy v H2 hv
    split at go'
    case h_1 => exact go'.elim
    case h_2 σ1 et =>
      refine ⟨F, O', σ', _, [], σ1, rs2, ri, et, fun τ' rs1 _ => ⟨F, O', σ1, rs1, ?_⟩⟩
      cases e : exec XS C b' σ1 with
      | none => rw [e] at go'; exact go'.elim
      | some o =>
        rw [e] at go'
        have go2 := GoS.mono n2 go'
        cases o with
        | ex x σ2 => exact go2
        | ok f =>
          cases f with
          | nx σ2 => exact fun H3 O3 τ3 n3 rs3 => ⟨O3, _, n'.trans (n2.trans n3), rs3.drops wp, go2.mono n3⟩
          | ct σ2 => exact fun H3 O3 τ3 n3 rs3 => ⟨O3, _, n'.trans (n2.trans n3), rs3.drops wp, go2.mono n3⟩
          | bk σ2 => exact fun H3 O3 τ3 n3 rs3 => go2 H3 O3 τ3 n3 (rs3.drops wp)
          | rt w σ2 => exact go2
  · have hi2 : i = xs.length := by omega
    subst hi2
    rw [List.drop_length] at go'
    unfold forL at go'
    exact .inl ⟨hstop, go' Hh O' τ .refl rs'⟩
end
end PV

/-! V2g: raise, try, isinstance of what was caught; defs and calls. -/
namespace PV
open PySem L2

section
variable {g : Gm} {XS : List XCls}
/-! ### the exception at hand -/
theorem names_of {X : Cx} {xc : Nat → Option Addr} {T : Str} {cs : List Nat} {c : Value} (h : HOk X xc T cs c) (hg : Gl X T) (hd : (T == ("__debug__" : Str)) = false) : Names X T c := by
  refine ⟨hg, hd, ?_⟩
  rcases h.cls with ⟨D, _, e⟩ | ⟨n, _, e1, e2⟩
  · exact .inl e
  · exact .inr ⟨e1, e2, h.nm⟩
theorem pe_cls {X : Cx} {xc : Nat → Option Addr} {T : Str} {cs : List Nat} {c : Value} {p : Pos} (h : HOk X xc T cs c) (hg : Gl X T) (hd : (T == ("__debug__" : Str)) = false) : ∃ u, ClsV u c ∧ PE X (.Name T p) (tC u) := by
  rcases h.cls with ⟨D, rfl, e⟩ | ⟨n, rfl, e1, e2⟩
  · exact ⟨.ref D, .own D, pe_glob hg e rfl hd⟩
  · exact ⟨.ty n, .ty n, pe_bltn hg e1 e2 rfl h.nm hd⟩
theorem clsv_rel {u : V} {c : Value} (h : ClsV u c) : RelV u c := by
  cases h <;> rfl
theorem hot_get {X : Cx} {y : Y} {xc : Nat → Option Addr} {C : Calls} {Wx : WX} {x : Str} (k : Cok g X y xc C Wx) (hx : g.hot = some x) : ∃ i v xo, y.hot = some (i, v) ∧ g.N[i]? = some x ∧ C.x = some xo ∧ (∀ T cs c, HOk X xc T cs c → IsR X v c (cs.contains xo.c)) ∧
    ∀ l : List (Str × List Nat × Value), l ≠ [] → (∀ p ∈ l, HOk X xc p.1 p.2.1 p.2.2) → IsT X v (l.map (·.2.2)) (l.any fun p => p.2.1.contains xo.c) := by
  obtain ⟨⟨i, v⟩, e⟩ := k.hot' x hx
  obtain ⟨_, x', xo, h1, h2, h3, h4, h5⟩ := k.hot i v e
  rw [hx] at h1
  cases h1
  exact ⟨i, v, xo, e, h2, h3, h4, h5⟩
theorem s_isx {x T : Str} {cs : List Nat} {p p1 p2 pos : Pos} (hg : g.G.lookup (Str.ofString "isinstance") = some .bltn) (hk : gl g "isinstance") (hx : g.hot = some x) (hv : Vis g.sc x) (hT : g.Hd.lookup T = some cs) (hgT : gl g T)
    (hd : (x == ("__debug__" : Str)) = false) (hcd : (x == ("__classdict__" : Str)) = false) (hdT : (T == ("__debug__" : Str)) = false) : SE g (.Call (.Name "isinstance" p) [.Name x p1, .Name T p2] [] pos) (.isx cs) := fun X y xc C Wx k => by
  obtain ⟨i, v, xo, h1, h2, h3, h4, _⟩ := hot_get k hx
  obtain ⟨c, hc⟩ := k.hd T cs hT
  obtain ⟨u, hu, pu⟩ := pe_cls (p := p2) hc (k.gl hgT) hdT
  refine PE.imp (pe_callB (x := "isinstance") (h4 T cs c hc u (clsv_rel hu)) (k.gl hk) (k.glob _ _ hg) PyProof.Rows.boot_isinstance (pa_cons (pe_var (i := i) (by rw [k.N]; exact h2) (by rw [k.sc]; exact hv) hd hcd) (pa_cons pu pa_nil))) fun τ Hh Q ⟨F, O, σ, rs, go⟩ => ?_
  unfold ev at go
  rw [h3] at go
  obtain ⟨w, e, q⟩ := go.opt
  cases e
  exact ⟨v, rs.hot i v h1, rfl, q.bl rs⟩
/-- the texts of several classes: their names -/
def Clss (g : Gm) : List Expr → List (Str × List Nat) → Prop
  | [], l => l = []
  | e :: es, l => ∃ T p cs r, e = .Name T p ∧ l = (T, cs) :: r ∧ g.Hd.lookup T = some cs ∧ gl g T ∧ (T == ("__debug__" : Str)) = false ∧ Clss g es r
theorem clss_get {X : Cx} {y : Y} {xc : Nat → Option Addr} {C : Calls} {Wx : WX} (k : Cok g X y xc C Wx) : ∀ {es : List Expr} {l : List (Str × List Nat)}, Clss g es l →
    ∃ (l' : List (Str × List Nat × Value)) (us : List V), l'.map (fun p => (p.1, p.2.1)) = l ∧ (∀ p ∈ l', HOk X xc p.1 p.2.1 p.2.2) ∧ Paired ClsV us (l'.map (·.2.2)) ∧ us.length = l.length ∧ PA X es (fun _ Hh Q => Q us Hh)
  | [], l, h => by
    have e : l = [] := h
    subst e
    exact ⟨[], [], rfl, fun _ hp => absurd hp (by simp), .nil, rfl, pa_nil⟩
  | e :: es, l, ⟨T, p, cs, r, e1, e2, h1, h2, h3, h4⟩ => by
    subst e1 e2
    obtain ⟨l', us, q1, q2, q3, q4, q5⟩ := clss_get k h4
    obtain ⟨c, hc⟩ := k.hd T cs h1
    obtain ⟨u, hu, pu⟩ := pe_cls (p := p) hc (k.gl h2) h3
    exact ⟨(T, cs, c) :: l', u :: us, by simp [q1], fun p hp => (List.mem_cons.mp hp).elim (fun e => e ▸ hc) (q2 p), .cons hu q3, by simp [q4], PA.imp (pa_cons pu q5) fun τ Hh Q q => q⟩
theorem isx_any {n : Nat} : ∀ {l : List (Str × List Nat × Value)}, ((l.map fun p => (p.1, p.2.1)).flatMap (·.2)).contains n = l.any fun p => p.2.1.contains n
  | [] => rfl
  | a :: l => by
    rw [List.map_cons, List.flatMap_cons, List.any_cons, ← isx_any (l := l)]
    simp only [List.contains_eq_mem, List.mem_append, Bool.decide_or]
theorem s_isxT {x : Str} {es : List Expr} {l : List (Str × List Nat)} {n : Nat} {p p1 p2 pos : Pos} (hg : g.G.lookup (Str.ofString "isinstance") = some .bltn) (hk : gl g "isinstance") (hx : g.hot = some x) (hv : Vis g.sc x) (hl : Clss g es l) (hne : l ≠ []) (hz : l.length ≤ 100)
    (hd : (x == ("__debug__" : Str)) = false) (hcd : (x == ("__classdict__" : Str)) = false) : SE g (.Call (.Name "isinstance" p) [.Name x p1, .Tuple es n p2] [] pos) (.isx (l.flatMap (·.2))) := fun X y xc C Wx k => by
  obtain ⟨i, v, xo, h1, h2, h3, _, h5⟩ := hot_get k hx
  obtain ⟨l', us, q1, q2, q3, q4, q5⟩ := clss_get k hl
  have hne' : l' ≠ [] := fun e => hne (by rw [← q1, e]; rfl)
  refine PE.imp (pe_callB (x := "isinstance") (h5 l' hne' q2 us q3) (k.gl hk) (k.glob _ _ hg) PyProof.Rows.boot_isinstance (pa_cons (pe_var (i := i) (by rw [k.N]; exact h2) (by rw [k.sc]; exact hv) hd hcd) (pa_cons (pe_tup q5) pa_nil))) fun τ Hh Q ⟨F, O, σ, rs, go⟩ => ?_
  unfold ev at go
  rw [h3] at go
  have e : (l.flatMap (·.2)).contains xo.c = l'.any fun p => p.2.1.contains xo.c := by
    rw [← q1]
    exact isx_any
  refine ⟨v, rs.hot i v h1, by rw [q4, sizeLine_eq]; omega, fun tp hp => ⟨tp, rfl, upd_same, ?_⟩⟩
  obtain ⟨rs', n', _⟩ := rs.other (u := .tup us) hp
  rw [← e]
  exact Go.bl (Go.mono n' go) rs'

/-! ### raise -/
theorem mk_plain {i : Nat} {ws : List W} {xo : Exc} (hX : XS[i]?.map (·.fields) = some []) (em : mkExc XS i ws = some xo) : xo = ⟨i, []⟩ ∧ ws.length ≤ SZ := by
  unfold mkExc at em
  cases eX : XS[i]? with
  | none => rw [eX] at em; cases em
  | some kk =>
    rw [eX] at em hX
    have hf : kk.fields = [] := Option.some.inj hX
    dsimp only at em
    rw [hf] at em
    split at em
    case isFalse => cases em
    case isTrue hz =>
      exact ⟨(Option.some.inj em).symm, hz.1⟩
theorem st_raise {x : Str} {i : Nat} {e : Expr} {es : List Expr} {es' : Es} {p p2 pos : Pos} (hc : g.calm = true) (hg : g.G.lookup x = some (.xc i)) (hk : gl g x) (hX : XS[i]?.map (·.fields) = some []) (hd : (x == ("__debug__" : Str)) = false) (hn : (e :: es).all nst = true) (hs : SA g (e :: es) es') (hz : (e :: es).length ≤ 100) :
    SS g XS (.Raise (some (.Call (.Name x p) (e :: es) [] p2)) none pos) (.raise i es') := fun X y xc C Wx k => by
  obtain ⟨D, hD, hm, ok⟩ := k.ok.glob x _ hg
  rw [List.all_cons, Bool.and_eq_true] at hn
  refine PS.imp (ps_raise (k.ok.calm hc) k.ok.tk (pmk_ownA PySem.F.excBase_ValueError ok.exc hm ok.kp (raises_own ok.sub ok.ty) (k.ok.gl hk) (hs X y xc C Wx k.ok) hd (star_cons hn.1) (star_any hn.2))) fun D0 τ Hh ⟨F, O, σ, rs, go⟩ => ?_
  unfold exec at go
  refine ⟨F, O, σ, rs, (GoS.onE go).imp fun vs H1 ⟨O1, ws, σ1, A1, n1, rs1, r1, go1⟩ => ?_⟩
  cases em : mkExc XS i ws with
  | none => rw [em] at go1; exact go1.elim
  | some xo =>
    rw [em] at go1
    obtain ⟨exo, hlen⟩ := mk_plain hX em
    subst exo
    refine ⟨?_, go1 H1 O1 τ _ _ .refl rs1.toss ⟨D, hD, rfl, rfl, rfl⟩⟩
    rw [← r1.length, ← sz_eq]
    exact hlen
end
end PV

/-! V2h: try .. except of one class. -/
namespace PV
open PySem L2

/-! ### the slot of the exception at hand does not matter elsewhere -/
abbrev Y.heat (y : Y) (z : Option (Nat × V)) : Y := { y with hot := z }
section
variable {g : Gm} {XS : List XCls}
/-- the suite's own context -/
def Gm.hotG (g : Gm) (x : Option Str) : Gm := { g with calm := false, hot := x }
theorem exm_of {X : Cx} {xc : Nat → Option Addr} {T : Str} {cs : List Nat} {c : Value} (h : HOk X xc T cs c) {i : Nat} {C : Addr} (e : xc i = some C) : PySem.W.exmOne X.K (.ref C) c = some (cs.contains i) := h.exm i C e
/-- what stands ahead of the suite, for some exception -/
def tSu (y : Y) (xc : Nat → Option Addr) (XS : List XCls) (C : Calls) (s : S) (cls : Value) (d : Option Addr) : TS := fun D τ Hh => ∃ xo O, RX y xc xo Hh O cls d ∧ tS y xc noW XS { C with x := some xo } s D τ Hh
/-- what the exceptions of the program say of isinstance -/
def XcAll (X : Cx) (xc : Nat → Option Addr) : Prop := ∀ i C, xc i = some C → ExcC X.K C
theorem isr_ok {X : Cx} {a Cc : Addr} {oe : Obj} {pn : List (Addr × Obj)} {xc : Nat → Option Addr} {i : Nat} (E : ExcC X.K Cc) (ei : xc i = some Cc) (hz : Zc (.ref Cc) none oe) (hf : ∃ vs, oe.data = .fields vs) {T : Str} {cs : List Nat} {c : Value} (h : HOk (X.suite a ((a, oe) :: pn)) xc T cs c) :
    IsR (X.suite a ((a, oe) :: pn)) (.ref a) c (cs.contains i) := by
  intro u hu pins s σ H xs us Q I r ⟨e1, q⟩
  refine call_isE (X := X) E hz hf pins s σ H xs us Q I r ⟨u, c, cs.contains i, e1, fun w hw => ?_, h.kit i Cc ei, q⟩
  rcases h.cls with ⟨D, rfl, _⟩ | ⟨n, rfl, _⟩
  · cases u <;> first | (cases hu; done) | (cases hu; cases hw; rfl) | (obtain ⟨_, hu⟩ := hu; cases hu) | cases hu
  · cases u <;> first | (cases hu; done) | (cases hu; cases hw; rfl) | (obtain ⟨_, hu⟩ := hu; cases hu) | cases hu
theorem kit_any {K : PySem.W.Frag} {t : Value} {i : Nat} : ∀ {l : List (Str × List Nat × Value)}, (∀ p ∈ l, PySem.W.kitOne K t p.2.2 = some (p.2.1.contains i)) → PySem.W.kitAny K t (l.map (·.2.2)) = some (l.any fun p => p.2.1.contains i)
  | [], _ => rfl
  | p :: l, h => by
    rw [List.map_cons, List.any_cons]
    unfold PySem.W.kitAny
    rw [h p List.mem_cons_self, kit_any fun q hq => h q (List.mem_cons_of_mem _ hq)]
    cases p.2.1.contains i <;> rfl
theorem ist_ok {X : Cx} {a Cc : Addr} {oe : Obj} {pn : List (Addr × Obj)} {xc : Nat → Option Addr} {i : Nat} (E : ExcC X.K Cc) (ei : xc i = some Cc) (hz : Zc (.ref Cc) none oe) (hf : ∃ vs, oe.data = .fields vs) {l : List (Str × List Nat × Value)} (h : ∀ p ∈ l, HOk (X.suite a ((a, oe) :: pn)) xc p.1 p.2.1 p.2.2) :
    IsT (X.suite a ((a, oe) :: pn)) (.ref a) (l.map (·.2.2)) (l.any fun p => p.2.1.contains i) := by
  intro us k pins s σ H xs ws Q I r ⟨tp, e1, hT, q⟩
  subst e1
  obtain ⟨u1, u2, rfl, r1, r2⟩ := vals2 r
  cases (show u1 = Value.ref a from r1)
  cases (show u2 = Value.ref tp from r2)
  obtain ⟨_, its, rv, o, h1, h2, n, h3⟩ := (show ObjOk X.prog X.w H s.heap tp (.tup us) from I.hok tp _ hT)
  have e3 := ClsV.all k rv
  subst e3
  obtain ⟨oc, od, dt, sl⟩ := o
  simp only at h2 h3
  subst h2 h3
  obtain ⟨hget, _⟩ := I.pin (a, oe) (List.mem_append.mpr (.inl List.mem_cons_self))
  obtain ⟨vs, hv⟩ := hf
  have J : PySem.W.InstAt s.heap a oe Cc none := by
    obtain ⟨oc, od, oda, osl⟩ := oe
    obtain ⟨h1, h2⟩ := hz
    dsimp only at h1 h2 hv
    subst h1 h2 hv
    exact ⟨hget, rfl, rfl, trivial⟩
  have ek := kit_any (K := X.K) (t := .ref Cc) (i := i) fun p hp => (h p hp).kit i Cc ei
  exact PySem.W.kia_tup (PySem.W.handS_kitx_exc E.hg E.hk E.hs E.hd E.ha E.hn E.ht E.hm) I.kIn J h1 ek (fun z => nomatch z) fun tk => ⟨.bl _, H, I.kept (t' := tk) fun _ _ z => z, rfl, q⟩
theorem HOk.suite {X : Cx} {xc : Nat → Option Addr} {T : Str} {cs : List Nat} {c : Value} {a : Addr} {pn : List (Addr × Obj)} (h : HOk X xc T cs c) : HOk (X.suite a pn) xc T cs c := ⟨h.cls, h.nm, h.exm, h.kit⟩
theorem HOk.unsuite {X : Cx} {xc : Nat → Option Addr} {T : Str} {cs : List Nat} {c : Value} {a : Addr} {pn : List (Addr × Obj)} (h : HOk (X.suite a pn) xc T cs c) : HOk X xc T cs c := ⟨h.cls, h.nm, h.exm, h.kit⟩
theorem never {X : Cx} : Takes X noW := fun u s' h => by
  obtain ⟨_, _, _, _, _, _, _, _, _, _, _, _, _, _, _, _, w⟩ := h
  exact False.elim w
theorem mark_units {A : Around} {v : Option Value} : (A.mark v).units = A.units := rfl
/-- no generator may be walked over -/
def Gm.still (g : Gm) : Gm := { g with walk := false }
/-- the try's body stands where the try stands -/
theorem Cks.tr {X : Cx} {y : Y} {xc : Nat → Option Addr} {C : Calls} {Wx W : WX} {pn : List (Addr × Obj)} {xe : Value → Shared → Prop} (hc : g.calm = true) (k : Cks g X y xc C Wx) (tk : Takes (X.tr pn xe) W) (ow : PassesOwn (model X.prog X.w) X.A X.env xe) : Cks g.still (X.tr pn xe) y xc C W where
  ok := {
    N := k.ok.N
    nd := k.ok.nd
    sc := k.ok.sc
    K := k.ok.K
    calm := k.ok.calm
    units := k.ok.units
    glob := fun x v h => by
      have q := k.ok.glob x v h
      cases v <;> exact q
    calls := fun hc i a e => by
      obtain ⟨h1, fd, ps, lv, h2, h3, h4⟩ := k.ok.calls hc i a e
      exact ⟨h1, fd, ps, lv, h2, h3, h4⟩
    hd := fun T cs e => by
      obtain ⟨c, q⟩ := k.ok.hd T cs e
      exact ⟨c, q.cls, q.nm, q.exm, q.kit⟩
    hot' := k.ok.hot'
    hot := fun i v e => by
      obtain ⟨h, _⟩ := k.ok.hot i v e
      rw [hc] at h
      cases h
    tk := tk
    own := ow
    fnx := k.ok.fnx
    xcs := k.ok.xcs
    cfx := k.ok.cfx
    fx := k.ok.fx
    gens := fun hc i a e => by
      obtain ⟨h1, fd, ps, lv, h2, h3, h4⟩ := k.ok.gens hc i a e
      exact ⟨h1, fd, ps, lv, h2, h3, h4⟩
    xeg := fun h => by cases h }
  st := k.st
  fr := k.fr
theorem Cks.suite0 {X : Cx} {y : Y} {xc : Nat → Option Addr} {C : Calls} {Wx : WX} {a : Addr} {pn : List (Addr × Obj)} {xo : Option Exc} (hc : g.calm = true) (k : Cks g X y xc C Wx) : Cks (g.hotG none) (X.suite a pn) y xc { C with x := xo } noW where
  ok := {
    N := k.ok.N
    nd := k.ok.nd
    sc := k.ok.sc
    K := k.ok.K
    calm := fun h => by cases h
    units := k.ok.units
    glob := fun x v h => by
      have q := k.ok.glob x v h
      cases v <;> exact q
    calls := fun h => by cases h
    hd := fun T cs e => by
      obtain ⟨c, q⟩ := k.ok.hd T cs e
      exact ⟨c, q.suite⟩
    hot' := fun x e => by cases e
    hot := fun i v e => by
      obtain ⟨h, _⟩ := k.ok.hot i v e
      rw [hc] at h
      cases h
    tk := never
    own := PassesOwn.never
    fnx := k.ok.fnx
    xcs := k.ok.xcs
    cfx := k.ok.cfx
    fx := k.ok.fx
    gens := fun h => by cases h
    xeg := fun _ _ _ _ _ _ h => h }
  st := k.st
  fr := k.fr
theorem Cks.suite1 {X : Cx} {y : Y} {xc : Nat → Option Addr} {C : Calls} {Wx : WX} {a Cc : Addr} {oe : Obj} {pn : List (Addr × Obj)} {xo : Exc} {i : Nat} {n : Str} (k : Cks g X y xc C Wx) (hi : g.N[i]? = some n) (ei : xc xo.c = some Cc) (hz : Zc (.ref Cc) none oe) (hf : ∃ vs, oe.data = .fields vs) :
    Cks (g.hotG (some n)) (X.suite a ((a, oe) :: pn)) (y.heat (some (i, .ref a))) xc { C with x := some xo } noW where
  ok := {
    N := k.ok.N
    nd := k.ok.nd
    sc := k.ok.sc
    K := k.ok.K
    calm := fun h => by cases h
    units := k.ok.units
    glob := fun x v h => by
      have q := k.ok.glob x v h
      cases v <;> exact q
    calls := fun h => by cases h
    hd := fun T cs e => by
      obtain ⟨c, q⟩ := k.ok.hd T cs e
      exact ⟨c, q.suite⟩
    hot' := fun x e => ⟨_, rfl⟩
    hot := fun j v e => by
      cases e
      exact ⟨rfl, n, xo, rfl, hi, rfl, fun T cs c h => isr_ok (k.ok.xcs _ _ ei) ei hz hf h, fun l _ h => ist_ok (k.ok.xcs _ _ ei) ei hz hf h⟩
    tk := never
    own := PassesOwn.never
    fnx := k.ok.fnx
    xcs := k.ok.xcs
    cfx := k.ok.cfx
    fx := k.ok.fx
    gens := fun h => by cases h
    xeg := fun _ _ _ _ _ _ h => h }
  st := k.st
  fr := k.fr
theorem st_try0 {body suite : List Stmt} {b0 : Stmt} {T : Str} {cs : List Nat} {b s : S} {np pos pos' : Pos} (hc : g.calm = true) (hT : g.Hd.lookup T = some cs) (hgT : gl g T) (hd : (T == ("__debug__" : Str)) = false) (hb : SB g.still XS body b) (hs : SB (g.hotG none) XS (b0 :: suite) s) :
    SS g XS (.Try body [.ExceptHandler (some (.Name T np)) none (b0 :: suite) pos'] [] [] pos) (.try1 b cs none s) := fun X y xc C Wx k => by
  obtain ⟨c, hcl⟩ := k.ok.hd T cs hT
  refine PS.imp (ps_try_only k.st k.fr (names_of hcl (k.ok.gl hgT) hd) k.ok.tk (fun W pn xe tk ow => hb _ y xc C W (k.tr hc tk ow)) (ts := fun a cls d => tSu y xc XS C s cls d) (fun a oe cls d pn hz hf => ?_)) fun D τ Hh ⟨F, O, σ, rs, go⟩ => ?_
  · refine ⟨fun pins sh τ Hh D I ⟨xo, _, _, h⟩ => ?_⟩
    exact (hs _ y xc { C with x := some xo } noW (k.suite0 hc)).run pins sh τ Hh D I h
  · refine ⟨F, O, σ, rs, ?_⟩
    unfold exec at go
    cases e : exec XS C b σ with
    | none => rw [e] at go; exact go.elim
    | some o =>
      rw [e] at go
      cases o with
      | ok f => cases f <;> exact go
      | ex xo σ1 =>
        intro H' O' τ' cls d n' rs' rx
        have rx' := rx
        obtain ⟨Cc, eC, e1, e2, e3⟩ := rx'
        refine ⟨cs.contains xo.c, by rw [e1]; exact hcl.exm _ _ eC, fun hb1 a ha => ⟨xo, O', rx, F, O', σ1, rs', ?_⟩, fun hb1 => ?_⟩
        · dsimp only at go
          rw [if_pos hb1] at go
          cases e4 : exec XS { C with x := some xo } s σ1 with
          | none => rw [e4] at go; exact go.elim
          | some o2 =>
            rw [e4] at go
            cases o2 with
            | ok f =>
              cases f with
              | nx σ2 => exact fun H2 O2 τ2 n2 => go H2 O2 τ2 (n'.trans n2)
              | bk σ2 => exact fun H2 O2 τ2 n2 => go H2 O2 τ2 (n'.trans n2)
              | ct σ2 => exact fun H2 O2 τ2 n2 => go H2 O2 τ2 (n'.trans n2)
              | rt w σ2 => exact fun H2 O2 v2 A2 τ2 n2 => go H2 O2 v2 A2 τ2 (n'.trans n2)
            | ex x2 σ2 => exact go.elim
        · dsimp only at go
          rw [if_neg (by rw [hb1]; exact Bool.false_ne_true)] at go
          exact go H' O' τ' cls d n' rs' rx
theorem RS.hotset {y : Y} {Hh : Hp} {O F : AP} {T : List Addr} {σ : St} {τ : L2.St} {i : Nat} {v : V} (h : RS y Hh O F T σ τ) (hc : Cold y i) (hi : i < σ.length) : RS (y.heat (some (i, v))) Hh O F T (σ.set i none) (τ.set i (some v)) := by
  have h1 := (h.drop i).setT (x := some v) hc
  exact ⟨h1.sl, h1.tm, h1.fr, h1.dom, fun j w e => by
    cases e
    exact List.getElem?_set_self (by rw [← h.len]; exact hi), h1.fx⟩
theorem RS.cool {y : Y} {z : Option (Nat × V)} {Hh : Hp} {O F : AP} {T : List Addr} {σ : St} {τ : L2.St} {i : Nat} (hh : y.hot = none) (hc : Cold y i) (h : RS (y.heat z) Hh O F T σ τ) : RS y Hh O F T (σ.set i none) (τ.set i none) := by
  have h0 : RS y Hh O F T σ τ := ⟨h.sl, h.tm, h.fr, h.dom, fun j w e => (by rw [hh] at e; cases e), h.fx⟩
  exact h0.forget hc
theorem RS.calm {y : Y} {z : Option (Nat × V)} {Hh : Hp} {O F : AP} {T : List Addr} {σ : St} {τ : L2.St} (hh : y.hot = none) (h : RS (y.heat z) Hh O F T σ τ) : RS y Hh O F T σ τ := ⟨h.sl, h.tm, h.fr, h.dom, fun j w e => (by rw [hh] at e; cases e), h.fx⟩
/-- what stands ahead of a suite with a name -/
def tSu1 (y : Y) (xc : Nat → Option Addr) (XS : List XCls) (C : Calls) (s : S) (i : Nat) (a : Addr) (cls : Value) (d : Option Addr) : TS := fun D τ Hh => ∃ xo O, RX y xc xo Hh O cls d ∧ tS (y.heat (some (i, .ref a))) xc noW XS { C with x := some xo } s D τ Hh
theorem st_try1 {body suite : List Stmt} {b0 : Stmt} {T n : Str} {cs : List Nat} {i : Nat} {b s : S} {np pos pos' : Pos} (hc : g.calm = true) (hi : g.N[i]? = some n) (hn : g.sc.names.lookup n = some .local) (hT : g.Hd.lookup T = some cs) (hgT : gl g T) (hd : (T == ("__debug__" : Str)) = false) (hb : SB g.still XS body b) (hs : SB (g.hotG (some n)) XS (b0 :: suite) s) :
    SS g XS (.Try body [.ExceptHandler (some (.Name T np)) (some n) (b0 :: suite) pos'] [] [] pos) (.try1 b cs (some i) s) := fun X y xc C Wx k => by
  obtain ⟨c, hcl⟩ := k.ok.hd T cs hT
  have hh := k.ok.nohot hc
  have hl : X.env.kindOf n = some .local := by
    unfold Env.kindOf
    rw [k.ok.sc]
    exact hn
  refine PS.imp (ps_try_as (i := i) k.st k.fr k.ok.nd (by rw [k.ok.N]; exact hi) hl (names_of hcl (k.ok.gl hgT) hd) k.ok.tk (fun W pn xe tk ow => hb _ y xc C W (k.tr hc tk ow)) (ts := fun a cls d => tSu1 y xc XS C s i a cls d) (fun a oe cls d pn hz hf => ?_)) fun D τ Hh ⟨F, O, σ, rs, go⟩ => ?_
  · refine ⟨fun pins sh τ Hh D I ⟨xo, O, ⟨Cc, eC, e1, e2, e3⟩, h⟩ => ?_⟩
    subst e1 e2
    exact (hs _ _ xc { C with x := some xo } noW (k.suite1 hi eC hz hf)).run pins sh τ Hh D I h
  · refine ⟨F, O, σ, rs, ?_⟩
    unfold exec at go
    cases e : exec XS C b σ with
    | none => rw [e] at go; exact go.elim
    | some o =>
      rw [e] at go
      cases o with
      | ok f => cases f <;> exact go
      | ex xo σ1 =>
        intro H' O' τ' cls d n' rs' rx
        have rx' := rx
        obtain ⟨Cc, eC, e1, e2, e3⟩ := rx'
        refine ⟨cs.contains xo.c, by rw [e1]; exact hcl.exm _ _ eC, fun hb1 a ha => ?_, fun hb1 => ?_⟩
        · dsimp only at go
          rw [if_pos hb1] at go
          split at go
          case isFalse => exact go.elim
          case isTrue hz =>
            unfold okSet at hz
            rw [Bool.and_eq_true, decide_eq_true_eq, Bool.not_eq_true'] at hz
            have cold : Cold y i := k.ok.cold hc hz.2
            refine ⟨xo, O', rx, F, O', σ1.set i none, rs'.hotset cold hz.1, ?_⟩
            cases e4 : exec XS { C with x := some xo } s (σ1.set i none) with
            | none => rw [e4] at go; exact go.elim
            | some o2 =>
              rw [e4] at go
              cases o2 with
              | ok f =>
                cases f with
                | nx σ2 => exact fun H2 O2 τ2 n2 r2 => go H2 O2 _ (n'.trans n2) (r2.cool hh cold)
                | bk σ2 => exact fun H2 O2 τ2 n2 r2 => go H2 O2 _ (n'.trans n2) (r2.cool hh cold)
                | ct σ2 => exact fun H2 O2 τ2 n2 r2 => go H2 O2 _ (n'.trans n2) (r2.cool hh cold)
                | rt w σ2 => exact fun H2 O2 v2 A2 τ2 n2 r2 rv => go H2 O2 v2 A2 τ2 (n'.trans n2) (r2.calm hh) rv
              | ex x2 σ2 => exact go.elim
        · dsimp only at go
          rw [if_neg (by rw [hb1]; exact Bool.false_ne_true)] at go
          exact go H' O' τ' cls d n' rs' rx
end
end PV

/-! W2: for over a generator. -/
namespace PV
open PySem PySem.Spec PyProof.Rows L2 GenW GF
theorem inv_gens {X : Cx} {pins : List (Addr × Obj)} {τ : L2.St} {H : Hp} {s : Shared} {G : Array GenState} (I : Inv X pins τ H s) (hG : AllBare G) : Inv X pins τ H (wg s G) :=
  ⟨I.ok, I.os, hG, I.base, I.loc, I.cell, I.free, I.freeC, I.pin, I.hok, I.len⟩
theorem inv_sim {X : Cx} {pins : List (Addr × Obj)} {τ : L2.St} {H : Hp} {F : Nat → Option GenState} {s₁ s : Shared} (I : Inv X pins τ H s₁) (z : Sim F s₁ s) : Inv X pins τ H s := by
  rw [z.eq]
  exact inv_gens I (z.bare I.bare)
/-- a generator is woken -/
theorem wake_ok {M : Model} {A : Around} {R : GenEnd} {Y : Protocol} {m : Nat} {E : Value → Shared → Prop} {s : Shared} {g : Nat} {gs : GenState} {l : List Value} {α : Type} {k : GenResult → Sem α} {Q : α → Shared → Prop} (hg : s.gens[g]? = some gs)
    (hgo : gs.Goes M A R Y (m + 1) (.send .none) (s.setGen g .running))
    (hR : ∀ x s₁, R (m + 1) (s.setGen g .running) x s₁ → wpAny M A (k (End.ret x).result) Q E (s₁.setGen g .finished))
    (hY : ∀ v s₁ gs', gs'.bare = true → asleep gs' = true → Y m (s.setGen g .running) v s₁ (fun r' s'' => gs'.Goes M A R Y m r' s'') → wpAny M A (k (.yielded v)) Q E (s₁.setGen g gs')) :
    wpAny M A (.resume g (.send .none) l k) Q E s := fun Γ p hΓ => by
  have woken := fun c => hΓ.wake c p
  have after : ∀ e s₁, SegEnd R Y (m + 1) (Seg.next M A R Y (m + 1)) (s.setGen g .running) e s₁ → e.quiet = true ∧ Sem.wp M Γ (k e.result) (fun a _ s' => Q a s') (fun e _ s' => E e s') p (s₁.setGen g e.genState) := by
    intro e s₁ he
    cases e with
    | ret x => exact ⟨rfl, hR x s₁ he Γ p hΓ⟩
    | susp v b l0 k0 c0 p0 fs0 => exact ⟨he.1, hY v s₁ _ (End.bare_of_quiet he.1) rfl he.2 Γ p hΓ⟩
  rw [Sem.wp_resume]
  unfold Wakes
  rw [hg]
  cases gs with
  | running => exact hgo.elim
  | finished => exact hgo.elim
  | fresh c =>
    obtain ⟨e, s₁, hr, he⟩ := seg_iff.mp hgo.2 (Γ.wake c p) p rfl (woken c)
    exact ⟨_, _, ⟨e, s₁, hr, (after e s₁ he).1, rfl, rfl⟩, (after e s₁ he).2⟩
  | suspended k0 l0 c0 p0 fs0 cl =>
    obtain ⟨e, s₁, hr, he⟩ := seg_iff.mp hgo (Γ.wake c0 p) p0 rfl (woken c0)
    exact ⟨_, _, ⟨e, s₁, hr, (after e s₁ he).1, rfl, rfl⟩, (after e s₁ he).2⟩
/-- next(g), for the end without an exception -/
theorem next_ok {P : Program} {w : World} {A : Around} {E : Value → Shared → Prop} {s : Shared} {a : Addr} {g m : Nat} {gs : GenState} {F : Nat → Shared → Shared → Prop} {Y : Protocol} {Q : Option Value → Shared → Prop} (hh : A.handled = none)
    (hl : s.heap.NoLimit) (hroom : A.depth < recursionLimit) (hi : s.heap.IsGen a g) (hg : s.gens[g]? = some gs)
    (hgo : gs.Goes (model P w) A.in1 (fun n s₀ r s₁ => ((r = .ok (.ret .none) ∨ r = .ok .next) ∧ F n s₀ s₁) ∨ ∃ e, r = .error e ∧ False) Y (m + 1) (.send .none) (s.setGen g .running))
    (hY : ∀ v s₁ gs', gs'.bare = true → asleep gs' = true → Y m (s.setGen g .running) v s₁ (fun r' s'' => gs'.Goes (model P w) A.in1 (fun n s₀ r s₁ => ((r = .ok (.ret .none) ∨ r = .ok .next) ∧ F n s₀ s₁) ∨ ∃ e, r = .error e ∧ False) Y m r' s'') → Q (some v) (s₁.setGen g gs'))
    (hP : ∀ s₁, F (m + 1) (s.setGen g .running) s₁ → ∀ h', (∀ b o, s₁.heap.get? b = some o → h'.get? b = some o) → Q none { s₁.setGen g .finished with heap := h' }) :
    wpAny (model P w) A (pyNext (.ref a)) Q E s := by
  have told : ∀ {x : Result} {s₁ : Shared}, (x = .ok (.ret .none) ∨ x = .ok .next) → (∀ h', (∀ b o, s₁.heap.get? b = some o → h'.get? b = some o) → Q none { s₁.setGen g .finished with heap := h' }) →
      End.result (.ret x) = .returned .none := fun {x s₁} hr _ => by rcases hr with hr | hr <;> rw [hr] <;> rfl
  unfold pyNext; refine wpAny_bind (wpAny_attempt (wpAny_callSpecial?_slot (name := Str.ofString "__next__") hi.typeIs slot_gen_next (wpAny_call_entry slot_gen_next hi.typeIs entry_gen_next ?_ (args_gen_next _))))
  change wpAny _ A.in1 (Builtin.Generator.genWake (.ref a) (.send .none)) _ _ s; unfold Builtin.Generator.genWake; refine wpAny_bind (wpAny_holding (wpAny_genNumber hi (wpAny_bind (wpAny_genState hg ?_))))
  cases gs with
  | running => exact hgo.elim
  | finished => exact hgo.elim
  | _ =>
    refine wpAny_bind (wpAny_roomToWake hl hroom ?_); change wpAny _ A.in1 (.resume g (.send .none) [] _) _ _ s
    refine wake_ok hg hgo (fun x s₁ hx => ?_) (fun v s₁ gs' hb hs hv => wpAny_pure ⟨v, rfl, wpAny_pure (hY v s₁ gs' hb hs hv)⟩)
    rcases hx with ⟨hr, hp⟩ | ⟨_, _, hf⟩
    · rw [told hr (hP s₁ hp)]
      change wpAny _ A.in1 (newExc (.type "StopIteration") [] >>= _) _ _ _; refine wpAny_bind ?_; simp only [newExc, newTuple]; refine wpAny_bind (wpAny_newObj_type ?_ (by size_fits)); refine wpAny_bind (m := firstArgMember _ _) (wpAny_of_eq (a := Value.none) (by first | rfl | (simp only [firstArgMember]; rfl)) ?_)
      refine wpAny_newObj_type ?_ (by size_fits); simp only [raiseNew]; refine wpAny_bind (wpAny_bind (wpAny_handled ?_)); first | rw [show A.in1.handled = none from hh] | rw [hh]
      refine wpAny_throw (wpAny_bind (wpAny_isInstance (T := "StopIteration") (b := true) ⟨_, Heap.get?_push_size _ rfl, rfl⟩ isSubtype_stop (wpAny_pure (hP s₁ hp _ fun b o hb => ?_))))
      exact Heap.get?_push_of_some _ (Heap.get?_push_of_some _ hb)
    · exact hf.elim
section
variable {XS : List XCls} {X : Cx} {y : Y} {xc : Nat → Option Addr} {C : Calls} {Wx : WX}
/-- the walker at turn i -/
def GoodF (X : Cx) (y : Y) (xc : Nat → Option Addr) (Wx : WX) (C : Calls) (pins : List (Addr × Obj)) (F : AP) (H1 : Hp) (O1 : AP) (b : St → Option Out) (tg' : T) (wp : List Nat) (xs : List W) (D : Ends) : Gd := fun i s H O =>
  ∃ (τ : L2.St) (σ : St), Inv X pins τ H s ∧ Nx F H1 O1 H O ∧ RS y H O F [] σ τ ∧ GoS y xc F H O Wx (forL C.fx tg' wp b ((xs.map Item.one).drop i) σ) D
/-- the loop over it -/
theorem for_gen (hc : X.calm = true) (hown : PassesOwn (model X.prog X.w) X.A X.env X.xe) {tg : Expr} {tg' : T} {b : List Stmt} {b' : S} {wp : List Nat} (ht : PG X tg (gT y C.fx tg')) (hb : PSs X b (tS y xc Wx XS C b'))
    (hx : ∀ (F : Nat → Option GenState) (s₁ s : Shared) (e : Value), Sim F s₁ s → X.xe e s₁ → X.xe e s) {pins : List (Addr × Obj)} {τ : L2.St} {H1 : Hp} {sc s1 : Shared} {O1 F : AP} {σ1 : St} {xs : List W} {D : Ends} {v : Value} {kr : Nat}
    (I : Inv X pins τ H1 sc) (rs : RS y H1 O1 F [] σ1 τ) (go : GoS y xc F H1 O1 Wx (forL C.fx tg' wp (fun σ => exec XS C b' σ) (xs.map Item.one) σ1) D) (hr : Room (kr + 1) X.A) (G : GenV X.prog X.w X.K X.mg X.base kr X.stack y.z xs H1 O1 sc v s1) :
    wpAny (model X.prog X.w) X.A (pyIter v) (fun itv s2 => codeAny (model X.prog X.w) X.A (.forLoop tg itv b [] X.env) (fun r s' => match r with | .ok f => L2.SP X pins D f s' | .error e => cameBackBy (model X.prog X.w) X.A X.env X.xe e s') s2) X.xe s1 := by
  obtain ⟨it, g, c, L, fp, rfl, hL, hg, ho, hbare, hk, hfp, hgen, seg⟩ := G
  have I1 : Inv X pins τ H1 s1 := I.call' (ch := []) ho (Un.kept hk) (I.hok.kept hk) hbare fun b z => by cases z
  -- what is young to the frame
  have young : ∀ b, L ≤ b → (b ∈ X.ex ∨ X.s_0.heap.objs.size ≤ b) ∧ b ≠ X.env.locals ∧ b ∉ X.fs ∧ (∀ x c, X.env.cells.lookup x = some c → c ≠ b) ∧ ∀ p ∈ X.pn ++ pins, p.1 ≠ b := fun b hb => by
    have hb2 := Nat.le_trans hL hb
    refine ⟨.inr (Nat.le_trans I.sz hb2), Nat.ne_of_gt (Nat.lt_of_lt_of_le I.lt hb2), I.nofs hb2, fun x c e z => ?_, fun p hp z => ?_⟩
    · obtain ⟨_, q⟩ := I.cell x c e
      exact absurd (Nat.lt_of_lt_of_le q.lt (by rw [z]; exact hb2)) (Nat.lt_irrefl _)
    · exact absurd (Nat.lt_of_lt_of_le (Heap.lt_size (I.pin p hp).1) (by rw [z]; exact hb2)) (Nat.lt_irrefl _)
  let Good : Gd := GoodF X y xc Wx C pins F H1 O1 (fun σ => exec XS C b' σ) tg' wp xs D
  have good : GdOk X.prog X.w X.K X.mg X.base X.A.in1 X.stack sc Good := fun i s' H' O' ⟨τ', σ', I', _, rs', _⟩ => ⟨I'.env0.in1, I'.os.trans I.os.symm, rs'.dom⟩
  have running : ∀ {i : Nat} {s : Shared} {H : Hp} {O : AP} {x : GenState}, x.bare = true → Good i s H O → Good i (s.setGen g x) H O := fun {i s H O x} hx ⟨τ', σ', I', r⟩ => ⟨τ', σ', inv_gens I' (allBare_setGen I'.bare hx), r⟩
  refine wpAny_pyIter_gen (hgen _ fun p hp => (hfp p hp).1) ?_
  have start : Good 0 s1 H1 O1 := ⟨τ, σ1, I1, .refl, rs, by simpa using go⟩
  refine codeAny_forLoop_any (fun n s' => ∃ i, n = xs.length - i ∧ i ≤ xs.length ∧ ∃ H' O' fp' gs, Good i s' H' O' ∧ s'.gens[g]? = some gs ∧ Fp L H' s'.heap fp' ∧ (∀ h : Heap, (∀ p ∈ fp', h.get? p.1 = some p.2) → h.IsGen it g) ∧
    gs.Goes (model X.prog X.w) X.A.in1 (RG X.prog X.w X.stack L xs Good) (YG X.prog X.w X.stack y.z it g L xs Good) (xs.length - i + 1) (.send .none) (s'.setGen g .running)) ?_ xs.length
    ⟨0, rfl, Nat.zero_le _, H1, O1, fp, .fresh c, start, hg, hfp, hgen, rfl, ?_⟩
  · rintro n s' ⟨i, rfl, hi, H', O', fp', gs, gd, hgs, hfp', hgen', goes⟩
    obtain ⟨τ', σ', I', _, _, _⟩ := id gd
    have hgl : g + 1 ≤ s'.gens.size := (Array.getElem?_eq_some_iff.mp hgs).1
    refine wpAny_passesOwn hown (wpAny_gsz hgl (next_ok (F := EG X.prog X.w X.stack L xs Good) (I'.ok.hd hc) I'.nolimit (by have := hr.dp; omega) (hgen' _ fun p hp => (hfp' p hp).1) hgs goes (fun v s₁ gs' hb' hs' hv hsz => ?_) fun s₁ hp h' hk' hsz => ?_))
    · obtain ⟨i', Hc, Oc, w1, H2, x, fp2, ei, gd2, ex, st, rx, rvx, hfp2, hgen2, wake⟩ := hv
      have ei' : i' = i := by omega
      subst ei'
      have hlt : i' < xs.length := (List.getElem?_eq_some_iff.mp ex).1
      obtain ⟨τ2, σ2, I2, n2, rs2, go2⟩ := gd2
      have hg1 : g < s₁.gens.size := by
        have q : (s₁.setGen g gs').gens.size = s₁.gens.size := setGen_size _ _ _
        have hsz' : g + 1 ≤ (s₁.setGen g gs').gens.size := hsz
        omega
      have I3 : Inv X pins τ2 H2 s₁ := I2.call' st.os st.un st.hok st.bare fun b hb => by
        have z := young b (mem_ch.mp hb).2.1
        exact ⟨z.1, z.2.1, z.2.2.2.1, z.2.2.2.2⟩
      have I4 : Inv X pins τ2 H2 (s₁.setGen g gs') := inv_gens I3 (allBare_setGen I3.bare hb')
      have rs3 : RS y H2 Oc F [] σ2 τ2 := rs2.step st.stab (fun a oa => ⟨st.own a oa, oa⟩) fun a oa => by
        rw [st.own a oa]; exact rs2.dom a oa
      have n3 : Nx F Hc Oc H2 Oc := ⟨st.stab, fun a fa => ⟨st.own a (rs2.fr a fa), id⟩⟩
      obtain ⟨og, nm, qn, eo, oc, od, _⟩ := hgen2 s₁.heap fun p hp => (hfp2 p hp).1
      refine go_of (o := og) eo oc od (by decide) ?_
      have I5 : Inv X (pins ++ fp2) τ2 H2 (s₁.setGen g gs') := I4.pins_of fun p hp => by
        rcases List.mem_append.mp hp with hp | hp
        · exact I4.pin p (List.mem_append_right _ hp)
        · obtain ⟨q1, q2, q3, q4⟩ := hfp2 p hp
          have z := young p.1 q3
          exact ⟨q1, q2, z.2.1, z.2.2.1, q4⟩
      have hgs5 : (s₁.setGen g gs').gens[g]? = some gs' := setGen_at hg1
      rw [List.drop_eq_getElem_cons (by simpa using hlt)] at go2
      have ew : (xs.map Item.one)[i']'(by simpa using hlt) = .one w1 := by
        rw [List.getElem_map]
        rw [List.getElem?_eq_getElem hlt] at ex
        rw [Option.some.inj ex]
      rw [ew] at go2
      unfold forL at go2
      let N : L2.St → Hp → Prop := fun τ7 H7 => ∃ O7 σ7, Nx F H1 O1 H7 O7 ∧ Stab H2 Oc H7 O7 ∧ RS y H7 O7 F [] σ7 τ7 ∧ GoS y xc F H7 O7 Wx (forL C.fx tg' wp (fun σ => exec XS C b' σ) ((xs.map Item.one).drop (i' + 1)) σ7) D
      cases et : take C.fx tg' (.one w1) σ2 with
      | none => rw [et] at go2; exact go2.elim
      | some σa =>
      rw [et] at go2
      dsimp only at go2
      have z5 := sim_start I5.bare
      have run1 := z5.wpAny (ht.run (pins ++ fp2) (sl (s₁.setGen g gs')) τ2 H2 x v (fun τ6 H6 => H6 = H2 ∧ RS y H2 Oc F [] σa τ6) (inv_gens I5 (sl_bare I5.bare)) rx ⟨F, Oc, σ2, .one w1, [], σa, rs3, rvx, et, fun τ' rs' _ => ⟨rfl, rs'⟩⟩)
      refine wpAny_passesOwn hown (wpAny_mono run1 (fun _ s6 h6 => ?_) fun e s6 ⟨s6', z6, h6⟩ => hx _ _ _ _ z6 h6)
      obtain ⟨s6', z6, τ6, H6, I6, rfl, rs6⟩ := h6
      have gob : GoS y xc F H6 Oc Wx (exec XS C b' σa) { D with nx := N, ct := N, bk := D.nx } := by
        have nn := n2.trans n3
        cases e : exec XS C b' σa with
        | none => rw [e] at go2; exact go2.elim
        | some o =>
          rw [e] at go2
          have go3 := GoS.mono n3 go2
          cases o with
          | ex xo σ3 => exact go3
          | ok f =>
            cases f with
            | nx σ3 => exact fun H3 O3 τ3 m3 rs3 => ⟨O3, _, nn.trans m3, m3.stab, rs3.drops wp, go3.mono m3⟩
            | ct σ3 => exact fun H3 O3 τ3 m3 rs3 => ⟨O3, _, nn.trans m3, m3.stab, rs3.drops wp, go3.mono m3⟩
            | bk σ3 => exact fun H3 O3 τ3 m3 rs3 => go3 H3 O3 τ3 m3 (rs3.drops wp)
            | rt w σ3 => exact go3
      have run2 := z6.wpAny (hb.run (pins ++ fp2) s6' τ6 H6 { D with nx := N, ct := N, bk := D.nx } I6 ⟨F, Oc, σa, rs6, gob⟩)
      refine wpAny_passesOwn hown (wpAny_mono run2 (fun f s7 h7 => ?_) fun e s7 ⟨s7', z7, h7⟩ => hx _ _ _ _ z7 h7)
      obtain ⟨s7', z7, h7⟩ := h7
      have again : ∀ {τ7 : L2.St} {H7 : Hp}, Inv X (pins ++ fp2) τ7 H7 s7' → N τ7 H7 → ∃ m, m < xs.length - i' ∧ ∃ i, m = xs.length - i ∧ i ≤ xs.length ∧ ∃ H' O' fp' gs, Good i s7 H' O' ∧ s7.gens[g]? = some gs ∧ Fp L H' s7.heap fp' ∧ (∀ h : Heap, (∀ p ∈ fp', h.get? p.1 = some p.2) → h.IsGen it g) ∧
          gs.Goes (model X.prog X.w) X.A.in1 (RG X.prog X.w X.stack L xs Good) (YG X.prog X.w X.stack y.z it g L xs Good) (xs.length - i + 1) (.send .none) (s7.setGen g .running) := fun {τ7 H7} I7 n7 => by
        obtain ⟨O7, σ7, a1, a2, a3, a4⟩ := n7
        have gd7 : Good (i' + 1) s7 H7 O7 := ⟨τ7, σ7, inv_sim I7.unpinned z7, a1, a3, a4⟩
        have pin7 : ∀ p ∈ fp2, s7.heap.get? p.1 = some p.2 ∧ H7 p.1 = none := fun p hp => by
          have := I7.pin p (List.mem_append_right _ (List.mem_append_right _ hp))
          rw [z7.heap]
          exact ⟨this.1, this.2.1⟩
        refine ⟨xs.length - (i' + 1), by omega, i' + 1, rfl, hlt, H7, O7, fp2, gs', gd7, z7.stays hgs5 hs', fun p hp => ⟨(pin7 p hp).1, (pin7 p hp).2, (hfp2 p hp).2.2.1, (hfp2 p hp).2.2.2⟩, hgen2, ?_⟩
        have := wake (s7.setGen g .running) H7 O7 (running rfl gd7) a2 pin7
        rw [show xs.length - (i' + 1) + 1 = xs.length - i' by omega]
        exact this
      cases f with
      | next => obtain ⟨τ7, H7, I7, n7⟩ := h7; exact again I7 n7
      | cont => obtain ⟨τ7, H7, I7, n7⟩ := h7; exact again I7 n7
      | brk => obtain ⟨τ7, H7, I7, q7⟩ := h7; exact ⟨τ7, H7, inv_sim I7.unpinned z7, q7⟩
      | ret u => obtain ⟨x7, τ7, H7, I7, r7, q7⟩ := h7; exact ⟨x7, τ7, H7, inv_sim I7.unpinned z7, r7, q7⟩
    · obtain ⟨en, Hc, Oc, H2, gd2, st⟩ := hp
      have ei : i = xs.length := by omega
      subst ei
      obtain ⟨τ2, σ2, I2, n2, rs2, go2⟩ := gd2
      have I3 : Inv X pins τ2 H2 s₁ := I2.call' st.os st.un st.hok st.bare fun b hb => by
        have z := young b (mem_ch.mp hb).2.1
        exact ⟨z.1, z.2.1, z.2.2.2.1, z.2.2.2.2⟩
      have I4 : Inv X pins τ2 H2 { s₁.setGen g .finished with heap := h' } := I3.call' (ch := []) rfl (Un.kept hk') (I3.hok.kept hk') (allBare_setGen I3.bare rfl) fun b z => by cases z
      have rs3 : RS y H2 Oc F [] σ2 τ2 := rs2.step st.stab (fun a oa => ⟨st.own a oa, oa⟩) fun a oa => by
        rw [st.own a oa]; exact rs2.dom a oa
      have n3 : Nx F Hc Oc H2 Oc := ⟨st.stab, fun a fa => ⟨st.own a (rs2.fr a fa), id⟩⟩
      rw [List.drop_of_length_le (by simp)] at go2
      unfold forL at go2
      exact wpAny_execs_nil ⟨τ2, H2, I4, go2 H2 Oc τ2 n3 rs3⟩
  · have := seg X.A.in1 Good hr.in1 I.ok.frames good (s1.setGen g .running) H1 O1 (running rfl start) .refl fun p hp => ⟨(hfp p hp).1, (hfp p hp).2.1⟩
    rw [Nat.sub_zero]
    exact this
end
end PV

/-! W3: what was freed stays so; the generator's side. -/
namespace GF
open PySem
open Sem (wp)
/-- a place of the heap that stands empty -/
def dead (a : Addr) (s : Shared) : Prop := a < s.heap.objs.size ∧ s.heap.get? a = none
theorem dead_push {a : Addr} {h : Heap} {o : Obj} (d : a < h.objs.size ∧ h.get? a = none) : a < (h.push o).objs.size ∧ (h.push o).get? a = none := by
  obtain ⟨objs, l⟩ := h
  obtain ⟨d1, d2⟩ := d
  have d1' : a < objs.size := d1
  refine ⟨by show a < (objs.push o).size; rw [Array.size_push]; exact Nat.lt_succ_of_lt d1', ?_⟩
  unfold Heap.get? at d2 ⊢
  show (match (objs.push o)[a]? with | some ⟨_, _, .freed, _⟩ => none | o => o) = none
  rw [Array.getElem?_push_lt d1', ← Array.getElem?_eq_getElem d1']
  exact d2
theorem dead_update {a b : Addr} {h : Heap} {f : Obj → Obj} (d : a < h.objs.size ∧ h.get? a = none) (hb : (h.get? b).isSome) : a < (h.update b f).objs.size ∧ (h.update b f).get? a = none := by
  have hab : b ≠ a := fun e => by rw [e, d.2] at hb; cases hb
  obtain ⟨objs, l⟩ := h
  obtain ⟨d1, d2⟩ := d
  refine ⟨by show a < (objs.modify b f).size; rw [Array.size_modify]; exact d1, ?_⟩
  unfold Heap.get? at d2 ⊢
  show (match (objs.modify b f)[a]? with | some ⟨_, _, .freed, _⟩ => none | o => o) = none
  rw [Array.getElem?_modify, if_neg hab]
  exact d2
theorem runs_dead {a : Addr} {M : Model} {Γ : Ctx} {p : Pos} {t : Sem PySem.Fin} {fs : List Frame} {s s' : Shared} {e : End} (h : Runs M Γ p t fs s e s') : dead a s → dead a s' := by
  induction h with
  | update q _ ih => exact fun d => ih (dead_update d q)
  | alloc _ ih => exact fun d => ih (dead_push d)
  | call _ _ i1 i2 => exact fun d => i2 (i1 d)
  | resumeFresh _ _ _ _ i1 i2 => exact fun d => i2 (i1 d)
  | resumeSuspended _ _ _ _ i1 i2 => exact fun d => i2 (i1 d)
  | segRet _ _ i1 i2 => exact fun d => i2 (i1 d)
  | segGen _ _ i1 i2 => exact fun d => i2 (i1 d)
  | segSuspGen _ _ _ _ i1 i2 => exact fun d => i2 (i1 d)
  | _ => first | exact fun d => d | (rename_i ih; exact fun d => ih d)
theorem wakes_dead {a : Addr} {M : Model} {Γ : Ctx} {p : Pos} {g : Nat} {r : Resume} {s s' : Shared} {res : GenResult} (h : Wakes M Γ p g r s res s') (d : dead a s) : dead a s' := by
  unfold Wakes at h
  split at h
  · exact h.elim
  · split at h
    · obtain ⟨e₁, s₁, hr, _, _, rfl⟩ := h
      have q : dead a (s.setGen g .running) := d
      have r := runs_dead hr q
      exact r
    · rw [h.2]; exact d
    · rw [h.2]; exact d
  · obtain ⟨e₁, s₁, hr, _, _, rfl⟩ := h
    have q : dead a (s.setGen g .running) := d
    have r := runs_dead hr q
    exact r
  · rw [h.2]; exact d
  · rw [h.2]; exact d
theorem wp_dead {α : Type} (M : Model) (Γ : Ctx) (D : Addr → Prop) (t : Sem α) : ∀ (Q : α → Pos → Shared → Prop) (E : Value → Pos → Shared → Prop) (p : Pos) (s : Shared), (∀ a, D a → dead a s) → wp M Γ t Q E p s →
    wp M Γ t (fun a p' s' => (∀ a, D a → dead a s') ∧ Q a p' s') (fun e p' s' => (∀ a, D a → dead a s') ∧ E e p' s') p s := by
  induction t with
  | pure a => intro Q E p s hn h; exact ⟨hn, h⟩
  | raise e => intro Q E p s hn h; exact ⟨hn, h⟩
  | unsupported _ => intro Q E p s _ h; exact h
  | finish _ => intro Q E p s _ h; exact h
  | rule _ k ih => intro Q E p s hn h; exact ih () Q E p s hn h
  | «at» p' k ih => intro Q E p s hn h; exact ih () Q E p' s hn h
  | load a _ k ih => intro Q E p s hn h; obtain ⟨o, ho, h⟩ := h; exact ⟨o, ho, ih o Q E p s hn h⟩
  | update a _ f k ih => intro Q E p s hn h; exact ⟨h.1, ih () Q E p _ (fun b hb => dead_update (hn b hb) h.1) h.2⟩
  | loadIfAlive a k ih => intro Q E p s hn h; exact ih _ Q E p s hn h
  | point _ k ih => intro Q E p s hn h; exact ih () Q E p s hn h
  | register _ _ => intro Q E p s _ h; exact h
  | alloc o k ih => intro Q E p s hn h; exact ih _ Q E p _ (fun b hb => dead_push (hn b hb)) h
  | fresh k ih => intro Q E p s hn h; refine ih _ Q E p _ ?_ h; exact hn
  | ask k ih => intro Q E p s hn h; exact ih _ Q E p s hn h
  | choose src m k ih => intro Q E p s hn h; exact ⟨h.1, by refine ih _ Q E p _ ?_ h.2; exact hn⟩
  | os q _ k ih => intro Q E p s hn h; refine ih _ Q E p _ ?_ h; exact hn
  | call c hd _ _ k ih => intro Q E p s hn h; obtain ⟨r, s', hr, h⟩ := h; exact ⟨r, s', hr, ih r Q E p s' (fun b hb => runs_dead hr (hn b hb)) h⟩
  | handled own k ih => intro Q E p s hn h; exact ih _ Q E p s hn h
  | genState g k ih => intro Q E p s hn h; obtain ⟨st, hs, h⟩ := h; exact ⟨st, hs, ih _ Q E p s hn h⟩
  | newGen c k ih => intro Q E p s hn h; refine ih _ Q E p _ ?_ h; exact hn
  | resume g r _ k ih => intro Q E p s hn h; obtain ⟨res, s', hw, h⟩ := h; exact ⟨res, s', hw, ih res Q E p s' (fun b hb => wakes_dead hw (hn b hb)) h⟩
  | yield _ _ _ _ => intro Q E p s _ h; exact h
  | stack k ih => intro Q E p s hn h; exact ih _ Q E p s hn h
  | fork _ _ => intro Q E p s _ h; exact h
  | thread k ih => intro Q E p s hn h; exact ih _ Q E p s hn h
  | await _ _ _ _ _ => intro Q E p s _ h; exact h
theorem wpAny_dead {α : Type} {M : Model} {A : Around} {s : Shared} {t : Sem α} {Q : α → Shared → Prop} {E : Value → Shared → Prop} {D : Addr → Prop} (hn : ∀ a, D a → dead a s) (h : wpAny M A t Q E s) :
    wpAny M A t (fun a s' => (∀ a, D a → dead a s') ∧ Q a s') (fun e s' => (∀ a, D a → dead a s') ∧ E e s') s := fun Γ p hΓ => wp_dead M Γ D t _ _ p s hn (h Γ p hΓ)
end GF

/-! V3a: the defs: each keeps what the evaluator says, at every level of calls. -/
namespace PV
open PySem L2

/-! ### the defs -/
/-- a def of the text, and what is known of it without a run -/
structure DefT where
  x : Str
  st : Stmt
  N : List Str
  ps : List Str
  re : List Nat
  wp : List (Nat × List Nat)
def DefT.gm (d : DefT) (G : List (Str × Gv)) (Hd : List (Str × List Nat)) : Gm := ⟨d.N, defScope d.st, true, G, Hd, none, true, fixed d.ps.length d.re, d.wp, true⟩
theorem rsl_empty {z : Z} {Hh : Hp} {O : AP} : ∀ n : Nat, RSl z Hh O (List.replicate n none) (List.replicate n none) []
  | 0 => ⟨rfl, rfl⟩
  | n + 1 => ⟨none, _, rfl, rsl_empty n⟩
theorem start_rsl {z : Z} {Hh : Hp} {O : AP} {n : Nat} : ∀ {ws : List W} {vs : List V} {A : List Addr}, RVs z Hh O ws vs A → RSl z Hh O (ws.map some ++ List.replicate n none) (vs.map some ++ List.replicate n none) A
  | [], vs, A, h => by
    simp only [RVs] at h
    obtain ⟨rfl, rfl⟩ := h
    exact rsl_empty n
  | w :: ws, vs, A, h => by
    simp only [RVs] at h
    obtain ⟨v, r, B, C, rfl, rfl, h1, h2⟩ := h
    exact ⟨v, _, B, C, rfl, rfl, h1, start_rsl h2⟩
theorem start_rs {z : Z} {Hh : Hp} {O F : AP} {ws : List W} {vs : List V} {A : List Addr} {N : List Str} {fx : List (Nat × V)} (hfx : ∀ i v, (i, v) ∈ fx → vs[i]? = some v) (c : CS z Hh O F A) (r : RVs z Hh O ws vs A) : RS ⟨z, none, fx⟩ Hh O F [] (start N.length ws) (L2.start N vs) := by
  have hl := r.length
  obtain ⟨B, rb, nd, dd⟩ := c.sl
  obtain ⟨_, rfl⟩ := rb
  rw [List.append_nil] at nd dd
  refine ⟨⟨A, ?_, nd, dd⟩, fun _ h => (by cases h), c.fr, c.dom, fun _ _ e => (by cases e), fun i v e => ?_⟩
  · unfold start L2.start
    rw [← hl]
    exact start_rsl r
  · unfold L2.start
    have e1 := hfx i v e
    rw [List.getElem?_append_left (by rw [List.length_map]; exact (List.getElem?_eq_some_iff.mp e1).1), List.getElem?_map, e1]
    rfl
theorem outs_set {re : List Nat} {σ : St} : ∀ {ws : List W} {i j : Nat}, i < j → outsFrom re (σ.set i none) j ws = outsFrom re σ j ws
  | [], i, j, _ => rfl
  | w :: ws, i, j, h => by
    unfold outsFrom
    rw [outs_set (j := j + 1) (by omega), List.getElem?_set_ne (by omega)]
theorem outs_ok {y : Y} {Hh H' : Hp} {O O' F : AP} {τ : L2.St} {re : List Nat} (hst : Stab Hh O H' O') : ∀ {ws : List W} {vs : List V} {A : List Addr} {i : Nat} {us : List W} {σ : St} {T : List Addr}, RVs y.z Hh O ws vs A → (∀ j v, vs[j]? = some v → re.contains (i + j) = false → τ[i + j]? = some (some v)) → RS y H' O' F T σ τ → outsFrom re σ i ws = some us →
    ∃ B σ', RVs y.z H' O' us vs B ∧ RS y H' O' F (T ++ B) σ' τ
  | [], vs, A, i, us, σ, T, r, _, rs, e => by
    simp only [RVs] at r
    obtain ⟨rfl, rfl⟩ := r
    cases e
    exact ⟨[], σ, .nil, by rw [List.append_nil]; exact rs⟩
  | w :: ws, vs, A, i, us, σ, T, r, hv, rs, e => by
    simp only [RVs] at r
    obtain ⟨v, r0, B, C, rfl, rfl, h1, h2⟩ := r
    unfold outsFrom at e
    split at e
    case h_1 => cases e
    case h_2 us' eu =>
      have hv' : ∀ j v, r0[j]? = some v → re.contains (i + 1 + j) = false → τ[i + 1 + j]? = some (some v) := fun j v ej ec => by
        have := hv (j + 1) v (by simpa using ej) (by rw [show i + (j + 1) = i + 1 + j by omega]; exact ec)
        rwa [show i + (j + 1) = i + 1 + j by omega] at this
      split at e
      case isTrue hc =>
        split at e
        case isFalse => cases e
        case isTrue hf =>
          cases e
          obtain ⟨D, σ', q1, q2⟩ := outs_ok hst h2 hv' rs eu
          exact ⟨[] ++ D, σ', RVs.cons (RV.stab hst _ _ _ (h1.frz' hf) fun a z => by cases z) q1, q2⟩
      case isFalse hc =>
        split at e
        case h_2 => cases e
        case h_1 u eu2 =>
          cases e
          obtain ⟨v', B', q1, q2, q3⟩ := rs.out eu2
          have := hv 0 v rfl (by simpa using hc)
          rw [Nat.add_zero] at this
          rw [this] at q1
          cases q1
          obtain ⟨D, σ', q4, q5⟩ := outs_ok hst h2 hv' q3 (by rw [outs_set (by omega)]; exact eu)
          exact ⟨B' ++ D, σ', RVs.cons q2 q4, by rw [← List.append_assoc]; exact q5⟩
abbrev call (P : Prog) (k : Nat) : Calls := ⟨callF P k, none, [], fun _ _ => none⟩
def fxOf (ps : Nat) (re : List Nat) (vs : List V) : List (Nat × V) := (fixed ps re).filterMap fun i => vs[i]?.map fun v => (i, v)
theorem fxOf_mem {ps : Nat} {re : List Nat} {vs : List V} {i : Nat} {v : V} : (i, v) ∈ fxOf ps re vs ↔ i ∈ fixed ps re ∧ vs[i]? = some v := by
  unfold fxOf
  rw [List.mem_filterMap]
  constructor
  · rintro ⟨j, hj, e⟩
    cases ev : vs[j]? with
    | none => rw [ev] at e; cases e
    | some v' => rw [ev] at e; cases e; exact ⟨hj, ev⟩
  · rintro ⟨h1, h2⟩
    exact ⟨i, h1, by rw [h2]; rfl⟩
end PV

/-! W4: the generator's frame: how it is entered, how it is left. -/
namespace PV
open PySem PySem.Spec PyProof.Rows L2 GenW GF
/-- the heap below L -/
def trn (L : Nat) (h : Heap) : Heap := ⟨h.objs.extract 0 L, h.life⟩
theorem trn_size {L : Nat} {h : Heap} (hl : L ≤ h.objs.size) : (trn L h).objs.size = L := by
  show (h.objs.extract 0 L).size = L
  rw [Array.size_extract]; omega
theorem trn_get {L : Nat} {h : Heap} {b : Addr} (hb : b < L) : (trn L h).get? b = h.get? b := by
  unfold Heap.get?
  show (match (h.objs.extract 0 L)[b]? with | some ⟨_, _, .freed, _⟩ => none | o => o) = _
  have : (h.objs.extract 0 L)[b]? = h.objs[b]? := by
    rw [Array.getElem?_extract]
    have hb' : Nat.lt b L := hb
    simp [hb]
    intro hm
    simp only [Nat.lt_eq] at hb'
    omega
  rw [this]
  rfl
theorem trn_some {L : Nat} {h : Heap} {b : Addr} {o : Obj} (e : (trn L h).get? b = some o) : b < L ∧ h.get? b = some o := by
  have hb : b < L := by
    have h1 := Heap.lt_size e
    have : (trn L h).objs.size ≤ L := by
      show (h.objs.extract 0 L).size ≤ L
      rw [Array.size_extract]; omega
    exact Nat.lt_of_lt_of_le h1 this
  exact ⟨hb, by rw [← trn_get hb]; exact e⟩
theorem ff_trn {h base : Heap} {L : Nat} : ∀ {l : List Env}, h.FunFrames base l → (∀ b ∈ frs l, b < L) → (trn L h).FunFrames base l
  | [], _, _ => trivial
  | env :: r, ⟨hk, ⟨b, o, hf, hn, ho, hd⟩, hr⟩, y => by
    have e : frs (env :: r) = b :: frs r := by
      unfold frs
      rw [List.filterMap_cons, hf]
    refine ⟨hk, ⟨b, o, hf, hn, (trn_get (y b ?_)).trans ho, hd⟩, ff_trn hr fun c hc => y c ?_⟩
    · rw [e]; exact List.mem_cons_self
    · rw [e]; exact List.mem_cons_of_mem _ hc
def trs (L : Nat) (s : Shared) : Shared := { s with heap := trn L s.heap }
theorem obj_ex {P : Program} {w : World} {H : Hp} {h : Heap} {a : Addr} {o : HO} (x : ObjOk P w H h a o) : ∃ ob, h.get? a = some ob := by
  cases o with
  | lst xs => obtain ⟨_, _, _, _, e⟩ := x; exact ⟨_, e⟩
  | tup xs => obtain ⟨_, _, _, o, e, _⟩ := x; exact ⟨_, e⟩
  | dK kvs => obtain ⟨_, _, _, _, o, _, _, e, _⟩ := x; exact ⟨_, e⟩
  | dT kvs => obtain ⟨_, _, _, _, o, _, _, e, _⟩ := x; exact ⟨_, e⟩
  | set S n => obtain ⟨o, _, _, _, e, _⟩ := x; exact ⟨_, e⟩
  | ins C dx fs => obtain ⟨_, _, _, e, _⟩ := x; exact ⟨_, e⟩
  | own y => exact x
  | xd fs => obtain ⟨_, ⟨_, _, _, e, _⟩, _⟩ := x; exact ⟨_, e⟩
  | rng lo hi => obtain ⟨_, _, _, e⟩ := x; exact ⟨_, e⟩
  | frz ob u => obtain ⟨e, _⟩ := x; exact ⟨_, e⟩
  | tbl ps => exact ⟨_, (show h.get? a = some _ from x)⟩
  | met f y => exact ⟨_, (show h.get? a = some _ from x)⟩
  | ext φ => obtain ⟨_, e, _⟩ := x; exact e
/-- a generator def, as it stands: what does not turn while its frame lives -/
structure Gf where
  P : Program
  w : World
  K : PySem.W.Frag
  mg : Str → Option Value
  base : Heap
  N : List Str
  qual : Str
  scope : Scope
  f : Addr
  cd : Value
  A : Around
  outer : List Env
  L : Nat
  it : Addr
  g : Nat
  go : Obj
def Gf.env (G : Gf) : Env := envOfC G.qual G.scope G.L G.f G.cd
/-- the frame's context, entered at s -/
def Gf.cx (G : Gf) (s : Shared) (H : Hp) : Cx where
  prog := G.P
  w := G.w
  K := G.K
  mg := G.mg
  base := G.base
  A := G.A.deeper G.env
  N := G.N
  s_0 := trs G.L s
  H_0 := H
  env := G.env
  outer := G.outer
  stack := G.env :: G.outer
  ex := []
  calm := true
  fn := fun _ => true
  pn := [(G.it, G.go)]
  xe := fun _ _ => False
/-- what must be so of the def and the call -/
structure Gf.Ok (G : Gf) : Prop where
  kind : G.scope.kind = .function
  cells : ∀ x, (cellsFrom (G.L + 1) G.scope.names []).lookup x = none
  nocell : ∀ x, G.scope.names.lookup x ≠ some .cell ∧ G.scope.names.lookup x ≠ some .free
  bl : G.base.objs.size ≤ G.L
  young : ∀ b ∈ frs G.outer, b < G.L
  itL : G.L < G.it
  go : G.go.cls = .type "generator" ∧ (∃ nm qn, G.go.data = .fields #[.int G.g 0, nm, qn]) ∧ G.go.slots = #[]
  hd : G.A.handled = none
theorem Gf.Ok.isGen {G : Gf} (ok : G.Ok) {h : Heap} (e : h.get? G.it = some G.go) : h.IsGen G.it G.g := by
  obtain ⟨h1, ⟨nm, qn, h2⟩, h3⟩ := ok.go
  exact ⟨G.go, nm, qn, e, h1, h2, h3⟩
theorem Gf.Ok.goCell {G : Gf} (ok : G.Ok) : ∀ v, G.go.data ≠ .cell v := fun v q => by
  obtain ⟨_, ⟨nm, qn, h2⟩, _⟩ := ok.go
  rw [h2] at q
  cases q
/-- the frame is entered (again): ow: its own lists, with what is in them -/
theorem Gf.enter {G : Gf} (ok : G.Ok) {s : Shared} {H2 : Hp} {ow : Addr → Option HO} {τ : L2.St} {m : Str → Option Value}
    (e0 : Env0 G.P G.w G.K G.mg G.base G.A G.outer s H2) (how : ∀ a u, ow a = some u → (∃ vs, u = .lst vs) ∧ ObjOk G.P G.w H2 s.heap a u ∧ H2 a = none ∧ G.L ≤ a ∧ a ≠ G.L ∧ a ≠ G.it)
    (hns : s.heap.Ns G.L m) (hLH : H2 G.L = none) (hit : s.heap.get? G.it = some G.go) (hitH : H2 G.it = none) (hlen : τ.length = G.N.length)
    (hloc : ∀ (i : Nat) (x : Str) (v : V), G.N[i]? = some x → τ[i]? = some (some v) → Vis G.scope x → ∃ u, RelV v u ∧ (G.env.kindOf x = some .local ∧ m x = some u)) :
    Inv (G.cx s fun a => match ow a with | some u => some u | none => H2 a) [] τ (fun a => match ow a with | some u => some u | none => H2 a) s := by
  have hLs : G.L < s.heap.objs.size := hns.lt
  have hsz : (trs G.L s).heap.objs.size = G.L := trn_size (Nat.le_of_lt hLs)
  have low : ∀ b, b < G.L → ow b = none := fun b hb => by
    cases e : ow b with
    | none => rfl
    | some u => exact absurd (how b u e).2.2.2.1 (Nat.not_le.mpr hb)
  have nolk : ∀ x c, G.env.cells.lookup x = some c → False := fun x c e => by
    have := ok.cells x
    rw [show G.env.cells = cellsFrom (G.L + 1) G.scope.names [] from rfl, this] at e
    cases e
  refine ⟨⟨e0.mod, ok.kind, rfl, rfl, Nat.le_of_eq hsz, fun x y c h1 _ => (nolk _ _ h1).elim, fun x hx => ?_, fun x c _ h => (nolk _ _ h).elim, fun _ => ok.hd, Around.frames_deeper e0.frames, .inr ⟨rfl, rfl⟩, fun b hb => (by cases hb), fun b o hb => ?_, ?_, fun b o _ hb => (by cases hb), fun b hb => (by cases hb), ?_, fun b hb => ?_⟩,
    rfl, e0.bare, ?_, ⟨m, hns, fun i x v h1 h2 h3 => ?_⟩, fun x c h => (nolk _ _ h).elim, ?_, fun x c h => (nolk _ _ h).elim, fun p hp => ?_, fun b u hb => ?_, hlen⟩
  · rcases hx with hx | hx
    · exact absurd hx (ok.nocell x).1
    · exact absurd hx (ok.nocell x).2
  · have hb' := Nat.lt_of_lt_of_le (Heap.lt_size hb) ok.bl
    refine ⟨(trn_get hb').trans (e0.bs b o hb).1, ?_⟩
    show (match ow b with | some u => some u | none => H2 b) = none
    rw [low b hb']
    exact (e0.bs b o hb).2
  · show G.base.objs.size ≤ (trs G.L s).heap.objs.size
    rw [hsz]; exact ok.bl
  · exact ff_trn e0.funs ok.young
  · show (match ow b with | some u => some u | none => H2 b) = none
    rw [low b (ok.young b hb)]
    exact e0.frf b hb
  · exact Un.kept fun b o e => (trn_some e).2
  · obtain ⟨u, r, hk, hm⟩ := hloc i x v h1 h2 h3
    exact ⟨u, r, .inl ⟨hk, hm⟩⟩
  · show (match ow G.L with | some u => some u | none => H2 G.L) = none
    cases e : ow G.L with
    | none => exact hLH
    | some u => exact absurd rfl (how _ u e).2.2.2.2.1
  · have hp' : p ∈ [(G.it, G.go)] ++ ([] : List (Addr × Obj)) := hp
    have : p = (G.it, G.go) := by simpa using hp'
    subst this
    refine ⟨hit, ?_, Nat.ne_of_gt ok.itL, fun z => Nat.lt_asymm ok.itL (ok.young _ z), ok.goCell⟩
    show (match ow G.it with | some u => some u | none => H2 G.it) = none
    cases e : ow G.it with
    | none => exact hitH
    | some u => exact absurd rfl (how _ u e).2.2.2.2.2
  · have hb' : (match ow b with | some u => some u | none => H2 b) = some u := hb
    cases e : ow b with
    | some u' =>
      rw [e] at hb'
      cases hb'
      obtain ⟨⟨vs, rfl⟩, x, _⟩ := how b u e
      exact x
    | none =>
      rw [e] at hb'
      refine (e0.hok b u hb').stay (fun _ _ _ q => q) (fun c q => ?_) fun c xs q => ?_
      · show (match ow c with | some u => some u | none => H2 c) = _
        cases e2 : ow c with
        | none => exact q
        | some u2 => rw [(how c u2 e2).2.2.1] at q; cases q
      · show (match ow c with | some u => some u | none => H2 c) = _
        cases e2 : ow c with
        | none => exact q
        | some u2 => rw [(how c u2 e2).2.2.1] at q; cases q
mutual
/-- what may be changed is lists -/
theorem RV.lsts {z : Z} {H : Hp} {O : AP} : ∀ (w : W) (v : V) (A : List Addr), RV z H O w v A → ∀ a ∈ A, ∃ vs, H a = some (.lst vs)
  | .non, v, A, h, a, ha => by simp only [RV] at h; rw [h.2] at ha; cases ha
  | .bl b, v, A, h, a, ha => by simp only [RV] at h; rw [h.2] at ha; cases ha
  | .int i, v, A, h, a, ha => by simp only [RV] at h; rw [h.2] at ha; cases ha
  | .str i, v, A, h, a, ha => by simp only [RV] at h; rw [h.2] at ha; cases ha
  | .tup ws, v, A, h, a, ha => by
    simp only [RV] at h
    obtain ⟨_, vs, e, t, r⟩ := h
    exact RVs.lsts ws vs A r a ha
  | .lst false ws, v, A, h, a, ha => by simp only [RV] at h; rw [h.1] at ha; cases ha
  | .lst true ws, v, A, h, a, ha => by
    simp only [RV] at h
    obtain ⟨b, vs, B, e, e2, o, t, r⟩ := h
    subst e2
    rcases List.mem_cons.mp ha with rfl | ha
    · exact ⟨vs, t⟩
    · exact RVs.lsts ws vs B r a ha
  | .dic _ _ _, v, A, h, a, ha => by simp only [RV] at h
  | .ins _ _ _, v, A, h, a, ha => by simp only [RV] at h
  | .ro xs, v, A, h, a, ha => by simp only [RV] at h; rw [h.1] at ha; cases ha
  | .fn i, v, A, h, a, ha => by simp only [RV] at h; rw [h.1] at ha; cases ha
theorem RVs.lsts {z : Z} {H : Hp} {O : AP} : ∀ (w : List W) (v : List V) (A : List Addr), RVs z H O w v A → ∀ a ∈ A, ∃ vs, H a = some (.lst vs)
  | [], v, A, h, a, ha => by simp only [RVs] at h; rw [h.2] at ha; cases ha
  | w :: ws, vs, A, h, a, ha => by
    simp only [RVs] at h
    obtain ⟨v, r, B, C, e1, e2, h1, h2⟩ := h
    subst e2
    rcases List.mem_append.mp ha with ha | ha
    · exact RV.lsts w v B h1 a ha
    · exact RVs.lsts ws r C h2 a ha
end
theorem RSl.lsts {z : Z} {H : Hp} {O : AP} : ∀ {σ : St} {τ : L2.St} {A : List Addr}, RSl z H O σ τ A → ∀ a ∈ A, ∃ vs, H a = some (.lst vs)
  | [], _, _, h, a, ha => by rw [h.2] at ha; cases ha
  | none :: σ, _, _, ⟨x, τ', e, h⟩, a, ha => RSl.lsts h a ha
  | some w :: σ, _, _, ⟨v, τ', B, C, e, e2, h1, h2⟩, a, ha => by
    subst e2
    rcases List.mem_append.mp ha with ha | ha
    · exact RV.lsts _ _ _ h1 a ha
    · exact RSl.lsts h2 a ha
/-- all but what is the frame's own -/
def but (A : List Addr) (H : Hp) : Hp := fun a => if a ∈ A then none else H a
theorem but_in {A : List Addr} {H : Hp} {a : Addr} (h : a ∈ A) : but A H a = none := if_pos h
theorem but_out {A : List Addr} {H : Hp} {a : Addr} (h : a ∉ A) : but A H a = H a := if_neg h
/-- the frame's state amid a turn that began at s₀ -/
structure Mid (G : Gf) (y : Y) (s₀ : Shared) (Hc : Hp) (Oc : AP) (s : Shared) (H : Hp) (O : AP) (σ : St) (τ : L2.St) : Prop where
  inv : ∃ H0, (∀ b, b < G.L → H0 b = Hc b) ∧ Inv (G.cx s₀ H0) [] τ H s
  rs : RS y H O Oc [] σ τ
  stab : Stab Hc Oc H O
  own : ∀ a, Oc a → H a = Hc a ∧ O a
  dead : ∀ a, a < G.L → GF.dead a s₀ → GF.dead a s
  sz : G.L ≤ s₀.heap.objs.size
theorem Gf.leave {G : Gf} (ok : G.Ok) {y : Y} {s₀ s : Shared} {Hc H : Hp} {Oc O : AP} {σ : St} {τ : L2.St} (M : Mid G y s₀ Hc Oc s H O σ τ) :
    ∃ A, RSl y.z H O σ τ A ∧ A.Nodup ∧ (∀ a ∈ A, ¬Oc a ∧ O a ∧ G.L ≤ a ∧ a ≠ G.L ∧ a ≠ G.it ∧ ∃ vs, H a = some (.lst vs)) ∧ Step G.P G.w G.outer G.L Hc Oc (but A H) s₀ s := by
  obtain ⟨⟨H0, hH0, I⟩, rs, st, ow, dd, sz⟩ := M
  obtain ⟨A, sl, nd, nF⟩ := rs.sl
  rw [List.nil_append] at nd nF
  have hls := RSl.lsts sl
  have hO := RSl.own sl
  have hpin := I.pin (G.it, G.go) (by simp [Gf.cx])
  have ge : ∀ a ∈ A, G.L ≤ a := fun a ha => by
    by_cases hlt : G.L ≤ a
    · exact hlt
    · exfalso
      have hlt' : a < G.L := Nat.lt_of_not_le hlt
      obtain ⟨vs, hv⟩ := hls a ha
      cases hc : Hc a with
      | some u =>
        by_cases oc : Oc a
        · exact nF a ha oc
        · exact (st a u hc oc).2 (hO a ha)
      | none =>
        cases hg : s₀.heap.get? a with
        | some o =>
          have := I.base.free a o ((trn_get hlt').trans hg) (by rw [show (G.cx s₀ H0).H_0 a = H0 a from rfl, hH0 a hlt', hc]) (by simp [Gf.cx])
          rw [hv] at this
          cases this
        | none =>
          have d := (dd a hlt' ⟨Nat.lt_of_lt_of_le hlt' sz, hg⟩).2
          obtain ⟨ob, e⟩ := obj_ex (I.hok a _ hv)
          rw [d] at e
          cases e
  have all : ∀ a u, Hc a = some u → H a = some u := fun a u e => by
    by_cases oc : Oc a
    · rw [(ow a oc).1]; exact e
    · exact (st a u e oc).1
  have outA : ∀ a u, Hc a = some u → (∀ vs, u ≠ .lst vs) → a ∉ A := fun a u e hu ha => by
    obtain ⟨vs, hv⟩ := hls a ha
    rw [all a u e] at hv
    exact hu vs (Option.some.inj hv)
  refine ⟨A, sl, nd, fun a ha => ⟨nF a ha, hO a ha, ge a ha, fun e => ?_, fun e => ?_, hls a ha⟩, ⟨I.os, I.bare, ?_, ?_, ?_, ?_⟩⟩
  · obtain ⟨vs, hv⟩ := hls a ha
    have := I.free
    rw [show (G.cx s₀ H0).env.locals = G.L from rfl, ← e, hv] at this
    cases this
  · obtain ⟨vs, hv⟩ := hls a ha
    have := hpin.2.1
    rw [show (G.it, G.go).1 = G.it from rfl, ← e, hv] at this
    cases this
  · have low : ∀ {b : Addr} {o : Obj}, s₀.heap.get? b = some o → Hc b = none → b ∉ chOf G.L Hc s₀.heap → b < G.L := fun {b o} e n hb => by
      by_cases hlt : b < G.L
      · exact hlt
      · exact absurd (mem_ch.mpr ⟨Heap.lt_size e, Nat.le_of_not_lt hlt, n⟩) hb
    have notA : ∀ {b : Addr}, b < G.L → b ∉ A := fun {b} hb ha => absurd (ge b ha) (Nat.not_le.mpr hb)
    refine ⟨fun b o e n hf hb => ?_, fun b o e n hf hb => ?_, fun b o e n hb => ?_, fun b o e hb => ?_, fun b xs e => ?_, fun b ob u e => ?_, fun b ps e => ?_⟩
    · have hl := low e n hb
      exact I.base.keep b o ((trn_get hl).trans e) (by rw [show (G.cx s₀ H0).H_0 b = H0 b from rfl, hH0 b hl, n]) hf (by simp [Gf.cx])
    · have hl := low e n hb
      exact I.base.slot b o ((trn_get hl).trans e) (by rw [show (G.cx s₀ H0).H_0 b = H0 b from rfl, hH0 b hl, n]) hf (by simp [Gf.cx])
    · have hl := low e n hb
      rw [but_out (notA hl)]
      exact I.base.free b o ((trn_get hl).trans e) (by rw [show (G.cx s₀ H0).H_0 b = H0 b from rfl, hH0 b hl, n]) (by simp [Gf.cx])
    · cases hc : Hc b with
      | none =>
        have hl := low e hc hb
        exact I.base.there b o ((trn_get hl).trans e) (by simp [Gf.cx])
      | some u => exact obj_ex (I.hok b u (all b u hc))
    · rw [but_out (outA b _ e fun vs z => by cases z)]; exact all b _ e
    · rw [but_out (outA b _ e fun vs z => by cases z)]; exact all b _ e
    · exact ⟨#[], by rw [but_out (outA b _ e fun vs z => by cases z), all b _ e]; simp⟩
  · intro b u e
    have hb : b ∉ A := fun ha => by rw [but_in ha] at e; cases e
    rw [but_out hb] at e
    refine (I.hok b u e).stay (fun _ _ _ q => q) (fun c q => ?_) fun c xs q => ?_
    · rw [but_out fun ha => ?_]
      · exact q
      · obtain ⟨vs, hv⟩ := hls c ha
        rw [q] at hv; cases hv
    · rw [but_out fun ha => ?_]
      · exact q
      · obtain ⟨vs, hv⟩ := hls c ha
        rw [q] at hv; cases hv
  · intro a u e o
    obtain ⟨q1, q2⟩ := st a u e o
    exact ⟨by rw [but_out fun ha => q2 (hO a ha)]; exact q1, o⟩
  · intro a oa
    rw [but_out fun ha => nF a ha oa]
    exact (ow a oa).1
end PV

/-! W5: the generator's body: before; while c: a; yield e; b. -/
namespace PV
open PySem PySem.Spec PyProof.Rows L2 GenW GF
theorem execs_app {a b : List Stmt} {env : Env} {K : Flow → Sem PySem.Fin} {J : Value → Sem PySem.Fin} {gd : Bool → Bool} {lv : List Value → List Value} : (execs (a ++ b) env).wrap K J gd lv = (execs a env).wrap (fun f => match f with | .next => (execs b env).wrap K J gd lv | f => K f) J gd lv := by
  induction a generalizing K with
  | nil => rfl
  | cons st r ih =>
    rw [List.cons_append, execs_cons_wrap, execs_cons_wrap]
    exact Sem.wrap_congr _ _ _ (fun f => by cases f <;> first | exact ih | rfl) (fun _ => rfl)
section
variable {G : Gf} {y : Y} {s₀ s s' : Shared} {Hc H H' : Hp} {Oc O O' : AP} {σ σ' : St} {τ τ' : L2.St}
theorem Mid.next {H0 : Hp} (M : Mid G y s₀ Hc Oc s H O σ τ) (h0 : ∀ b, b < G.L → H0 b = Hc b) (I : Inv (G.cx s₀ H0) [] τ' H' s') (n : Nx Oc H O H' O') (rs : RS y H' O' Oc [] σ' τ') (d : ∀ a, GF.dead a s → GF.dead a s') : Mid G y s₀ Hc Oc s' H' O' σ' τ' :=
  ⟨⟨H0, h0, I⟩, rs, M.stab.trans n.stab, fun a oa => ⟨(n.keep a oa).1.trans (M.own a oa).1, (n.keep a oa).2 (M.own a oa).2⟩, fun a ha hd => d a (M.dead a ha hd), M.sz⟩
theorem Mid.drops (M : Mid G y s₀ Hc Oc s H O σ τ) (wp : List Nat) : Mid G y s₀ Hc Oc s H O (PV.wipe σ wp) τ := ⟨M.inv, M.rs.drops wp, M.stab, M.own, M.dead, M.sz⟩
/-- the generator sleeps at s, is woken at s': its frame is entered again -/
theorem Gf.again (ok : G.Ok) {A : List Addr} {H2 : Hp} {O2 : AP} (M : Mid G y s₀ Hc Oc s H O σ τ) (hh : y.hot = none) (sl : RSl y.z H O σ τ A) (nd : A.Nodup) (hA : ∀ a ∈ A, ¬Oc a ∧ O a ∧ G.L ≤ a ∧ a ≠ G.L ∧ a ≠ G.it ∧ ∃ vs, H a = some (.lst vs))
    (e0 : Env0 G.P G.w G.K G.mg G.base G.A G.outer s' H2) (dom : ∀ a, O2 a → ∃ u, H2 a = some u) (st : Stab (but A H) Oc H2 O2) (fp : ∀ p ∈ pinsAt (G.it :: G.L :: A) s.heap, s'.heap.get? p.1 = some p.2 ∧ H2 p.1 = none) :
    ∃ Hn On, Mid G y s' H2 O2 s' Hn On σ τ := by
  obtain ⟨⟨H0, hH0, I⟩, rs, st1, ow, dd, sz⟩ := M
  have pinned : ∀ b ∈ G.it :: G.L :: A, ∀ o, s.heap.get? b = some o → s'.heap.get? b = some o ∧ H2 b = none := fun b hb o e => fp (b, o) (mem_pinsAt hb e)
  obtain ⟨m, ⟨oL, es, ep, eL, rL⟩, hl⟩ := I.loc
  have pL := pinned G.L (by simp) oL eL
  have hpin := I.pin (G.it, G.go) (by simp [Gf.cx])
  have pit := pinned G.it (by simp) G.go hpin.1
  let own : Addr → Option HO := fun a => if a ∈ A then H a else none
  have own_in : ∀ a, a ∈ A → own a = H a := fun a h => if_pos h
  have own_out : ∀ a, a ∉ A → own a = none := fun a h => if_neg h
  have how : ∀ a u, own a = some u → (∃ vs, u = .lst vs) ∧ ObjOk G.P G.w H2 s'.heap a u ∧ H2 a = none ∧ G.L ≤ a ∧ a ≠ G.L ∧ a ≠ G.it := fun a u e => by
    have ha : a ∈ A := by
      by_cases ha : a ∈ A
      · exact ha
      · rw [own_out a ha] at e; cases e
    rw [own_in a ha] at e
    obtain ⟨_, _, h3, h4, h5, vs, hv⟩ := hA a ha
    rw [hv] at e
    cases e
    obtain ⟨z, its, n, r, eo⟩ := I.hok a _ hv
    have p := pinned a (by simp [ha]) _ eo
    exact ⟨⟨vs, rfl⟩, ⟨z, its, n, r, p.1⟩, p.2, h3, h4, h5⟩
  have nin : ∀ a, O2 a → a ∉ A := fun a oa ha => by
    obtain ⟨u, e⟩ := dom a oa
    obtain ⟨_, _, _, _, _, vs, hv⟩ := hA a ha
    rw [(how a _ (by rw [own_in a ha]; exact hv)).2.2.1] at e
    cases e
  have J := Gf.enter (G := G) ok (s := s') (H2 := H2) (ow := own) (τ := τ) (m := m) e0 how ⟨oL, es, ep, pL.1, rL⟩ pL.2 pit.1 pit.2 I.len (fun i x v h1 h2 h3 => by
    obtain ⟨u, r, hk | ⟨_, c, hc, _⟩⟩ := hl i x v h1 h2 h3
    · exact ⟨u, r, hk⟩
    · have := ok.cells x
      rw [show (G.cx s₀ H0).env.cells = cellsFrom (G.L + 1) G.scope.names [] from rfl, this] at hc
      cases hc)
  refine ⟨_, fun a => O2 a ∨ a ∈ A, ⟨_, fun b hb => ?_, J⟩, ⟨⟨A, ?_, nd, fun a ha oa => nin a oa ha⟩, fun _ z => (by cases z), fun a oa => .inl oa, fun a oa => ?_, fun i v e => (by rw [hh] at e; cases e), rs.fx⟩, fun a u e o => ?_, fun a oa => ?_, fun _ _ d => d, ?_⟩
  · have : b ∉ A := fun ha => absurd (hA b ha).2.2.1 (Nat.not_le.mpr hb)
    show (match own b with | some u => some u | none => H2 b) = H2 b
    rw [own_out b this]
  · refine sl.stab (fun a u e o => ?_) fun a ha => ?_
    · have hna : a ∉ A := fun ha => o (hA a ha).2.1
      have hno : ¬Oc a := fun oc => o (ow a oc).2
      obtain ⟨q1, q2⟩ := st a u (by rw [but_out hna]; exact e) hno
      refine ⟨?_, fun z => z.elim q2 hna⟩
      show (match own a with | some u => some u | none => H2 a) = some u
      rw [own_out a hna]
      exact q1
    · refine ⟨?_, .inr ha⟩
      obtain ⟨_, _, _, _, _, vs, hv⟩ := hA a ha
      show (match own a with | some u => some u | none => H2 a) = H a
      rw [own_in a ha, hv]
  · show ∃ u, (match own a with | some u => some u | none => H2 a) = some u
    rcases oa with oa | ha
    · rw [own_out a (nin a oa)]
      exact dom a oa
    · obtain ⟨_, _, _, _, _, vs, hv⟩ := hA a ha
      rw [own_in a ha, hv]
      exact ⟨_, rfl⟩
  · have hna : a ∉ A := fun ha => by
      obtain ⟨_, _, _, _, _, vs, hv⟩ := hA a ha
      rw [(how a _ (by rw [own_in a ha]; exact hv)).2.2.1] at e
      cases e
    refine ⟨?_, fun z => z.elim o hna⟩
    show (match own a with | some u => some u | none => H2 a) = some u
    rw [own_out a hna]
    exact e
  · refine ⟨?_, .inl oa⟩
    show (match own a with | some u => some u | none => H2 a) = H2 a
    rw [own_out a (nin a oa)]
  · exact Nat.le_of_lt (Heap.lt_size pL.1)
end
/-- the parts of the body, each with its term -/
structure Gp (G : Gf) (y : Y) (xc : Nat → Option Addr) (XS : List XCls) (C : Calls) (test : Expr) (As : List Stmt) (ex : Expr) (Bs : List Stmt) (c : E) (a : S) (e : E) (b : S) : Prop where
  ok : G.Ok
  hot : y.hot = none
  test : ∀ s H, PT (G.cx s H) test (tT y xc noW C c)
  as : ∀ s H, PSs (G.cx s H) As (tS y xc noW XS C a)
  ex : ∀ s H, PE (G.cx s H) ex (tE y xc noW C e)
  bs : ∀ s H, PSs (G.cx s H) Bs (tS y xc noW XS C b)
  co : G.scope.isCoroutine = false
  inter : interactive G.env = false
section
variable {G : Gf} {y : Y} {xc : Nat → Option Addr} {XS : List XCls} {C : Calls} {test : Expr} {As Bs : List Stmt} {ex : Expr} {c e : E} {a b : S} {wp : List Nat} {xs : List W} {Good : Gd} {FS : List Frame} {ypos epos : Pos}
/-- the turns -/
theorem gen_loop (g : Gp G y xc XS C test As ex Bs c a e b) (hG : ∀ i s' H' O', Good i s' H' O' → Env0 G.P G.w G.K G.mg G.base G.A G.outer s' H' ∧ ∀ a, O' a → ∃ u, H' a = some u)
    (over : G.A.over (.whileLoop test (As ++ .Expr (.Yield (some ex) ypos) epos :: Bs) [] G.env) FS = G.A.deeper G.env) (split : splitAtGen FS = none) (guard : FS.any Frame.guarded = false)
    (fin : ∀ s₀ s, EG G.P G.w G.outer G.L xs Good 1 s₀ s → Seg (model G.P G.w) G.A (RG G.P G.w G.outer G.L xs Good) (YG G.P G.w G.outer y.z G.it G.g G.L xs Good) 1 s₀ (.whileLoop test (As ++ .Expr (.Yield (some ex) ypos) epos :: Bs) [] G.env) (.pure (.done .next)) FS s) :
    ∀ (fuel i : Nat) (s₀ s : Shared) (σ : St), i ≤ xs.length → (∃ Hc Oc H O τ, Good i s₀ Hc Oc ∧ Mid G y s₀ Hc Oc s H O σ τ) → genL XS C c a e b wp fuel σ = some (xs.drop i) →
      Seg (model G.P G.w) G.A (RG G.P G.w G.outer G.L xs Good) (YG G.P G.w G.outer y.z G.it G.g G.L xs Good) (xs.length - i + 1) s₀ (.whileLoop test (As ++ .Expr (.Yield (some ex) ypos) epos :: Bs) [] G.env) ((model G.P G.w).den (.whileLoop test (As ++ .Expr (.Yield (some ex) ypos) epos :: Bs) [] G.env)) FS s := by
  intro fuel
  induction fuel with
  | zero => intro i s₀ s σ _ _ h; cases h
  | succ fuel ih =>
    intro i s₀ s σ hi ⟨Hc, Oc, H, O, τ, gd, M⟩ hgen
    unfold genL at hgen
    obtain ⟨H0, hH0, I⟩ := M.inv
    refine seg_whileLoop ?_
    rw [over]
    have r1 := wpAny_dead (D := fun a => GF.dead a s) (fun a d => d) ((g.test s₀ H0).run [] s τ H (fun v H' => ∃ O' σ', Nx Oc H O H' O' ∧ RS y H' O' Oc [] σ' τ ∧ evT C c σ = some (.ok v σ')) I ⟨Oc, O, σ, M.rs, by
      cases ec : evT C c σ with
      | none => rw [ec] at hgen; cases hgen
      | some r =>
        cases r with
        | ex x σ' => rw [ec] at hgen; cases hgen
        | ok v σ' => exact fun H' O' v2 A n rs ⟨q1, q2⟩ => ⟨O', σ', n, by rw [q2] at rs; exact rs, by rw [q1]⟩⟩)
    refine wpAny_mono r1 (fun v s1 h1 => ?_) fun x s1 h1 => h1.2.elim
    obtain ⟨d1, H1, I1, O1, σ1, n1, rs1, ec⟩ := h1
    rw [ec] at hgen
    have M1 := M.next hH0 I1 n1 rs1 d1
    cases v with
    | false =>
      rw [if_neg Bool.false_ne_true]
      simp only [Option.some.injEq] at hgen
      have hlen : i = xs.length := by
        have := congrArg List.length hgen
        rw [List.length_nil, List.length_drop] at this
        omega
      subst hlen
      obtain ⟨A, _, _, _, st⟩ := Gf.leave g.ok M1
      rw [Nat.sub_self]
      exact seg_execs_nil (fin s₀ s1 ⟨rfl, Hc, Oc, _, gd, st⟩)
    | true =>
      rw [if_pos rfl]
      dsimp only at hgen
      cases ea : exec XS C a σ1 with
      | none => rw [ea] at hgen; cases hgen
      | some o =>
      rw [ea] at hgen
      cases o with
      | ex x σ' => cases hgen
      | ok f =>
      cases f with
      | bk σ' => cases hgen
      | ct σ' => cases hgen
      | rt w σ' => cases hgen
      | nx σ2 =>
      dsimp only at hgen
      cases ee : ev C e σ2 with
      | none => rw [ee] at hgen; cases hgen
      | some r =>
      rw [ee] at hgen
      cases r with
      | ex x σ' => cases hgen
      | ok w σ3 =>
      dsimp only at hgen
      by_cases hw : w.frz = true
      · rw [if_pos hw] at hgen
        cases eb : exec XS C b σ3 with
        | none => rw [eb] at hgen; cases hgen
        | some o =>
        rw [eb] at hgen
        cases o with
        | ex x σ' => cases hgen
        | ok f =>
        cases f with
        | bk σ' => cases hgen
        | ct σ' => cases hgen
        | rt w σ' => cases hgen
        | nx σ4 =>
        dsimp only at hgen
        cases er : genL XS C c a e b wp fuel (PV.wipe σ4 wp) with
        | none => rw [er] at hgen; cases hgen
        | some rest =>
        rw [er] at hgen
        simp only [Option.some.injEq] at hgen
        have hlt : i < xs.length := by
          have := congrArg List.length hgen
          rw [List.length_cons, List.length_drop] at this
          omega
        have hd := List.drop_eq_getElem_cons hlt
        rw [← hgen] at hd
        simp only [List.cons.injEq] at hd
        obtain ⟨ew, erest⟩ := hd
        have hxi : xs[i]? = some w := by rw [List.getElem?_eq_getElem hlt, ew]
        rw [execs_app]
        refine seg_wrap ?_
        rw [over]
        have r2 := wpAny_dead (D := fun a => GF.dead a s1) (fun a d => d) ((g.as s₀ H0).run [] s1 τ H1 { nx := fun τ' H' => ∃ O', Nx Oc H1 O1 H' O' ∧ RS y H' O' Oc [] σ2 τ', rt := fun _ _ => False } I1 ⟨Oc, O1, σ1, rs1, by
          rw [ea]; exact fun H' O' τ' n rs => ⟨O', n, rs⟩⟩)
        refine wpAny_mono r2 (fun f s2 h2 => ?_) fun x s2 h2 => h2.2.elim
        obtain ⟨d2, h2⟩ := h2
        cases f with
        | brk => obtain ⟨_, _, _, z⟩ := h2; exact z.elim
        | cont => obtain ⟨_, _, _, z⟩ := h2; exact z.elim
        | ret u => obtain ⟨_, _, _, _, _, z⟩ := h2; exact z.elim
        | next =>
        obtain ⟨τ2, H2, I2, O2, n2, rs2⟩ := h2
        have M2 := M1.next hH0 I2 n2 rs2 d2
        refine seg_execs_cons (seg_Expr_Yield split rfl guard ?_ g.co g.inter)
        rw [over]
        have r3 := wpAny_dead (D := fun a => GF.dead a s2) (fun a d => d) ((g.ex s₀ H0).run [] s2 τ2 H2 (fun v H' => ∃ O', Nx Oc H2 O2 H' O' ∧ RS y H' O' Oc [] σ3 τ2 ∧ RV y.z H' O' w v []) I2 ⟨Oc, O2, σ2, rs2, by
          rw [ee]; exact fun H' O' v A n rs r => by
            have e0 := RV.frz w v A r hw
            rw [e0] at rs r
            exact ⟨O', n, rs, r⟩⟩)
        refine wpAny_mono r3 (fun v s3 h3 => ?_) fun x s3 h3 => h3.2.elim
        obtain ⟨d3, x, H3, I3, rx, O3, n3, rs3, rv3⟩ := h3
        have M3 := M2.next hH0 I3 n3 rs3 d3
        obtain ⟨A, sl, nd, hA, st⟩ := Gf.leave g.ok M3
        have hpin := I3.pin (G.it, G.go) (by simp [Gf.cx])
        intro kap hk
        refine ⟨i, Hc, Oc, w, but A H3, x, pinsAt (G.it :: G.L :: A) s3.heap, by omega, gd, hxi, st, rx, ?_, fun p hp => ?_, fun h hh => ?_, fun s' H' O' gd' st' fp => hk .none s' ?_⟩
        · refine RV.stab (fun a u e o => ⟨?_, fun oc => o (M3.own a oc).2⟩) w x [] rv3 fun a ha => (by cases ha)
          rw [but_out fun ha => o (hA a ha).2.1]
          exact e
        · obtain ⟨hb, e⟩ := of_pinsAt hp
          rcases List.mem_cons.mp hb with hb | hb
          · have ep : p.2 = G.go := by
              rw [hb] at e
              have := hpin.1
              rw [show (G.it, G.go).1 = G.it from rfl] at this
              rw [this] at e
              exact (Option.some.inj e).symm
            refine ⟨e, ?_, by rw [hb]; exact Nat.le_of_lt g.ok.itL, by rw [ep]; exact g.ok.goCell⟩
            rw [hb, but_out fun ha => (hA _ ha).2.2.2.2.1 rfl]
            exact hpin.2.1
          rcases List.mem_cons.mp hb with hb | hb
          · obtain ⟨m, ⟨oL, es, ep, eL, dL, _⟩, _⟩ := I3.loc
            have eq : p.2 = oL := by
              rw [hb] at e
              rw [show (G.cx s₀ H0).env.locals = G.L from rfl, e] at eL
              exact Option.some.inj eL
            refine ⟨e, ?_, by rw [hb]; exact Nat.le_refl _, fun v q => by rw [eq, dL] at q; cases q⟩
            rw [hb, but_out fun ha => (hA _ ha).2.2.2.1 rfl]
            exact I3.free
          · obtain ⟨_, _, h3, _, _, vs, hv⟩ := hA _ hb
            obtain ⟨_, its, n, _, eo⟩ := I3.hok _ _ hv
            rw [e] at eo
            refine ⟨e, but_in hb, h3, fun v q => ?_⟩
            rw [Option.some.inj eo] at q
            cases q
        · exact g.ok.isGen (hh (G.it, G.go) (mem_pinsAt (by simp) hpin.1))
        · obtain ⟨e0, dom⟩ := hG _ _ _ _ gd'
          obtain ⟨Hn, On, M4⟩ := Gf.again g.ok M3 g.hot sl nd hA e0 dom st' fp
          obtain ⟨H5, hH5, I5⟩ := M4.inv
          show Seg _ _ _ _ (xs.length - i) s' _ ((execs Bs G.env).wrap _ _ _ _) FS s'
          refine seg_wrap ?_
          rw [over]
          have r5 := wpAny_dead (D := fun a => GF.dead a s') (fun a d => d) ((g.bs s' H5).run [] s' τ2 Hn { nx := fun τ' H6 => ∃ O6, Nx O' Hn On H6 O6 ∧ RS y H6 O6 O' [] σ4 τ', rt := fun _ _ => False } I5 ⟨O', On, σ3, M4.rs, by
            rw [eb]; exact fun H' O' τ' n rs => ⟨O', n, rs⟩⟩)
          refine wpAny_mono r5 (fun f s6 h6 => ?_) fun x s6 h6 => h6.2.elim
          obtain ⟨d6, h6⟩ := h6
          cases f with
          | brk => obtain ⟨_, _, _, z⟩ := h6; exact z.elim
          | cont => obtain ⟨_, _, _, z⟩ := h6; exact z.elim
          | ret u => obtain ⟨_, _, _, _, _, z⟩ := h6; exact z.elim
          | next =>
          obtain ⟨τ6, H6, I6, O6, n6, rs6⟩ := h6
          have M6 := (M4.next hH5 I6 n6 rs6 d6).drops wp
          have := ih (i + 1) s' s6 (PV.wipe σ4 wp) hlt ⟨H', O', H6, O6, τ6, gd', M6⟩ (by rw [er, erest])
          rw [show xs.length - (i + 1) + 1 = xs.length - i by omega] at this
          exact seg_again rfl this
      · rw [if_neg hw] at hgen; cases hgen
end
end PV

/-! W6: a generator def, by its body. -/
namespace PV
open PySem PySem.Spec PyProof.Rows L2 GenW GF
/-- the rules of the body's parts -/
structure Gr (G : Gf) (y : Y) (xc : Nat → Option Addr) (XS : List XCls) (C : Calls) (Ps : List Stmt) (test : Expr) (As : List Stmt) (ex : Expr) (Bs : List Stmt) (p : S) (c : E) (a : S) (e : E) (b : S) : Prop where
  ps : ∀ s H, PSs (G.cx s H) Ps (tS y xc noW XS C p)
  test : ∀ s H, PT (G.cx s H) test (tT y xc noW C c)
  as : ∀ s H, PSs (G.cx s H) As (tS y xc noW XS C a)
  ex : ∀ s H, PE (G.cx s H) ex (tE y xc noW C e)
  bs : ∀ s H, PSs (G.cx s H) Bs (tS y xc noW XS C b)
section
variable {G : Gf} {y : Y} {xc : Nat → Option Addr} {XS : List XCls} {C : Calls} {test : Expr} {Ps As Bs : List Stmt} {ex : Expr} {c e : E} {p a b : S} {wp : List Nat} {xs : List W} {Good : Gd} {ypos epos wpos : Pos}
theorem gen_body (ok : G.Ok) (hot : y.hot = none) (r : Gr G y xc XS C Ps test As ex Bs p c a e b) (co : G.scope.isCoroutine = false) (inter : interactive G.env = false) (hG : ∀ i s' H' O', Good i s' H' O' → Env0 G.P G.w G.K G.mg G.base G.A G.outer s' H' ∧ ∀ a, O' a → ∃ u, H' a = some u)
    {fuel : Nat} {s₀ : Shared} {σ σ1 : St} {Hc H : Hp} {Oc O : AP} {τ : L2.St} (gd : Good 0 s₀ Hc Oc) (M : Mid G y s₀ Hc Oc s₀ H O σ τ) (hp : exec XS C p σ = some (.ok (.nx σ1))) (hg : genL XS C c a e b wp fuel σ1 = some xs) :
    Seg (model G.P G.w) G.A (RG G.P G.w G.outer G.L xs Good) (YG G.P G.w G.outer y.z G.it G.g G.L xs Good) (xs.length + 1) s₀ (.func (Ps ++ [.While test (As ++ .Expr (.Yield (some ex) ypos) epos :: Bs) [] wpos]) G.env) ((model G.P G.w).den (.func (Ps ++ [.While test (As ++ .Expr (.Yield (some ex) ypos) epos :: Bs) [] wpos]) G.env)) [] s₀ := by
  refine seg_func ?_
  rw [execs_app]
  refine seg_wrap ?_
  rw [over_func]
  obtain ⟨H0, hH0, I⟩ := M.inv
  have r1 := wpAny_dead (D := fun a => GF.dead a s₀) (fun a d => d) ((r.ps s₀ H0).run [] s₀ τ H { nx := fun τ' H' => ∃ O', Nx Oc H O H' O' ∧ RS y H' O' Oc [] σ1 τ', rt := fun _ _ => False } I ⟨Oc, O, σ, M.rs, by
    rw [hp]; exact fun H' O' τ' n rs => ⟨O', n, rs⟩⟩)
  refine wpAny_mono r1 (fun f s1 h1 => ?_) fun x s1 h1 => h1.2.elim
  obtain ⟨d1, h1⟩ := h1
  cases f with
  | brk => obtain ⟨_, _, _, z⟩ := h1; exact z.elim
  | cont => obtain ⟨_, _, _, z⟩ := h1; exact z.elim
  | ret u => obtain ⟨_, _, _, _, _, z⟩ := h1; exact z.elim
  | next =>
  obtain ⟨τ1, H1, I1, O1, n1, rs1⟩ := h1
  have M1 := M.next hH0 I1 n1 rs1 d1
  refine seg_execs_cons (seg_While fun q => ?_)
  refine gen_loop (xs := xs) (wp := wp) (ypos := ypos) (epos := epos) (Good := Good) ⟨ok, hot, r.test, r.as, r.ex, r.bs, co, inter⟩ hG ?_ ?_ ?_ (fun s₀ s eg => seg_leaf (.ok .next) ?_) fuel 0 s₀ s1 σ1 (Nat.zero_le _) ⟨Hc, Oc, H1, O1, τ1, gd, M1⟩ (by simpa using hg)
  · exact (over_loop rfl rfl).trans over_func
  · exact split_ret.mpr rfl
  · rfl
  · exact seg_end (.ok (.ret .none)) (.inl ⟨.inl rfl, eg⟩)
end
theorem cells_none : ∀ {l : List (Str × NameKind)} {n : Nat} {acc : List (Str × Addr)}, (∀ q ∈ l, q.2 ≠ .cell ∧ q.2 ≠ .free) → cellsFrom n l acc = acc
  | [], n, acc, _ => rfl
  | (y, kd) :: r, n, acc, h => by
    have hk := (h (y, kd) List.mem_cons_self).1
    have ih := fun n acc => cells_none (l := r) (n := n) (acc := acc) fun q hq => h q (List.mem_cons_of_mem _ hq)
    cases kd <;> first | exact absurd rfl hk | exact ih _ _
section
variable {P : Program} {w : World} {K : PySem.W.Frag} {mg : Str → Option Value} {base : Heap} {z : Z} {xc : Nat → Option Addr} {XS : List XCls} {C : Calls} {test : Expr} {Ps As Bs : List Stmt} {ex : Expr} {c e : E} {p a b : S} {wp : List Nat} {ypos epos wpos : Pos}
theorem gfn_ok {x : Str} {st : Stmt} {f : Addr} {fd : FuncData} {N ps : List Str} {k fuel : Nat} (Fu : Fun K x x st f fd) (S : GScope N ps (defScope st)) (nc0 : ∀ q ∈ (defScope st).names, q.2 ≠ .cell ∧ q.2 ≠ .free) (hbd : defBody st = Ps ++ [.While test (As ++ .Expr (.Yield (some ex) ypos) epos :: Bs) [] wpos])
    (hr : ∀ (cd : Value) (A : Around) (outer : List Env) (L it : Addr) (g : Nat) (go : Obj) (vs : List V), vs.length = ps.length → Room k (A.deeper (envOfC x (defScope st) L f cd)) → Gr ⟨P, w, K, mg, base, N, x, defScope st, f, cd, A, outer, L, it, g, go⟩ ⟨z, none, fxOf ps.length [] vs⟩ xc XS C Ps test As ex Bs p c a e b) :
    GFnP P w K mg base (k + 1) f fd ps z (fun ws => if ws.length = ps.length then genF XS C N.length p c a e b wp fuel ws else none) := by
  refine ⟨fun ws xs h => ?_, ?_⟩
  · by_cases hl : ws.length = ps.length
    · exact hl
    · dsimp only at h
      rw [if_neg hl] at h
      cases h
  have nc : ∀ y, (defScope st).names.lookup y ≠ some .cell ∧ (defScope st).names.lookup y ≠ some .free := fun y => ⟨fun q => (nc0 _ (PySem.mem_of_lookup q)).1 rfl, fun q => (nc0 _ (PySem.mem_of_lookup q)).2 rfl⟩
  intro A outer s H O args us vs ws xs hroom e0 dom hb r rv hg0
  have hwl : ws.length = ps.length := by
    by_cases hl : ws.length = ps.length
    · exact hl
    · dsimp only at hg0
      rw [if_neg hl] at hg0
      cases hg0
  have hg : genF XS C N.length p c a e b wp fuel ws = some xs := by dsimp only at hg0; rw [if_pos hwl] at hg0; exact hg0
  obtain ⟨oc, od, kV, doc, pm, an, cdv, ct, osl, rfl, lk, hcd⟩ := Fu.ex
  have hl : vs.length = ps.length := by rw [← rv.length, hwl]
  have KX : K.In s.heap := e0.mod.kin.keeps fun b o q => (e0.bs b o q).1
  have lim : s.heap.NoLimit := e0.mod.nolimit.keeps fun b o q => (e0.bs b o q).1
  have hkind : ∀ y ∈ ps.zip us, (defScope st).names.lookup y.1 = some .local ∨ ((defScope st).names.lookup y.1 = some .cell ∧ ((cellsFrom (s.heap.objs.size + 1) (defScope st).names []).lookup y.1).isSome = true) := fun ⟨n, v⟩ hy =>
    (S.par n (List.of_mem_zip hy).1).elim .inl fun q => absurd q (nc n).1
  refine codeAny_call_generator hroom.depth (KX _ _ lk) rfl S.co S.gen rfl (PySem.W.codeRec_of KX hcd) (hb _ _ _ _ (wpAny_newFunctionEnv_cells S.kind hkind fun env he s1 hx => ?_))
  subst he
  have I1 : Inv (gcxOf P w K mg base N x (defScope st) f cdv A outer s H (fun _ _ _ => False) []) [] (L2.start N vs) H s1 := inv_startG S hroom.hd e0 hl r hx
  refine ⟨lim.keeps hx.toInCall.keep, ?_⟩
  obtain ⟨h1, tk, es1, hk1⟩ := hx.done
  have kp1 : ∀ b o, s.heap.get? b = some o → s1.heap.get? b = some o := hx.toInCall.keep
  have lt1 : s.heap.objs.size < s1.heap.objs.size := hx.toInCall.ns.lt
  obtain ⟨m, ⟨oL, les, lep, eL, dL, rL⟩, hloc⟩ := I1.loc
  have main : ∀ (go : Obj) (nm qn : Value) (tk2 : Nat), go.cls = .type "generator" → go.data = .fields #[.int s1.gens.size 0, nm, qn] → go.slots = #[] → (∀ h : Heap, (h.push go).get? h.objs.size = some go) →
      GenV P w K mg base (k + 1) outer z xs H O s (.ref s1.heap.objs.size) { s1 with gens := s1.gens.push (.fresh (.func (defBody st) (envOfC x (defScope st) s.heap.objs.size f cdv))), toks := tk2, heap := s1.heap.push go } := by
    intro go nm qn tk2 hc hd hs hp
    have isg : ∀ h : Heap, h.get? s1.heap.objs.size = some go → h.IsGen s1.heap.objs.size s1.gens.size := fun h q => ⟨go, nm, qn, q, hc, hd, hs⟩
    have hL2 : (s1.heap.push go).get? s.heap.objs.size = some oL := Heap.get?_push_of_some _ eL
    refine ⟨s1.heap.objs.size, s1.gens.size, _, s.heap.objs.size, [(s1.heap.objs.size, go), (s.heap.objs.size, oL)], rfl, Nat.le_refl _, Array.getElem?_push_size .., ?_, ?_, fun b o q => Heap.get?_push_of_some _ (kp1 b o q), fun q hq => ?_, fun h hh => isg h (hh (_, go) (by simp)), ?_⟩
    · rw [es1]
    · exact AllBare.push (by rw [es1]; exact e0.bare) rfl
    · rcases List.mem_cons.mp hq with rfl | hq
      · exact ⟨hp _, I1.hok.fresh (Nat.le_refl _), Nat.le_of_lt lt1, fun v q => by rw [hd] at q; cases q⟩
      · rw [List.mem_singleton.mp hq]
        exact ⟨hL2, I1.free, Nat.le_refl _, fun v q => by rw [dL] at q; cases q⟩
    intro A2 Good hroom2 hfr good s2 H2 O2 gd st2 fp
    let G : Gf := ⟨P, w, K, mg, base, N, x, defScope st, f, cdv, A2, outer, s.heap.objs.size, s1.heap.objs.size, s1.gens.size, go⟩
    have nocells : ∀ n y, (cellsFrom n (defScope st).names []).lookup y = none := fun n y => by rw [cells_none nc0]; rfl
    have ok : G.Ok := ⟨S.kind, nocells _, nc, e0.bsz, fun b hb => by
      obtain ⟨_, o, q, _⟩ := e0.funs.mem hb
      exact Heap.lt_size q, lt1, ⟨hc, ⟨nm, qn, hd⟩, hs⟩, hroom2.hd⟩
    obtain ⟨e2, ho2, dom2⟩ := good _ _ _ _ gd
    have f1 := fp (s1.heap.objs.size, go) (by simp)
    have f2 := fp (s.heap.objs.size, oL) (by simp)
    have J := Gf.enter (G := G) ok (s := s2) (H2 := H2) (ow := fun _ => none) (τ := L2.start N vs) (m := m) e2 (fun a u q => by cases q) ⟨oL, les, lep, f2.1, dL, rL⟩ f2.2 f1.1 f1.2 I1.len (fun i y v h1 h2 h3 => by
      obtain ⟨u, ru, hk | ⟨_, cc, hcc, _⟩⟩ := hloc i y v h1 h2 h3
      · exact ⟨u, ru, hk⟩
      · have := nocells (s.heap.objs.size + 1) y
        rw [show (gcxOf P w K mg base N x (defScope st) f cdv A outer s H (fun _ _ _ => False) []).env.cells = cellsFrom (s.heap.objs.size + 1) (defScope st).names [] from rfl, this] at hcc
        cases hcc)
    unfold genF at hg
    cases ep : exec XS C p (PV.start N.length ws) with
    | none => rw [ep] at hg; cases hg
    | some o =>
    rw [ep] at hg
    cases o with
    | ex xo σ' => cases hg
    | ok fl =>
    cases fl with
    | bk σ' => cases hg
    | ct σ' => cases hg
    | rt w σ' => cases hg
    | nx σ1 =>
    have cs : CS z H2 O2 O2 [] := ⟨⟨[], ⟨rfl, rfl⟩, List.nodup_nil, fun a q => by cases q⟩, fun a q => (by cases q), fun a q => q, dom2, fun i v q => (by cases q), fun i v q => by cases q⟩
    have rs := start_rs (N := N) (fx := fxOf ps.length [] vs) (fun i v q => (fxOf_mem.mp q).2) cs (RVs.stab st2 ws vs [] rv fun a q => by cases q)
    have M : Mid G ⟨z, none, fxOf ps.length [] vs⟩ s2 H2 O2 s2 H2 O2 (PV.start N.length ws) (L2.start N vs) := ⟨⟨_, fun b _ => rfl, J⟩, rs, .refl, fun a oa => ⟨rfl, oa⟩, fun _ _ d => d, Nat.le_of_lt (Heap.lt_size f2.1)⟩
    rw [hbd]
    exact gen_body (G := G) (xc := xc) ok rfl (hr cdv A2 outer _ _ _ go vs hl (hroom2.deeper _)) S.co (by unfold interactive; rw [show G.env.scope.kind = .function from S.kind]; rfl) (fun i s' H' O' q => ⟨(good i s' H' O' q).1, (good i s' H' O' q).2.2⟩) gd M ep hg
  exact main _ _ _ _ rfl rfl rfl fun h => Heap.get?_push_size _ rfl
end
end PV

/-! V2i: for over a call of a generator def. -/
namespace PV
open PySem PySem.Spec PyProof.Rows L2 GenW GF
variable {g : Gm} {XS : List XCls}
theorem st_forG {tg : Expr} {tg' : T} {x : Str} {p pos pos' : Pos} {e1 : Expr} {es : List Expr} {f : Nat} {es' : Es} {b : List Stmt} {b' : S} {wp : List Nat} (hc : g.calm = true) (hw : g.walk = true) (hg : g.G.lookup x = some (.gen f)) (hk : gl g x) (hd : (x == ("__debug__" : Str)) = false)
    (hn : nst e1 = true) (hn2 : es.all nst = true) (ha : SA g (e1 :: es) es') (ht : TT' g tg tg') (hb : SB g XS b b') :
    SS g XS (.For tg (.Call (.Name x p) (e1 :: es) [] pos) b [] pos') (.forG tg' f es' b' wp) := fun X y xc C Wx k => by
  obtain ⟨a, ea, em⟩ := k.ok.glob _ _ hg
  obtain ⟨kp, fd, ps, kr, hB, hF, hR⟩ := k.ok.gens hc f a ea
  have hpg := pg_of (fx := C.fx) k.ok.N k.ok.nd k.ok.sc k.ok.fnx k.ok.K (k.ok.calm hc) (fun i hi => k.ok.cold hc hi) ht
  refine ⟨fun pins s τ Hh D I ⟨F, O, σ, rs, go⟩ => ?_⟩
  unfold exec at go
  refine wpAny_For ?_ (notSet_fold rfl)
  refine wpAny_Call_Name_kw (ld_glob I (k.ok.gl hk) em ?_ hd)
  refine PySem.W.callWith_K (h₀ := X.base) I.ok.mod.kin kp (thn ((ha X y xc C Wx k.ok).run pos pins s τ Hh _ I ⟨F, O, σ, rs, GoS.onE go⟩) fun us s1 ⟨vs, H1, I1, r, O1, ws, σ1, A1, n1, rs1, rv, go1⟩ => ⟨I1.kIn, ?_⟩) (star_cons hn) (star_any hn2)
  by_cases hf : W.frzs ws = true
  · rw [if_pos hf] at go1
    cases ex : C.g f ws with
    | none => rw [ex] at go1; exact go1.elim
    | some xs =>
    rw [ex] at go1
    have e0 := RVs.frz ws vs A1 rv hf
    rw [e0] at rv rs1
    have hl : (us ++ []).length = ps.length := by
      rw [List.append_nil, ← r.length, ← rv.length]
      exact hF.1 ws xs ex
    refine wpAny_call (codeAny_mono (hF.2 X.A X.stack s1 H1 O1 ⟨us, []⟩ us vs ws xs (hR.mono (Nat.le_succ _)) I1.env0 rs1.dom (by have := hB s1 us I1.kIn hl; rwa [List.append_nil] at this) r rv ex) fun r2 s2 hq => ?_)
    cases r2 with
    | error e => exact hq.elim
    | ok fl =>
      cases fl with
      | next => exact hq.elim
      | brk => exact hq.elim
      | cont => exact hq.elim
      | ret u => exact for_gen (k.ok.calm hc) k.ok.own hpg (hb X y xc C Wx k) (k.ok.xeg hw) I1 rs1 go1 hR hq
  · rw [if_neg hf] at go1; exact go1.elim
end PV

/-! V3: every def keeps its word, at each level of calls. -/
namespace PV
open PySem PySem.Spec PyProof.Rows L2
/-- the def and its term: the text's part -/
structure DefOk (G : List (Str × Gv)) (Hd : List (Str × List Nat)) (XS : List XCls) (d : DefT) (f : Fn) : Prop where
  sc : FnScope d.N d.ps (defScope d.st)
  n : f.n = d.N.length
  ps : f.ps = d.ps.length
  re : f.re = d.re
  body : SB (d.gm G Hd) XS (defBody d.st) f.body
/-- a generator def and its term -/
structure GnOk (G : List (Str × Gv)) (Hd : List (Str × List Nat)) (XS : List XCls) (d : DefT) (gn : Gn) : Prop where
  sc : GScope d.N d.ps (defScope d.st)
  nc : ∀ q ∈ (defScope d.st).names, q.2 ≠ .cell ∧ q.2 ≠ .free
  n : gn.n = d.N.length
  ps : gn.ps = d.ps.length
  re : d.re = []
  parts : ∃ (Ps : List Stmt) (test : Expr) (As : List Stmt) (ex : Expr) (Bs : List Stmt) (ypos epos wpos : Pos), defBody d.st = Ps ++ [.While test (As ++ .Expr (.Yield (some ex) ypos) epos :: Bs) [] wpos] ∧
    SB (d.gm G Hd) XS Ps gn.p ∧ ST (d.gm G Hd) test gn.c ∧ SB (d.gm G Hd) XS As gn.a ∧ SE (d.gm G Hd) ex gn.e ∧ SB (d.gm G Hd) XS Bs gn.b
/-- what stands for a generator def among the defs -/
def deadFn : Fn := ⟨0, 0, [], .brk⟩
/-- the defs, the classes as they stand behind the top -/
structure TopOk (w : World) (K : PySem.W.Frag) (mg : Str → Option Value) (G : List (Str × Gv)) (Hd : List (Str × List Nat)) (ds : List DefT) (z : Z) (xc : Nat → Option Addr) : Prop where
  kk : z.K = K
  fa : ∀ i a, z.fa i = some a → ∃ d, ds[i]? = some d ∧ ∃ fd, Fun K d.x d.x d.st a fd ∧ Binds K fd d.ps []
  glob : ∀ (X : Cx), X.K = K → X.w = w → X.mg = mg → ∀ y : Y, y.z = z → ∀ x v, G.lookup x = some v → GOk X y xc x v
  hd : ∀ (X : Cx), X.K = K → X.mg = mg → ∀ T cs, Hd.lookup T = some cs → ∃ c, HOk X xc T cs c
  xcs : ∀ i C, xc i = some C → ExcC K C
/-- term by term -/
def DefsOk (G : List (Str × Gv)) (Hd : List (Str × List Nat)) (XS : List XCls) (gs : List (Nat × Gn)) : Nat → List DefT → List Fn → Prop
  | _, [], [] => True
  | i, d :: ds, f :: fs => (match gs.lookup i with
    | some gn => GnOk G Hd XS d gn ∧ f = deadFn
    | none => DefOk G Hd XS d f) ∧ DefsOk G Hd XS gs (i + 1) ds fs
  | _, _, _ => False
theorem DefsOk.at_ {G : List (Str × Gv)} {Hd : List (Str × List Nat)} {XS : List XCls} {gs : List (Nat × Gn)} : ∀ {ds : List DefT} {fs : List Fn} {j i : Nat} {d : DefT}, DefsOk G Hd XS gs j ds fs → ds[i]? = some d → ∃ f, fs[i]? = some f ∧ (match gs.lookup (j + i) with
    | some gn => GnOk G Hd XS d gn ∧ f = deadFn
    | none => DefOk G Hd XS d f)
  | [], [], j, i, d, _, e => by simp at e
  | d :: ds, f :: fs, j, 0, d', h, e => by
    simp at e
    subst e
    exact ⟨f, rfl, h.1⟩
  | d :: ds, f :: fs, j, i + 1, d', h, e => by
    obtain ⟨f', e1, e2⟩ := DefsOk.at_ (i := i) h.2 (by simpa using e)
    exact ⟨f', by simpa using e1, by rw [show j + (i + 1) = j + 1 + i by omega]; exact e2⟩
  | [], _ :: _, _, _, _, h, _ => h.elim
  | _ :: _, [], _, _, _, h, _ => h.elim
theorem cx_sim {P : Program} {w : World} {outer : List Env} {H : Hp} {s : Shared} {E : XK} {u : Value} {F : Nat → Option GenState} {s₁ s' : Shared} (z : GF.Sim F s₁ s') (h : L2.CX P w outer H s E u s₁) : L2.CX P w outer H s E u s' := by
  obtain ⟨a, B, H', cls, d, q1, q2, q3, q4, q5, q6, q7, q8⟩ := h
  exact ⟨a, B, H', cls, d, q1, by rw [z.heap]; exact q2, q3, by rw [z.heap]; exact q4, q5, z.os.trans q6, z.bare q7, q8⟩
theorem dead_none {P : Prog} {k i : Nat} {ws : List W} (h : P.fns[i]? = some deadFn) : callF P k i ws = none := by
  cases k with
  | zero => rfl
  | succ k =>
    unfold callF
    rw [h]
    dsimp only [deadFn]
    split
    · unfold exec; rfl
    · rfl
section
variable {P : Program} {w : World} {K : PySem.W.Frag} {mg : Str → Option Value} {base : Heap} {G : List (Str × Gv)} {Hd : List (Str × List Nat)} {XS : List XCls} {ds : List DefT} {z : Z} {xc : Nat → Option Addr} {fs : List Fn} {gs : List (Nat × Gn)}
theorem gens_ok (T : TopOk w K mg G Hd ds z xc) (D : DefsOk G Hd XS gs 0 ds fs) {k : Nat} (IH : ∀ (i : Nat) (a : Addr) (d : DefT) (fd : FuncData), z.fa i = some a → ds[i]? = some d → Fun K d.x d.x d.st a fd → FnOk P w K mg base (L2.CX P w) (4 * k) a fd d.ps (spI z xc (call ⟨fs, XS, gs⟩ k) i))
    (i : Nat) (a : Addr) (d : DefT) (fd : FuncData) (ed : ds[i]? = some d) (Fu : Fun K d.x d.x d.st a fd) : GFnP P w K mg base (4 * k + 1 + 1) a fd d.ps z (genOf ⟨fs, XS, gs⟩ (callF ⟨fs, XS, gs⟩ k) i) := by
  obtain ⟨f, ef, ok⟩ := D.at_ ed
  rw [Nat.zero_add] at ok
  cases hl : gs.lookup i with
  | none =>
    have e : genOf ⟨fs, XS, gs⟩ (callF ⟨fs, XS, gs⟩ k) i = fun _ => none := by
      funext ws
      unfold genOf
      rw [show (Prog.gs ⟨fs, XS, gs⟩).lookup i = none from hl]
    rw [e]
    exact ⟨fun ws xs h => (by cases h), fun A outer s H O args us vs ws xs _ _ _ _ _ _ h => by cases h⟩
  | some gn =>
    rw [hl] at ok
    obtain ⟨gok, _⟩ := ok
    obtain ⟨Ps, test, As, ex, Bs, ypos, epos, wpos, hbd, r1, r2, r3, r4, r5⟩ := gok.parts
    have e : genOf ⟨fs, XS, gs⟩ (callF ⟨fs, XS, gs⟩ k) i = fun ws => if ws.length = d.ps.length then genF XS ⟨callF ⟨fs, XS, gs⟩ k, none, fixed gn.ps [], fun _ _ => none⟩ d.N.length gn.p gn.c gn.a gn.e gn.b gn.wp FUEL ws else none := by
      funext ws
      unfold genOf
      rw [show (Prog.gs ⟨fs, XS, gs⟩).lookup i = some gn from hl]
      dsimp only
      rw [gok.ps, gok.n]
    rw [e]
    refine gfn_ok (xc := xc) Fu gok.sc gok.nc hbd fun cd A outer L it g go vs hv hroom => ?_
    have ks : ∀ s H, Cks (d.gm G Hd) (Gf.cx ⟨P, w, K, mg, base, d.N, d.x, defScope d.st, a, cd, A, outer, L, it, g, go⟩ s H) ⟨z, none, fxOf d.ps.length [] vs⟩ xc ⟨callF ⟨fs, XS, gs⟩ k, none, fixed gn.ps [], fun _ _ => none⟩ noW := fun s H => by
      refine ⟨⟨rfl, gok.sc.nd, rfl, T.kk, fun _ => rfl, ?_, fun x v e => T.glob _ rfl rfl rfl _ rfl x v e, fun _ j b ej => ?_, fun TT cs e => T.hd _ rfl rfl TT cs e, fun x e => (by cases e), fun j v e => (by cases e), never, PassesOwn.never, fun _ _ => rfl, T.xcs, ?_, ?_, fun _ j b ej => ?_, fun _ _ _ _ _ _ h => h⟩, rfl, rfl⟩
      · have := hroom.un
        show (A.deeper (envOfC d.x (defScope d.st) L a cd)).units + 66 < cLine
        omega
      · obtain ⟨d', ed', fd', F', B'⟩ := T.fa j b ej
        exact ⟨F'.kp, fd', d'.ps, 4 * k, B', IH j b d' fd' ej ed' F', hroom.mono (by omega)⟩
      · show fixed gn.ps [] = fixed d.ps.length d.re
        rw [gok.ps, gok.re]
      · intro i v e
        show i ∈ fixed d.ps.length d.re
        rw [gok.re]
        exact (fxOf_mem.mp e).1
      · obtain ⟨d', ed', fd', F', B'⟩ := T.fa j b ej
        exact ⟨F'.kp, fd', d'.ps, 0, B', ⟨fun ws xs h => (by cases h), fun A outer s H O args us vs ws xs _ _ _ _ _ _ h => by cases h⟩, hroom.mono (by omega)⟩
    exact ⟨fun s H => r1 _ _ _ _ _ (ks s H), fun s H => r2 _ _ _ _ _ (ks s H).ok, fun s H => r3 _ _ _ _ _ (ks s H), fun s H => r4 _ _ _ _ _ (ks s H).ok, fun s H => r5 _ _ _ _ _ (ks s H)⟩
theorem fns_ok (T : TopOk w K mg G Hd ds z xc) (D : DefsOk G Hd XS gs 0 ds fs) : ∀ (k i : Nat) (a : Addr) (d : DefT) (fd : FuncData), z.fa i = some a → ds[i]? = some d → Fun K d.x d.x d.st a fd →
    FnOk P w K mg base (L2.CX P w) (4 * k) a fd d.ps (spI z xc (call ⟨fs, XS, gs⟩ k) i)
  | 0, i, a, d, fd, ea, ed, Fu => by
    have no : ∀ vs H Q E, ¬ spI z xc (call ⟨fs, XS, gs⟩ 0) i vs H Q E := fun vs H Q E ⟨F, O, ws, A, c, r, go⟩ => go
    exact ⟨fun vs H Q E h => absurd h (no vs H Q E), fun A outer s H args us vs Q E _ _ _ _ h => absurd h (no vs H Q E)⟩
  | k + 1, i, a, d, fd, ea, ed, Fu => by
    obtain ⟨f, ef, ok⟩ := D.at_ ed
    rw [Nat.zero_add] at ok
    cases hgl : gs.lookup i with
    | some gn =>
      rw [hgl] at ok
      obtain ⟨_, rfl⟩ := ok
      have no : ∀ vs H Q E, ¬ spI z xc (call ⟨fs, XS, gs⟩ (k + 1)) i vs H Q E := fun vs H Q E ⟨F, O, ws, A, c, r, go⟩ => by
        rw [show (call ⟨fs, XS, gs⟩ (k + 1)).f i ws = none from dead_none ef] at go
        exact go
      exact ⟨fun vs H Q E h => absurd h (no vs H Q E), fun A outer s H args us vs Q E _ _ _ _ h => absurd h (no vs H Q E)⟩
    | none =>
    rw [hgl] at ok
    dsimp only at ok
    have call_eq : ∀ ws, (call ⟨fs, XS, gs⟩ (k + 1)).f i ws = if ws.length = f.ps then (match exec XS ⟨callF ⟨fs, XS, gs⟩ k, none, fixed f.ps f.re, genOf ⟨fs, XS, gs⟩ (callF ⟨fs, XS, gs⟩ k)⟩ f.body (start f.n ws) with
        | some (.ok (.nx σ)) => match outsFrom f.re σ 0 ws with
          | some us => some (.ok .non us)
          | none => none
        | some (.ok (.rt w σ)) => match outsFrom f.re σ 0 ws with
          | some us => some (.ok w us)
          | none => none
        | some (.ex x σ) => match outsFrom f.re σ 0 ws with
          | some us => some (.ex x us)
          | none => none
        | _ => none) else none := fun ws => by
      show callF ⟨fs, XS, gs⟩ (k + 1) i ws = _
      conv => lhs; unfold callF
      dsimp only
      first | (rw [ef]; done) | (rw [ef]; rfl)
    show FnOk P w K mg base (L2.CX P w) (4 * k + 3 + 1) a fd d.ps _
    refine Fu.okX ok.sc (fun vs H Q E ⟨F, O, ws, A, c, r, go⟩ => ?_) (fun cdv A outer s H vs Q E hr ⟨F, O, ws, AA, c, r, go⟩ => ?_)
    · rw [call_eq] at go
      split at go
      case isFalse => exact go.elim
      case isTrue hl => rw [← r.length, hl, ok.ps]
    · rw [call_eq] at go
      split at go
      case isFalse => exact go.elim
      case isTrue hl =>
        let y : Y := ⟨z, none, fxOf f.ps f.re vs⟩
        have ks : Cks (d.gm G Hd) (cxOf (L2.CX P w) P w K mg base d.N d.x (defScope d.st) a cdv A outer s H E) y xc ⟨callF ⟨fs, XS, gs⟩ k, none, fixed f.ps f.re, genOf ⟨fs, XS, gs⟩ (callF ⟨fs, XS, gs⟩ k)⟩ (fun cls dd _ H => E cls dd H) := by
          refine ⟨⟨rfl, ok.sc.nd, rfl, T.kk, fun _ => rfl, ?_, fun x v e => T.glob _ rfl rfl rfl y rfl x v e, fun _ j b ej => ?_, fun TT cs e => T.hd _ rfl rfl TT cs e, fun x e => (by cases e), fun j v e => (by cases e), takes_of rfl rfl rfl rfl, passes_of rfl, fun _ _ => rfl, T.xcs, ?_, ?_, fun _ j b ej => ?_, fun _ F s₁ s' e z h => ?_⟩, rfl, rfl⟩
          · have := hr.un
            show (A.deeper _).units + 66 < cLine
            omega
          · obtain ⟨d', ed', fd', F', B'⟩ := T.fa j b ej
            exact ⟨F'.kp, fd', d'.ps, 4 * k, B', fns_ok T D k j b d' fd' ej ed' F', hr.mono (by omega)⟩
          · show fixed f.ps f.re = fixed d.ps.length d.re
            rw [ok.ps, ok.re]
          · intro i v e
            show i ∈ fixed d.ps.length d.re
            rw [← ok.ps, ← ok.re]
            exact (fxOf_mem.mp e).1
          · obtain ⟨d', ed', fd', F', B'⟩ := T.fa j b ej
            exact ⟨F'.kp, fd', d'.ps, 4 * k + 1 + 1, B', gens_ok T D (fun j b d fd q1 q2 q3 => fns_ok T D k j b d fd q1 q2 q3) j b d' fd' ed' F', hr⟩
          · refine wpAny_mono (z.wpAny h) (fun x s3 ⟨s2, z2, q⟩ => cx_sim z2 q) fun x s3 ⟨s2, z2, q⟩ => cx_sim z2 q
        have outs : ∀ {H' : Hp} {O' : AP} {τ : L2.St} {T0 : List Addr} {σ : St} {us : List W}, Nx F H O H' O' → RS y H' O' F T0 σ τ → outsFrom f.re σ 0 ws = some us → ∃ B, RVs z H' O' us vs B ∧ CS z H' O' F (T0 ++ B) := fun {H' O' τ T0 σ us} n rs e => by
          obtain ⟨B, σ', q1, q2⟩ := outs_ok (y := y) (i := 0) n.stab r (fun j v ej ec => rs.fx _ _ (fxOf_mem.mpr ⟨by
            unfold fixed
            rw [List.mem_filter]
            refine ⟨List.mem_range.mpr ?_, by simpa using ec⟩
            rw [Nat.zero_add, ← hl, r.length]
            exact (List.getElem?_eq_some_iff.mp ej).1, by rw [Nat.zero_add]; exact ej⟩)) rs e
          exact ⟨B, q1, CS.of q2⟩
        refine ⟨_, ok.body _ y xc _ _ ks, F, O, start f.n ws, ?_, ?_⟩
        · rw [ok.n]
          exact start_rs (fun i v e => (fxOf_mem.mp e).2) c r
        · unfold GoS
          cases e : exec XS ⟨callF ⟨fs, XS, gs⟩ k, none, fixed f.ps f.re, genOf ⟨fs, XS, gs⟩ (callF ⟨fs, XS, gs⟩ k)⟩ f.body (start f.n ws) with
          | none => rw [e] at go; exact go.elim
          | some o =>
            rw [e] at go
            cases o with
            | ex x σ1 =>
              intro H' O' τ cls dd n' rs' rx
              dsimp only at go
              split at go
              case h_2 => exact go.elim
              case h_1 us eu =>
                obtain ⟨B, q1, q2⟩ := outs n' rs' eu
                exact go H' O' B cls dd n' q2 q1 rx
            | ok fl =>
              cases fl with
              | nx σ1 =>
                intro H' O' τ n' rs'
                dsimp only at go
                split at go
                case h_2 => exact go.elim
                case h_1 us eu =>
                  obtain ⟨B, q1, q2⟩ := outs n' rs' eu
                  exact go H' O' .non [] B n' q2 (by simp only [RV]; trivial) q1
              | rt w1 σ1 =>
                intro H' O' v A1 τ n' rs' rv
                dsimp only at go
                split at go
                case h_2 => exact go.elim
                case h_1 us eu =>
                  obtain ⟨B, q1, q2⟩ := outs n' rs' eu
                  exact go H' O' v A1 B n' q2 rv q1
              | bk σ1 => exact go.elim
              | ct σ1 => exact go.elim
end
end PV

/-! V4: from the program's text to the evaluator's terms; each step carries its proof. -/
namespace PV
open PySem L2

def CE (g : Gm) (e : Expr) := Option { t : E // SE g e t }
def CT (g : Gm) (e : Expr) := Option { t : E // ST g e t }
structure Cc where
  e : (g : Gm) → (e : Expr) → Option { t : E // SE g e t }
  t : (g : Gm) → (e : Expr) → Option { t : E // ST g e t }
def cc0 : Cc := ⟨fun _ _ => none, fun _ _ => none⟩

instance {sc : Scope} {x : Str} : Decidable (Vis sc x) := by unfold Vis; infer_instance
instance {g : Gm} {x : Str} : Decidable (gl g x) := by unfold gl; infer_instance
instance {g : Gm} {x : Str} : Decidable (Sto g x) := by unfold Sto; infer_instance
def slot (x : Str) : (N : List Str) → Option { i : Nat // N[i]? = some x }
  | [] => none
  | a :: r => if h : a = x then some ⟨0, by simp [h]⟩ else match slot x r with
    | some ⟨i, p⟩ => some ⟨i + 1, by simpa using p⟩
    | none => none
/-- no name of the machine's own -/
def okN (x : Str) : Bool := !(x == ("__debug__" : Str)) && !(x == ("__classdict__" : Str)) && !(x == ("__name__" : Str))
theorem okN_d {x : Str} (h : okN x = true) : (x == ("__debug__" : Str)) = false := by
  unfold okN at h; simp only [Bool.and_eq_true, Bool.not_eq_true'] at h; exact h.1.1
theorem okN_c {x : Str} (h : okN x = true) : (x == ("__classdict__" : Str)) = false := by
  unfold okN at h; simp only [Bool.and_eq_true, Bool.not_eq_true'] at h; exact h.1.2
theorem okN_n {x : Str} (h : okN x = true) : x ≠ "__name__" := by
  unfold okN at h; simp only [Bool.and_eq_true, Bool.not_eq_true'] at h
  intro e; subst e; exact absurd h.2 (by decide)

section
variable {g : Gm} {XS : List XCls}

/-! ### names, constants -/
/-- a text as characters -/
def ofStr (x : Str) : Option { s : List Char // x = strV s } :=
  let s := x.cps.toList.map Char.ofNat
  if h : x = strV s then some ⟨s, h⟩ else none
def cName (g : Gm) (x : Str) (pos : Pos) : Option { t : E // SE g (.Name x pos) t } :=
  if ho : okN x = true then
    match (if hv : Vis g.sc x then (match slot x g.N with
      | some ⟨i, p⟩ => some ⟨.var i, s_var p hv (okN_d ho) (okN_c ho)⟩
      | none => none) else none : Option { t : E // SE g (.Name x pos) t }) with
    | some r => some r
    | none => if hk : gl g x then (match hg : g.G.lookup x with
      | some (.cst d) => some ⟨.cst d, s_glob hg hk (okN_d ho)⟩
      | _ => none) else none
  else none
def cConst (g : Gm) (c : Const) (j : Nat) (pos : Pos) : Option { t : E // SE g (.Constant c j pos) t } := match c with
  | .int i => some ⟨.cst (.int i), s_int⟩
  | .bool b => some ⟨.cst (.bl b), s_bl⟩
  | .none => some ⟨.cst .non, s_non⟩
  | .str x => match ofStr x with
    | some ⟨s, h⟩ => some ⟨.cst (.str s), s_str h⟩
    | none => none
  | _ => none

/-- looked at where it stands -/
def cPName (g : Gm) (x : Str) (pos : Pos) : Option { t : E // SP g (.Name x pos) t } :=
  if ho : okN x = true then
    if hv : Vis g.sc x then (match slot x g.N with
      | some ⟨i, p⟩ => some ⟨.var i, p_var p hv (okN_d ho) (okN_c ho)⟩
      | none => none) else none
  else none
def Cc.p (c : Cc) (g : Gm) (e : Expr) : Option { t : E // SP g e t } :=
  match (match e with
    | .Name x pos => cPName g x pos
    | _ => none : Option { t : E // SP g e t }) with
  | some r => some r
  | none => match c.e g e with
    | some ⟨t, h⟩ => if hv : isVar t = false then some ⟨t, p_of hv h⟩ else none
    | none => none

/-! ### lists of expressions, slices -/
def cArgsP (c : Cc) (g : Gm) : (es : List Expr) → Option { t : Es // SAp g es t }
  | [] => some ⟨.nil, ap_nil⟩
  | e :: es => if hn : nst e = true then (match c.p g e, cArgsP c g es with
    | some ⟨t, h⟩, some ⟨ts, hs⟩ => some ⟨.cons t ts, ap_cons hn h hs⟩
    | _, _ => none) else none
def cArgs (c : Cc) (g : Gm) : (es : List Expr) → Option { t : Es // SA g es t }
  | [] => some ⟨.nil, a_nil⟩
  | e :: es => if hn : nst e = true then (match c.e g e, cArgs c g es with
    | some ⟨t, h⟩, some ⟨ts, hs⟩ => some ⟨.cons t ts, a_cons hn h hs⟩
    | _, _ => none) else none
def cOpt (c : Cc) (g : Gm) : (e : Option Expr) → Option { t : Eo // SO g e t }
  | none => some ⟨.none, o_none⟩
  | some e => match c.e g e with
    | some ⟨t, h⟩ => some ⟨.some t, o_some h⟩
    | none => none

/-! ### operators -/
def cCmp : (op : CmpOp) → Option { o : COp // CmpR op o }
  | .Eq => some ⟨.eq, c_eq⟩
  | .NotEq => some ⟨.ne, c_ne⟩
  | .Lt => some ⟨.lt, c_lt⟩
  | .LtE => some ⟨.le, c_le⟩
  | .Gt => some ⟨.gt, c_gt⟩
  | .GtE => some ⟨.ge, c_ge⟩
  | .Is => some ⟨.is, c_is⟩
  | .IsNot => some ⟨.isn, c_isn⟩
  | .In => some ⟨.inn, c_in⟩
  | .NotIn => some ⟨.nin, c_nin⟩
def cBin (op : Operator) : Option { o : BOp // ∀ (g : Gm) (a b : Expr) (a' b' : E) (pos : Pos), SP g a a' → SP g b b' → SE g (.BinOp a op b pos) (.bin o a' b') } := match op with
  | .Add => some ⟨.add, fun _ _ _ _ _ _ => s_add⟩
  | .Sub => some ⟨.sub, fun _ _ _ _ _ _ => s_sub⟩
  | .Mult => some ⟨.mul, fun _ _ _ _ _ _ => s_mul⟩
  | .FloorDiv => some ⟨.fdiv, fun _ _ _ _ _ _ => s_fdiv⟩
  | .Mod => some ⟨.mod, fun _ _ _ _ _ _ => s_mod⟩
  | .Pow => some ⟨.pow, fun _ _ _ _ _ _ => s_pow⟩
  | _ => none
def cAnd (c : Cc) (g : Gm) (pos : Pos) : (es : List Expr) → Option { t : E // SE g (.BoolOp .And es pos) t }
  | [] => none
  | [a] => match c.e g a with
    | some ⟨t, h⟩ => some ⟨t, s_one h⟩
    | none => none
  | a :: b :: r => match c.e g a, cAnd c g pos (b :: r) with
    | some ⟨t, h⟩, some ⟨u, hu⟩ => some ⟨.and t u, s_and h hu⟩
    | _, _ => none
def cOr (c : Cc) (g : Gm) (pos : Pos) : (es : List Expr) → Option { t : E // SE g (.BoolOp .Or es pos) t }
  | [] => none
  | [a] => match c.e g a with
    | some ⟨t, h⟩ => some ⟨t, s_one h⟩
    | none => none
  | a :: b :: r => match c.e g a, cOr c g pos (b :: r) with
    | some ⟨t, h⟩, some ⟨u, hu⟩ => some ⟨.or t u, s_or h hu⟩
    | _, _ => none
def wAnd (c : Cc) (g : Gm) (pos : Pos) : (es : List Expr) → Option { t : E // SW g (.BoolOp .And es pos) t }
  | [] => none
  | [a] => match c.t g a with
    | some ⟨t, h⟩ => some ⟨t, w_and1 h⟩
    | none => none
  | a :: b :: r => match c.t g a, wAnd c g pos (b :: r) with
    | some ⟨t, h⟩, some ⟨u, hu⟩ => some ⟨.and t u, w_and h hu⟩
    | _, _ => none
def wOr (c : Cc) (g : Gm) (pos : Pos) : (es : List Expr) → Option { t : E // SW g (.BoolOp .Or es pos) t }
  | [] => none
  | [a] => match c.t g a with
    | some ⟨t, h⟩ => some ⟨t, w_or1 h⟩
    | none => none
  | a :: b :: r => match c.t g a, wOr c g pos (b :: r) with
    | some ⟨t, h⟩, some ⟨u, hu⟩ => some ⟨.or t u, w_or h hu⟩
    | _, _ => none

/-! ### calls by name -/
def Bi (g : Gm) (x : Str) (b : BI) : Prop := ∃ id : Value, ((∃ n, id = .builtin n) ∨ ∃ n, id = .type n) ∧ bootBuiltins x = some id ∧ ∀ (X : Cx) (y : Y) (xx : XX), y.z.K = X.K → (g.calm = true → X.calm = true) → CallR X id (rBif y xx b)
def cBi (g : Gm) (x : Str) (n : Nat) : Option { b : BI // Bi g x b } :=
  if h : x = Str.ofString "len" then some ⟨.len, by subst h; exact ⟨_, .inl ⟨_, rfl⟩, PySem.boot_len, fun _ _ _ hK _ => bi_len hK⟩⟩
  else if h : x = Str.ofString "abs" then some ⟨.abs, by subst h; exact ⟨_, .inl ⟨_, rfl⟩, PyProof.Rows.boot_abs, fun _ _ _ hK _ => bi_abs⟩⟩
  else if h : x = Str.ofString "int" then some ⟨.int, by subst h; exact ⟨_, .inr ⟨_, rfl⟩, PyProof.Rows.boot_int, fun _ _ _ hK _ => bi_int⟩⟩
  else if h : x = Str.ofString "tuple" then some ⟨.tuple, by subst h; exact ⟨_, .inr ⟨_, rfl⟩, PyProof.Rows.boot_tuple, fun _ _ _ hK _ => bi_tuple hK⟩⟩
  else if h : x = Str.ofString "list" then some ⟨.list, by subst h; exact ⟨_, .inr ⟨_, rfl⟩, PyProof.Rows.boot_list, fun _ _ _ hK _ => bi_list hK⟩⟩
  else if h : x = Str.ofString "sorted" then some ⟨.sorted, by subst h; exact ⟨_, .inl ⟨_, rfl⟩, PyProof.Rows.boot_sorted, fun _ _ _ hK _ => bi_sorted hK⟩⟩
  else if hc : g.calm = true then
    if h : x = Str.ofString "max" ∧ n = 2 then some ⟨.max2, by obtain ⟨h, _⟩ := h; subst h; exact ⟨_, .inl ⟨_, rfl⟩, PyProof.Rows.boot_max, fun _ _ _ hK hx => bi_max2 (hx hc)⟩⟩
    else if h : x = Str.ofString "min" ∧ n = 2 then some ⟨.min2, by obtain ⟨h, _⟩ := h; subst h; exact ⟨_, .inl ⟨_, rfl⟩, PyProof.Rows.boot_min, fun _ _ _ hK hx => bi_min2 (hx hc)⟩⟩
    else if h : x = Str.ofString "max" ∧ n = 1 then some ⟨.maxL, by obtain ⟨h, _⟩ := h; subst h; exact ⟨_, .inl ⟨_, rfl⟩, PyProof.Rows.boot_max, fun _ _ _ hK hx => bi_maxL hK (hx hc)⟩⟩
    else if h : x = Str.ofString "min" ∧ n = 1 then some ⟨.minL, by obtain ⟨h, _⟩ := h; subst h; exact ⟨_, .inl ⟨_, rfl⟩, PyProof.Rows.boot_min, fun _ _ _ hK hx => bi_minL hK (hx hc)⟩⟩
    else if h : x = Str.ofString "sum" then some ⟨.sum, by subst h; exact ⟨_, .inl ⟨_, rfl⟩, PyProof.Rows.boot_sum, fun _ _ _ hK hx => bi_sum hK (hx hc)⟩⟩
    else if h : x = Str.ofString "any" then some ⟨.any, by subst h; exact ⟨_, .inl ⟨_, rfl⟩, PyProof.Rows.boot_any, fun _ _ _ hK hx => bi_any (hx hc)⟩⟩
    else if h : x = Str.ofString "all" then some ⟨.all, by subst h; exact ⟨_, .inl ⟨_, rfl⟩, PyProof.Rows.boot_all, fun _ _ _ hK hx => bi_all (hx hc)⟩⟩
    else none
  else none
theorem s_bi {x : Str} {b : BI} {e : Expr} {es : List Expr} {es' : Es} {p pos : Pos} (h : Bi g x b) (hg : g.G.lookup x = some .bltn) (hk : gl g x) (ho : okN x = true) (hn : (e :: es).all nst = true) (hs : SAp g (e :: es) es') : SE g (.Call (.Name x p) (e :: es) [] pos) (.blt b es') := by
  obtain ⟨id, hid, hv, hr⟩ := h
  exact s_bif hid hr hg hk hv (okN_d ho) (okN_n ho) hn hs
def cTy1 (g : Gm) (e : Expr) : Option { t : Ty // STy g e t } := match e with
  | .Name x p => match hg : g.G.lookup x with
    | some .bltn => if hk : gl g x then
        if h : x = Str.ofString "int" then some ⟨.int, by subst h; exact ty_name hg hk PyProof.Rows.boot_int (by decide) (by decide)⟩
        else if h : x = Str.ofString "bool" then some ⟨.bool, by subst h; exact ty_name hg hk PyProof.Rows.boot_bool (by decide) (by decide)⟩
        else if h : x = Str.ofString "str" then some ⟨.str, by subst h; exact ty_name hg hk PyProof.Rows.boot_str (by decide) (by decide)⟩
        else if h : x = Str.ofString "tuple" then some ⟨.tuple, by subst h; exact ty_name hg hk PyProof.Rows.boot_tuple (by decide) (by decide)⟩
        else if h : x = Str.ofString "list" then some ⟨.list, by subst h; exact ty_name hg hk PyProof.Rows.boot_list (by decide) (by decide)⟩
        else none
      else none
    | _ => none
  | _ => none
def cTys (g : Gm) : (es : List Expr) → Option { ts : List Ty // STys g es ts }
  | [] => some ⟨[], rfl⟩
  | e :: es => match cTy1 g e, cTys g es with
    | some ⟨t, h⟩, some ⟨ts, hs⟩ => some ⟨t :: ts, t, ts, rfl, h, hs⟩
    | _, _ => none

/-! ### what a for walks; comprehensions -/
def cTNs (g : Gm) : (es : List Expr) → Option { is : List Nat // TNs g es is }
  | [] => some ⟨[], rfl⟩
  | .Name x p :: es => match slot x g.N, cTNs g es with
    | some ⟨i, h⟩, some ⟨is, hs⟩ => if hx : Sto g x then some ⟨i :: is, x, p, i, is, rfl, rfl, h, hx, hs⟩ else none
    | _, _ => none
  | _ :: _ => none
def cTgt (g : Gm) : (e : Expr) → Option { t : T // TT' g e t }
  | .Name x p => match slot x g.N with
    | some ⟨i, h⟩ => if hx : Sto g x then some ⟨.name i, .name h hx⟩ else none
    | none => none
  | .Tuple es k p => match cTNs g es with
    | some ⟨is, h⟩ => some ⟨.tup is, .tup h⟩
    | none => none
  | _ => none
def cWalk (c : Cc) (g : Gm) (tg it : Expr) : Option { t : It // SI g tg it t } :=
  match (match it with
    | .Call (.Name x p) [a] [] pos => if hh : x = Str.ofString "range" ∧ g.G.lookup (Str.ofString "range") = some .bltn ∧ gl g "range" ∧ nst a = true then (match c.e g a with
        | some ⟨t, h⟩ => some ⟨.rng1 t, by obtain ⟨h1, h2, h3, h4⟩ := hh; subst h1; exact i_rng1 h2 h3 h4 h⟩
        | none => none)
      else if hh : x = Str.ofString "enumerate" ∧ g.G.lookup (Str.ofString "enumerate") = some .bltn ∧ gl g "enumerate" ∧ nst a = true then (match tg, c.e g a with
        | .Tuple es k1 p2, some ⟨t, h⟩ => some ⟨.enm t, by obtain ⟨h1, h2, h3, h4⟩ := hh; subst h1; exact i_enm h2 h3 h4 h⟩
        | _, _ => none)
      else none
    | .Call (.Name x p) [a, b] [] pos => if hh : x = Str.ofString "range" ∧ g.G.lookup (Str.ofString "range") = some .bltn ∧ gl g "range" ∧ nst a = true ∧ nst b = true then (match c.e g a, c.e g b with
        | some ⟨t, h⟩, some ⟨u, hu⟩ => some ⟨.rng2 t u, by obtain ⟨h1, h2, h3, h4, h5⟩ := hh; subst h1; exact i_rng2 h2 h3 h4 h5 h hu⟩
        | _, _ => none)
      else if hh : x = Str.ofString "zip" ∧ g.G.lookup (Str.ofString "zip") = some .bltn ∧ gl g "zip" ∧ nst a = true ∧ nst b = true then (match tg, c.e g a, c.e g b with
        | .Tuple es k1 p2, some ⟨t, h⟩, some ⟨u, hu⟩ => some ⟨.zip t u, by obtain ⟨h1, h2, h3, h4, h5⟩ := hh; subst h1; exact i_zip h2 h3 h4 h5 h hu⟩
        | _, _, _ => none)
      else none
    | .Call (.Name x p) [a, b, d] [] pos => if hh : x = Str.ofString "range" ∧ g.G.lookup (Str.ofString "range") = some .bltn ∧ gl g "range" ∧ nst a = true ∧ nst b = true ∧ nst d = true then (match c.e g a, c.e g b, c.e g d with
        | some ⟨t, h⟩, some ⟨u, hu⟩, some ⟨v, hv⟩ => some ⟨.rng3 t u v, by obtain ⟨h1, h2, h3, h4, h5, h6⟩ := hh; subst h1; exact i_rng3 h2 h3 h4 h5 h6 h hu hv⟩
        | _, _, _ => none)
      else none
    | _ => none : Option { t : It // SI g tg it t }) with
  | some r => some r
  | none => match c.e g it with
    | some ⟨t, h⟩ => some ⟨.seq t, i_seq h⟩
    | none => none
def ownOf (N : List Str) (sc : Scope) : List (Str × Nat) := sc.names.filterMap fun (x, k) => if k = .local ∨ k = .cell then (slot x N).map fun i => (x, i.1) else none
def cIfs (c : Cc) (g : Gm) : (es : List Expr) → Option { t : Eo // SC g es t }
  | [] => some ⟨.none, rfl⟩
  | [e] => match c.t g e with
    | some ⟨t, h⟩ => some ⟨.some t, t, rfl, h⟩
    | none => none
  | _ => none
/-- the parts of a comprehension -/
structure CP (g : Gm) (elt tg iter : Expr) (ifs : List Expr) (scope : Scope) where
  own : List (Str × Nat)
  elt' : E
  tg' : T
  it' : It
  c' : Eo
  hc : g.calm = true
  hi : SI g tg iter it'
  ok : blkC g.N g.sc scope own = true
  ht : TT' (g.blk scope) tg tg'
  hw : ∀ i ∈ tg'.slots, i ∈ own.map (·.2)
  hx : ∀ i ∈ own.map (·.2), g.fx.contains i = false
  hcs : SC (g.blk scope) ifs c'
  he : SE (g.blk scope) elt elt'
  hs : notSet iter = true
def cComp (c : Cc) (g : Gm) (elt tg iter : Expr) (ifs : List Expr) (scope : Scope) : Option (CP g elt tg iter ifs scope) :=
  if hc : g.calm = true ∧ notSet iter = true ∧ blkC g.N g.sc scope (ownOf g.N scope) = true then
    match cWalk c g tg iter, cTgt (g.blk scope) tg, cIfs c (g.blk scope) ifs, c.e (g.blk scope) elt with
    | some ⟨it', hi⟩, some ⟨tg', ht⟩, some ⟨c', hcs⟩, some ⟨elt', he⟩ => if hw : ∀ i ∈ tg'.slots, i ∈ (ownOf g.N scope).map (·.2) then
        if hx : ∀ i ∈ (ownOf g.N scope).map (fun (q : Str × Nat) => q.2), g.fx.contains i = false then some ⟨ownOf g.N scope, elt', tg', it', c', hc.1, hi, hc.2.2, ht, hw, hx, hcs, he, hc.2.1⟩ else none else none
    | _, _, _, _ => none
  else none

/-! ### calls of methods, of names -/
def cMut (c : Cc) (g : Gm) (x : Str) (p1 : Pos) (m : Str) (args : List Expr) (apos pos : Pos) : Option { t : E // SE g (.Call (.Attribute (.Name x p1) m apos) args [] pos) t } :=
  if hb : (apos.endLine == pos.line) = true ∧ okN x = true ∧ Vis g.sc x then
    match slot x g.N with
    | none => none
    | some ⟨i, hi⟩ => match args with
      | [] => if h : m = Str.ofString "pop" then some ⟨.mut .pop i .nil, by subst h; exact s_mut0 PySem.F.slot_list_pop PySem.F.type_list_pop (fun _ _ _ => mi_pop) hi hb.2.2 (okN_d hb.2.1) (okN_c hb.2.1) hb.1⟩
        else if h : m = Str.ofString "reverse" then some ⟨.mut .reverse i .nil, by subst h; exact s_mut0 PySem.F.slot_list_reverse PySem.F.type_list_reverse (fun _ _ _ => mi_reverse) hi hb.2.2 (okN_d hb.2.1) (okN_c hb.2.1) hb.1⟩
        else if h : m = Str.ofString "clear" then some ⟨.mut .clear i .nil, by subst h; exact s_mut0 PySem.F.slot_list_clear PySem.F.type_list_clear (fun _ _ _ => mi_clear) hi hb.2.2 (okN_d hb.2.1) (okN_c hb.2.1) hb.1⟩
        else none
      | [e] => match cArgs c g [e] with
        | none => none
        | some ⟨es', hs⟩ => if hn : nst e = true then
            if h : m = Str.ofString "append" then some ⟨.mut .append i es', by subst h; exact s_mut1 PySem.F.slot_list_append PySem.F.type_list_append (fun _ _ _ => mi_append) hi hb.2.2 (okN_d hb.2.1) (okN_c hb.2.1) hb.1 hn hs⟩
            else if h : m = Str.ofString "extend" then some ⟨.mut .extend i es', by subst h; exact s_mut1 PySem.F.slot_list_extend PySem.F.type_list_extend (fun _ _ _ => mi_extend) hi hb.2.2 (okN_d hb.2.1) (okN_c hb.2.1) hb.1 hn hs⟩
            else none
          else none
      | _ => none
  else none
/-- o[i].append(e) -/
def cAppAt (c : Cc) (g : Gm) (x : Str) (p1 : Pos) (i : Expr) (p2 : Pos) (m : Str) (args : List Expr) (apos pos : Pos) : Option { t : E // SE g (.Call (.Attribute (.Subscript (.Name x p1) i p2) m apos) args [] pos) t } := match args with
  | [e] => match slot x g.N, c.e g i, c.e g e with
    | some ⟨o, ho⟩, some ⟨i', hi⟩, some ⟨e', he⟩ => if hh : m = Str.ofString "append" ∧ (apos.endLine == pos.line) = true ∧ okN x = true ∧ Vis g.sc x ∧ notSlice i = true ∧ nst e = true then
        some ⟨.appAt o i' e', by obtain ⟨h1, h2, h3, h4, h5, h6⟩ := hh; subst h1; exact s_appAt ho h4 (okN_d h3) (okN_c h3) h2 h5 h6 hi he⟩ else none
    | _, _, _ => none
  | _ => none
def cMeth (c : Cc) (g : Gm) (o : Expr) (m : Str) (args : List Expr) (apos pos : Pos) : Option { t : E // SE g (.Call (.Attribute o m apos) args [] pos) t } :=
  match (match o with
    | .Name x p1 => cMut c g x p1 m args apos pos
    | .Subscript (.Name x p1) i p2 => cAppAt c g x p1 i p2 m args apos pos
    | _ => none : Option { t : E // SE g (.Call (.Attribute o m apos) args [] pos) t }) with
  | some r => some r
  | none => if hb : notCall0 o = true ∧ (apos.endLine == pos.line) = true then
    match c.p g o with
    | none => none
    | some ⟨o', ho⟩ => match args with
      | [e] => match cArgsP c g [e] with
        | none => none
        | some ⟨es', hs⟩ => if hn : nst e = true then
            if h : m = Str.ofString "join" then some ⟨.meth .join o' es', by subst h; exact s_join hb.1 hb.2 hn ho hs⟩
            else if h : m = Str.ofString "index" then some ⟨.meth .index o' es', by subst h; exact s_index hb.1 hb.2 hn ho hs⟩
            else none
          else none
      | _ => none
  else none
def cClss (g : Gm) : (es : List Expr) → Option { l : List (Str × List Nat) // Clss g es l }
  | [] => some ⟨[], rfl⟩
  | .Name T p :: es => match hT : g.Hd.lookup T, cClss g es with
    | some cs, some ⟨l, h⟩ => if hh : gl g T ∧ okN T = true then some ⟨(T, cs) :: l, T, p, cs, l, rfl, rfl, hT, hh.1, okN_d hh.2, h⟩ else none
    | _, _ => none
  | _ :: _ => none
/-- isinstance of the exception at hand -/
def cIsx (g : Gm) (x : Str) (b : Expr) (p p1 pos : Pos) : Option { t : E // SE g (.Call (.Name (Str.ofString "isinstance") p) [.Name x p1, b] [] pos) t } :=
  if hh : g.G.lookup (Str.ofString "isinstance") = some .bltn ∧ gl g "isinstance" ∧ g.hot = some x ∧ Vis g.sc x ∧ okN x = true then
    match b with
    | .Name T p2 => match hT : g.Hd.lookup T with
      | some cs => if h2 : gl g T ∧ okN T = true then some ⟨.isx cs, s_isx hh.1 hh.2.1 hh.2.2.1 hh.2.2.2.1 hT h2.1 (okN_d hh.2.2.2.2) (okN_c hh.2.2.2.2) (okN_d h2.2)⟩ else none
      | none => none
    | .Tuple es n p2 => match cClss g es with
      | some ⟨l, hl⟩ => if h2 : l ≠ [] ∧ l.length ≤ 100 then some ⟨.isx (l.flatMap (·.2)), s_isxT hh.1 hh.2.1 hh.2.2.1 hh.2.2.2.1 hl h2.1 h2.2 (okN_d hh.2.2.2.2) (okN_c hh.2.2.2.2)⟩ else none
      | none => none
    | _ => none
  else none
def cIsin (c : Cc) (g : Gm) (a b : Expr) (p pos : Pos) : Option { t : E // SE g (.Call (.Name (Str.ofString "isinstance") p) [a, b] [] pos) t } :=
  match (match a with
    | .Name x p1 => cIsx g x b p p1 pos
    | _ => none : Option { t : E // SE g (.Call (.Name (Str.ofString "isinstance") p) [a, b] [] pos) t }) with
  | some r => some r
  | none => if hh : g.G.lookup (Str.ofString "isinstance") = some .bltn ∧ gl g "isinstance" ∧ nst a = true then
      match c.p g a with
      | none => none
      | some ⟨a', ha⟩ => match b with
        | .Tuple bs n p2 => match cTys g bs with
          | some ⟨ts, hts⟩ => if ht : ts ≠ [] ∧ ts.length ≤ 100 then some ⟨.isin a' ts, s_isinT hh.1 hh.2.1 hh.2.2 ht.1 ht.2 ha hts⟩ else none
          | none => none
        | b => match cTy1 g b with
          | some ⟨t, ht⟩ => some ⟨.isin a' [t], s_isin1 hh.1 hh.2.1 hh.2.2 ha ht⟩
          | none => none
    else none
def cCall (c : Cc) (g : Gm) (x : Str) (args : List Expr) (p pos : Pos) : Option { t : E // SE g (.Call (.Name x p) args [] pos) t } :=
  match args with
  | [] => (match hg : g.G.lookup x with
    | some (.fn i) => if hh : okN x = true ∧ gl g x ∧ g.calm = true then some ⟨.call i .nil, s_call0 hh.2.2 hg hh.2.1 (okN_d hh.1)⟩ else none
    | _ => none)
  | e :: es => match (if h : x = Str.ofString "isinstance" then (match e, es with
      | a, [b] => (match cIsin c g a b p pos with
        | some ⟨t, ht⟩ => some ⟨t, by subst h; exact ht⟩
        | none => none)
      | _, _ => none) else none : Option { t : E // SE g (.Call (.Name x p) (e :: es) [] pos) t }) with
    | some r => some r
    | none => if ho : okN x = true ∧ gl g x ∧ (e :: es).all nst = true then
        match hg : g.G.lookup x, cArgsP c g (e :: es) with
        | some (.fn i), some ⟨es', hs⟩ => if hc : g.calm = true then some ⟨.call i es', s_call hc hg ho.2.1 (okN_d ho.1) ho.2.2 hs⟩ else none
        | some .bltn, some ⟨es', hs⟩ => (match cBi g x (e :: es).length with
          | some ⟨b, hb⟩ => some ⟨.blt b es', s_bi hb hg ho.2.1 ho.1 ho.2.2 hs⟩
          | none => none)
        | _, _ => none
      else match slot x g.N, cArgsP c g (e :: es) with
        | some ⟨i, hi⟩, some ⟨es', hs⟩ => if hh : g.calm = true ∧ okN x = true ∧ Vis g.sc x ∧ (e :: es).all nst = true then some ⟨.callv i es', s_callv hh.1 hi hh.2.2.1 (okN_d hh.2.1) (okN_c hh.2.1) hh.2.2.2 hs⟩ else none
        | _, _ => none

/-! ### one step -/
def stepE (c : Cc) (g : Gm) : (e : Expr) → Option { t : E // SE g e t }
  | .Name x pos => cName g x pos
  | .Constant k j pos => cConst g k j pos
  | .BinOp a op b pos => match cBin op, c.p g a, c.p g b with
    | some ⟨o, ho⟩, some ⟨t, h⟩, some ⟨u, hu⟩ => some ⟨.bin o t u, ho g a b t u pos h hu⟩
    | _, _, _ => none
  | .UnaryOp .Not a pos => match c.p g a with
    | some ⟨t, h⟩ => some ⟨.not t, s_not h⟩
    | none => none
  | .UnaryOp .USub a pos => match c.e g a with
    | some ⟨t, h⟩ => some ⟨.neg t, s_neg h⟩
    | none => none
  | .BoolOp .And es pos => cAnd c g pos es
  | .BoolOp .Or es pos => cOr c g pos es
  | .IfExp k a b pos => match c.t g k, c.e g a, c.e g b with
    | some ⟨v, hv⟩, some ⟨t, h⟩, some ⟨u, hu⟩ => some ⟨.ife v t u, s_ife hv h hu⟩
    | _, _, _ => none
  | .Compare a [op] [b] pos => if hs : notSet b = true then (match cCmp op, c.p g a, c.p g b with
      | some ⟨o, ho⟩, some ⟨t, h⟩, some ⟨u, hu⟩ => some ⟨.cmp o t u, s_cmp ho hs h hu⟩
      | _, _, _ => none) else none
  | .Compare a [op, op'] [b, d] pos => if hs : notSet d = true then (match cCmp op, cCmp op', c.p g a, c.p g b, c.p g d with
      | some ⟨o, ho⟩, some ⟨o', ho'⟩, some ⟨t, h⟩, some ⟨u, hu⟩, some ⟨v, hv⟩ => some ⟨.ch2 o o' t u v, s_ch2 ho ho' hs h hu hv⟩
      | _, _, _, _, _ => none) else none
  | .Tuple es k pos => match cArgs c g es with
    | some ⟨ts, hs⟩ => some ⟨.tup ts, s_tup hs⟩
    | none => none
  | .List es pos => match cArgs c g es with
    | some ⟨ts, hs⟩ => some ⟨.lst ts, s_lst hs⟩
    | none => none
  | .Subscript a (.Slice lo hi none p2) pos => match c.p g a, cOpt c g lo, cOpt c g hi with
    | some ⟨t, h⟩, some ⟨l, hl⟩, some ⟨u, hu⟩ => some ⟨.sl t l u, s_sl h hl hu⟩
    | _, _, _ => none
  | .Subscript a b pos => match (match a with
      | .Name x px => (match hg : g.G.lookup x, c.e g b with
        | some (.fdic tbl), some ⟨b', hb⟩ => if hh : okN x = true ∧ gl g x ∧ notSlice b = true then some ⟨.fdx tbl b', s_fdx hg hh.2.1 (okN_d hh.1) hh.2.2 hb⟩ else none
        | _, _ => none)
      | _ => none : Option { t : E // SE g (.Subscript a b pos) t }) with
    | some r => some r
    | none => if hs : notSlice b = true then (match c.p g a, c.e g b with
      | some ⟨t, h⟩, some ⟨u, hu⟩ => some ⟨.ix t u, s_ix hs h hu⟩
      | _, _ => none) else none
  | .ListComp elt [⟨tg, iter, ifs, 0⟩] scope pos => match cComp c g elt tg iter ifs scope with
    | some p => some ⟨.comp p.elt' p.tg' p.it' p.c' (p.own.map (·.2)), s_comp p.hc p.hi p.ok p.ht p.hw p.hx p.hcs p.he p.hs⟩
    | none => none
  | .Call (.Attribute o m apos) args [] pos => cMeth c g o m args apos pos
  | .Call (.Name x p) args [] pos => cCall c g x args p pos
  | _ => none
def plainT : E → Bool
  | .var _ => true
  | .call _ _ => true
  | .blt _ _ => true
  | .meth _ _ _ => true
  | .ix _ _ => true
  | .sl _ _ _ => true
  | .cst _ => true
  | .isin _ _ => true
  | .isx _ => true
  | _ => false
theorem pk_get {C : Calls} {e : E} {f : W → M Bool} (h : isVar e = false) : ((pk e (ev C e)).bind fun p => (M.get p).bind f) = (ev C e).bind f := by
  rw [pk_of h]
  funext σ
  unfold M.bind
  cases ev C e σ with
  | none => rfl
  | some r => cases r <;> rfl
theorem plainT_ok {a : E} (h : plainT a = true) (C : Calls) : evT C a = (pk a (ev C a)).bind fun p => (M.get p).bind fun w => M.opt (truth w) := by
  cases a with
  | var i =>
    rw [evT]
    funext σ
    unfold pk M.bind M.get
    simp only [P.get]
    cases e : σ[i]? with
    | none => simp only
    | some o => cases o with
      | none => simp only
      | some w => simp only [e]
  | isin a ts =>
    rw [pk_get rfl, evT, ev]
    funext σ
    unfold M.bind M.get M.opt
    cases pk a (ev C a) σ with
    | none => rfl
    | some r =>
      cases r with
      | ex x σ' => rfl
      | ok p σ' =>
        dsimp only
        cases p.get σ' with
        | none => rfl
        | some w =>
          dsimp only
          cases tyAny ts w <;> rfl
  | isx cs =>
    rw [pk_get rfl, evT, ev]
    funext σ
    unfold M.bind M.opt
    cases C.x <;> rfl
  | call i es => rw [pk_get rfl, evT, ev]
  | blt i es => rw [pk_get rfl, evT, ev]
  | meth i o es => rw [pk_get rfl, evT, ev]
  | ix a b => rw [pk_get rfl, evT, ev]
  | sl a b c => rw [pk_get rfl, evT, ev]
  | cst d => rw [pk_get rfl, evT, ev]; rfl
  | _ => cases h
def stepT (c : Cc) (g : Gm) (e : Expr) : Option { t : E // ST g e t } := match e with
  | .UnaryOp .Not a pos => match c.t g a with
    | some ⟨t, h⟩ => some ⟨.not t, t_not h⟩
    | none => none
  | .BoolOp .And es pos => match wAnd c g pos es with
    | some ⟨t, h⟩ => some ⟨t, h.t⟩
    | none => none
  | .BoolOp .Or es pos => match wOr c g pos es with
    | some ⟨t, h⟩ => some ⟨t, h.t⟩
    | none => none
  | .Compare a [op] [b] pos => if hs : notSet b = true then (match cCmp op, c.p g a, c.p g b with
      | some ⟨o, ho⟩, some ⟨t, h⟩, some ⟨u, hu⟩ => some ⟨.cmp o t u, t_cmp ho hs h hu⟩
      | _, _, _ => none) else none
  | .Compare a [op, op'] [b, d] pos => if hs : notSet d = true then (match cCmp op, cCmp op', c.p g a, c.p g b, c.p g d with
      | some ⟨o, ho⟩, some ⟨o', ho'⟩, some ⟨t, h⟩, some ⟨u, hu⟩, some ⟨v, hv⟩ => some ⟨.ch2 o o' t u v, t_ch2 ho ho' hs h hu hv⟩
      | _, _, _, _, _ => none) else none
  | e => if hp : plainTest e = true then (match c.p g e with
      | some ⟨t, h⟩ => if ht : plainT t = true then some ⟨t, t_val hp h (plainT_ok ht)⟩ else none
      | none => none) else none
def cc : Nat → Cc
  | 0 => cc0
  | n + 1 => ⟨stepE (cc n), stepT (cc n)⟩

/-! ### statements -/
def augOf : (op : Operator) → Option { o : BOp // (op = .Add ∧ o = .add) ∨ (op = .Sub ∧ o = .sub) ∨ (op = .Mult ∧ o = .mul) }
  | .Add => some ⟨.add, .inl ⟨rfl, rfl⟩⟩
  | .Sub => some ⟨.sub, .inr (.inl ⟨rfl, rfl⟩)⟩
  | .Mult => some ⟨.mul, .inr (.inr ⟨rfl, rfl⟩)⟩
  | _ => none
abbrev CSt (XS : List XCls) := (g : Gm) → (st : Stmt) → Option { s : S // SS g XS st s }
def cBody (f : CSt XS) (g : Gm) : (b : List Stmt) → Option { s : S // SB g XS b s }
  | [] => some ⟨.skip, b_nil⟩
  | [a] => match f g a with
    | some ⟨s, h⟩ => some ⟨s, b_one h⟩
    | none => none
  | a :: b :: r => match f g a, cBody f g (b :: r) with
    | some ⟨s, h⟩, some ⟨u, hu⟩ => some ⟨.seq s u, b_cons h hu⟩
    | _, _ => none
def cAsg (c : Cc) (g : Gm) (x : Str) (e : Expr) (p pos : Pos) : Option { s : S // SS g XS (.Assign [.Name x p] e pos) s } :=
  match slot x g.N with
  | none => none
  | some ⟨i, hi⟩ => if hs : Sto g x then
      match e with
      | .ListComp elt [⟨tg, iter, ifs, 0⟩] scope cpos => if hh : g.sc.names.lookup x = some .local ∧ g.sc.kind = .function ∧ (p.line == cpos.line) = true ∧ (scope.names.any fun (n, k) => n == x && (k == .local || k == .cell)) = false then (match cComp c g elt tg iter ifs scope with
          | some q => some ⟨.set i (.comp q.elt' q.tg' q.it' q.c' (q.own.map (·.2))), st_setLc hi hs hh.1 hh.2.1 hh.2.2.1 hh.2.2.2 q.hc q.hi q.ok q.ht q.hw q.hx q.hcs q.he q.hs⟩
          | none => none) else none
      | e => if hn : notComp e = true then (match c.e g e with
          | some ⟨t, h⟩ => some ⟨.set i t, st_set hi hs hn h⟩
          | none => none) else none
    else none
def cRaise (c : Cc) (g : Gm) (e : Expr) (pos : Pos) : Option { s : S // SS g XS (.Raise (some e) none pos) s } := match e with
  | .Call (.Name x p) (a :: es) [] p2 => match hg : g.G.lookup x, cArgs c g (a :: es) with
    | some (.xc i), some ⟨ts, hs⟩ => if hh : g.calm = true ∧ gl g x ∧ XS[i]?.map (·.fields) = some [] ∧ okN x = true ∧ (a :: es).all nst = true ∧ (a :: es).length ≤ 100 then
        some ⟨.raise i ts, st_raise hh.1 hg hh.2.1 hh.2.2.1 (okN_d hh.2.2.2.1) hh.2.2.2.2.1 hs hh.2.2.2.2.2⟩ else none
    | _, _ => none
  | _ => none
def cForG (c : Cc) (f : CSt XS) (g : Gm) (tg iter : Expr) (b : List Stmt) (pos : Pos) : Option { s : S // SS g XS (.For tg iter b [] pos) s } := match iter with
  | .Call (.Name x p) (e :: es) [] pos' => match hg : g.G.lookup x, cArgs c g (e :: es), cTgt g tg, cBody f g b with
    | some (.gen i), some ⟨es', hs⟩, some ⟨t, ht⟩, some ⟨s, h⟩ => if hh : g.calm = true ∧ g.walk = true ∧ gl g x ∧ okN x = true ∧ nst e = true ∧ es.all nst = true then
        some ⟨.forG t i es' s ((g.wp.lookup pos.line).getD []), st_forG hh.1 hh.2.1 hg hh.2.2.1 (okN_d hh.2.2.2.1) hh.2.2.2.2.1 hh.2.2.2.2.2 hs ht h⟩ else none
    | _, _, _, _ => none
  | _ => none
def stepS (c : Cc) (f : CSt XS) (g : Gm) : (st : Stmt) → Option { s : S // SS g XS st s }
  | .Pass pos => some ⟨.skip, st_pass⟩
  | .Break pos => some ⟨.brk, st_brk⟩
  | .Continue pos => some ⟨.cnt, st_cnt⟩
  | .Expr e pos => if hn : notComp e = true then (match c.e g e with
      | some ⟨t, h⟩ => some ⟨.expr t, st_expr hn h⟩
      | none => none) else none
  | .Return none pos => some ⟨.ret .none, st_retN⟩
  | .Return (some e) pos => match (match e with
      | .Name x p => if ho : okN x = true ∧ Vis g.sc x then (match slot x g.N with
        | some ⟨i, hi⟩ => if g.fx.contains i = false then some ⟨.ret (.some (.mov i)), st_ret (s_mov hi ho.2 (okN_d ho.1) (okN_c ho.1))⟩ else none
        | none => none) else none
      | _ => none : Option { s : S // SS g XS (.Return (some e) pos) s }) with
    | some r => some r
    | none => match c.e g e with
      | some ⟨t, h⟩ => some ⟨.ret (.some t), st_ret h⟩
      | none => none
  | .Assign [.Name x p] e pos => cAsg c g x e p pos
  | .Assign [.Tuple es k1 p] e pos => match cTNs g es, c.e g e with
    | some ⟨is, h⟩, some ⟨t, ht⟩ => if hh : g.calm = true ∧ notComp e = true ∧ notTup e = true then some ⟨.setT is t, st_setT hh.1 (.tup h) hh.2.1 hh.2.2 ht⟩ else none
    | _, _ => none
  | .Assign [.Subscript (.Name x po) i p] e pos => match slot x g.N, c.e g i, c.e g e with
    | some ⟨o', ho⟩, some ⟨i', hi⟩, some ⟨e', he⟩ => if hh : notComp e = true ∧ notSlice i = true ∧ okN x = true ∧ Vis g.sc x then some ⟨.setI o' i' e', st_setI ho hh.2.2.2 (okN_d hh.2.2.1) (okN_c hh.2.2.1) hh.1 hh.2.1 hi he⟩ else none
    | _, _, _ => none
  | .AugAssign (.Name x p) op e pos => match augOf op, slot x g.N, c.e g e with
    | some ⟨o, ho⟩, some ⟨i, hi⟩, some ⟨t, ht⟩ => if hs : Sto g x then some ⟨.aug i o t, st_aug ho hi hs ht⟩ else none
    | _, _, _ => none
  | .If k a b pos => match c.t g k, cBody f g a, cBody f g b with
    | some ⟨v, hv⟩, some ⟨s, h⟩, some ⟨u, hu⟩ => some ⟨.ife v s u, st_if hv h hu⟩
    | _, _, _ => none
  | .While k b [] pos => match c.t g k, cBody f g b with
    | some ⟨v, hv⟩, some ⟨s, h⟩ => some ⟨.whl v s ((g.wp.lookup pos.line).getD []), st_whl hv h⟩
    | _, _ => none
  | .For tg iter b [] pos => match cForG c f g tg iter b pos with
    | some r => some r
    | none => match cWalk c g tg iter, cTgt g tg, cBody f g b with
      | some ⟨w, hw⟩, some ⟨t, ht⟩, some ⟨s, h⟩ => if hh : g.calm = true ∧ notSet iter = true then some ⟨.for t w s ((g.wp.lookup pos.line).getD []), st_for hh.1 hh.2 ht hw h⟩ else none
      | _, _, _ => none
  | .Raise (some e) none pos => cRaise c g e pos
  | .Try body [.ExceptHandler (some (.Name T np)) nm (b0 :: suite) pos'] [] [] pos => match hT : g.Hd.lookup T with
    | none => none
    | some cs => if hh : g.calm = true ∧ gl g T ∧ okN T = true then
        match nm with
        | none => match cBody f g.still body, cBody f (g.hotG none) (b0 :: suite) with
          | some ⟨b, hb⟩, some ⟨s, hs⟩ => some ⟨.try1 b cs none s, st_try0 hh.1 hT hh.2.1 (okN_d hh.2.2) hb hs⟩
          | _, _ => none
        | some n => match slot n g.N with
          | none => none
          | some ⟨i, hi⟩ => if hn : g.sc.names.lookup n = some .local then
              match cBody f g.still body, cBody f (g.hotG (some n)) (b0 :: suite) with
              | some ⟨b, hb⟩, some ⟨s, hs⟩ => some ⟨.try1 b cs (some i) s, st_try1 hh.1 hi hn hT hh.2.1 (okN_d hh.2.2) hb hs⟩
              | _, _ => none
            else none
      else none
  | _ => none
def cs (c : Cc) : Nat → CSt XS
  | 0 => fun _ _ => none
  | n + 1 => stepS c (cs c n)
theorem body_of {b : List Stmt} {c : Nat} {s : S} (h : (cBody (XS := XS) (cs (cc c) c) g b).map (·.1) = some s) : SB g XS b s := by
  cases e : cBody (XS := XS) (cs (cc c) c) g b with
  | none => rw [e] at h; cases h
  | some r =>
    rw [e] at h
    have q : r.1 = s := Option.some.inj h
    rw [← q]
    exact r.2
/-! ### generator defs -/
def lastW : (b : List Stmt) → Option { r : List Stmt × Expr × List Stmt × Pos // b = r.1 ++ [.While r.2.1 r.2.2.1 [] r.2.2.2] }
  | [] => none
  | st :: r => match lastW r with
    | some ⟨(ps, t, bd, p), h⟩ => some ⟨(st :: ps, t, bd, p), by rw [h]; rfl⟩
    | none => match st, r with
      | .While t bd [] p, [] => some ⟨([], t, bd, p), rfl⟩
      | _, _ => none
def cutY : (b : List Stmt) → Option { r : List Stmt × Expr × Pos × Pos × List Stmt // b = r.1 ++ .Expr (.Yield (some r.2.1) r.2.2.1) r.2.2.2.1 :: r.2.2.2.2 }
  | [] => none
  | st :: r => match (match st with
      | .Expr (.Yield (some e) yp) ep => some ⟨([], e, yp, ep, r), rfl⟩
      | _ => none : Option { q : List Stmt × Expr × Pos × Pos × List Stmt // st :: r = q.1 ++ .Expr (.Yield (some q.2.1) q.2.2.1) q.2.2.2.1 :: q.2.2.2.2 }) with
    | some q => some q
    | none => match cutY r with
      | some ⟨(as, e, yp, ep, bs), h⟩ => some ⟨(st :: as, e, yp, ep, bs), by rw [h]; rfl⟩
      | none => none
/-- the terms of a generator def -/
structure Gt where
  p : S
  c : E
  a : S
  e : E
  b : S
  deriving DecidableEq
def cGn (c : Cc) (f : CSt XS) (g : Gm) (b : List Stmt) : Option { t : Gt // ∃ (Ps : List Stmt) (test : Expr) (As : List Stmt) (ex : Expr) (Bs : List Stmt) (ypos epos wpos : Pos), b = Ps ++ [.While test (As ++ .Expr (.Yield (some ex) ypos) epos :: Bs) [] wpos] ∧
    SB g XS Ps t.p ∧ ST g test t.c ∧ SB g XS As t.a ∧ SE g ex t.e ∧ SB g XS Bs t.b } := match lastW b with
  | some ⟨(ps, t, bd, wp), h⟩ => match cutY bd with
    | some ⟨(as, e, yp, ep, bs), h2⟩ => match cBody f g ps, c.t g t, cBody f g as, c.e g e, cBody f g bs with
      | some ⟨p', h3⟩, some ⟨c', h4⟩, some ⟨a', h5⟩, some ⟨e', h6⟩, some ⟨b', h7⟩ => some ⟨⟨p', c', a', e', b'⟩, ps, t, as, e, bs, yp, ep, wp, by rw [h]; exact congrArg (fun q => ps ++ [Stmt.While t q [] wp]) h2, h3, h4, h5, h6, h7⟩
      | _, _, _, _, _ => none
    | none => none
  | none => none
theorem gn_of {b : List Stmt} {c : Nat} {t : Gt} (h : (cGn (XS := XS) (cc c) (cs (cc c) c) g b).map (·.1) = some t) : ∃ (Ps : List Stmt) (test : Expr) (As : List Stmt) (ex : Expr) (Bs : List Stmt) (ypos epos wpos : Pos), b = Ps ++ [.While test (As ++ .Expr (.Yield (some ex) ypos) epos :: Bs) [] wpos] ∧
    SB g XS Ps t.p ∧ ST g test t.c ∧ SB g XS As t.a ∧ SE g ex t.e ∧ SB g XS Bs t.b := by
  cases e : cGn (XS := XS) (cc c) (cs (cc c) c) g b with
  | none => rw [e] at h; cases h
  | some r =>
    rw [e] at h
    have q : r.1 = t := Option.some.inj h
    rw [← q]
    exact r.2
end
end PV

/-! V5: the ends: from a program's top to the row. -/
namespace PV
open PySem L2

/-- the defs behind the top -/
def DefAt (K : PySem.W.Frag) (x : Str) (st : Stmt) : Prop := ∃ (f : Addr) (fd : FuncData), PySem.W.nsIn K mainGlobals x = some (some (.ref f)) ∧ Fun K x x st f fd
theorem at_mk {K : PySem.W.Frag} {x : Str} {st : Stmt} {f : Addr} {oc : Value} {od an : Option Addr} {sl : Array (Option Value)} {kV dc pm cd ct : Value} (a : PySem.W.nsIn K mainGlobals x = some (some (.ref f)))
    (l : K.lookup f = some ⟨oc, od, .func (PySem.W.fnOf x x (defArgs st) (defBody st) (defScope st) .none kV dc pm an cd ct), sl⟩) (c : PySem.W.codeIn K cd x = true) (k : PySem.W.keepIn K (.ref f) = true) : DefAt K x st := ⟨f, _, a, fun_mk (st := st) l c k⟩
def DefsAt (K : PySem.W.Frag) : List DefT → Prop
  | [] => True
  | d :: ds => DefAt K d.x d.st ∧ DefsAt K ds
theorem DefsAt.at_ {K : PySem.W.Frag} : ∀ {ds : List DefT} {i : Nat} {d : DefT}, DefsAt K ds → ds[i]? = some d → DefAt K d.x d.st
  | [], i, d, _, e => by simp at e
  | d :: ds, 0, d', h, e => by
    simp at e
    subst e
    exact h.1
  | d :: ds, i + 1, d', h, e => DefsAt.at_ (i := i) h.2 (by simpa using e)
/-- how a def's arguments bind: no defaults, no stars -/
def BindOk (x : Str) (st : Stmt) (ps : List Str) : Prop := ∀ (kV doc pm : Value) (an : Option Addr) (cdv ct : Value) (us : List Value), us.length = ps.length → bindArgs (PySem.W.fnOf x x (defArgs st) (defBody st) (defScope st) .none kV doc pm an cdv ct) ⟨us, []⟩ = pure (ps.zip us)
def BindsOk : List DefT → Prop
  | [] => True
  | d :: ds => BindOk d.x d.st d.ps ∧ BindsOk ds
theorem BindsOk.at_ : ∀ {ds : List DefT} {i : Nat} {d : DefT}, BindsOk ds → ds[i]? = some d → BindOk d.x d.st d.ps
  | [], i, d, _, e => by simp at e
  | d :: ds, 0, d', h, e => by
    simp at e
    subst e
    exact h.1
  | d :: ds, i + 1, d', h, e => BindsOk.at_ (i := i) h.2 (by simpa using e)
/-- where the defs stand -/
def faOf (K : PySem.W.Frag) (ds : List DefT) (i : Nat) : Option Addr := match ds[i]? with
  | none => none
  | some d => match PySem.W.nsIn K mainGlobals d.x with
    | some (some (.ref f)) => some f
    | _ => none
def xcOf (K : PySem.W.Frag) (xs : List Str) (i : Nat) : Option Addr := match xs[i]? with
  | none => none
  | some x => match PySem.W.nsIn K mainGlobals x with
    | some (some (.ref f)) => some f
    | _ => none
def zOf (K : PySem.W.Frag) (ds : List DefT) : Z := ⟨K, faOf K ds⟩
mutual
/-- a constant of the module -/
def CstV (K : PySem.W.Frag) : D → V → Prop
  | .non, v => v = .non
  | .bl b, v => v = .bl b
  | .int i, v => v = .int i
  | .str s, v => v = .str (strV s)
  | .tup ds, v => ∃ a vs, v = .ref a ∧ KTup K a vs ∧ CstVs K ds vs
def CstVs (K : PySem.W.Frag) : List D → List V → Prop
  | [], vs => vs = []
  | d :: ds, vs => ∃ v r, vs = v :: r ∧ CstV K d v ∧ CstVs K ds r
end
mutual
theorem CstV.rv {z : Z} {Hh : Hp} {O : AP} : ∀ (d : D) (v : V), CstV z.K d v → RV z Hh O d.w v []
  | .non, v, h => by simp only [CstV] at h; simp only [D.w, RV]; exact ⟨h, trivial⟩
  | .bl b, v, h => by simp only [CstV] at h; simp only [D.w, RV]; exact ⟨h, trivial⟩
  | .int b, v, h => by simp only [CstV] at h; simp only [D.w, RV]; exact ⟨h, trivial⟩
  | .str b, v, h => by simp only [CstV] at h; simp only [D.w, RV]; exact ⟨h, trivial⟩
  | .tup ds, v, h => by
    simp only [CstV] at h
    obtain ⟨a, vs, e, k, r⟩ := h
    simp only [D.w, RV]
    exact ⟨a, vs, e, .inr k, CstVs.rv ds vs r⟩
theorem CstVs.rv {z : Z} {Hh : Hp} {O : AP} : ∀ (d : List D) (v : List V), CstVs z.K d v → RVs z Hh O (D.ws d) v []
  | [], v, h => by simp only [CstVs] at h; simp only [D.ws, RVs]; exact ⟨h, trivial⟩
  | d :: ds, vs, h => by
    simp only [CstVs] at h
    obtain ⟨v, r, e, h1, h2⟩ := h
    simp only [D.ws, RVs]
    exact ⟨v, r, [], [], e, rfl, CstV.rv d v h1, CstVs.rv ds r h2⟩
end
theorem faOf_some {K : PySem.W.Frag} {ds : List DefT} {i : Nat} {f : Addr} (h : faOf K ds i = some f) : ∃ d, ds[i]? = some d ∧ PySem.W.nsIn K mainGlobals d.x = some (some (.ref f)) := by
  unfold faOf at h
  cases e : ds[i]? with
  | none => rw [e] at h; cases h
  | some d =>
    rw [e] at h
    dsimp only at h
    split at h
    case h_1 f' e' => cases h; exact ⟨d, rfl, e'⟩
    case h_2 => cases h
theorem faOf_at {K : PySem.W.Frag} {ds : List DefT} {i : Nat} {d : DefT} {f : Addr} (e : ds[i]? = some d) (h : PySem.W.nsIn K mainGlobals d.x = some (some (.ref f))) : faOf K ds i = some f := by
  unfold faOf
  rw [e]
  dsimp only
  rw [h]
theorem xcOf_at {K : PySem.W.Frag} {xs : List Str} {i : Nat} {x : Str} {f : Addr} (e : xs[i]? = some x) (h : PySem.W.nsIn K mainGlobals x = some (some (.ref f))) : xcOf K xs i = some f := by
  unfold xcOf
  rw [e]
  dsimp only
  rw [h]
/-- a dict from texts to defs, item by item -/
def FdAt (K : PySem.W.Frag) (ds : List DefT) (a : Addr) : List (List Char × Nat) → Prop
  | [] => True
  | p :: r => (∃ x f, ds[p.2]?.map (·.x) = some x ∧ PySem.W.nsIn K mainGlobals x = some (some (.ref f)) ∧ PySem.W.nsIn K a (strV p.1) = some (some (.ref f))) ∧ FdAt K ds a r
theorem FdAt.at_ {K : PySem.W.Frag} {ds : List DefT} {a : Addr} : ∀ {tbl : List (List Char × Nat)} {s : List Char} {i : Nat}, FdAt K ds a tbl → tbl.lookup s = some i → ∃ f, faOf K ds i = some f ∧ PySem.W.nsIn K a (strV s) = some (some (.ref f))
  | [], s, i, _, e => by cases e
  | (t, j) :: r, s, i, h, e => by
    by_cases hx : s = t
    · subst hx
      rw [List.lookup_cons_self] at e
      cases e
      obtain ⟨x, f, h1, h2, h3⟩ := h.1
      cases ed : ds[j]? with
      | none => rw [ed] at h1; cases h1
      | some d =>
        rw [ed] at h1
        have ex : d.x = x := Option.some.inj h1
        subst ex
        exact ⟨f, faOf_at ed h2, h3⟩
    · rw [List.lookup_cons, beq_false_of_ne hx] at e
      exact FdAt.at_ h.2 e
/-- what stands behind the top for a name of the table -/
def GlobAt (Pm : Params) (K : PySem.W.Frag) (ds : List DefT) (xs : List Str) (x : Str) : Gv → Prop
  | .fn i => ds[i]?.map (·.x) = some x
  | .gen i => ds[i]?.map (·.x) = some x
  | .bltn => PySem.W.nsIn K mainGlobals x = some none
  | .cst d => ∃ v u, CstV K d v ∧ RelV v u ∧ PySem.W.nsIn K mainGlobals x = some (some u)
  | .fdic tbl => ∃ a es n, PySem.W.nsIn K mainGlobals x = some (some (.ref a)) ∧ K.lookup a = some ⟨.type "dict", none, .dict es n, #[]⟩ ∧ PySem.W.KeysLit Pm es.toList ∧ FdAt K ds a tbl
  | .xc i => xs[i]? = some x
def GlobsAt (Pm : Params) (K : PySem.W.Frag) (ds : List DefT) (xs : List Str) : List (Str × Gv) → Prop
  | [] => True
  | p :: r => GlobAt Pm K ds xs p.1 p.2 ∧ GlobsAt Pm K ds xs r
theorem GlobsAt.at_ {Pm : Params} {K : PySem.W.Frag} {ds : List DefT} {xs : List Str} : ∀ {G : List (Str × Gv)} {x : Str} {v : Gv}, GlobsAt Pm K ds xs G → G.lookup x = some v → GlobAt Pm K ds xs x v
  | [], x, v, _, e => by cases e
  | (a, b) :: r, x, v, h, e => by
    by_cases hx : x = a
    · subst hx
      rw [List.lookup_cons_self] at e
      cases e
      exact h.1
    · rw [List.lookup_cons, beq_false_of_ne hx] at e
      exact GlobsAt.at_ h.2 e
/-- the classes that except clauses and isinstance name -/
def HdAt (K : PySem.W.Frag) (xs : List Str) (T : Str) (cs : List Nat) : Prop := ∃ c, ((∃ D, c = .ref D ∧ PySem.W.nsIn K mainGlobals T = some (some c)) ∨ (∃ n, c = .type n ∧ PySem.W.nsIn K mainGlobals T = some none ∧ bootBuiltins T = some c)) ∧ T ≠ "__name__" ∧
  ∀ i C, xcOf K xs i = some C → PySem.W.exmOne K (.ref C) c = some (cs.contains i) ∧ PySem.W.kitOne K (.ref C) c = some (cs.contains i)
def HdsAt (K : PySem.W.Frag) (xs : List Str) : List (Str × List Nat) → Prop
  | [] => True
  | p :: r => HdAt K xs p.1 p.2 ∧ HdsAt K xs r
theorem HdsAt.at_ {K : PySem.W.Frag} {xs : List Str} : ∀ {Hd : List (Str × List Nat)} {x : Str} {v : List Nat}, HdsAt K xs Hd → Hd.lookup x = some v → HdAt K xs x v
  | [], x, v, _, e => by cases e
  | (a, b) :: r, x, v, h, e => by
    by_cases hx : x = a
    · subst hx
      rw [List.lookup_cons_self] at e
      cases e
      exact h.1
    · rw [List.lookup_cons, beq_false_of_ne hx] at e
      exact HdsAt.at_ h.2 e
def XcAt (K : PySem.W.Frag) (x : Str) : Prop := ∃ C, PySem.W.nsIn K mainGlobals x = some (some (.ref C)) ∧ XcOk K C
def XcsAt (K : PySem.W.Frag) : List Str → Prop
  | [] => True
  | x :: r => XcAt K x ∧ XcsAt K r
theorem XcsAt.at_ {K : PySem.W.Frag} : ∀ {xs : List Str} {i : Nat} {x : Str}, XcsAt K xs → xs[i]? = some x → XcAt K x
  | [], i, d, _, e => by simp at e
  | d :: ds, 0, d', h, e => by
    simp at e
    subst e
    exact h.1
  | d :: ds, i + 1, d', h, e => XcsAt.at_ (i := i) h.2 (by simpa using e)
theorem xcOf_some {K : PySem.W.Frag} {xs : List Str} {i : Nat} {f : Addr} (h : xcOf K xs i = some f) : ∃ x, xs[i]? = some x ∧ PySem.W.nsIn K mainGlobals x = some (some (.ref f)) := by
  unfold xcOf at h
  cases e : xs[i]? with
  | none => rw [e] at h; cases h
  | some d =>
    rw [e] at h
    dsimp only at h
    split at h
    case h_1 f' e' => cases h; exact ⟨d, rfl, e'⟩
    case h_2 => cases h
/-- a class by its name, told of each class that is raised -/
def HdL (K : PySem.W.Frag) (c : Value) (cs : List Nat) : Nat → List Str → Prop
  | _, [] => True
  | n, x :: r => (∃ C b, PySem.W.nsIn K mainGlobals x = some (some (.ref C)) ∧ cs.contains n = b ∧ PySem.W.exmOne K (.ref C) c = some b ∧ PySem.W.kitOne K (.ref C) c = some b) ∧ HdL K c cs (n + 1) r
theorem HdL.at_ {K : PySem.W.Frag} {c : Value} {cs : List Nat} : ∀ {xs : List Str} {n i : Nat} {x : Str} {C : Addr}, HdL K c cs n xs → xs[i]? = some x → PySem.W.nsIn K mainGlobals x = some (some (.ref C)) → PySem.W.exmOne K (.ref C) c = some (cs.contains (n + i)) ∧ PySem.W.kitOne K (.ref C) c = some (cs.contains (n + i))
  | [], n, i, x, C, _, e, _ => by simp at e
  | y :: ys, n, 0, x, C, h, e, ec => by
    simp at e
    subst e
    obtain ⟨⟨C', b, e1, e2, e3, e4⟩, _⟩ := h
    rw [ec] at e1
    cases e1
    rw [Nat.add_zero, e2]
    exact ⟨e3, e4⟩
  | y :: ys, n, i + 1, x, C, h, e, ec => by
    have q := HdL.at_ (n := n + 1) (i := i) h.2 (by simpa using e) ec
    rw [show n + 1 + i = n + (i + 1) by omega] at q
    exact q
theorem hd_own {K : PySem.W.Frag} {xs : List Str} {T : Str} {cs : List Nat} {D : Addr} (e : PySem.W.nsIn K mainGlobals T = some (some (.ref D))) (hn : T ≠ "__name__") (h : HdL K (.ref D) cs 0 xs) : HdAt K xs T cs :=
  ⟨.ref D, .inl ⟨D, rfl, e⟩, hn, fun i C ec => by
    obtain ⟨x, ex, en⟩ := xcOf_some ec
    have q := h.at_ ex en
    rw [Nat.zero_add] at q
    exact q⟩
theorem hd_blt {K : PySem.W.Frag} {xs : List Str} {T : Str} {cs : List Nat} {n : String} (e : PySem.W.nsIn K mainGlobals T = some none) (hb : bootBuiltins T = some (.type n)) (hn : T ≠ "__name__") (h : HdL K (.type n) cs 0 xs) : HdAt K xs T cs :=
  ⟨.type n, .inr ⟨n, rfl, e, hb⟩, hn, fun i C ec => by
    obtain ⟨x, ex, en⟩ := xcOf_some ec
    have q := h.at_ ex en
    rw [Nat.zero_add] at q
    exact q⟩
theorem hdl_nil {K : PySem.W.Frag} {c : Value} {cs : List Nat} {n : Nat} : HdL K c cs n [] := trivial
/-- a class of the text, as except clauses ask it -/
structure OwnC (K : PySem.W.Frag) (D : Addr) : Prop where
  s1 : PySem.W.subIn K (.ref D) (.type "BaseException") = some true
  t1 : PySem.W.typeIn K (.ref D) = some (.type "type")
  d1 : PySem.W.hasDictIn K D = true
  r1 : PySem.W.subIn K (.ref D) (.ref D) = some true
theorem hdl_cons {K : PySem.W.Frag} {D : Addr} {cs : List Nat} {n : Nat} {x : Str} {xs : List Str} {C : Addr} {b : Bool} (O : OwnC K D) (e : PySem.W.nsIn K mainGlobals x = some (some (.ref C))) (h : cs.contains n = b) (g : PySem.W.subIn K (.ref C) (.ref D) = some b) (r : HdL K (.ref D) cs (n + 1) xs) : HdL K (.ref D) cs n (x :: xs) := by
  have e1 := PySem.W.exm_ref O.s1 O.d1 O.t1 g
  have e2 : PySem.W.kitCls K (.ref C) (.ref D) = some b := by
    unfold PySem.W.exmOne at e1
    rw [O.s1] at e1
    exact e1
  refine ⟨⟨C, b, e, h, e1, ?_⟩, r⟩
  unfold PySem.W.kitOne
  by_cases hc : (Value.ref C == Value.ref D) = true
  · rw [if_pos hc]
    have hCD : Value.ref C = Value.ref D := eq_of_beq hc
    rw [hCD, O.r1] at g
    exact g
  · rw [if_neg hc]
    exact e2
theorem hdl_consB {K : PySem.W.Frag} {T : String} {cs : List Nat} {n : Nat} {x : Str} {xs : List Str} {C : Addr} {b : Bool} (s1 : PySem.W.subIn K (.type T) (.type "BaseException") = some true) (m1 : PySem.W.kitMeta T = true) (e : PySem.W.nsIn K mainGlobals x = some (some (.ref C))) (h : cs.contains n = b) (g : PySem.W.subIn K (.ref C) (.type T) = some b) (r : HdL K (.type T) cs (n + 1) xs) : HdL K (.type T) cs n (x :: xs) := by
  have e2 : PySem.W.kitCls K (.ref C) (.type T) = some b := by
    unfold PySem.W.kitCls
    dsimp only
    rw [if_pos m1]
    exact g
  refine ⟨⟨C, b, e, h, ?_, ?_⟩, r⟩
  · unfold PySem.W.exmOne
    rw [s1]
    exact e2
  · unfold PySem.W.kitOne
    rw [if_neg (by intro z; cases eq_of_beq z)]
    exact e2
theorem xc_mk {K : PySem.W.Frag} {x : Str} {C : Addr} (e : PySem.W.nsIn K mainGlobals x = some (some (.ref C))) (h1 : PySem.W.findIn K (.ref C) "__getattribute__" = some (some (.builtin "BaseException.__getattribute__"))) (h2 : PySem.W.findIn K (.ref C) "__getattr__" = some none)
    (h3 : PySem.W.subIn K (.ref C) (.type "BaseException") = some true) (h4 : PySem.W.hasDictIn K C = true) (h5 : PySem.W.findIn K (.ref C) "__class__" = some (some (.builtin "object.__class__"))) (h6 : PySem.W.specialIn K (.builtin "object.__class__") "__get__" = some (some (.builtin "getset_descriptor.__get__")))
    (h7 : PySem.W.takesIn K (.builtin "object.__class__") = some true) (h8 : PySem.W.mroIn K C (.type "object") = some true) (h9 : PySem.W.excIn K C [.type "ValueError", .type "Exception", .type "BaseException", .type "object"] "ValueError.__new__" = true) (h10 : PySem.W.keepIn K (.ref C) = true) (h11 : PySem.W.typeIn K (.ref C) = some (.type "type")) : XcAt K x :=
  ⟨C, e, ⟨h1, h2, h3, h4, h5, h6, h7, h8⟩, h9, h10, h3, h11⟩
structure TopAt (Pm : Params) (K : PySem.W.Frag) (ds : List DefT) (xs : List Str) (G : List (Str × Gv)) (Hd : List (Str × List Nat)) : Prop where
  defs : DefsAt K ds
  globs : GlobsAt Pm K ds xs G
  hds : HdsAt K xs Hd
  xcs : XcsAt K xs
theorem top_ok {K : PySem.W.Frag} {ds : List DefT} {xs : List Str} {G : List (Str × Gv)} {Hd : List (Str × List Nat)} {h : Heap} {mg : Str → Option Value} {w : World} (T : TopAt w.params K ds xs G Hd) (B : BindsOk ds) (KX : K.In h) (ns : h.Ns mainGlobals mg) : TopOk w K mg G Hd ds (zOf K ds) (xcOf K xs) where
  kk := rfl
  fa := fun i a e => by
    obtain ⟨d, ed, en⟩ := faOf_some e
    obtain ⟨f, fd, e1, F⟩ := T.defs.at_ ed
    rw [en] at e1
    cases e1
    exact ⟨d, ed, fd, F, F.binds (B.at_ ed)⟩
  glob := fun X hK hw hm y hy x v e => by
    have q := T.globs.at_ e
    cases v with
    | fn i =>
      have q' : ds[i]?.map (·.x) = some x := q
      cases ed : ds[i]? with
      | none => rw [ed] at q'; cases q'
      | some d =>
        rw [ed] at q'
        have ex : d.x = x := Option.some.inj q'
        subst ex
        obtain ⟨f, fd, e1, F⟩ := T.defs.at_ ed
        exact ⟨f, by rw [hy]; exact faOf_at ed e1, by rw [hm]; exact PySem.W.mg_of KX ns e1⟩
    | gen i =>
      have q' : ds[i]?.map (·.x) = some x := q
      cases ed : ds[i]? with
      | none => rw [ed] at q'; cases q'
      | some d =>
        rw [ed] at q'
        have ex : d.x = x := Option.some.inj q'
        subst ex
        obtain ⟨f, fd, e1, F⟩ := T.defs.at_ ed
        exact ⟨f, by rw [hy]; exact faOf_at ed e1, by rw [hm]; exact PySem.W.mg_of KX ns e1⟩
    | bltn => show X.mg x = none; rw [hm]; exact PySem.W.mg_none_of KX ns q
    | cst d =>
      obtain ⟨v, u, q1, q2, q3⟩ := q
      exact ⟨u, v, by rw [hm]; exact PySem.W.mg_of KX ns q3, q2, fun Hh O => CstV.rv d v (by rw [hy]; exact q1)⟩
    | fdic tbl =>
      obtain ⟨a, es, n, q1, q2, q3, q4⟩ := q
      refine ⟨a, by rw [hm]; exact PySem.W.mg_of KX ns q1, fun s i es' => ?_⟩
      obtain ⟨f, f1, f2⟩ := q4.at_ es'
      exact ⟨f, by rw [hy]; exact f1, es, n, .ref f, by rw [hK]; exact q2, by rw [hw]; exact q3, by rw [hK]; exact f2, rfl⟩
    | xc i =>
      have e1 : xs[i]? = some x := q
      obtain ⟨C, e2, ok⟩ := T.xcs.at_ e1
      exact ⟨C, xcOf_at e1 e2, by rw [hm]; exact PySem.W.mg_of KX ns e2, by rw [hK]; exact ok⟩
  hd := fun X hK hm T' cs e => by
    obtain ⟨c, h1, h2, h3⟩ := T.hds.at_ e
    refine ⟨c, ?_, h2, fun i C ec => by rw [hK]; exact (h3 i C ec).1, fun i C ec => by rw [hK]; exact (h3 i C ec).2⟩
    rcases h1 with ⟨D, e1, e2⟩ | ⟨n, e1, e2, e3⟩
    · exact .inl ⟨D, e1, by rw [hm]; exact PySem.W.mg_of KX ns e2⟩
    · exact .inr ⟨n, e1, by rw [hm]; exact PySem.W.mg_none_of KX ns e2, e3⟩
  xcs := fun i C e => by
    obtain ⟨x, ex, en⟩ := xcOf_some e
    obtain ⟨C', e2, ok⟩ := T.xcs.at_ ex
    rw [en] at e2
    cases e2
    exact ok.is
theorem cx_nil {P : Program} {w : World} {H : Hp} {s : Shared} {e : Value} {s' : Shared} (h : L2.CX P w [] H s (fun _ _ _ => False) e s') : False := by
  obtain ⟨_, _, _, _, _, _, _, _, _, _, _, _, z⟩ := h
  exact z
theorem only_ro {K : PySem.W.Frag} {H : Hp} {a : Addr} {xs : List V} (o : Only H) (h : SqL K H a xs) : RoAt K H (fun _ => False) a xs := by
  rcases h with (h | ⟨ob, h⟩) | h
  · rcases o a with e | ⟨ob, u, e⟩
    · rw [h] at e; cases e
    · rw [h] at e; cases e
  · exact .inl ⟨ob, h, id⟩
  · exact .inr h
/-- the law, of the evaluator: at every script it answers True -/
def LawE (P : Prog) (k i : Nat) : Prop := ∀ ns : List Int, ns.length ≤ 63 → ∃ us, callF P k i [.ro ns] = some (.ok (.bl true) us)
theorem walk {l : PySem.W.OpenLaw} {q : Program} {loose : List Str} {XP : (Str → Option Value) → Heap → Prop} {YP : World → Heap → Prop} {d : DefRec} {K : Params → PySem.W.Frag} {ds : List DefT} {xs : List Str} {G : List (Str × Gv)} {Hd : List (Str × List Nat)} {fs : List Fn} {XS : List XCls} {gs : List (Nat × Gn)} {k i : Nat} {dl : DefT}
    (hn : l.most = some 63) (hdf : d.params.defaults = []) (hr : Room (4 * k) callerA) (D : DefsOk G Hd XS gs 0 ds fs) (B : BindsOk ds) (hl : ds[i]? = some dl) (hp : dl.ps = [Str.ofString "script"]) (hx : d.name = dl.x) (L : LawE ⟨fs, XS, gs⟩ k i)
    (hY : ∀ (w : World) (h : Heap), YP w h → (K w.params).In h) (T : ∀ w : World, TopAt w.params (K w.params) ds xs G Hd) :
    PySem.W.WalkO q loose XP YP l.row.toRowW d [] (fun f vs => PySem.call f vs) := by
  refine L2.walk_of (n := 63) (k := 4 * k) (x := "script") (CX := fun w => L2.CX l.prog w) (sp := fun w => spI (zOf (K w.params) ds) (xcOf (K w.params) xs) (call ⟨fs, XS, gs⟩ k) i) hn (by decide) hdf hr hY (fun w mg fa h KX G1 hm => ?_) (fun w H a ns hz hO hS => ?_) fun w H s e s' z => cx_nil z
  · obtain ⟨f, fd, e1, F⟩ := (T w).defs.at_ hl
    have e := PySem.W.mg_of KX G1 e1
    rw [← hx, hm] at e
    cases e
    refine ⟨fd, fun s u => ?_, fun base KB NB => ?_⟩
    · have b := B.at_ hl
      obtain ⟨oc, od, kV, doc, pm, an, cdv, ct, osl, rfl, lk, hcd⟩ := F.ex
      have q := b kV doc pm an cdv ct [u] (by rw [hp]; rfl)
      rw [hp] at q
      exact .of_eq q
    · have q := fns_ok (P := l.prog) (w := w) (base := base) (top_ok (T w) B KB NB) D k i fa dl fd (faOf_at hl e1) hl F
      rw [hp] at q
      exact q
  · obtain ⟨us, e⟩ := L ns hz
    refine ⟨fun _ => False, fun _ => False, [.ro ns], [], ⟨⟨[], ⟨rfl, rfl⟩, List.nodup_nil, fun a ha => by cases ha⟩, fun a ha => (by cases ha), fun a h => h, fun a h => h.elim, fun _ _ e => (by cases e), fun _ _ e => (by cases e)⟩, RVs.one (by simp only [RV]; exact ⟨trivial, a, rfl, only_ro hO hS⟩), ?_⟩
    show GoC _ _ _ _ _ _ (callF ⟨fs, XS, gs⟩ k i [.ro ns]) _ _
    rw [e]
    intro H' O' v A B' _ _ rv _
    simp only [RV] at rv
    rw [rv.1]
theorem fdic_mk {Pm : Params} {K : PySem.W.Frag} {ds : List DefT} {xs : List Str} {x : Str} {tbl : List (List Char × Nat)} {a : Addr} {es : Array DictEntry} {n : Nat} (q1 : PySem.W.nsIn K mainGlobals x = some (some (.ref a))) (q2 : K.lookup a = some ⟨.type "dict", none, .dict es n, #[]⟩) (q3 : PySem.W.KeysLit Pm es.toList) (q4 : FdAt K ds a tbl) : GlobAt Pm K ds xs x (.fdic tbl) := ⟨a, es, n, q1, q2, q3, q4⟩
theorem fd_nil {K : PySem.W.Frag} {ds : List DefT} {a : Addr} : FdAt K ds a [] := trivial
theorem fd_cons {K : PySem.W.Frag} {ds : List DefT} {a : Addr} {s : List Char} {i : Nat} {r : List (List Char × Nat)} {x z : Str} {f : Addr} (h1 : ds[i]?.map (·.x) = some x) (h2 : PySem.W.nsIn K mainGlobals x = some (some (.ref f))) (h3 : PySem.W.nsIn K a z = some (some (.ref f))) (e : strV s = z) (h4 : FdAt K ds a r) : FdAt K ds a ((s, i) :: r) := ⟨⟨x, f, h1, h2, by rw [e]; exact h3⟩, h4⟩
theorem glob_int {K : PySem.W.Frag} {ds : List DefT} {xs : List Str} {x : Str} {i : Int} {t : Tok} (q : PySem.W.nsIn K mainGlobals x = some (some (.int i t))) {Pm : Params} : GlobAt Pm K ds xs x (.cst (.int i)) := ⟨.int i, .int i t, by simp [CstV], ⟨t, rfl⟩, q⟩
theorem glob_str {K : PySem.W.Frag} {ds : List DefT} {xs : List Str} {x z : Str} {s : List Char} {t : Tok} (q : PySem.W.nsIn K mainGlobals x = some (some (.str z t))) (e : strV s = z) {Pm : Params} : GlobAt Pm K ds xs x (.cst (.str s)) := ⟨.str (strV s), .str z t, by simp [CstV], ⟨t, by rw [e]⟩, q⟩
end PV

/-! V6: running the evaluator by hand: calls, loops. -/
namespace PV
theorem log2_nat {n : Nat} (h : n < 18446744073709551616) : n.log2 < 9000 := by
  by_cases h1 : n = 0
  · subst h1; decide
  rw [Nat.log2_lt h1]
  have : n < 2 ^ 64 := by omega
  exact Nat.lt_of_lt_of_le this (Nat.pow_le_pow_right (n := 2) (by decide) (by decide : 64 ≤ 9000))
theorem SZv : SZ = 16777216 := by unfold SZ; rfl
theorem ibeq (a b : Int) : (a == b) = decide (a = b) := by
  by_cases h : a = b
  · subst h; simp
  · simp [h]
theorem rng_one : List.range 1 = [0] := rfl
theorem rng_two : List.range 2 = [0, 1] := rfl
theorem rng_three : List.range 3 = [0, 1, 2] := rfl
theorem rng_four : List.range 4 = [0, 1, 2, 3] := rfl
theorem rng_five : List.range 5 = [0, 1, 2, 3, 4] := rfl
theorem rng_six : List.range 6 = [0, 1, 2, 3, 4, 5] := rfl
/-! ### calls -/
/-- how a def ends -/
def fin (re : List Nat) (ws : List W) : Option Out → Option CR
  | some (.ok (.nx σ)) => match outsFrom re σ 0 ws with
    | some us => some (.ok .non us)
    | none => none
  | some (.ok (.rt w σ)) => match outsFrom re σ 0 ws with
    | some us => some (.ok w us)
    | none => none
  | some (.ex x σ) => match outsFrom re σ 0 ws with
    | some us => some (.ex x us)
    | none => none
  | _ => none
section
variable {P : Prog} {k f : Nat} {fn : Fn} {ws : List W}
theorem call_eq (hf : P.fns[f]? = some fn) (hl : ws.length = fn.ps) : callF P (k + 1) f ws = fin fn.re ws (exec P.xs ⟨callF P k, none, fixed fn.ps fn.re, genOf P (callF P k)⟩ fn.body (start fn.n ws)) := by
  conv => lhs; unfold callF
  rw [hf]
  simp only [if_pos hl]
  cases exec P.xs ⟨callF P k, none, fixed fn.ps fn.re, genOf P (callF P k)⟩ fn.body (start fn.n ws) with
  | none => rfl
  | some o => cases o with
    | ex x σ => rfl
    | ok fl => cases fl <;> rfl
end
/-! ### loops -/
section
variable {fx : List Nat} {tg : T} {wp : List Nat} {b : St → Option Out}
/-- a for that may end early: R: what is then so -/
theorem for_or (xs : List Item) (I : Nat → St → Prop) (R : Out → Prop)
    (step : ∀ i x σ, xs[i]? = some x → I i σ → ∃ σ1, take fx tg x σ = some σ1 ∧ ((∃ σ2, (b σ1 = some (.ok (.nx σ2)) ∨ b σ1 = some (.ok (.ct σ2))) ∧ I (i + 1) (wipe σ2 wp)) ∨
      (∃ σ2, b σ1 = some (.ok (.bk σ2)) ∧ R (.ok (.nx (wipe σ2 wp)))) ∨ (∃ w σ2, b σ1 = some (.ok (.rt w σ2)) ∧ R (.ok (.rt w σ2))) ∨ (∃ x σ2, b σ1 = some (.ex x σ2) ∧ R (.ex x σ2))))
    (last : ∀ σ, I xs.length σ → R (.ok (.nx σ))) : ∀ (σ : St), I 0 σ → ∃ o, forL fx tg wp b xs σ = some o ∧ R o := by
  have gen : ∀ (n i : Nat) (σ : St), xs.length - i = n → i ≤ xs.length → I i σ → ∃ o, forL fx tg wp b (xs.drop i) σ = some o ∧ R o := by
    intro n
    induction n with
    | zero =>
      intro i σ e hi q
      have : i = xs.length := by omega
      subst this
      rw [List.drop_length]
      unfold forL
      exact ⟨_, rfl, last σ q⟩
    | succ n ih =>
      intro i σ e hi q
      have hlt : i < xs.length := by omega
      rw [List.drop_eq_getElem_cons hlt]
      obtain ⟨σ1, e1, e2⟩ := step i _ σ (List.getElem?_eq_getElem hlt) q
      unfold forL
      rw [e1]
      dsimp only
      rcases e2 with ⟨σ2, e2, q2⟩ | ⟨σ2, e2, q2⟩ | ⟨w, σ2, e2, q2⟩ | ⟨x, σ2, e2, q2⟩
      · obtain ⟨o, e3, q3⟩ := ih (i + 1) _ (by omega) (by omega) q2
        refine ⟨o, ?_, q3⟩
        rcases e2 with e2 | e2
        · rw [e2]; exact e3
        · rw [e2]; exact e3
      · rw [e2]; exact ⟨_, rfl, q2⟩
      · rw [e2]; exact ⟨_, rfl, q2⟩
      · rw [e2]; exact ⟨_, rfl, q2⟩
  intro σ q
  have := gen xs.length 0 σ (by omega) (by omega) q
  simpa using this
/-- a for whose turns all go on: I i: after i turns -/
theorem for_ind (xs : List Item) (I : Nat → St → Prop)
    (step : ∀ i x σ, xs[i]? = some x → I i σ → ∃ σ1, take fx tg x σ = some σ1 ∧ ∃ σ2, (b σ1 = some (.ok (.nx σ2)) ∨ b σ1 = some (.ok (.ct σ2))) ∧ I (i + 1) (wipe σ2 wp)) :
    ∀ (σ : St), I 0 σ → ∃ σ', forL fx tg wp b xs σ = some (.ok (.nx σ')) ∧ I xs.length σ' := by
  intro σ q
  obtain ⟨o, e, σ', rfl, q2⟩ := for_or (fx := fx) (tg := tg) (wp := wp) (b := b) xs I (fun o => ∃ σ', o = .ok (.nx σ') ∧ I xs.length σ') (fun i x σ ex q => by
    obtain ⟨σ1, e1, e2⟩ := step i x σ ex q
    exact ⟨σ1, e1, .inl e2⟩) (fun σ q => ⟨σ, rfl, q⟩) σ q
  exact ⟨σ', e, q2⟩
/-- a for as a fold -/
theorem for_fold {α β : Type} (item : β → Item) (enc : α → St) (f : α → β → α) (Inv : α → Prop) : ∀ (xs : List β) (a : α),
    (∀ a x, x ∈ xs → Inv a → Inv (f a x) ∧ ∃ σ1, take fx tg (item x) (enc a) = some σ1 ∧ ∃ σ2, (b σ1 = some (.ok (.nx σ2)) ∨ b σ1 = some (.ok (.ct σ2))) ∧ wipe σ2 wp = enc (f a x)) → Inv a →
    forL fx tg wp b (xs.map item) (enc a) = some (.ok (.nx (enc (xs.foldl f a)))) ∧ Inv (xs.foldl f a)
  | [], a, _, h => ⟨by rw [List.map_nil]; unfold forL; rfl, h⟩
  | x :: xs, a, step, h => by
    obtain ⟨h', σ1, e1, σ2, e2, e3⟩ := step a x List.mem_cons_self h
    obtain ⟨q1, q2⟩ := for_fold item enc f Inv xs (f a x) (fun a y hy => step a y (List.mem_cons_of_mem _ hy)) h'
    refine ⟨?_, q2⟩
    rw [List.map_cons]
    unfold forL
    rw [e1]
    dsimp only
    rcases e2 with e2 | e2
    · rw [e2]; dsimp only; rw [e3]; exact q1
    · rw [e2]; dsimp only; rw [e3]; exact q1
/-- a fold that may stop -/
def foldE {α β ε : Type} (f : α → β → ε ⊕ α) : List β → α → ε ⊕ α
  | [], a => .inr a
  | x :: xs, a => match f a x with
    | .inl o => .inl o
    | .inr a' => foldE f xs a'
theorem for_foldE {α β ε : Type} (item : β → Item) (enc : α → St) (f : α → β → ε ⊕ α) (R : ε → Out → Prop) (Inv : α → Prop) : ∀ (xs : List β) (a : α),
    (∀ a x, x ∈ xs → Inv a → ∃ σ1, take fx tg (item x) (enc a) = some σ1 ∧ match f a x with
      | .inr a' => Inv a' ∧ ∃ σ2, (b σ1 = some (.ok (.nx σ2)) ∨ b σ1 = some (.ok (.ct σ2))) ∧ wipe σ2 wp = enc a'
      | .inl o => (∃ w σ2, b σ1 = some (.ok (.rt w σ2)) ∧ R o (.ok (.rt w σ2))) ∨ (∃ x σ2, b σ1 = some (.ex x σ2) ∧ R o (.ex x σ2)) ∨ (∃ σ2, b σ1 = some (.ok (.bk σ2)) ∧ R o (.ok (.nx (wipe σ2 wp))))) → Inv a →
    ∃ o, forL fx tg wp b (xs.map item) (enc a) = some o ∧ match foldE f xs a with
      | .inr a' => o = .ok (.nx (enc a')) ∧ Inv a'
      | .inl e => R e o
  | [], a, _, h => ⟨_, by rw [List.map_nil]; unfold forL; rfl, rfl, h⟩
  | x :: xs, a, step, h => by
    obtain ⟨σ1, e1, e2⟩ := step a x List.mem_cons_self h
    rw [List.map_cons]
    unfold forL foldE
    rw [e1]
    dsimp only
    cases ef : f a x with
    | inl o =>
      rw [ef] at e2
      rcases e2 with ⟨w, σ2, e2, r⟩ | ⟨y, σ2, e2, r⟩ | ⟨σ2, e2, r⟩
      · rw [e2]; exact ⟨_, rfl, r⟩
      · rw [e2]; exact ⟨_, rfl, r⟩
      · rw [e2]; exact ⟨_, rfl, r⟩
    | inr a' =>
      rw [ef] at e2
      obtain ⟨h', σ2, e2, e3⟩ := e2
      obtain ⟨o, q1, q2⟩ := for_foldE item enc f R Inv xs a' (fun a y hy => step a y (List.mem_cons_of_mem _ hy)) h'
      refine ⟨o, ?_, q2⟩
      rcases e2 with e2 | e2
      · rw [e2]; dsimp only; rw [e3]; exact q1
      · rw [e2]; dsimp only; rw [e3]; exact q1
theorem fuel_big {m : Nat} (h : m < 1000000000000) : ∃ n, FUEL = m + 1 + n := ⟨FUEL - (m + 1), by
  have : FUEL = 18446744073709551616 := by unfold FUEL; rfl
  omega⟩
/-- a while: m measures what is left -/
theorem whl_ind {c : M Bool} (I : Nat → St → Prop)
    (step : ∀ m σ, I m σ → (∃ σ1, c σ = some (.ok false σ1) ∧ I 0 σ1) ∨ (0 < m ∧ ∃ σ1 σ2, c σ = some (.ok true σ1) ∧ (b σ1 = some (.ok (.nx σ2)) ∨ b σ1 = some (.ok (.ct σ2))) ∧ I (m - 1) (wipe σ2 wp))) :
    ∀ (m n : Nat) (σ : St), I m σ → ∃ σ', whlL wp c b (m + 1 + n) σ = some (.ok (.nx σ')) ∧ I 0 σ' := by
  intro m
  induction m with
  | zero =>
    intro n σ q
    rcases step 0 σ q with ⟨σ1, e, z⟩ | ⟨z, _⟩
    · refine ⟨σ1, ?_, z⟩
      rw [show 0 + 1 + n = n + 1 by omega]
      unfold whlL onE
      rw [e]
    · omega
  | succ m ih =>
    intro n σ q
    rcases step (m + 1) σ q with ⟨σ1, e, z⟩ | ⟨_, σ1, σ2, e, e2, q2⟩
    · refine ⟨σ1, ?_, z⟩
      rw [show m + 1 + 1 + n = (m + 1 + n) + 1 by omega]
      unfold whlL onE
      rw [e]
    · obtain ⟨σ', e3, q3⟩ := ih n _ q2
      refine ⟨σ', ?_, q3⟩
      rw [show m + 1 + 1 + n = (m + 1 + n) + 1 by omega]
      unfold whlL onE
      rw [e]
      dsimp only
      rcases e2 with e2 | e2
      · rw [e2]; exact e3
      · rw [e2]; exact e3
/-- a comprehension; I i acc σ: after i turns -/
theorem comp_ind {c : M Bool} {e : M W} (xs : List Item) (I : Nat → List W → St → Prop)
    (step : ∀ i x acc σ, xs[i]? = some x → I i acc σ → ∃ σ1, take fx tg x (wipe σ wp) = some σ1 ∧ ((∃ σ2, c σ1 = some (.ok false σ2) ∧ I (i + 1) acc (wipe σ2 wp)) ∨
      ∃ σ2 w σ3, c σ1 = some (.ok true σ2) ∧ e σ2 = some (.ok w σ3) ∧ acc.length < SZ ∧ I (i + 1) (acc ++ [w]) (wipe σ3 wp))) :
    ∀ (acc : List W) (σ : St), I 0 acc σ → ∃ acc' σ', compL fx tg wp c e xs acc σ = some (.ok acc' σ') ∧ I xs.length acc' σ' := by
  have gen : ∀ (n i : Nat) (acc : List W) (σ : St), xs.length - i = n → i ≤ xs.length → I i acc σ → ∃ acc' σ', compL fx tg wp c e (xs.drop i) acc σ = some (.ok acc' σ') ∧ I xs.length acc' σ' := by
    intro n
    induction n with
    | zero =>
      intro i acc σ e hi q
      have : i = xs.length := by omega
      subst this
      rw [List.drop_length]
      unfold compL
      exact ⟨acc, σ, rfl, q⟩
    | succ n ih =>
      intro i acc σ e hi q
      have hlt : i < xs.length := by omega
      rw [List.drop_eq_getElem_cons hlt]
      obtain ⟨σ1, e1, e2⟩ := step i _ acc σ (List.getElem?_eq_getElem hlt) q
      unfold compL
      rw [e1]
      dsimp only
      rcases e2 with ⟨σ2, e2, q2⟩ | ⟨σ2, w, σ3, e2, e3, e5, q2⟩
      · obtain ⟨acc', σ', e3, q3⟩ := ih (i + 1) acc _ (by omega) (by omega) q2
        exact ⟨acc', σ', by rw [e2]; exact e3, q3⟩
      · obtain ⟨acc', σ', e6, q6⟩ := ih (i + 1) _ _ (by omega) (by omega) q2
        refine ⟨acc', σ', ?_, q6⟩
        rw [e2]
        dsimp only
        rw [e3]
        dsimp only
        rw [if_pos e5]
        exact e6
  intro acc σ q
  have := gen xs.length 0 acc σ (by omega) (by omega) q
  simpa using this
/-- a comprehension that leaves the slots as they are -/
theorem comp_pure {β : Type} {c : M Bool} {e : M W} (item : β → Item) (p : β → Bool) (f : β → W) (σ : St) : ∀ (xs : List β) (acc : List W), acc.length + xs.length ≤ 16777216 →
    (∀ x ∈ xs, ∃ σ1, take fx tg (item x) (wipe σ wp) = some σ1 ∧ ∃ σ2, c σ1 = some (.ok (p x) σ2) ∧ (p x = false → wipe σ2 wp = σ) ∧ (p x = true → ∃ σ3, e σ2 = some (.ok (f x) σ3) ∧ wipe σ3 wp = σ)) →
    compL fx tg wp c e (xs.map item) acc σ = some (.ok (acc ++ (xs.filter p).map f) σ)
  | [], acc, _, _ => by simp [compL]
  | x :: xs, acc, hl, h => by
    obtain ⟨σ1, e1, σ2, e2, e3, e4⟩ := h x List.mem_cons_self
    rw [List.map_cons]
    unfold compL
    rw [e1]
    dsimp only
    rw [List.length_cons] at hl
    cases hp : p x with
    | false =>
      rw [e2, hp]
      dsimp only
      rw [e3 hp, comp_pure item p f σ xs acc (by omega) fun y hy => h y (List.mem_cons_of_mem _ hy)]
      simp [hp]
    | true =>
      obtain ⟨σ3, e5, e6⟩ := e4 hp
      rw [e2, hp]
      dsimp only
      rw [e5]
      dsimp only
      rw [if_pos (by rw [SZv]; omega), e6, comp_pure item p f σ xs (acc ++ [f x]) (by rw [List.length_append, List.length_singleton]; omega) fun y hy => h y (List.mem_cons_of_mem _ hy)]
      simp [hp]
end
theorem pk_var (i : Nat) (m : M W) : pk (.var i) m = fun σ => match σ[i]? with
    | some (some _) => some (.ok (.at i) σ)
    | _ => none := rfl
theorem pk_mov (i : Nat) (mm : M W) : pk (.mov i) mm = mm.bind fun w => M.pure (.val w) := rfl
theorem pk_cst (d : D) (mm : M W) : pk (.cst d) mm = mm.bind fun w => M.pure (.val w) := rfl
theorem pk_fnv (i : Nat) (mm : M W) : pk (.fnv i) mm = mm.bind fun w => M.pure (.val w) := rfl
theorem pk_bin (o : BOp) (a b : E) (mm : M W) : pk (.bin o a b) mm = mm.bind fun w => M.pure (.val w) := rfl
theorem pk_cmp (o : COp) (a b : E) (mm : M W) : pk (.cmp o a b) mm = mm.bind fun w => M.pure (.val w) := rfl
theorem pk_ch2 (o p : COp) (a b c : E) (mm : M W) : pk (.ch2 o p a b c) mm = mm.bind fun w => M.pure (.val w) := rfl
theorem pk_neg (a : E) (mm : M W) : pk (.neg a) mm = mm.bind fun w => M.pure (.val w) := rfl
theorem pk_not (a : E) (mm : M W) : pk (.not a) mm = mm.bind fun w => M.pure (.val w) := rfl
theorem pk_and (a b : E) (mm : M W) : pk (.and a b) mm = mm.bind fun w => M.pure (.val w) := rfl
theorem pk_or (a b : E) (mm : M W) : pk (.or a b) mm = mm.bind fun w => M.pure (.val w) := rfl
theorem pk_ife (c a b : E) (mm : M W) : pk (.ife c a b) mm = mm.bind fun w => M.pure (.val w) := rfl
theorem pk_tup (es : Es) (mm : M W) : pk (.tup es) mm = mm.bind fun w => M.pure (.val w) := rfl
theorem pk_lst (es : Es) (mm : M W) : pk (.lst es) mm = mm.bind fun w => M.pure (.val w) := rfl
theorem pk_ix (a b : E) (mm : M W) : pk (.ix a b) mm = mm.bind fun w => M.pure (.val w) := rfl
theorem pk_sl (a : E) (lo hi : Eo) (mm : M W) : pk (.sl a lo hi) mm = mm.bind fun w => M.pure (.val w) := rfl
theorem pk_call (f : Nat) (es : Es) (mm : M W) : pk (.call f es) mm = mm.bind fun w => M.pure (.val w) := rfl
theorem pk_callv (f : Nat) (es : Es) (mm : M W) : pk (.callv f es) mm = mm.bind fun w => M.pure (.val w) := rfl
theorem pk_fdx (t : List (List Char × Nat)) (e : E) (mm : M W) : pk (.fdx t e) mm = mm.bind fun w => M.pure (.val w) := rfl
theorem pk_appAt (o : Nat) (i e : E) (mm : M W) : pk (.appAt o i e) mm = mm.bind fun w => M.pure (.val w) := rfl
theorem pk_blt (b : BI) (es : Es) (mm : M W) : pk (.blt b es) mm = mm.bind fun w => M.pure (.val w) := rfl
theorem pk_mut (m : MV) (i : Nat) (es : Es) (mm : M W) : pk (.mut m i es) mm = mm.bind fun w => M.pure (.val w) := rfl
theorem pk_meth (m : MI) (o : E) (es : Es) (mm : M W) : pk (.meth m o es) mm = mm.bind fun w => M.pure (.val w) := rfl
theorem pk_isin (a : E) (ts : List Ty) (mm : M W) : pk (.isin a ts) mm = mm.bind fun w => M.pure (.val w) := rfl
theorem pk_isx (cs : List Nat) (mm : M W) : pk (.isx cs) mm = mm.bind fun w => M.pure (.val w) := rfl
theorem pk_xfld (i : Nat) (mm : M W) : pk (.xfld i) mm = mm.bind fun w => M.pure (.val w) := rfl
theorem pk_ev {C : Calls} {e : E} {σ σ' : St} {w : W} (h : isVar e = false) (he : ev C e σ = some (.ok w σ')) : pk e (ev C e) σ = some (.ok (.val w) σ') := by
  rw [pk_of h]
  unfold M.bind M.pure
  rw [he]
abbrev cl (P : Prog) (k : Nat) (fx : List Nat) : Calls := ⟨callF P k, none, fx, genOf P (callF P k)⟩
theorem comp_of {C : Calls} {e : E} {tg : T} {it : It} {c : Eo} {wp : List Nat} {σ σ1 σ2 : St} {xs : List Item} {ws : List W} (h1 : evI C it σ = some (.ok xs σ1)) (h2 : compL C.fx tg wp (evC C c) (ev C e) xs [] σ1 = some (.ok ws σ2)) : ev C (.comp e tg it c wp) σ = some (.ok (.lst true ws) σ2) := by
  unfold ev M.bind M.pure
  rw [h1]
  dsimp only
  rw [h2]
theorem for_of {X : List XCls} {C : Calls} {tg : T} {it : It} {b : S} {wp : List Nat} {σ σ1 : St} {xs : List Item} {o : Out} (h1 : evI C it σ = some (.ok xs σ1)) (h2 : forL C.fx tg wp (fun σ => exec X C b σ) xs σ1 = some o) : exec X C (.for tg it b wp) σ = some o := by
  unfold exec onE
  rw [h1]
  exact h2
theorem forG_of {X : List XCls} {C : Calls} {tg : T} {f : Nat} {es : Es} {b : S} {wp : List Nat} {σ σ1 : St} {ws xs : List W} {o : Out} (h1 : evs C es σ = some (.ok ws σ1)) (hf : W.frzs ws = true) (hg : C.g f ws = some xs) (h2 : forL C.fx tg wp (fun σ => exec X C b σ) (xs.map Item.one) σ1 = some o) : exec X C (.forG tg f es b wp) σ = some o := by
  unfold exec onE
  rw [h1]
  dsimp only
  rw [if_pos hf, hg]
  exact h2
theorem whl_of {X : List XCls} {C : Calls} {c : E} {b : S} {wp : List Nat} {σ : St} {o : Out} (h2 : whlL wp (evT C c) (fun σ => exec X C b σ) FUEL σ = some o) : exec X C (.whl c b wp) σ = some o := by
  unfold exec
  exact h2
theorem rng_at {lo : Int} {n : Nat} {c : Int} {i : Nat} {x : Item} (e : (rngItems lo n c)[i]? = some x) : i < n ∧ x = .one (.int (lo + (i : Int) * c)) := rng_get e
theorem rng_n {lo : Int} {n : Nat} {c : Int} : (rngItems lo n c).length = n := by unfold rngItems; simp
theorem rng0 {j : Int} (h0 : 0 ≤ j) (h1 : j ≤ 10000000000) : rngWalk 0 j = some (rngItems 0 j.toNat 1) := by
  unfold rngWalk
  unfold big
  rw [if_pos ⟨by omega, by omega⟩, Int.sub_zero]
theorem rng0n {n : Nat} (h1 : n ≤ 10000000000) : rngWalk 0 (n : Int) = some ((List.range n).map fun i : Nat => .one (.int i)) := by
  rw [rng0 (by omega) (by omega)]
  unfold rngItems
  simp
/-! ### data -/
theorem frzs_append {a b : List W} : W.frzs (a ++ b) = (W.frzs a && W.frzs b) := by
  induction a with
  | nil => simp [W.frzs]
  | cons x a ih => simp [W.frzs, ih, Bool.and_assoc]
theorem frzs_all {a : List W} : W.frzs a = true ↔ ∀ x ∈ a, x.frz = true := by
  induction a with
  | nil => simp [W.frzs]
  | cons x a ih => simp [W.frzs, ih]
theorem dats_all {a : List W} : W.dats a = true ↔ ∀ x ∈ a, x.dat = true := by
  induction a with
  | nil => simp [W.dats]
  | cons x a ih => simp [W.dats, ih]
theorem frzs_map {α : Type} {f : α → W} (h : ∀ x, (f x).frz = true) (a : List α) : W.frzs (a.map f) = true := frzs_all.mpr fun x hx => by
  obtain ⟨y, _, rfl⟩ := List.mem_map.mp hx
  exact h y
theorem frzs_strs {l : List (List Char)} : W.frzs (l.map W.str) = true := frzs_map (fun _ => rfl) l
theorem frzs_ints {l : List Int} : W.frzs (l.map W.int) = true := frzs_map (fun _ => rfl) l
theorem fzs_strs : ∀ {l : List (List Char)}, W.fzs (l.map W.str) = l.map W.str
  | [] => rfl
  | s :: l => by simp [W.fzs, W.fz, fzs_strs (l := l)]
theorem fzs_ints : ∀ {l : List Int}, W.fzs (l.map W.int) = l.map W.int
  | [] => rfl
  | s :: l => by simp [W.fzs, W.fz, fzs_ints (l := l)]
theorem depths_le {n : Nat} {a : List W} : W.depths a ≤ n ↔ ∀ x ∈ a, x.depth ≤ n := by
  induction a with
  | nil => simp [W.depths]
  | cons x a ih => simp only [W.depths, List.mem_cons, forall_eq_or_imp, ← ih]; omega
mutual
theorem fz_frz : ∀ w : W, w.frz = true → w.fz = w
  | .non, _ => rfl
  | .bl _, _ => rfl
  | .int _, _ => rfl
  | .str _, _ => rfl
  | .ro _, _ => rfl
  | .fn _, _ => rfl
  | .tup ws, h => by simp only [W.frz] at h; simp only [W.fz, fzs_frz ws h]
  | .lst o ws, h => by simp only [W.frz, Bool.and_eq_true, Bool.not_eq_true'] at h; simp only [W.fz, fzs_frz ws h.2, h.1]
  | .dic o ks vs, h => by simp only [W.frz, Bool.and_eq_true, Bool.not_eq_true'] at h; simp only [W.fz, fzs_frz ks h.2.1, fzs_frz vs h.2.2, h.1]
  | .ins o c fs, h => by simp only [W.frz, Bool.and_eq_true, Bool.not_eq_true'] at h; simp only [W.fz, fzs_frz fs h.2, h.1]
theorem fzs_frz : ∀ w : List W, W.frzs w = true → W.fzs w = w
  | [], _ => rfl
  | w :: ws, h => by simp only [W.frzs, Bool.and_eq_true] at h; simp only [W.fzs, fz_frz w h.1, fzs_frz ws h.2]
end
mutual
theorem pyEq_refl : ∀ d : W, d.dat = true → pyEq d d = true
  | .non, _ => rfl
  | .bl b, _ => by unfold pyEq; simp
  | .int i, _ => by unfold pyEq; simp
  | .str s, _ => by unfold pyEq; simp
  | .tup ds, h => by unfold pyEq; exact pyEqs_refl ds (by simpa only [W.dat] using h)
  | .lst _ ds, h => by unfold pyEq; exact pyEqs_refl ds (by simpa only [W.dat] using h)
  | .dic _ _ _, h => by simp [W.dat] at h
  | .ins _ _ _, h => by simp [W.dat] at h
  | .ro _, h => by simp [W.dat] at h
  | .fn _, h => by simp [W.dat] at h
theorem pyEqs_refl : ∀ d : List W, W.dats d = true → pyEqs d d = true
  | [], _ => rfl
  | d :: ds, h => by
    simp only [W.dats, Bool.and_eq_true] at h
    unfold pyEqs; rw [pyEq_refl d h.1, pyEqs_refl ds h.2]; rfl
end

/-! ### the pool of figures that all laws draw from -/
def takeFn : Fn := ⟨5, 2, [],
  (.seq (.setI 0 (.cst (.int 1)) (.bin .add (.ix (.var 0) (.cst (.int 1))) (.cst (.int 1))))
  (.seq (.ife (.cmp .eq (.ix (.var 0) (.cst (.int 2))) (.cst (.int 1)))
    (.seq (.set 2 (.bin .mod (.blt .int (.cons (.ix (.var 0) (.cst (.int 0))) .nil)) (.var 1)))
    (.seq (.setI 0 (.cst (.int 0)) (.bin .fdiv (.ix (.var 0) (.cst (.int 0))) (.var 1)))
    (.ret (.some (.mov 2)))))
    .skip)
  (.seq (.set 3 (.bin .mod (.blt .int (.cons (.bin .add (.bin .add (.bin .mul (.ix (.var 0) (.cst (.int 3))) (.cst (.int 48271))) (.bin .mul (.ix (.var 0) (.cst (.int 1))) (.cst (.int 69621)))) (.cst (.int 11))) .nil)) (.cst (.int 2147483647))))
  (.seq (.set 4 (.bin .mod (.blt .int (.cons (.bin .add (.bin .add (.bin .mul (.var 3) (.cst (.int 16807))) (.bin .fdiv (.var 3) (.cst (.int 65536)))) (.bin .mul (.bin .mul (.ix (.var 0) (.cst (.int 1))) (.ix (.var 0) (.cst (.int 1)))) (.cst (.int 40692)))) .nil)) (.cst (.int 2147483399))))
  (.ret (.some (.bin .mod (.blt .int (.cons (.bin .fdiv (.var 4) (.bin .add (.ix (.var 0) (.cst (.int 1))) (.cst (.int 6)))) .nil)) (.var 1))))))))⟩
def poolFn (t : Int) : Fn := ⟨3, 2, [],
  (.seq (.set 2 (.cst (.int 0)))
  (.seq (.ife (.cmp .lt (.var 1) (.blt .len (.cons (.var 0) .nil)))
    (.set 2 (.blt .abs (.cons (.blt .int (.cons (.ix (.var 0) (.var 1)) .nil)) .nil)))
    .skip)
  (.ret (.some (.lst (.cons (.var 2) (.cons (.cst (.int 0)) (.cons (.blt .int (.cons (.cmp .ge (.var 2) (.bin .pow (.cst (.int 10)) (.cst (.int 18)))) .nil)) (.cons (.bin .mod (.blt .int (.cons (.bin .add (.var 2) (.bin .mul (.var 1) (.cst (.int 7919)))) .nil)) (.cst (.int 2147483647))) (.cons (.cst (.int t)) .nil))))))))))⟩
/-- a pool of which at most N figures were taken -/
def Pool (N : Nat) (w : W) : Prop := ∃ a b c d e : Int, w = .lst true [.int a, .int b, .int c, .int d, .int e] ∧ 0 ≤ b ∧ b ≤ N
theorem Pool.mono {N M : Nat} {w : W} (h : Pool N w) (hm : N ≤ M) : Pool M w := by
  obtain ⟨a, b, c, d, e, rfl, h1, h2⟩ := h
  exact ⟨a, b, c, d, e, rfl, h1, by omega⟩
theorem Pool.frz {N : Nat} {w : W} (h : Pool N w) : w.frz = false := by
  obtain ⟨a, b, c, d, e, rfl, h1, h2⟩ := h
  rfl
theorem log2_small {j : Int} (h0 : 0 < j) (h : j < 18446744073709551616) : j.natAbs.log2 < 9000 := log2_nat (by omega)
section
variable {P : Prog} {k i N : Nat} {p : W} {many : Int}
theorem take_ok (hf : P.fns[i]? = some takeFn) (px : Pool N p) (hN : N < 1000000000000) (h0 : 0 < many) (h1 : many < 18446744073709551616) :
    ∃ r p', 0 ≤ r ∧ r < many ∧ Pool (N + 1) p' ∧ callF P (k + 1) i [p, .int many] = some (.ok (.int r) [p', .int many]) := by
  obtain ⟨a, b, c, d, e, rfl, hb0, hb1⟩ := px
  by_cases hc : c = 1
  · refine ⟨a % many, .lst true [.int (a / many), .int (b + 1), .int c, .int d, .int e], Int.emod_nonneg _ (by omega), Int.emod_lt_of_pos _ h0, ⟨_, _, _, _, _, rfl, by omega, by omega⟩, ?_⟩
    rw [call_eq hf rfl]
    simp [takeFn, exec, ev, evT, evs, evPs, evo, evC, evI, pk_var, pk_mov, pk_cst, pk_fnv, pk_bin, pk_cmp, pk_ch2, pk_neg, pk_not, pk_and, pk_or, pk_ife, pk_tup, pk_lst, pk_ix, pk_sl, pk_call, pk_callv, pk_fdx, pk_appAt, fdxW, takeAt, putAt, inAt, appAtW, List.lookup, pk_blt, pk_mut, pk_meth, pk_isin, pk_isx, pk_xfld, M.bind, M.pure, M.opt, M.fail, M.get, M.gets, PV.P.get, onE, okSet, doCall, doMut, mutW, lend, back, binOp, addW, subW, mulW, fdivW, modW, powW, cmpOp, eqW, gtW, ltW, leW, geW, isNonW, W.isNon, bifn, lenW, absW, intW, max2W, min2W, tupleW, listW, allI, datOk, W.depth, W.depths, W.dat, W.dats, W.frz, W.frzs, W.fz, W.fzs, D.w, D.ws, pyEq, pyEqs, getIx, setIx, ixn, augOp, tyAny, tyB, truth, meth, recv, recvL, recvS, start, take, setAll, mulOk, ibeq, SZv, log2_nat, fixed, rng_two, rng_one, rng_three, rng_four, rng_five, rng_six, wipe, outsFrom, fin, mkExc, frzs_strs, frzs_ints, fzs_strs, fzs_ints, seqWalk, hc, h0, log2_small h0 h1]
  · refine ⟨((((d * 48271 + (b + 1) * 69621 + 11) % 2147483647) * 16807 + ((d * 48271 + (b + 1) * 69621 + 11) % 2147483647) / 65536 + (b + 1) * (b + 1) * 40692) % 2147483399 / (b + 1 + 6)) % many, .lst true [.int a, .int (b + 1), .int c, .int d, .int e], Int.emod_nonneg _ (by omega), Int.emod_lt_of_pos _ h0, ⟨_, _, _, _, _, rfl, by omega, by omega⟩, ?_⟩
    have m1 : (b + 1).natAbs < 18446744073709551616 := by omega
    have m2 : 0 < b + 1 + 6 := by omega
    have m3 : (b + 1 + 6).natAbs.log2 < 9000 := log2_small m2 (by omega)
    have m4 : Nat.log2 65536 < 9000 := by decide +kernel
    rw [call_eq hf rfl]
    simp [takeFn, exec, ev, evT, evs, evPs, evo, evC, evI, pk_var, pk_mov, pk_cst, pk_fnv, pk_bin, pk_cmp, pk_ch2, pk_neg, pk_not, pk_and, pk_or, pk_ife, pk_tup, pk_lst, pk_ix, pk_sl, pk_call, pk_callv, pk_fdx, pk_appAt, fdxW, takeAt, putAt, inAt, appAtW, List.lookup, pk_blt, pk_mut, pk_meth, pk_isin, pk_isx, pk_xfld, M.bind, M.pure, M.opt, M.fail, M.get, M.gets, PV.P.get, onE, okSet, doCall, doMut, mutW, lend, back, binOp, addW, subW, mulW, fdivW, modW, powW, cmpOp, eqW, gtW, ltW, leW, geW, isNonW, W.isNon, bifn, lenW, absW, intW, max2W, min2W, tupleW, listW, allI, datOk, W.depth, W.depths, W.dat, W.dats, W.frz, W.frzs, W.fz, W.fzs, D.w, D.ws, pyEq, pyEqs, getIx, setIx, ixn, augOp, tyAny, tyB, truth, meth, recv, recvL, recvS, start, take, setAll, mulOk, ibeq, SZv, log2_nat, fixed, rng_two, rng_one, rng_three, rng_four, rng_five, rng_six, wipe, outsFrom, fin, mkExc, frzs_strs, frzs_ints, fzs_strs, fzs_ints, seqWalk, hc, h0, m1, m2, m3, m4]
theorem pool_ok {ns : List Int} {at_ t : Int} (hf : P.fns[i]? = some (poolFn t)) (h0 : 0 ≤ at_) :
    ∃ p', Pool 0 p' ∧ callF P (k + 1) i [.ro ns, .int at_] = some (.ok p' [.ro ns, .int at_]) := by
  by_cases hl : at_ < (ns.length : Int)
  · have hn : at_.toNat < ns.length := by omega
    have e : ns[at_.toNat]? = some ns[at_.toNat] := List.getElem?_eq_getElem hn
    generalize hv : ns[at_.toNat] = v at e
    refine ⟨.lst true [.int (if v < 0 then -v else v), .int 0, .int (if (1000000000000000000 : Int) ≤ (if v < 0 then -v else v) then 1 else 0), .int (((if v < 0 then -v else v) + at_ * 7919) % 2147483647), .int t], ⟨_, _, _, _, _, rfl, by omega, by omega⟩, ?_⟩
    rw [call_eq hf rfl]
    simp [poolFn, exec, ev, evT, evs, evPs, evo, evC, evI, pk_var, pk_mov, pk_cst, pk_fnv, pk_bin, pk_cmp, pk_ch2, pk_neg, pk_not, pk_and, pk_or, pk_ife, pk_tup, pk_lst, pk_ix, pk_sl, pk_call, pk_callv, pk_fdx, pk_appAt, fdxW, takeAt, putAt, inAt, appAtW, List.lookup, pk_blt, pk_mut, pk_meth, pk_isin, pk_isx, pk_xfld, M.bind, M.pure, M.opt, M.fail, M.get, M.gets, PV.P.get, onE, okSet, doCall, doMut, mutW, lend, back, binOp, addW, subW, mulW, fdivW, modW, powW, cmpOp, eqW, gtW, ltW, leW, geW, isNonW, W.isNon, bifn, lenW, absW, intW, max2W, min2W, tupleW, listW, allI, datOk, W.depth, W.depths, W.dat, W.dats, W.frz, W.frzs, W.fz, W.fzs, D.w, D.ws, pyEq, pyEqs, getIx, setIx, ixn, augOp, tyAny, tyB, truth, meth, recv, recvL, recvS, start, take, setAll, mulOk, ibeq, SZv, log2_nat, fixed, rng_two, rng_one, rng_three, rng_four, rng_five, rng_six, wipe, outsFrom, fin, mkExc, frzs_strs, frzs_ints, fzs_strs, fzs_ints, seqWalk, hl, h0, e, hv]
  · refine ⟨.lst true [.int 0, .int 0, .int 0, .int ((0 + at_ * 7919) % 2147483647), .int t], ⟨_, _, _, _, _, rfl, by omega, by omega⟩, ?_⟩
    rw [call_eq hf rfl]
    simp [poolFn, exec, ev, evT, evs, evPs, evo, evC, evI, pk_var, pk_mov, pk_cst, pk_fnv, pk_bin, pk_cmp, pk_ch2, pk_neg, pk_not, pk_and, pk_or, pk_ife, pk_tup, pk_lst, pk_ix, pk_sl, pk_call, pk_callv, pk_fdx, pk_appAt, fdxW, takeAt, putAt, inAt, appAtW, List.lookup, pk_blt, pk_mut, pk_meth, pk_isin, pk_isx, pk_xfld, M.bind, M.pure, M.opt, M.fail, M.get, M.gets, PV.P.get, onE, okSet, doCall, doMut, mutW, lend, back, binOp, addW, subW, mulW, fdivW, modW, powW, cmpOp, eqW, gtW, ltW, leW, geW, isNonW, W.isNon, bifn, lenW, absW, intW, max2W, min2W, tupleW, listW, allI, datOk, W.depth, W.depths, W.dat, W.dats, W.frz, W.frzs, W.fz, W.fzs, D.w, D.ws, pyEq, pyEqs, getIx, setIx, ixn, augOp, tyAny, tyB, truth, meth, recv, recvL, recvS, start, take, setAll, mulOk, ibeq, SZv, log2_nat, fixed, rng_two, rng_one, rng_three, rng_four, rng_five, rng_six, wipe, outsFrom, fin, mkExc, frzs_strs, frzs_ints, fzs_strs, fzs_ints, seqWalk, hl, h0]
end
end PV

/-! V8: the documents that many laws draw: letters, names, marks, texts, parts. -/
namespace PV
structure Ix where
  item : Nat
  letters : Nat
  marks : Nat
  name : Nat
  part : Nat
  paths : Nat
  prose : Nat
  same : Nat
  take : Nat
  text : Nat
  tree : Nat

def letters_0 (x : Ix) : E := (.ix (.var 2) (.call x.take (.cons (.var 0) (.cons (.cst (.int 26)) .nil))))
def letters_1 (x : Ix) : E := (.comp (letters_0 x) (.name 4) (.rng1 (.var 1)) .none [3, 4])
def lettersFn (x : Ix) : Fn := ⟨5, 2, [],
  (.seq (.set 2 (.cst (.str ['a', 'b', 'c', 'd', 'e', 'f', 'g', 'h', 'i', 'j', 'k', 'l', 'm', 'n', 'o', 'p', 'q', 'r', 's', 't', 'u', 'v', 'w', 'x',
 'y', 'z'])))
  (.ret (.some (.meth .join (.cst (.str [])) (.cons (letters_1 x) .nil)))))⟩
def nameFn (x : Ix) : Fn := ⟨5, 2, [],
  (.seq (.set 2 (.call x.take (.cons (.var 0) (.cons (.cst (.int 5)) .nil))))
  (.seq (.set 3 (.cst (.str [])))
  (.seq (.ife (.and (.cmp .gt (.var 2) (.cst (.int 0))) (.cmp .gt (.blt .len (.cons (.var 1) .nil)) (.cst (.int 0))))
    (.set 3 (.ix (.var 1) (.call x.take (.cons (.var 0) (.cons (.blt .len (.cons (.var 1) .nil)) .nil)))))
    .skip)
  (.seq (.ife (.and (.cmp .eq (.var 2) (.cst (.int 1))) (.cmp .gt (.blt .len (.cons (.var 3) .nil)) (.cst (.int 0))))
    (.seq (.set 4 (.call x.take (.cons (.var 0) (.cons (.blt .len (.cons (.var 3) .nil)) .nil))))
    (.set 3 (.bin .add (.bin .add (.sl (.var 3) .none (.some (.var 4))) (.call x.letters (.cons (.var 0) (.cons (.cst (.int 1)) .nil)))) (.sl (.var 3) (.some (.bin .add (.var 4) (.cst (.int 1)))) .none))))
    .skip)
  (.seq (.ife (.and (.cmp .eq (.var 2) (.cst (.int 2))) (.ch2 .lt .lt (.cst (.int 0)) (.blt .len (.cons (.var 3) .nil)) (.cst (.int 8))))
    (.set 3 (.bin .add (.var 3) (.call x.letters (.cons (.var 0) (.cons (.cst (.int 1)) .nil)))))
    .skip)
  (.seq (.ife (.cmp .eq (.var 3) (.cst (.str [])))
    (.set 3 (.call x.letters (.cons (.var 0) (.cons (.bin .add (.cst (.int 1)) (.call x.take (.cons (.var 0) (.cons (.cst (.int 8)) .nil)))) .nil))))
    .skip)
  (.seq (.expr (.mut .append 1 (.cons (.var 3) .nil)))
  (.ret (.some (.mov 3))))))))))⟩
def marks_0 (x : Ix) : E := (.var 7)
def marks_1 (x : Ix) : Eo := (.some (.cmp .lt (.var 7) (.var 4)))
def marks_2 (x : Ix) : E := (.comp (marks_0 x) (.name 7) (.seq (.var 2)) (marks_1 x) [6, 7])
def marks_3 (x : Ix) : E := (.var 7)
def marks_4 (x : Ix) : Eo := (.some (.cmp .gt (.var 7) (.var 4)))
def marks_5 (x : Ix) : E := (.comp (marks_3 x) (.name 7) (.seq (.var 2)) (marks_4 x) [6, 7])
def marks_6 (x : Ix) : S := 
  (.seq (.set 4 (.call x.name (.cons (.var 0) (.cons (.var 1) .nil))))
  (.seq (.set 5 (marks_2 x))
  (.set 2 (.bin .add (.bin .add (.var 5) (.lst (.cons (.var 4) .nil))) (marks_5 x)))))
def marks_7 (x : Ix) : S := (.for (.name 3) (.rng1 (.call x.take (.cons (.var 0) (.cons (.cst (.int 4)) .nil)))) (marks_6 x) [3, 4, 5, 6])
def marksFn (x : Ix) : Fn := ⟨8, 2, [],
  (.seq (.set 2 (.lst .nil))
  (.seq (marks_7 x)
  (.ret (.some (.blt .tuple (.cons (.var 2) .nil))))))⟩
def prose_0 (x : Ix) : E := (.ix (.var 2) (.blt .max2 (.cons (.cst (.int 0)) (.cons (.bin .sub (.call x.take (.cons (.var 0) (.cons (.cst (.int 93)) .nil))) (.cst (.int 20))) .nil))))
def prose_1 (x : Ix) : E := (.comp (prose_0 x) (.name 4) (.rng1 (.var 1)) .none [3, 4])
def proseFn (x : Ix) : Fn := ⟨5, 2, [],
  (.seq (.set 2 (.cst (.str [' ', 'a', 'b', 'c', 'd', 'e', 'f', 'g', 'h', 'i', 'j', 'k', 'l', 'm', 'n', 'o', 'p', 'q', 'r', 's', 't', 'u', 'v', 'w',
 'x', 'y', 'z', 'A', 'B', 'C', 'D', 'E', 'F', 'G', 'H', 'I', 'J', 'K', 'L', 'M', 'N', 'O', 'P', 'Q', 'R', 'S', 'T', 'U',
 'V', 'W', 'X', 'Y', 'Z', '0', '1', '2', '3', '4', '5', '6', '7', '8', '9', '.', ',', ';', ':', '!', '?', '\'', '(',
 ')', '|'])))
  (.ret (.some (.meth .join (.cst (.str [])) (.cons (prose_1 x) .nil)))))⟩
def textFn (x : Ix) : Fn := ⟨3, 2, [],
  (.seq (.set 2 (.ix (.lst (.cons (.cst (.int 4)) (.cons (.cst (.int 4)) (.cons (.cst (.int 9)) (.cons (.cst (.int 60)) .nil))))) (.call x.take (.cons (.var 0) (.cons (.cst (.int 4)) .nil)))))
  (.seq (.set 2 (.bin .add (.cst (.int 1)) (.call x.take (.cons (.var 0) (.cons (.blt .min2 (.cons (.blt .int (.cons (.var 2) .nil)) (.cons (.ix (.var 1) (.cst (.int 1))) .nil))) .nil)))))
  (.seq (.setI 1 (.cst (.int 1)) (.bin .sub (.ix (.var 1) (.cst (.int 1))) (.var 2)))
  (.ret (.some (.call x.prose (.cons (.var 0) (.cons (.var 2) .nil))))))))⟩
def itemFn (x : Ix) : Fn := ⟨5, 4, [],
  (.seq (.set 4 (.call x.take (.cons (.var 0) (.cons (.cst (.int 8)) .nil))))
  (.seq (.ife (.and (.cmp .lt (.var 4) (.cst (.int 3))) (.cmp .le (.var 3) (.ix (.var 2) (.cst (.int 3)))))
    (.ret (.some (.call x.part (.cons (.var 0) (.cons (.var 1) (.cons (.var 2) (.cons (.var 3) .nil)))))))
    .skip)
  (.seq (.ife (.and (.cmp .eq (.var 4) (.cst (.int 3))) (.cmp .gt (.ix (.var 2) (.cst (.int 2))) (.cst (.int 0))))
    (.seq (.setI 2 (.cst (.int 2)) (.bin .sub (.ix (.var 2) (.cst (.int 2))) (.cst (.int 1))))
    (.ret (.some (.tup (.cons (.cst (.str ['@'])) (.cons (.call x.name (.cons (.var 0) (.cons (.var 1) .nil))) .nil))))))
    .skip)
  (.seq (.ife (.and (.cmp .gt (.var 4) (.cst (.int 4))) (.cmp .gt (.ix (.var 2) (.cst (.int 1))) (.cst (.int 0))))
    (.ret (.some (.call x.text (.cons (.var 0) (.cons (.var 2) .nil)))))
    .skip)
  (.ret (.some (.tup (.cons (.cst (.str ['#'])) (.cons (.call x.name (.cons (.var 0) (.cons (.var 1) .nil))) .nil)))))))))⟩
def part_0 (x : Ix) : S := 
  (.expr (.mut .append 7 (.cons (.call x.item (.cons (.var 0) (.cons (.var 1) (.cons (.var 2) (.cons (.bin .add (.var 3) (.cst (.int 1))) .nil))))) .nil)))
def part_1 (x : Ix) : S := (.for (.name 8) (.rng1 (.var 6)) (part_0 x) [8])
def dupE : E := (.or (.cmp .eq (.ix (.ix (.var 7) (.cst (.int 0))) (.cst (.int 0))) (.cst (.str ['#']))) (.cmp .eq (.sl (.ix (.var 7) (.cst (.int 0))) (.some (.cst (.int 2))) .none) (.tup (.cons (.tup .nil) .nil))))
def part_2 (x : Ix) : S := (.ife (.and (.cmp .gt (.var 6) (.cst (.int 1))) (.and (.cmp .eq (.ix (.var 0) (.cst (.int 2))) (.cst (.int 0))) (.cmp .eq (.bin .mod (.blt .len (.cons (.var 1) .nil)) (.cst (.int 3))) (.cst (.int 1)))))
    (.ife dupE
      (.setI 7 (.bin .sub (.var 6) (.cst (.int 1))) (.ix (.var 7) (.cst (.int 0))))
      .skip)
    .skip)
def part_3 (x : Ix) : S := (.ife (.cmp .eq (.var 6) (.cst (.int 4)))
    (.set 6 (.call x.take (.cons (.var 0) (.cons (.bin .add (.ix (.var 2) (.cst (.int 4))) (.cst (.int 1))) .nil))))
    .skip)
def partFn (x : Ix) : Fn := ⟨9, 4, [],
  (.seq (.set 4 (.call x.name (.cons (.var 0) (.cons (.var 1) .nil))))
  (.seq (.set 5 (.call x.marks (.cons (.var 0) (.cons (.var 1) .nil))))
  (.seq (.set 6 (.call x.take (.cons (.var 0) (.cons (.cst (.int 5)) .nil))))
  (.seq (part_3 x)
  (.seq (.set 6 (.blt .min2 (.cons (.blt .int (.cons (.var 6) .nil)) (.cons (.ix (.var 2) (.cst (.int 0))) .nil))))
  (.seq (.setI 2 (.cst (.int 0)) (.bin .sub (.ix (.var 2) (.cst (.int 0))) (.var 6)))
  (.seq (.set 7 (.lst .nil))
  (.seq (part_1 x)
  (.seq (part_2 x)
  (.ret (.some (.tup (.cons (.var 4) (.cons (.var 5) (.cons (.blt .tuple (.cons (.var 7) .nil)) .nil)))))))))))))))⟩
def treeFn (x : Ix) : Fn := ⟨2, 2, [],
  (.seq (.ife (.cmp .eq (.call x.take (.cons (.var 0) (.cons (.cst (.int 8)) .nil))) (.cst (.int 3)))
    (.ret (.some (.call x.part (.cons (.var 0) (.cons (.var 1) (.cons (.lst (.cons (.cst (.int 250)) (.cons (.cst (.int 2000)) (.cons (.cst (.int 40)) (.cons (.cst (.int 20)) (.cons (.cst (.int 40)) .nil)))))) (.cons (.cst (.int 1)) .nil)))))))
    .skip)
  (.ret (.some (.call x.part (.cons (.var 0) (.cons (.var 1) (.cons (.lst (.cons (.cst (.int 59)) (.cons (.cst (.int 400)) (.cons (.cst (.int 3)) (.cons (.cst (.int 6)) (.cons (.cst (.int 12)) .nil)))))) (.cons (.cst (.int 1)) .nil))))))))⟩
def paths_0 (x : Ix) : S := 
  (.expr (.mut .extend 2 (.cons (.call x.paths (.cons (.ix (.ix (.var 0) (.cst (.int 2))) (.var 3)) (.cons (.bin .add (.var 1) (.tup (.cons (.var 3) .nil))) .nil))) .nil)))
def paths_1 (x : Ix) : S := (.for (.name 3) (.rng1 (.blt .len (.cons (.ix (.var 0) (.cst (.int 2))) .nil))) (paths_0 x) [3])
def pathsFn (x : Ix) : Fn := ⟨4, 2, [],
  (.seq (.set 2 (.lst (.cons (.tup (.cons (.var 1) (.cons (.var 0) .nil))) .nil)))
  (.seq (.ife (.and (.isin (.var 0) [.tuple]) (.cmp .eq (.blt .len (.cons (.var 0) .nil)) (.cst (.int 3))))
    (paths_1 x)
    .skip)
  (.ret (.some (.mov 2)))))⟩
def same_0 (x : Ix) : S := 
  (.ife (.not (.call x.same (.cons (.ix (.var 0) (.var 3)) (.cons (.ix (.var 1) (.var 3)) .nil))))
    (.ret (.some (.cst (.bl false))))
    .skip)
def same_1 (x : Ix) : S := (.for (.name 3) (.rng1 (.blt .len (.cons (.var 0) .nil))) (same_0 x) [3])
def sameFn (x : Ix) : Fn := ⟨4, 2, [],
  (.seq (.ife (.or (.isin (.var 0) [.bool]) (.isin (.var 1) [.bool]))
    (.ret (.some (.and (.isin (.var 0) [.bool]) (.and (.isin (.var 1) [.bool]) (.cmp .eq (.var 0) (.var 1))))))
    .skip)
  (.seq (.ife (.and (.isin (.var 0) [.int]) (.isin (.var 1) [.int]))
    (.ret (.some (.cmp .eq (.var 0) (.var 1))))
    .skip)
  (.seq (.ife (.and (.isin (.var 0) [.str]) (.isin (.var 1) [.str]))
    (.ret (.some (.cmp .eq (.var 0) (.var 1))))
    .skip)
  (.seq (.set 2 (.and (.isin (.var 0) [.tuple]) (.isin (.var 1) [.tuple])))
  (.seq (.ife (.or (.var 2) (.and (.isin (.var 0) [.list]) (.isin (.var 1) [.list])))
    (.seq (.ife (.cmp .ne (.blt .len (.cons (.var 0) .nil)) (.blt .len (.cons (.var 1) .nil)))
      (.ret (.some (.cst (.bl false))))
      .skip)
    (.seq (same_1 x)
    (.ret (.some (.cst (.bl true))))))
    .skip)
  (.ret (.some (.and (.cmp .is (.var 0) (.cst .non)) (.cmp .is (.var 1) (.cst .non))))))))))⟩

def abc : List Char := ['a', 'b', 'c', 'd', 'e', 'f', 'g', 'h', 'i', 'j', 'k', 'l', 'm', 'n', 'o', 'p', 'q', 'r', 's', 't', 'u', 'v', 'w', 'x', 'y', 'z']
theorem allS_chars (cs : List Char) : allS (cs.map fun c => W.str [c]) = some (cs.map fun c => [c]) := by
  have := allS_of (cs.map fun c => [c])
  rwa [List.map_map] at this
theorem joinC_chars : ∀ {cs : List Char}, joinC [] (cs.map fun c => [c]) = cs
  | [] => rfl
  | [c] => rfl
  | c :: d :: cs => by
    have q := joinC_chars (cs := d :: cs)
    rw [List.map_cons] at q
    rw [List.map_cons, List.map_cons]
    unfold joinC
    rw [q]
    rfl
theorem sum_chars : ∀ {cs : List Char}, ((cs.map fun c => [c]).map (·.length)).sum = cs.length
  | [] => rfl
  | c :: cs => by
    rw [List.map_cons, List.map_cons, List.sum_cons, sum_chars]
    simp
    omega
/-- signs put together -/
theorem join_chars {cs : List Char} (h : cs.length ≤ 10000000) : joinW (.str []) [.lst true (cs.map fun c => W.str [c])] = some (.str cs) := by
  unfold joinW
  dsimp only
  rw [allS_chars]
  dsimp only
  rw [if_pos, joinC_chars]
  rw [sum_chars, SZv, List.length_map]
  simp
  omega
section
variable {P : Prog} {x : Ix} {k N : Nat} {p : W} {many : Int}
theorem letters_ok (ht : P.fns[x.take]? = some takeFn) (hf : P.fns[x.letters]? = some (lettersFn x)) (px : Pool N p) (hN : N < 900000000000) (h0 : 0 ≤ many) (h1 : many ≤ 1000) :
    ∃ (s : List Char) (p' : W), s.length = many.toNat ∧ (∀ c ∈ s, c ∈ abc) ∧ Pool (N + many.toNat) p' ∧ callF P (k + 2) x.letters [p, .int many] = some (.ok (.str s) [p', .int many]) := by
  obtain ⟨acc, σ', e, p', cs, rfl, p1, rfl, e3, e4⟩ := comp_ind (fx := [0, 1]) (tg := .name 4) (wp := [3, 4]) (c := evC (cl P (k + 1) [0, 1]) .none) (e := ev (cl P (k + 1) [0, 1]) (letters_0 x)) (rngItems 0 many.toNat 1)
    (fun i acc σ => ∃ p' cs, σ = [some p', some (.int many), some (.str abc), none, none] ∧ Pool (N + i) p' ∧ acc = cs.map (fun c => W.str [c]) ∧ cs.length = i ∧ ∀ c ∈ cs, c ∈ abc)
    (fun i it acc σ ei ⟨p', cs, e1, p1, e2, e3, e4⟩ => by
      obtain ⟨hi, rfl⟩ := rng_at ei
      subst e1 e2
      obtain ⟨v, p2, a1, a2, q2, e5⟩ := take_ok (k := k) (many := 26) ht p1 (by omega) (by omega) (by omega)
      have hv : v.toNat < abc.length := by show v.toNat < 26; omega
      have hc : abc[v.toNat]? = some abc[v.toNat] := List.getElem?_eq_getElem hv
      generalize hcc : abc[v.toNat] = c at hc
      have hab : abc.length = 26 := rfl
      have hf := p1.frz
      refine ⟨[some p', some (.int many), some (.str abc), none, some (.int (0 + (i : Int) * 1))], by simp [take, wipe], .inr ⟨_, .str [c], [some p2, some (.int many), some (.str abc), none, some (.int (0 + (i : Int) * 1))], by simp [evC, M.pure]; rfl, ?_, by rw [SZv, List.length_map]; omega, p2, cs ++ [c], by simp [wipe], q2, by simp, by simp [e3], fun d hd => ?_⟩⟩
      · simp [letters_0, exec, ev, evT, evs, evPs, evo, evC, evI, pk_var, pk_mov, pk_cst, pk_fnv, pk_bin, pk_cmp, pk_ch2, pk_neg, pk_not, pk_and, pk_or, pk_ife, pk_tup, pk_lst, pk_ix, pk_sl, pk_call, pk_blt, pk_mut, pk_meth, pk_isin, pk_isx, pk_xfld, M.bind, M.pure, M.opt, M.fail, M.get, M.gets, PV.P.get, onE, okSet, doCall, doMut, mutW, lend, back, binOp, addW, subW, mulW, fdivW, modW, powW, cmpOp, eqW, gtW, ltW, leW, geW, isNonW, W.isNon, bifn, lenW, absW, intW, max2W, min2W, tupleW, listW, allI, datOk, W.depth, W.depths, W.dat, W.dats, W.frz, W.frzs, W.fz, W.fzs, D.w, D.ws, pyEq, pyEqs, getIx, setIx, ixn, augOp, tyAny, tyB, truth, meth, recv, recvL, recvS, start, take, setAll, mulOk, ibeq, SZv, log2_nat, fixed, rng_two, rng_one, rng_three, rng_four, rng_five, rng_six, wipe, outsFrom, fin, mkExc, frzs_strs, frzs_ints, fzs_strs, fzs_ints, seqWalk, e5, hab, a1, a2, hcc, hf]
      · rcases List.mem_append.mp hd with hd | hd
        · exact e4 d hd
        · rw [List.mem_singleton.mp hd]; exact List.mem_of_getElem? hc) [] [some p, some (.int many), some (.str abc), none, none] ⟨p, [], rfl, px, rfl, rfl, fun c hc => by cases hc⟩
  rw [rng_n] at p1 e3
  have ec : ev (cl P (k + 1) [0, 1]) (letters_1 x) [some p, some (.int many), some (.str abc), none, none] = some (.ok (.lst true (cs.map fun c => W.str [c])) [some p', some (.int many), some (.str abc), none, none]) :=
    comp_of (σ1 := [some p, some (.int many), some (.str abc), none, none]) (by simp [exec, ev, evT, evs, evPs, evo, evC, evI, pk_var, pk_mov, pk_cst, pk_fnv, pk_bin, pk_cmp, pk_ch2, pk_neg, pk_not, pk_and, pk_or, pk_ife, pk_tup, pk_lst, pk_ix, pk_sl, pk_call, pk_blt, pk_mut, pk_meth, pk_isin, pk_isx, pk_xfld, M.bind, M.pure, M.opt, M.fail, M.get, M.gets, PV.P.get, onE, okSet, doCall, doMut, mutW, lend, back, binOp, addW, subW, mulW, fdivW, modW, powW, cmpOp, eqW, gtW, ltW, leW, geW, isNonW, W.isNon, bifn, lenW, absW, intW, max2W, min2W, tupleW, listW, allI, datOk, W.depth, W.depths, W.dat, W.dats, W.frz, W.frzs, W.fz, W.fzs, D.w, D.ws, pyEq, pyEqs, getIx, setIx, ixn, augOp, tyAny, tyB, truth, meth, recv, recvL, recvS, start, take, setAll, mulOk, ibeq, SZv, log2_nat, fixed, rng_two, rng_one, rng_three, rng_four, rng_five, rng_six, wipe, outsFrom, fin, mkExc, frzs_strs, frzs_ints, fzs_strs, fzs_ints, seqWalk, rng0 h0 (by omega)]) e
  refine ⟨cs, p', e3, e4, p1, ?_⟩
  rw [call_eq hf rfl]
  have hj := join_chars (cs := cs) (by omega)
  unfold abc at ec
  have ep := pk_ev rfl ec
  simp [lettersFn, exec, ev, evT, evs, evPs, evo, evC, evI, pk_var, pk_mov, pk_cst, pk_fnv, pk_bin, pk_cmp, pk_ch2, pk_neg, pk_not, pk_and, pk_or, pk_ife, pk_tup, pk_lst, pk_ix, pk_sl, pk_call, pk_blt, pk_mut, pk_meth, pk_isin, pk_isx, pk_xfld, M.bind, M.pure, M.opt, M.fail, M.get, M.gets, PV.P.get, onE, okSet, doCall, doMut, mutW, lend, back, binOp, addW, subW, mulW, fdivW, modW, powW, cmpOp, eqW, gtW, ltW, leW, geW, isNonW, W.isNon, bifn, lenW, absW, intW, max2W, min2W, tupleW, listW, allI, datOk, W.depth, W.depths, W.dat, W.dats, W.frz, W.frzs, W.fz, W.fzs, D.w, D.ws, pyEq, pyEqs, getIx, setIx, ixn, augOp, tyAny, tyB, truth, meth, recv, recvL, recvS, start, take, setAll, mulOk, ibeq, SZv, log2_nat, fixed, rng_two, rng_one, rng_three, rng_four, rng_five, rng_six, wipe, outsFrom, fin, mkExc, frzs_strs, frzs_ints, fzs_strs, fzs_ints, seqWalk, ep, hj]
theorem cut_to {α : Type} {s : List α} {i : Int} (h0 : 0 ≤ i) (h1 : i ≤ s.length) : cut s none (some i) = s.take i.toNat := by
  unfold cut slIx
  dsimp only
  rw [if_neg (by omega), List.drop_zero, Nat.sub_zero, Nat.min_eq_left (by omega)]
theorem cut_from {α : Type} {s : List α} {i : Int} (h0 : 0 ≤ i) (h1 : i ≤ s.length) : cut s (some i) none = s.drop i.toNat := by
  unfold cut slIx
  dsimp only
  rw [if_neg (by omega), Nat.min_eq_left (by omega)]
  exact List.take_of_length_le (by rw [List.length_drop]; omega)
/-- a name: 1 to 8 letters -/
def isNm (s : List Char) : Prop := 1 ≤ s.length ∧ s.length ≤ 8 ∧ ∀ c ∈ s, c ∈ abc
def nmW (l : List (List Char)) : W := .lst true (l.map W.str)
theorem nmW_app {l : List (List Char)} {s : List Char} : W.lst true (l.map W.str ++ [.str s]) = nmW (l ++ [s]) := by simp [nmW]
theorem name_ok {nms : List (List Char)} (ht : P.fns[x.take]? = some takeFn) (hl : P.fns[x.letters]? = some (lettersFn x)) (hf : P.fns[x.name]? = some (nameFn x)) (px : Pool N p) (hN : N < 800000000000) (hn : ∀ s ∈ nms, isNm s) (hz : nms.length ≤ 10000000) :
    ∃ (s : List Char) (p' : W), isNm s ∧ Pool (N + 30) p' ∧ callF P (k + 3) x.name [p, nmW nms] = some (.ok (.str s) [p', nmW (nms ++ [s])]) := by
  have fi : ∀ {s : List Char} {p' : W} {M : Nat}, isNm s → Pool M p' → M ≤ N + 30 → callF P (k + 3) x.name [p, nmW nms] = some (.ok (.str s) [p', .lst true (nms.map W.str ++ [.str s])]) →
      ∃ (s : List Char) (p' : W), isNm s ∧ Pool (N + 30) p' ∧ callF P (k + 3) x.name [p, nmW nms] = some (.ok (.str s) [p', nmW (nms ++ [s])]) := fun {s p' M} hs q hM e => by
    rw [nmW_app] at e
    exact ⟨s, p', hs, q.mono hM, e⟩
  have z0 := px.frz
  obtain ⟨v, xs1, a1, b1, p1, e1⟩ := take_ok (k := k + 1) (many := 5) ht px (by omega) (by omega) (by omega)
  have z1 := p1.frz
  by_cases hc : 0 < v ∧ nms ≠ []
  · obtain ⟨hv, hne⟩ := hc
    have hlen : 0 < nms.length := List.length_pos_iff.mpr hne
    obtain ⟨u, xs2, a2, b2, p2, e2⟩ := take_ok (k := k + 1) (many := (nms.length : Int)) ht p1 (by omega) (by omega) (by omega)
    have z2 := p2.frz
    have hu : u.toNat < nms.length := by omega
    obtain ⟨nm, hg⟩ : ∃ nm, nms[u.toNat]? = some nm := ⟨_, List.getElem?_eq_getElem hu⟩
    have hnm := hn nm (List.mem_of_getElem? hg)
    obtain ⟨hgl, hg'⟩ := List.getElem?_eq_some_iff.mp hg
    have n0 : 0 < nm.length := by have := hnm.1; omega
    have hns : nm ≠ [] := List.length_pos_iff.mp n0
    have hln : nm.length ≤ 16777216 := by have := hnm.2.1; omega
    by_cases hv1 : v = 1
    · obtain ⟨q, xs3, a3, b3, p3, e3⟩ := take_ok (k := k + 1) (many := (nm.length : Int)) ht p2 (by omega) (by omega) (by omega)
      have z3 := p3.frz
      obtain ⟨l, xs4, l1, l2, p4, e4⟩ := letters_ok (k := k) (many := 1) ht hl p3 (by omega) (by omega) (by omega)
      have l1' : l.length = 1 := l1
      have c1 := cut_to (s := nm) (i := q) (by omega) (by omega)
      have c2 := cut_from (s := nm) (i := q + 1) (by omega) (by omega)
      have m8 := hnm.2.1
      have len1 : (nm.take q.toNat).length = q.toNat := by rw [List.length_take]; omega
      have len2 : (nm.drop (q + 1).toNat).length = nm.length - (q + 1).toNat := List.length_drop
      have mA : ∀ c ∈ nm.take q.toNat, c ∈ abc := fun c hc => hnm.2.2 c (List.mem_of_mem_take hc)
      have mB : ∀ c ∈ nm.drop (q + 1).toNat, c ∈ abc := fun c hc => hnm.2.2 c (List.mem_of_mem_drop hc)
      generalize nm.take q.toNat = A at *
      generalize nm.drop (q + 1).toNat = B at *
      have l0 : l ≠ [] := fun z => by rw [z] at l1'; cases l1'
      refine fi (s := A ++ l ++ B) (p' := xs4) (M := N + 1 + 1 + 1 + 1) ⟨?_, ?_, ?_⟩ p4 (by omega) ?_
      · simp only [List.length_append, len1, len2, l1']; omega
      · simp only [List.length_append, len1, len2, l1']; omega
      · intro c hc
        simp only [List.mem_append] at hc
        rcases hc with (hc | hc) | hc
        · exact mA c hc
        · exact l2 c hc
        · exact mB c hc
      · have s1 : A.length + l.length ≤ 16777216 := by omega
        have s2 : A.length + l.length + B.length ≤ 16777216 := by omega
        have he : (A ++ (l ++ B)).isEmpty = false := by rw [List.isEmpty_eq_false_iff]; simp [l0]
        subst hv1
        rw [call_eq hf rfl]
        simp [nameFn, nmW, slice, exec, ev, evT, evs, evPs, evo, evC, evI, pk_var, pk_mov, pk_cst, pk_fnv, pk_bin, pk_cmp, pk_ch2, pk_neg, pk_not, pk_and, pk_or, pk_ife, pk_tup, pk_lst, pk_ix, pk_sl, pk_call, pk_blt, pk_mut, pk_meth, pk_isin, pk_isx, pk_xfld, M.bind, M.pure, M.opt, M.fail, M.get, M.gets, PV.P.get, onE, okSet, doCall, doMut, mutW, lend, back, binOp, addW, subW, mulW, fdivW, modW, powW, cmpOp, eqW, gtW, ltW, leW, geW, isNonW, W.isNon, bifn, lenW, absW, intW, max2W, min2W, tupleW, listW, allI, datOk, W.depth, W.depths, W.dat, W.dats, W.frz, W.frzs, W.fz, W.fzs, D.w, D.ws, pyEq, pyEqs, getIx, setIx, ixn, augOp, tyAny, tyB, truth, meth, recv, recvL, recvS, start, take, setAll, mulOk, ibeq, SZv, log2_nat, fixed, rng_two, rng_one, rng_three, rng_four, rng_five, rng_six, wipe, outsFrom, fin, mkExc, frzs_strs, frzs_ints, fzs_strs, fzs_ints, seqWalk, z0, z1, z2, z3, e1, e2, e3, e4, hlen, a2, b2, hg, hg', n0, hln, c1, c2, s1, s2, he, (by omega : nms.length < 16777216)]
    · have f1 : ¬ (v = 1) := hv1
      have hne2 : nm.isEmpty = false := by rw [List.isEmpty_eq_false_iff]; exact hns
      have hz3 : nms.length < 16777216 := by omega
      by_cases hv2 : v = 2 ∧ nm.length < 8
      · obtain ⟨hv2, h8⟩ := hv2
        obtain ⟨l, xs4, l1, l2, p4, e4⟩ := letters_ok (k := k) (many := 1) ht hl p2 (by omega) (by omega) (by omega)
        have l1' : l.length = 1 := l1
        have he : (nm ++ l).isEmpty = false := by rw [List.isEmpty_eq_false_iff]; simp [hns]
        have s1 : nm.length + l.length ≤ 16777216 := by omega
        refine fi (s := nm ++ l) (p' := xs4) (M := N + 1 + 1 + 1) ⟨by simp; omega, by simp; omega, fun c hc => ?_⟩ p4 (by omega) ?_
        · rcases List.mem_append.mp hc with hc | hc
          · exact hnm.2.2 c hc
          · exact l2 c hc
        · have h8i : (nm.length : Int) < 8 := by omega
          subst hv2
          rw [call_eq hf rfl]
          simp [nameFn, nmW, slice, exec, ev, evT, evs, evPs, evo, evC, evI, pk_var, pk_mov, pk_cst, pk_fnv, pk_bin, pk_cmp, pk_ch2, pk_neg, pk_not, pk_and, pk_or, pk_ife, pk_tup, pk_lst, pk_ix, pk_sl, pk_call, pk_blt, pk_mut, pk_meth, pk_isin, pk_isx, pk_xfld, M.bind, M.pure, M.opt, M.fail, M.get, M.gets, PV.P.get, onE, okSet, doCall, doMut, mutW, lend, back, binOp, addW, subW, mulW, fdivW, modW, powW, cmpOp, eqW, gtW, ltW, leW, geW, isNonW, W.isNon, bifn, lenW, absW, intW, max2W, min2W, tupleW, listW, allI, datOk, W.depth, W.depths, W.dat, W.dats, W.frz, W.frzs, W.fz, W.fzs, D.w, D.ws, pyEq, pyEqs, getIx, setIx, ixn, augOp, tyAny, tyB, truth, meth, recv, recvL, recvS, start, take, setAll, mulOk, ibeq, SZv, log2_nat, fixed, rng_two, rng_one, rng_three, rng_four, rng_five, rng_six, wipe, outsFrom, fin, mkExc, frzs_strs, frzs_ints, fzs_strs, fzs_ints, seqWalk, z0, z1, z2, e1, e2, e4, hlen, a2, b2, hg, hg', n0, hln, s1, he, h8i, hz3]
      · refine fi (s := nm) (p' := xs2) (M := N + 1 + 1) hnm p2 (by omega) ?_
        by_cases h2 : v = 2
        · have h8 : ¬ ((nm.length : Int) < 8) := fun z => hv2 ⟨h2, by omega⟩
          subst h2
          rw [call_eq hf rfl]
          simp [nameFn, nmW, slice, exec, ev, evT, evs, evPs, evo, evC, evI, pk_var, pk_mov, pk_cst, pk_fnv, pk_bin, pk_cmp, pk_ch2, pk_neg, pk_not, pk_and, pk_or, pk_ife, pk_tup, pk_lst, pk_ix, pk_sl, pk_call, pk_blt, pk_mut, pk_meth, pk_isin, pk_isx, pk_xfld, M.bind, M.pure, M.opt, M.fail, M.get, M.gets, PV.P.get, onE, okSet, doCall, doMut, mutW, lend, back, binOp, addW, subW, mulW, fdivW, modW, powW, cmpOp, eqW, gtW, ltW, leW, geW, isNonW, W.isNon, bifn, lenW, absW, intW, max2W, min2W, tupleW, listW, allI, datOk, W.depth, W.depths, W.dat, W.dats, W.frz, W.frzs, W.fz, W.fzs, D.w, D.ws, pyEq, pyEqs, getIx, setIx, ixn, augOp, tyAny, tyB, truth, meth, recv, recvL, recvS, start, take, setAll, mulOk, ibeq, SZv, log2_nat, fixed, rng_two, rng_one, rng_three, rng_four, rng_five, rng_six, wipe, outsFrom, fin, mkExc, frzs_strs, frzs_ints, fzs_strs, fzs_ints, seqWalk, z0, z1, z2, e1, e2, hlen, a2, b2, hg, hg', n0, hln, hne2, h8, hz3]
        · rw [call_eq hf rfl]
          simp [nameFn, nmW, slice, exec, ev, evT, evs, evPs, evo, evC, evI, pk_var, pk_mov, pk_cst, pk_fnv, pk_bin, pk_cmp, pk_ch2, pk_neg, pk_not, pk_and, pk_or, pk_ife, pk_tup, pk_lst, pk_ix, pk_sl, pk_call, pk_blt, pk_mut, pk_meth, pk_isin, pk_isx, pk_xfld, M.bind, M.pure, M.opt, M.fail, M.get, M.gets, PV.P.get, onE, okSet, doCall, doMut, mutW, lend, back, binOp, addW, subW, mulW, fdivW, modW, powW, cmpOp, eqW, gtW, ltW, leW, geW, isNonW, W.isNon, bifn, lenW, absW, intW, max2W, min2W, tupleW, listW, allI, datOk, W.depth, W.depths, W.dat, W.dats, W.frz, W.frzs, W.fz, W.fzs, D.w, D.ws, pyEq, pyEqs, getIx, setIx, ixn, augOp, tyAny, tyB, truth, meth, recv, recvL, recvS, start, take, setAll, mulOk, ibeq, SZv, log2_nat, fixed, rng_two, rng_one, rng_three, rng_four, rng_five, rng_six, wipe, outsFrom, fin, mkExc, frzs_strs, frzs_ints, fzs_strs, fzs_ints, seqWalk, z0, z1, z2, e1, e2, hlen, a2, b2, hg, hg', n0, hln, hne2, hv, f1, h2, hz3]
  · have hz3 : nms.length < 16777216 := by omega
    obtain ⟨q, xs3, a3, b3, p3, e3⟩ := take_ok (k := k + 1) (many := 8) ht p1 (by omega) (by omega) (by omega)
    have z3 := p3.frz
    obtain ⟨l, xs4, l1, l2, p4, e4⟩ := letters_ok (k := k) (many := 1 + q) ht hl p3 (by omega) (by omega) (by omega)
    refine fi (s := l) (p' := xs4) (M := N + 1 + 1 + (1 + q).toNat) ⟨by omega, by omega, l2⟩ p4 (by omega) ?_
    by_cases h0 : 0 < v
    · have hn0 : nms = [] := Classical.byContradiction fun z => hc ⟨h0, z⟩
      subst hn0
      have hle : l.isEmpty = false := by
        rw [List.isEmpty_eq_false_iff]
        intro z
        rw [z] at l1
        simp at l1
        omega
      by_cases h1 : v = 1
      · subst h1
        rw [call_eq hf rfl]
        simp [nameFn, nmW, slice, exec, ev, evT, evs, evPs, evo, evC, evI, pk_var, pk_mov, pk_cst, pk_fnv, pk_bin, pk_cmp, pk_ch2, pk_neg, pk_not, pk_and, pk_or, pk_ife, pk_tup, pk_lst, pk_ix, pk_sl, pk_call, pk_blt, pk_mut, pk_meth, pk_isin, pk_isx, pk_xfld, M.bind, M.pure, M.opt, M.fail, M.get, M.gets, PV.P.get, onE, okSet, doCall, doMut, mutW, lend, back, binOp, addW, subW, mulW, fdivW, modW, powW, cmpOp, eqW, gtW, ltW, leW, geW, isNonW, W.isNon, bifn, lenW, absW, intW, max2W, min2W, tupleW, listW, allI, datOk, W.depth, W.depths, W.dat, W.dats, W.frz, W.frzs, W.fz, W.fzs, D.w, D.ws, pyEq, pyEqs, getIx, setIx, ixn, augOp, tyAny, tyB, truth, meth, recv, recvL, recvS, start, take, setAll, mulOk, ibeq, SZv, log2_nat, fixed, rng_two, rng_one, rng_three, rng_four, rng_five, rng_six, wipe, outsFrom, fin, mkExc, frzs_strs, frzs_ints, fzs_strs, fzs_ints, seqWalk, z0, z1, z3, e1, e3, e4]
      · by_cases h2 : v = 2
        · subst h2
          rw [call_eq hf rfl]
          simp [nameFn, nmW, slice, exec, ev, evT, evs, evPs, evo, evC, evI, pk_var, pk_mov, pk_cst, pk_fnv, pk_bin, pk_cmp, pk_ch2, pk_neg, pk_not, pk_and, pk_or, pk_ife, pk_tup, pk_lst, pk_ix, pk_sl, pk_call, pk_blt, pk_mut, pk_meth, pk_isin, pk_isx, pk_xfld, M.bind, M.pure, M.opt, M.fail, M.get, M.gets, PV.P.get, onE, okSet, doCall, doMut, mutW, lend, back, binOp, addW, subW, mulW, fdivW, modW, powW, cmpOp, eqW, gtW, ltW, leW, geW, isNonW, W.isNon, bifn, lenW, absW, intW, max2W, min2W, tupleW, listW, allI, datOk, W.depth, W.depths, W.dat, W.dats, W.frz, W.frzs, W.fz, W.fzs, D.w, D.ws, pyEq, pyEqs, getIx, setIx, ixn, augOp, tyAny, tyB, truth, meth, recv, recvL, recvS, start, take, setAll, mulOk, ibeq, SZv, log2_nat, fixed, rng_two, rng_one, rng_three, rng_four, rng_five, rng_six, wipe, outsFrom, fin, mkExc, frzs_strs, frzs_ints, fzs_strs, fzs_ints, seqWalk, z0, z1, z3, e1, e3, e4]
        · rw [call_eq hf rfl]
          simp [nameFn, nmW, slice, exec, ev, evT, evs, evPs, evo, evC, evI, pk_var, pk_mov, pk_cst, pk_fnv, pk_bin, pk_cmp, pk_ch2, pk_neg, pk_not, pk_and, pk_or, pk_ife, pk_tup, pk_lst, pk_ix, pk_sl, pk_call, pk_blt, pk_mut, pk_meth, pk_isin, pk_isx, pk_xfld, M.bind, M.pure, M.opt, M.fail, M.get, M.gets, PV.P.get, onE, okSet, doCall, doMut, mutW, lend, back, binOp, addW, subW, mulW, fdivW, modW, powW, cmpOp, eqW, gtW, ltW, leW, geW, isNonW, W.isNon, bifn, lenW, absW, intW, max2W, min2W, tupleW, listW, allI, datOk, W.depth, W.depths, W.dat, W.dats, W.frz, W.frzs, W.fz, W.fzs, D.w, D.ws, pyEq, pyEqs, getIx, setIx, ixn, augOp, tyAny, tyB, truth, meth, recv, recvL, recvS, start, take, setAll, mulOk, ibeq, SZv, log2_nat, fixed, rng_two, rng_one, rng_three, rng_four, rng_five, rng_six, wipe, outsFrom, fin, mkExc, frzs_strs, frzs_ints, fzs_strs, fzs_ints, seqWalk, z0, z1, z3, e1, e3, e4, h0, h1, h2]
    · have hv0 : v = 0 := by omega
      subst hv0
      rw [call_eq hf rfl]
      simp [nameFn, nmW, slice, exec, ev, evT, evs, evPs, evo, evC, evI, pk_var, pk_mov, pk_cst, pk_fnv, pk_bin, pk_cmp, pk_ch2, pk_neg, pk_not, pk_and, pk_or, pk_ife, pk_tup, pk_lst, pk_ix, pk_sl, pk_call, pk_blt, pk_mut, pk_meth, pk_isin, pk_isx, pk_xfld, M.bind, M.pure, M.opt, M.fail, M.get, M.gets, PV.P.get, onE, okSet, doCall, doMut, mutW, lend, back, binOp, addW, subW, mulW, fdivW, modW, powW, cmpOp, eqW, gtW, ltW, leW, geW, isNonW, W.isNon, bifn, lenW, absW, intW, max2W, min2W, tupleW, listW, allI, datOk, W.depth, W.depths, W.dat, W.dats, W.frz, W.frzs, W.fz, W.fzs, D.w, D.ws, pyEq, pyEqs, getIx, setIx, ixn, augOp, tyAny, tyB, truth, meth, recv, recvL, recvS, start, take, setAll, mulOk, ibeq, SZv, log2_nat, fixed, rng_two, rng_one, rng_three, rng_four, rng_five, rng_six, wipe, outsFrom, fin, mkExc, frzs_strs, frzs_ints, fzs_strs, fzs_ints, seqWalk, z0, z1, z3, e1, e3, e4, hz3]

/-! ### texts -/
def signs : List Char := [' ', 'a', 'b', 'c', 'd', 'e', 'f', 'g', 'h', 'i', 'j', 'k', 'l', 'm', 'n', 'o', 'p', 'q', 'r', 's', 't', 'u', 'v', 'w', 'x', 'y', 'z', 'A', 'B', 'C', 'D', 'E', 'F', 'G', 'H', 'I', 'J', 'K', 'L', 'M', 'N', 'O', 'P', 'Q', 'R', 'S', 'T', 'U', 'V', 'W', 'X', 'Y', 'Z', '0', '1', '2', '3', '4', '5', '6', '7', '8', '9', '.', ',', ';', ':', '!', '?', '\'', '(', ')', '|']
theorem prose_ok (ht : P.fns[x.take]? = some takeFn) (hf : P.fns[x.prose]? = some (proseFn x)) (px : Pool N p) (hN : N < 900000000000) (h0 : 0 ≤ many) (h1 : many ≤ 1000) :
    ∃ (s : List Char) (p' : W), s.length = many.toNat ∧ (∀ c ∈ s, c ∈ signs) ∧ Pool (N + many.toNat) p' ∧ callF P (k + 2) x.prose [p, .int many] = some (.ok (.str s) [p', .int many]) := by
  obtain ⟨acc, σ', e, p', cs, rfl, p1, rfl, e3, e4⟩ := comp_ind (fx := [0, 1]) (tg := .name 4) (wp := [3, 4]) (c := evC (cl P (k + 1) [0, 1]) .none) (e := ev (cl P (k + 1) [0, 1]) (prose_0 x)) (rngItems 0 many.toNat 1)
    (fun i acc σ => ∃ p' cs, σ = [some p', some (.int many), some (.str signs), none, none] ∧ Pool (N + i) p' ∧ acc = cs.map (fun c => W.str [c]) ∧ cs.length = i ∧ ∀ c ∈ cs, c ∈ signs)
    (fun i it acc σ ei ⟨p', cs, e1, p1, e2, e3, e4⟩ => by
      obtain ⟨hi, rfl⟩ := rng_at ei
      subst e1 e2
      obtain ⟨v, p2, a1, a2, q2, e5⟩ := take_ok (k := k) (many := 93) ht p1 (by omega) (by omega) (by omega)
      have hab : signs.length = 73 := rfl
      generalize hu : (if v - 20 > 0 then v - 20 else 0) = u
      have u0 : 0 ≤ u := by rw [← hu]; split <;> omega
      have u1 : u < 73 := by rw [← hu]; split <;> omega
      have hv : u.toNat < signs.length := by rw [hab]; omega
      have hc : signs[u.toNat]? = some signs[u.toNat] := List.getElem?_eq_getElem hv
      generalize hcc : signs[u.toNat] = c at hc
      have hf := p1.frz
      refine ⟨[some p', some (.int many), some (.str signs), none, some (.int (0 + (i : Int) * 1))], by simp [take, wipe], .inr ⟨_, .str [c], [some p2, some (.int many), some (.str signs), none, some (.int (0 + (i : Int) * 1))], by simp [evC, M.pure]; rfl, ?_, by rw [SZv, List.length_map]; omega, p2, cs ++ [c], by simp [wipe], q2, by simp, by simp [e3], fun d hd => ?_⟩⟩
      · have hu3 : (if 20 < v then v - 20 else 0) = u := by rw [← hu]; split <;> split <;> omega
        simp [prose_0, exec, ev, evT, evs, evPs, evo, evC, evI, pk_var, pk_mov, pk_cst, pk_fnv, pk_bin, pk_cmp, pk_ch2, pk_neg, pk_not, pk_and, pk_or, pk_ife, pk_tup, pk_lst, pk_ix, pk_sl, pk_call, pk_blt, pk_mut, pk_meth, pk_isin, pk_isx, pk_xfld, M.bind, M.pure, M.opt, M.fail, M.get, M.gets, PV.P.get, onE, okSet, doCall, doMut, mutW, lend, back, binOp, addW, subW, mulW, fdivW, modW, powW, cmpOp, eqW, gtW, ltW, leW, geW, isNonW, W.isNon, bifn, lenW, absW, intW, max2W, min2W, tupleW, listW, allI, datOk, W.depth, W.depths, W.dat, W.dats, W.frz, W.frzs, W.fz, W.fzs, D.w, D.ws, pyEq, pyEqs, getIx, setIx, ixn, augOp, tyAny, tyB, truth, meth, recv, recvL, recvS, start, take, setAll, mulOk, ibeq, SZv, log2_nat, fixed, rng_two, rng_one, rng_three, rng_four, rng_five, rng_six, wipe, outsFrom, fin, mkExc, frzs_strs, frzs_ints, fzs_strs, fzs_ints, seqWalk, e5, hab, u0, u1, hcc, hu3, hf]
      · rcases List.mem_append.mp hd with hd | hd
        · exact e4 d hd
        · rw [List.mem_singleton.mp hd]; exact List.mem_of_getElem? hc) [] [some p, some (.int many), some (.str signs), none, none] ⟨p, [], rfl, px, rfl, rfl, fun c hc => by cases hc⟩
  rw [rng_n] at p1 e3
  have ec : ev (cl P (k + 1) [0, 1]) (prose_1 x) [some p, some (.int many), some (.str signs), none, none] = some (.ok (.lst true (cs.map fun c => W.str [c])) [some p', some (.int many), some (.str signs), none, none]) :=
    comp_of (σ1 := [some p, some (.int many), some (.str signs), none, none]) (by simp [exec, ev, evT, evs, evPs, evo, evC, evI, pk_var, pk_mov, pk_cst, pk_fnv, pk_bin, pk_cmp, pk_ch2, pk_neg, pk_not, pk_and, pk_or, pk_ife, pk_tup, pk_lst, pk_ix, pk_sl, pk_call, pk_blt, pk_mut, pk_meth, pk_isin, pk_isx, pk_xfld, M.bind, M.pure, M.opt, M.fail, M.get, M.gets, PV.P.get, onE, okSet, doCall, doMut, mutW, lend, back, binOp, addW, subW, mulW, fdivW, modW, powW, cmpOp, eqW, gtW, ltW, leW, geW, isNonW, W.isNon, bifn, lenW, absW, intW, max2W, min2W, tupleW, listW, allI, datOk, W.depth, W.depths, W.dat, W.dats, W.frz, W.frzs, W.fz, W.fzs, D.w, D.ws, pyEq, pyEqs, getIx, setIx, ixn, augOp, tyAny, tyB, truth, meth, recv, recvL, recvS, start, take, setAll, mulOk, ibeq, SZv, log2_nat, fixed, rng_two, rng_one, rng_three, rng_four, rng_five, rng_six, wipe, outsFrom, fin, mkExc, frzs_strs, frzs_ints, fzs_strs, fzs_ints, seqWalk, rng0 h0 (by omega)]) e
  refine ⟨cs, p', e3, e4, p1, ?_⟩
  rw [call_eq hf rfl]
  have hj := join_chars (cs := cs) (by omega)
  unfold signs at ec
  have ep := pk_ev rfl ec
  simp [proseFn, exec, ev, evT, evs, evPs, evo, evC, evI, pk_var, pk_mov, pk_cst, pk_fnv, pk_bin, pk_cmp, pk_ch2, pk_neg, pk_not, pk_and, pk_or, pk_ife, pk_tup, pk_lst, pk_ix, pk_sl, pk_call, pk_blt, pk_mut, pk_meth, pk_isin, pk_isx, pk_xfld, M.bind, M.pure, M.opt, M.fail, M.get, M.gets, PV.P.get, onE, okSet, doCall, doMut, mutW, lend, back, binOp, addW, subW, mulW, fdivW, modW, powW, cmpOp, eqW, gtW, ltW, leW, geW, isNonW, W.isNon, bifn, lenW, absW, intW, max2W, min2W, tupleW, listW, allI, datOk, W.depth, W.depths, W.dat, W.dats, W.frz, W.frzs, W.fz, W.fzs, D.w, D.ws, pyEq, pyEqs, getIx, setIx, ixn, augOp, tyAny, tyB, truth, meth, recv, recvL, recvS, start, take, setAll, mulOk, ibeq, SZv, log2_nat, fixed, rng_two, rng_one, rng_three, rng_four, rng_five, rng_six, wipe, outsFrom, fin, mkExc, frzs_strs, frzs_ints, fzs_strs, fzs_ints, seqWalk, ep, hj]
/-- a budget -/
def bud (a b c d e : Int) : W := .lst true [.int a, .int b, .int c, .int d, .int e]
theorem text_ok {b0 b1 b2 b3 b4 : Int} (ht : P.fns[x.take]? = some takeFn) (hp : P.fns[x.prose]? = some (proseFn x)) (hf : P.fns[x.text]? = some (textFn x)) (px : Pool N p) (hN : N < 800000000000) (h1 : 0 < b1) :
    ∃ (s : List Char) (p' : W), 1 ≤ s.length ∧ s.length ≤ 60 ∧ (s.length : Int) ≤ b1 ∧ (∀ c ∈ s, c ∈ signs) ∧ Pool (N + 100) p' ∧ callF P (k + 3) x.text [p, bud b0 b1 b2 b3 b4] = some (.ok (.str s) [p', bud b0 (b1 - s.length) b2 b3 b4]) := by
  obtain ⟨v, p1, a1, c1, q1, e1⟩ := take_ok (k := k + 1) (many := 4) ht px (by omega) (by omega) (by omega)
  generalize hm : ([4, 4, 9, 60] : List Int)[v.toNat]'(by simp; omega) = m
  have m0 : 4 ≤ m ∧ m ≤ 60 := by
    rcases (by omega : v = 0 ∨ v = 1 ∨ v = 2 ∨ v = 3) with rfl | rfl | rfl | rfl <;> (simp at hm; omega)
  have hix : ∀ hh, ([.int 4, .int 4, .int 9, .int 60] : List W)[v.toNat]'hh = .int m := by
    rcases (by omega : v = 0 ∨ v = 1 ∨ v = 2 ∨ v = 3) with rfl | rfl | rfl | rfl <;> (intro hh; simp at hm; subst hm; rfl)
  generalize hg : (if b1 < m then b1 else m) = g
  have g0 : 0 < g ∧ g ≤ 60 ∧ g ≤ b1 := by rw [← hg]; split <;> omega
  obtain ⟨u, p2, a2, c2, q2, e2⟩ := take_ok (k := k + 1) (many := g) ht q1 (by omega) (by omega) (by omega)
  obtain ⟨s, p3, l1, l2, q3, e3⟩ := prose_ok (k := k) (many := 1 + u) ht hp q2 (by omega) (by omega) (by omega)
  have hsl : (s.length : Int) = 1 + u := by omega
  refine ⟨s, p3, by omega, by omega, by omega, l2, q3.mono (by omega), ?_⟩
  rw [hsl]
  have z0 := px.frz
  have z1 := q1.frz
  have z2 := q2.frz
  rw [call_eq hf rfl]
  simp [textFn, bud, exec, ev, evT, evs, evPs, evo, evC, evI, pk_var, pk_mov, pk_cst, pk_fnv, pk_bin, pk_cmp, pk_ch2, pk_neg, pk_not, pk_and, pk_or, pk_ife, pk_tup, pk_lst, pk_ix, pk_sl, pk_call, pk_blt, pk_mut, pk_meth, pk_isin, pk_isx, pk_xfld, M.bind, M.pure, M.opt, M.fail, M.get, M.gets, PV.P.get, onE, okSet, doCall, doMut, mutW, lend, back, binOp, addW, subW, mulW, fdivW, modW, powW, cmpOp, eqW, gtW, ltW, leW, geW, isNonW, W.isNon, bifn, lenW, absW, intW, max2W, min2W, tupleW, listW, allI, datOk, W.depth, W.depths, W.dat, W.dats, W.frz, W.frzs, W.fz, W.fzs, D.w, D.ws, pyEq, pyEqs, getIx, setIx, ixn, augOp, tyAny, tyB, truth, meth, recv, recvL, recvS, start, take, setAll, mulOk, ibeq, SZv, log2_nat, fixed, rng_two, rng_one, rng_three, rng_four, rng_five, rng_six, wipe, outsFrom, fin, mkExc, frzs_strs, frzs_ints, fzs_strs, fzs_ints, seqWalk, z0, z1, z2, e1, a1, c1, hix, hg, e2, e3]
/-! ### marks -/
/-- a name put in its place among names -/
def insM (ms : List (List Char)) (n : List Char) : List (List Char) := ms.filter (fun m => ltS m n) ++ [n] ++ ms.filter (fun m => ltS n m)
theorem insM_mem {ms : List (List Char)} {n s : List Char} (h : s ∈ insM ms n) : s = n ∨ s ∈ ms := by
  unfold insM at h
  simp only [List.mem_append, List.mem_singleton, List.mem_filter] at h
  rcases h with (h | h) | h
  · exact .inr h.1
  · exact .inl h
  · exact .inr h.1
theorem ltL_trans {a b c : List Nat} (h1 : a < b) (h2 : b < c) : a < c := List.lt_trans h1 h2
theorem ltS_trans {a b c : List Char} (h1 : ltS a b = true) (h2 : ltS b c = true) : ltS a c = true := decide_eq_true (ltL_trans (of_decide_eq_true h1) (of_decide_eq_true h2))
theorem ltS_irrefl {a : List Char} : ltS a a = false := decide_eq_false (List.lt_irrefl _)
theorem ltS_asymm {a b : List Char} (h1 : ltS a b = true) : ltS b a = false := by
  cases h : ltS b a with
  | false => rfl
  | true => exact absurd ((ltS_irrefl (a := a)).symm.trans (ltS_trans h1 h)) Bool.false_ne_true
/-- marks: at most three names in ascending order -/
def asc (ms : List (List Char)) : Prop := ms.Pairwise fun a b => ltS a b = true
structure isMs (ms : List (List Char)) : Prop where
  len : ms.length ≤ 3
  nm : ∀ s ∈ ms, isNm s
  asc : asc ms
theorem asc_filter {ms : List (List Char)} {f : List Char → Bool} (h : asc ms) : asc (ms.filter f) := h.sublist List.filter_sublist
theorem insM_asc {ms : List (List Char)} {n : List Char} (h : asc ms) : asc (insM ms n) := by
  unfold insM asc
  rw [List.pairwise_append, List.pairwise_append]
  refine ⟨⟨asc_filter h, List.pairwise_singleton _ _, fun a ha b hb => ?_⟩, asc_filter h, fun a ha b hb => ?_⟩
  · rw [List.mem_singleton.mp hb]
    exact (List.mem_filter.mp ha).2
  · have hb' := (List.mem_filter.mp hb).2
    rcases List.mem_append.mp ha with ha | ha
    · exact ltS_trans (List.mem_filter.mp ha).2 hb'
    · rw [List.mem_singleton.mp ha]; exact hb'
theorem filter2_len {α : Type} {f g : α → Bool} (h : ∀ a, f a = true → g a = true → False) : ∀ l : List α, (l.filter f).length + (l.filter g).length ≤ l.length
  | [] => Nat.le_refl _
  | a :: l => by
    have ih := filter2_len h l
    by_cases hf : f a = true
    · have hg : ¬ g a = true := fun z => h a hf z
      rw [List.filter_cons_of_pos hf, List.filter_cons_of_neg hg, List.length_cons, List.length_cons]; omega
    · rw [List.filter_cons_of_neg hf]
      by_cases hg : g a = true
      · rw [List.filter_cons_of_pos hg, List.length_cons, List.length_cons]; omega
      · rw [List.filter_cons_of_neg hg, List.length_cons]; omega
theorem insM_len {ms : List (List Char)} {n : List Char} : (insM ms n).length ≤ ms.length + 1 := by
  unfold insM
  have h := filter2_len (f := fun m => ltS m n) (g := fun m => ltS n m) (fun a h1 h2 => by
    rw [ltS_asymm h1] at h2; cases h2) ms
  simp only [List.length_append, List.length_singleton]
  omega
theorem marks_ok {nms : List (List Char)} (ht : P.fns[x.take]? = some takeFn) (hl : P.fns[x.letters]? = some (lettersFn x)) (hn : P.fns[x.name]? = some (nameFn x)) (hf : P.fns[x.marks]? = some (marksFn x)) (px : Pool N p) (hN : N < 700000000000)
    (hnm : ∀ s ∈ nms, isNm s) (hz : nms.length ≤ 9000000) :
    ∃ (ms new : List (List Char)) (p' : W), isMs ms ∧ new.length ≤ 3 ∧ (∀ s ∈ new, isNm s) ∧ Pool (N + 100) p' ∧
      callF P (k + 4) x.marks [p, nmW nms] = some (.ok (.tup (ms.map W.str)) [p', nmW (nms ++ new)]) := by
  obtain ⟨v, p1, a1, b1, q1, e1⟩ := take_ok (k := k + 2) (many := 4) ht px (by omega) (by omega) (by omega)
  obtain ⟨σ', e, p', ms, new, rfl, q2, h1, h2, h3, h4⟩ := for_ind (fx := [0, 1]) (tg := .name 3) (wp := [3, 4, 5, 6]) (b := fun σ => exec P.xs (cl P (k + 3) [0, 1]) (marks_6 x) σ) (rngItems 0 v.toNat 1)
    (fun i σ => ∃ p' ms new, σ = [some p', some (nmW (nms ++ new)), some (.lst true (ms.map W.str)), none, none, none, none, none] ∧ Pool (N + 1 + 30 * i) p' ∧ ms.length ≤ i ∧ new.length = i ∧ (∀ s ∈ new, isNm s) ∧ asc ms ∧ ∀ s ∈ ms, isNm s)
    (fun i it σ ei ⟨p', ms, new, e1, q1, h1, h2, h3, h4, h5⟩ => by
      obtain ⟨hi, rfl⟩ := rng_at ei
      subst e1
      obtain ⟨s, p2, hs, q2, e2⟩ := name_ok (k := k) (nms := nms ++ new) ht hl hn q1 (by omega) (fun s hs => (List.mem_append.mp hs).elim (hnm s) (h3 s)) (by simp; omega)
      have cA : ev (cl P (k + 3) [0, 1]) (marks_2 x) [some p2, some (nmW (nms ++ new ++ [s])), some (.lst true (ms.map W.str)), some (.int (0 + (i : Int) * 1)), some (.str s), none, none, none] = some (.ok (.lst true ((ms.filter fun m => ltS m s).map W.str)) [some p2, some (nmW (nms ++ new ++ [s])), some (.lst false (ms.map W.str)), some (.int (0 + (i : Int) * 1)), some (.str s), none, none, none]) :=
        comp_of (σ1 := [some p2, some (nmW (nms ++ new ++ [s])), some (.lst false (ms.map W.str)), some (.int (0 + (i : Int) * 1)), some (.str s), none, none, none]) (xs := ms.map fun m => .one (.str m)) (by simp [exec, ev, evT, evs, evPs, evo, evC, evI, pk_var, pk_mov, pk_cst, pk_fnv, pk_bin, pk_cmp, pk_ch2, pk_neg, pk_not, pk_and, pk_or, pk_ife, pk_tup, pk_lst, pk_ix, pk_sl, pk_call, pk_blt, pk_mut, pk_meth, pk_isin, pk_isx, pk_xfld, M.bind, M.pure, M.opt, M.fail, M.get, M.gets, PV.P.get, onE, okSet, doCall, doMut, mutW, lend, back, binOp, addW, subW, mulW, fdivW, modW, powW, cmpOp, eqW, gtW, ltW, leW, geW, isNonW, W.isNon, bifn, lenW, absW, intW, max2W, min2W, tupleW, listW, allI, datOk, W.depth, W.depths, W.dat, W.dats, W.frz, W.frzs, W.fz, W.fzs, D.w, D.ws, pyEq, pyEqs, getIx, setIx, ixn, augOp, tyAny, tyB, truth, meth, recv, recvL, recvS, start, take, setAll, mulOk, ibeq, SZv, log2_nat, fixed, rng_two, rng_one, rng_three, rng_four, rng_five, rng_six, wipe, outsFrom, fin, mkExc, frzs_strs, frzs_ints, fzs_strs, fzs_ints, seqWalk]) (comp_pure (fun m => .one (.str m)) (fun m => ltS m s) W.str _ ms [] (by simp; omega) fun m hm => ⟨_, rfl, by simp [marks_0, marks_1, exec, ev, evT, evs, evPs, evo, evC, evI, pk_var, pk_mov, pk_cst, pk_fnv, pk_bin, pk_cmp, pk_ch2, pk_neg, pk_not, pk_and, pk_or, pk_ife, pk_tup, pk_lst, pk_ix, pk_sl, pk_call, pk_blt, pk_mut, pk_meth, pk_isin, pk_isx, pk_xfld, M.bind, M.pure, M.opt, M.fail, M.get, M.gets, PV.P.get, onE, okSet, doCall, doMut, mutW, lend, back, binOp, addW, subW, mulW, fdivW, modW, powW, cmpOp, eqW, gtW, ltW, leW, geW, isNonW, W.isNon, bifn, lenW, absW, intW, max2W, min2W, tupleW, listW, allI, datOk, W.depth, W.depths, W.dat, W.dats, W.frz, W.frzs, W.fz, W.fzs, D.w, D.ws, pyEq, pyEqs, getIx, setIx, ixn, augOp, tyAny, tyB, truth, meth, recv, recvL, recvS, start, take, setAll, mulOk, ibeq, SZv, log2_nat, fixed, rng_two, rng_one, rng_three, rng_four, rng_five, rng_six, wipe, outsFrom, fin, mkExc, frzs_strs, frzs_ints, fzs_strs, fzs_ints, seqWalk]⟩)
      have cB : ∀ o5, ev (cl P (k + 3) [0, 1]) (marks_5 x) [some p2, some (nmW (nms ++ new ++ [s])), some (.lst false (ms.map W.str)), some (.int (0 + (i : Int) * 1)), some (.str s), o5, none, none] = some (.ok (.lst true ((ms.filter fun m => ltS s m).map W.str)) [some p2, some (nmW (nms ++ new ++ [s])), some (.lst false (ms.map W.str)), some (.int (0 + (i : Int) * 1)), some (.str s), o5, none, none]) := fun o5 =>
        comp_of (σ1 := [some p2, some (nmW (nms ++ new ++ [s])), some (.lst false (ms.map W.str)), some (.int (0 + (i : Int) * 1)), some (.str s), o5, none, none]) (xs := ms.map fun m => .one (.str m)) (by simp [exec, ev, evT, evs, evPs, evo, evC, evI, pk_var, pk_mov, pk_cst, pk_fnv, pk_bin, pk_cmp, pk_ch2, pk_neg, pk_not, pk_and, pk_or, pk_ife, pk_tup, pk_lst, pk_ix, pk_sl, pk_call, pk_blt, pk_mut, pk_meth, pk_isin, pk_isx, pk_xfld, M.bind, M.pure, M.opt, M.fail, M.get, M.gets, PV.P.get, onE, okSet, doCall, doMut, mutW, lend, back, binOp, addW, subW, mulW, fdivW, modW, powW, cmpOp, eqW, gtW, ltW, leW, geW, isNonW, W.isNon, bifn, lenW, absW, intW, max2W, min2W, tupleW, listW, allI, datOk, W.depth, W.depths, W.dat, W.dats, W.frz, W.frzs, W.fz, W.fzs, D.w, D.ws, pyEq, pyEqs, getIx, setIx, ixn, augOp, tyAny, tyB, truth, meth, recv, recvL, recvS, start, take, setAll, mulOk, ibeq, SZv, log2_nat, fixed, rng_two, rng_one, rng_three, rng_four, rng_five, rng_six, wipe, outsFrom, fin, mkExc, frzs_strs, frzs_ints, fzs_strs, fzs_ints, seqWalk]) (comp_pure (fun m => .one (.str m)) (fun m => ltS s m) W.str _ ms [] (by simp; omega) fun m hm => ⟨_, rfl, by simp [marks_3, marks_4, exec, ev, evT, evs, evPs, evo, evC, evI, pk_var, pk_mov, pk_cst, pk_fnv, pk_bin, pk_cmp, pk_ch2, pk_neg, pk_not, pk_and, pk_or, pk_ife, pk_tup, pk_lst, pk_ix, pk_sl, pk_call, pk_blt, pk_mut, pk_meth, pk_isin, pk_isx, pk_xfld, M.bind, M.pure, M.opt, M.fail, M.get, M.gets, PV.P.get, onE, okSet, doCall, doMut, mutW, lend, back, binOp, addW, subW, mulW, fdivW, modW, powW, cmpOp, eqW, gtW, ltW, leW, geW, isNonW, W.isNon, bifn, lenW, absW, intW, max2W, min2W, tupleW, listW, allI, datOk, W.depth, W.depths, W.dat, W.dats, W.frz, W.frzs, W.fz, W.fzs, D.w, D.ws, pyEq, pyEqs, getIx, setIx, ixn, augOp, tyAny, tyB, truth, meth, recv, recvL, recvS, start, take, setAll, mulOk, ibeq, SZv, log2_nat, fixed, rng_two, rng_one, rng_three, rng_four, rng_five, rng_six, wipe, outsFrom, fin, mkExc, frzs_strs, frzs_ints, fzs_strs, fzs_ints, seqWalk]⟩)
      have cB' := fun o5 => pk_ev rfl (cB o5)
      have l1 := List.length_filter_le (fun m => ltS m s) ms
      have l2 := List.length_filter_le (fun m => ltS s m) ms
      have z1 := q1.frz
      refine ⟨[some p', some (nmW (nms ++ new)), some (.lst true (ms.map W.str)), some (.int (0 + (i : Int) * 1)), none, none, none, none], by simp [take], [some p2, some (nmW (nms ++ new ++ [s])), some (.lst true ((insM ms s).map W.str)), some (.int (0 + (i : Int) * 1)), some (.str s), some (.lst true ((ms.filter fun m => ltS m s).map W.str)), none, none], .inl ?_, p2, insM ms s, new ++ [s], by simp [wipe], q2.mono (by omega), ?_, by simp [h2], fun z hz => ?_, insM_asc h4, fun z hz => ?_⟩
      · have s1 : (ms.filter fun m => ltS m s).length + 1 ≤ 16777216 := by omega
        have s2 : (ms.filter fun m => ltS m s).length + (1 + (ms.filter fun m => ltS s m).length) ≤ 16777216 := by omega
        unfold nmW at *
        simp at cA cB' e2
        simp [marks_6, exec, ev, evT, evs, evPs, evo, evC, evI, pk_var, pk_mov, pk_cst, pk_fnv, pk_bin, pk_cmp, pk_ch2, pk_neg, pk_not, pk_and, pk_or, pk_ife, pk_tup, pk_lst, pk_ix, pk_sl, pk_call, pk_blt, pk_mut, pk_meth, pk_isin, pk_isx, pk_xfld, M.bind, M.pure, M.opt, M.fail, M.get, M.gets, PV.P.get, onE, okSet, doCall, doMut, mutW, lend, back, binOp, addW, subW, mulW, fdivW, modW, powW, cmpOp, eqW, gtW, ltW, leW, geW, isNonW, W.isNon, bifn, lenW, absW, intW, max2W, min2W, tupleW, listW, allI, datOk, W.depth, W.depths, W.dat, W.dats, W.frz, W.frzs, W.fz, W.fzs, D.w, D.ws, pyEq, pyEqs, getIx, setIx, ixn, augOp, tyAny, tyB, truth, meth, recv, recvL, recvS, start, take, setAll, mulOk, ibeq, SZv, log2_nat, fixed, rng_two, rng_one, rng_three, rng_four, rng_five, rng_six, wipe, outsFrom, fin, mkExc, frzs_strs, frzs_ints, fzs_strs, fzs_ints, seqWalk, z1, e2, cA, cB', s1, s2, frzs_append, insM, Nat.add_assoc]
      · have := insM_len (ms := ms) (n := s); omega
      · rcases List.mem_append.mp hz with hz | hz
        · exact h3 z hz
        · rw [List.mem_singleton.mp hz]; exact hs
      · rcases insM_mem hz with rfl | hz
        · exact hs
        · exact h5 z hz)
    [some p1, some (nmW nms), some (.lst true []), none, none, none, none, none] ⟨p1, [], [], by simp, q1, Nat.le_refl _, rfl, fun s hs => (by cases hs), List.Pairwise.nil, fun s hs => (by cases hs)⟩
  rw [rng_n] at q2 h1 h2
  have ef : exec P.xs (cl P (k + 3) [0, 1]) (marks_7 x) [some p, some (nmW nms), some (.lst true []), none, none, none, none, none] = some (.ok (.nx [some p', some (nmW (nms ++ new)), some (.lst true (ms.map W.str)), none, none, none, none, none])) := by
    refine for_of (σ1 := [some p1, some (nmW nms), some (.lst true []), none, none, none, none, none]) (xs := rngItems 0 v.toNat 1) ?_ e
    have z := px.frz
    simp [exec, ev, evT, evs, evPs, evo, evC, evI, pk_var, pk_mov, pk_cst, pk_fnv, pk_bin, pk_cmp, pk_ch2, pk_neg, pk_not, pk_and, pk_or, pk_ife, pk_tup, pk_lst, pk_ix, pk_sl, pk_call, pk_blt, pk_mut, pk_meth, pk_isin, pk_isx, pk_xfld, M.bind, M.pure, M.opt, M.fail, M.get, M.gets, PV.P.get, onE, okSet, doCall, doMut, mutW, lend, back, binOp, addW, subW, mulW, fdivW, modW, powW, cmpOp, eqW, gtW, ltW, leW, geW, isNonW, W.isNon, bifn, lenW, absW, intW, max2W, min2W, tupleW, listW, allI, datOk, W.depth, W.depths, W.dat, W.dats, W.frz, W.frzs, W.fz, W.fzs, D.w, D.ws, pyEq, pyEqs, getIx, setIx, ixn, augOp, tyAny, tyB, truth, meth, recv, recvL, recvS, start, take, setAll, mulOk, ibeq, SZv, log2_nat, fixed, rng_two, rng_one, rng_three, rng_four, rng_five, rng_six, wipe, outsFrom, fin, mkExc, frzs_strs, frzs_ints, fzs_strs, fzs_ints, seqWalk, e1, z, rng0 a1 (by omega)]
  refine ⟨ms, new, p', ⟨by omega, h4.2, h4.1⟩, by omega, h3, q2.mono (by omega), ?_⟩
  rw [call_eq hf rfl]
  unfold nmW at *
  simp [marksFn, exec, ev, evT, evs, evPs, evo, evC, evI, pk_var, pk_mov, pk_cst, pk_fnv, pk_bin, pk_cmp, pk_ch2, pk_neg, pk_not, pk_and, pk_or, pk_ife, pk_tup, pk_lst, pk_ix, pk_sl, pk_call, pk_blt, pk_mut, pk_meth, pk_isin, pk_isx, pk_xfld, M.bind, M.pure, M.opt, M.fail, M.get, M.gets, PV.P.get, onE, okSet, doCall, doMut, mutW, lend, back, binOp, addW, subW, mulW, fdivW, modW, powW, cmpOp, eqW, gtW, ltW, leW, geW, isNonW, W.isNon, bifn, lenW, absW, intW, max2W, min2W, tupleW, listW, allI, datOk, W.depth, W.depths, W.dat, W.dats, W.frz, W.frzs, W.fz, W.fzs, D.w, D.ws, pyEq, pyEqs, getIx, setIx, ixn, augOp, tyAny, tyB, truth, meth, recv, recvL, recvS, start, take, setAll, mulOk, ibeq, SZv, log2_nat, fixed, rng_two, rng_one, rng_three, rng_four, rng_five, rng_six, wipe, outsFrom, fin, mkExc, frzs_strs, frzs_ints, fzs_strs, fzs_ints, seqWalk, ef]
end
end PV

/-! V9: the drawn documents: items, parts. -/
namespace PV
/-- an item of a document -/
inductive Itm where
  | txt (s : List Char) | ref (n : List Char) | lab (n : List Char) | prt (k : List Char) (ms : List (List Char)) (is : List Itm)
  deriving Inhabited
mutual
def Itm.w : Itm → W
  | .txt s => .str s
  | .ref n => .tup [.str ['@'], .str n]
  | .lab n => .tup [.str ['#'], .str n]
  | .prt k ms is => .tup [.str k, .tup (ms.map W.str), .tup (Itm.ws is)]
def Itm.ws : List Itm → List W
  | [] => []
  | i :: is => i.w :: Itm.ws is
end
theorem ws_map : ∀ {is : List Itm}, Itm.ws is = is.map Itm.w
  | [] => rfl
  | i :: is => by rw [Itm.ws, ws_map, List.map_cons]
mutual
@[simp] theorem Itm.frz : ∀ t : Itm, t.w.frz = true
  | .txt s => rfl
  | .ref n => rfl
  | .lab n => rfl
  | .prt k ms is => by simp [Itm.w, W.frz, W.frzs, frzs_strs, Itm.frzs is]
@[simp] theorem Itm.frzs : ∀ t : List Itm, W.frzs (Itm.ws t) = true
  | [] => rfl
  | i :: is => by rw [Itm.ws, W.frzs, Itm.frz i, Itm.frzs is]; rfl
end
@[simp] theorem Itm.fz {t : Itm} : t.w.fz = t.w := fz_frz _ t.frz
@[simp] theorem Itm.fzs {t : List Itm} : W.fzs (Itm.ws t) = Itm.ws t := fzs_frz _ (Itm.frzs t)
theorem dats_strs {l : List (List Char)} : W.dats (l.map W.str) = true := dats_all.mpr fun x hx => by
  obtain ⟨y, _, rfl⟩ := List.mem_map.mp hx
  rfl
theorem depths_strs {l : List (List Char)} : W.depths (l.map W.str) = 0 := Nat.le_zero.mp (depths_le.mpr fun x hx => by
  obtain ⟨y, _, rfl⟩ := List.mem_map.mp hx
  exact Nat.le_refl _)
mutual
@[simp] theorem Itm.dat : ∀ t : Itm, t.w.dat = true
  | .txt s => rfl
  | .ref n => rfl
  | .lab n => rfl
  | .prt k ms is => by simp [Itm.w, W.dat, W.dats, dats_strs, Itm.dats is]
@[simp] theorem Itm.dats : ∀ t : List Itm, W.dats (Itm.ws t) = true
  | [] => rfl
  | i :: is => by rw [Itm.ws, W.dats, Itm.dat i, Itm.dats is]; rfl
end
mutual
/-- parts one in another -/
def Itm.dep : Itm → Nat
  | .prt _ _ is => 1 + Itm.deps is
  | _ => 0
def Itm.deps : List Itm → Nat
  | [] => 0
  | i :: is => max i.dep (Itm.deps is)
end
mutual
theorem Itm.depth : ∀ t : Itm, t.w.depth ≤ 2 * t.dep + 1
  | .txt s => by simp [Itm.w, W.depth]
  | .ref n => by simp [Itm.w, W.depth, W.depths]
  | .lab n => by simp [Itm.w, W.depth, W.depths]
  | .prt k ms is => by
    have := Itm.depths is
    simp only [Itm.w, W.depth, W.depths, depths_strs, Itm.dep]
    omega
theorem Itm.depths : ∀ t : List Itm, W.depths (Itm.ws t) ≤ 2 * Itm.deps t + 1
  | [] => by simp [Itm.ws, W.depths]
  | i :: is => by
    have h1 := Itm.depth i
    have h2 := Itm.depths is
    simp only [Itm.ws, W.depths, Itm.deps]
    omega
end
mutual
/-- items, it too -/
def Itm.cnt : Itm → Nat
  | .prt _ _ is => 1 + Itm.cnts is
  | _ => 1
def Itm.cnts : List Itm → Nat
  | [] => 0
  | i :: is => i.cnt + Itm.cnts is
end
mutual
/-- characters of texts -/
def Itm.chr : Itm → Nat
  | .txt s => s.length
  | .prt _ _ is => Itm.chrs is
  | _ => 0
def Itm.chrs : List Itm → Nat
  | [] => 0
  | i :: is => i.chr + Itm.chrs is
end
mutual
/-- references -/
def Itm.rf : Itm → Nat
  | .ref _ => 1
  | .prt _ _ is => Itm.rfs is
  | _ => 0
def Itm.rfs : List Itm → Nat
  | [] => 0
  | i :: is => i.rf + Itm.rfs is
end
mutual
/-- items of a part -/
def Itm.wid : Itm → Nat
  | .prt _ _ is => max is.length (Itm.wids is)
  | _ => 0
def Itm.wids : List Itm → Nat
  | [] => 0
  | i :: is => max i.wid (Itm.wids is)
end
mutual
/-- rightly built -/
def Itm.good : Itm → Prop
  | .txt s => 1 ≤ s.length ∧ s.length ≤ 60 ∧ ∀ c ∈ s, c ∈ signs
  | .ref n => isNm n
  | .lab n => isNm n
  | .prt k ms is => isNm k ∧ isMs ms ∧ Itm.goods is
def Itm.goods : List Itm → Prop
  | [] => True
  | i :: is => i.good ∧ Itm.goods is
end
theorem goods_iff : ∀ {is : List Itm}, Itm.goods is ↔ ∀ i ∈ is, i.good
  | [] => by simp [Itm.goods]
  | i :: is => by simp [Itm.goods, goods_iff (is := is)]
theorem deps_le {n : Nat} : ∀ {is : List Itm}, Itm.deps is ≤ n ↔ ∀ i ∈ is, i.dep ≤ n
  | [] => by simp [Itm.deps]
  | i :: is => by simp [Itm.deps, ← deps_le (is := is), Nat.max_le]
theorem wids_le {n : Nat} : ∀ {is : List Itm}, Itm.wids is ≤ n ↔ ∀ i ∈ is, i.wid ≤ n
  | [] => by simp [Itm.wids]
  | i :: is => by simp [Itm.wids, ← wids_le (is := is), Nat.max_le]
theorem cnts_sum : ∀ {is : List Itm}, Itm.cnts is = (is.map Itm.cnt).sum
  | [] => rfl
  | i :: is => by simp [Itm.cnts, cnts_sum (is := is)]
theorem chrs_sum : ∀ {is : List Itm}, Itm.chrs is = (is.map Itm.chr).sum
  | [] => rfl
  | i :: is => by simp [Itm.chrs, chrs_sum (is := is)]
theorem rfs_sum : ∀ {is : List Itm}, Itm.rfs is = (is.map Itm.rf).sum
  | [] => rfl
  | i :: is => by simp [Itm.rfs, rfs_sum (is := is)]
theorem cnt_pos : ∀ {t : Itm}, 1 ≤ t.cnt
  | .txt _ => Nat.le_refl _
  | .ref _ => Nat.le_refl _
  | .lab _ => Nat.le_refl _
  | .prt _ _ _ => by unfold Itm.cnt; omega
def Itm.isPrt : Itm → Prop
  | .prt _ _ _ => True
  | _ => False
/-- a measure of an item put in another's stead -/
theorem sum_set {f : Itm → Nat} {e d : Itm} : ∀ {ds : List Itm} {i : Nat}, ds[i]? = some d → f e ≤ f d → ((ds.set i e).map f).sum ≤ (ds.map f).sum
  | [], i, h, _ => by simp at h
  | a :: ds, 0, h, hf => by
    simp at h
    subst h
    simp
    omega
  | a :: ds, i + 1, h, hf => by
    have := sum_set (ds := ds) (i := i) (by simpa using h) hf
    simp only [List.set_cons_succ, List.map_cons, List.sum_cons]
    omega
/-- what a piece of work may use -/
structure Use (N M : Nat) (b : Int) (N' M' : Nat) (b' : Int) (e : Nat) : Prop where
  b0 : 0 ≤ b'
  b1 : b' ≤ b
  n : (N' : Int) ≤ N + 300 * (b - b') + e
  m : (M' : Int) ≤ M + 10 * (1 + (b - b'))
theorem nmW_frz {l : List (List Char)} : (nmW l).frz = false := rfl
theorem bud_frz {a b c d e : Int} : (bud a b c d e).frz = false := rfl
section
variable {P : Prog} {x : Ix}
structure Fns (P : Prog) (x : Ix) : Prop where
  take : P.fns[x.take]? = some takeFn
  letters : P.fns[x.letters]? = some (lettersFn x)
  name : P.fns[x.name]? = some (nameFn x)
  marks : P.fns[x.marks]? = some (marksFn x)
  prose : P.fns[x.prose]? = some (proseFn x)
  text : P.fns[x.text]? = some (textFn x)
  item : P.fns[x.item]? = some (itemFn x)
  part : P.fns[x.part]? = some (partFn x)
/-- an item's or a part's def at a level of calls: at most n parts one in another -/
def Spec (P : Prog) (f K : Nat) (d b3 : Int) (n e : Nat) (Q : Itm → Prop) : Prop := ∀ (p : W) (nms : List (List Char)) (b0 b1 b2 b4 : Int) (N : Nat), Pool N p → (N : Int) + 300 * b0 + e ≤ 100000000000 → (∀ s ∈ nms, isNm s) → (nms.length : Int) + 10 * (1 + b0) ≤ 1000000 → 0 ≤ b0 → b0 ≤ 1000 → 0 ≤ b1 → 0 ≤ b2 → 0 ≤ b4 → b4 ≤ 1000 →
  ∃ (t : Itm) (p' : W) (nms' : List (List Char)) (b0' b1' b2' : Int) (N' : Nat), Q t ∧ t.good ∧ t.dep ≤ n ∧ (t.wid : Int) ≤ max 3 b4 ∧ (t.cnt : Int) ≤ 1 + (b0 - b0') ∧ (t.chr : Int) ≤ b1 - b1' ∧ (t.rf : Int) ≤ b2 - b2' ∧ Pool N' p' ∧ (∀ s ∈ nms', isNm s) ∧ 0 ≤ b1' ∧ 0 ≤ b2' ∧ Use N nms.length b0 N' nms'.length b0' e ∧
    callF P K f [p, nmW nms, bud b0 b1 b2 b3 b4, .int d] = some (.ok t.w [p', nmW nms', bud b0' b1' b2' b3 b4, .int d])
theorem nm_add {nms : List (List Char)} {s : List Char} (h : ∀ z ∈ nms, isNm z) (hs : isNm s) : ∀ z ∈ nms ++ [s], isNm z := fun z hz => (List.mem_append.mp hz).elim (h z) fun q => by rw [List.mem_singleton.mp q]; exact hs
theorem item_ok {k n : Nat} {d b3 : Int} (F : Fns P x) (ih : d ≤ b3 → Spec P x.part (k + 3) d b3 n 250 Itm.isPrt) : Spec P x.item (k + 4) d b3 n 300 (fun _ => True) := by
  intro p nms b0 b1 b2 b4 N px hN hnm hM h0 h0' h1 h2 h4 h4'
  obtain ⟨v, p1, a1, c1, q1, e1⟩ := take_ok (k := k + 2) (many := 8) F.take px (by omega) (by omega) (by omega)
  have z0 := px.frz
  have z1 := q1.frz
  by_cases hp : v < 3 ∧ d ≤ b3
  · obtain ⟨hv, hd⟩ := hp
    obtain ⟨t, p2, nms', b0', b1', b2', N', _, i1, i2, i3, i4, i5, i6, i7, i8, i9, i10, i11, e⟩ := ih hd p1 nms b0 b1 b2 b4 (N + 1) q1 (by omega) hnm hM h0 h0' h1 h2 h4 h4'
    have i11n := i11.n
    refine ⟨t, p2, nms', b0', b1', b2', N', trivial, i1, i2, i3, i4, i5, i6, i7, i8, i9, i10, ⟨i11.b0, i11.b1, by omega, i11.m⟩, ?_⟩
    rw [call_eq F.item rfl]
    unfold bud nmW at *
    simp [itemFn, exec, ev, evT, evs, evPs, evo, evC, evI, pk_var, pk_mov, pk_cst, pk_fnv, pk_bin, pk_cmp, pk_ch2, pk_neg, pk_not, pk_and, pk_or, pk_ife, pk_tup, pk_lst, pk_ix, pk_sl, pk_call, pk_blt, pk_mut, pk_meth, pk_isin, pk_isx, pk_xfld, M.bind, M.pure, M.opt, M.fail, M.get, M.gets, PV.P.get, onE, okSet, doCall, doMut, mutW, lend, back, binOp, addW, subW, mulW, fdivW, modW, powW, cmpOp, eqW, gtW, ltW, leW, geW, isNonW, W.isNon, bifn, lenW, absW, intW, max2W, min2W, tupleW, listW, allI, datOk, W.depth, W.depths, W.dat, W.dats, W.frz, W.frzs, W.fz, W.fzs, D.w, D.ws, pyEq, pyEqs, getIx, setIx, ixn, augOp, tyAny, tyB, truth, meth, recv, recvL, recvS, start, take, setAll, mulOk, ibeq, SZv, log2_nat, fixed, rng_two, rng_one, rng_three, rng_four, rng_five, rng_six, wipe, outsFrom, fin, mkExc, frzs_strs, frzs_ints, fzs_strs, fzs_ints, seqWalk, z0, z1, e1, hv, hd, e]
  · by_cases h3 : v = 3 ∧ 0 < b2
    · obtain ⟨hv, hb⟩ := h3
      obtain ⟨s, p2, hs, q2, e2⟩ := name_ok (k := k) F.take F.letters F.name q1 (by omega) hnm (by omega)
      refine ⟨.ref s, p2, nms ++ [s], b0, b1, b2 - 1, _, trivial, hs, Nat.zero_le _, (by show ((0 : Nat) : Int) ≤ _; omega), (by simp [Itm.cnt]), (by simp [Itm.chr]), (by simp [Itm.rf]; omega), q2, nm_add hnm hs, h1, by omega, ⟨h0, by omega, by omega, by simp⟩, ?_⟩
      subst hv
      rw [call_eq F.item rfl]
      unfold bud nmW at *
      simp at e2
      simp [itemFn, exec, ev, evT, evs, evPs, evo, evC, evI, pk_var, pk_mov, pk_cst, pk_fnv, pk_bin, pk_cmp, pk_ch2, pk_neg, pk_not, pk_and, pk_or, pk_ife, pk_tup, pk_lst, pk_ix, pk_sl, pk_call, pk_blt, pk_mut, pk_meth, pk_isin, pk_isx, pk_xfld, M.bind, M.pure, M.opt, M.fail, M.get, M.gets, PV.P.get, onE, okSet, doCall, doMut, mutW, lend, back, binOp, addW, subW, mulW, fdivW, modW, powW, cmpOp, eqW, gtW, ltW, leW, geW, isNonW, W.isNon, bifn, lenW, absW, intW, max2W, min2W, tupleW, listW, allI, datOk, W.depth, W.depths, W.dat, W.dats, W.frz, W.frzs, W.fz, W.fzs, D.w, D.ws, pyEq, pyEqs, getIx, setIx, ixn, augOp, tyAny, tyB, truth, meth, recv, recvL, recvS, start, take, setAll, mulOk, ibeq, SZv, log2_nat, fixed, rng_two, rng_one, rng_three, rng_four, rng_five, rng_six, wipe, outsFrom, fin, mkExc, frzs_strs, frzs_ints, fzs_strs, fzs_ints, seqWalk, z0, z1, e1, hb, e2, Itm.w]
    · by_cases h5 : 4 < v ∧ 0 < b1
      · obtain ⟨hv, hb⟩ := h5
        obtain ⟨s, p2, s1, s2, s3, s4, q2, e2⟩ := text_ok (k := k) (b0 := b0) (b2 := b2) (b3 := b3) (b4 := b4) F.take F.prose F.text q1 (by omega) hb
        refine ⟨.txt s, p2, nms, b0, b1 - s.length, b2, _, trivial, ⟨s1, s2, s4⟩, Nat.zero_le _, (by show ((0 : Nat) : Int) ≤ _; omega), (by simp [Itm.cnt]), (by simp [Itm.chr]; omega), (by simp [Itm.rf]), q2, hnm, by omega, h2, ⟨h0, by omega, by omega, by omega⟩, ?_⟩
        have f1 : ¬ (v < 3) := by omega
        have f2 : ¬ (v = 3) := by omega
        rw [call_eq F.item rfl]
        unfold bud nmW at *
        simp [itemFn, exec, ev, evT, evs, evPs, evo, evC, evI, pk_var, pk_mov, pk_cst, pk_fnv, pk_bin, pk_cmp, pk_ch2, pk_neg, pk_not, pk_and, pk_or, pk_ife, pk_tup, pk_lst, pk_ix, pk_sl, pk_call, pk_blt, pk_mut, pk_meth, pk_isin, pk_isx, pk_xfld, M.bind, M.pure, M.opt, M.fail, M.get, M.gets, PV.P.get, onE, okSet, doCall, doMut, mutW, lend, back, binOp, addW, subW, mulW, fdivW, modW, powW, cmpOp, eqW, gtW, ltW, leW, geW, isNonW, W.isNon, bifn, lenW, absW, intW, max2W, min2W, tupleW, listW, allI, datOk, W.depth, W.depths, W.dat, W.dats, W.frz, W.frzs, W.fz, W.fzs, D.w, D.ws, pyEq, pyEqs, getIx, setIx, ixn, augOp, tyAny, tyB, truth, meth, recv, recvL, recvS, start, take, setAll, mulOk, ibeq, SZv, log2_nat, fixed, rng_two, rng_one, rng_three, rng_four, rng_five, rng_six, wipe, outsFrom, fin, mkExc, frzs_strs, frzs_ints, fzs_strs, fzs_ints, seqWalk, z0, z1, e1, f1, f2, hv, hb, e2, Itm.w]
      · obtain ⟨s, p2, hs, q2, e2⟩ := name_ok (k := k) F.take F.letters F.name q1 (by omega) hnm (by omega)
        refine ⟨.lab s, p2, nms ++ [s], b0, b1, b2, _, trivial, hs, Nat.zero_le _, (by show ((0 : Nat) : Int) ≤ _; omega), (by simp [Itm.cnt]), (by simp [Itm.chr]), (by simp [Itm.rf]), q2, nm_add hnm hs, h1, h2, ⟨h0, by omega, by omega, by simp⟩, ?_⟩
        rw [call_eq F.item rfl]
        unfold bud nmW at *
        simp at e2
        by_cases f1 : v < 3
        · have f2 : ¬ (d ≤ b3) := fun z => hp ⟨f1, z⟩
          have f3 : ¬ (v = 3) := by omega
          have f4 : ¬ (4 < v) := by omega
          simp [itemFn, exec, ev, evT, evs, evPs, evo, evC, evI, pk_var, pk_mov, pk_cst, pk_fnv, pk_bin, pk_cmp, pk_ch2, pk_neg, pk_not, pk_and, pk_or, pk_ife, pk_tup, pk_lst, pk_ix, pk_sl, pk_call, pk_blt, pk_mut, pk_meth, pk_isin, pk_isx, pk_xfld, M.bind, M.pure, M.opt, M.fail, M.get, M.gets, PV.P.get, onE, okSet, doCall, doMut, mutW, lend, back, binOp, addW, subW, mulW, fdivW, modW, powW, cmpOp, eqW, gtW, ltW, leW, geW, isNonW, W.isNon, bifn, lenW, absW, intW, max2W, min2W, tupleW, listW, allI, datOk, W.depth, W.depths, W.dat, W.dats, W.frz, W.frzs, W.fz, W.fzs, D.w, D.ws, pyEq, pyEqs, getIx, setIx, ixn, augOp, tyAny, tyB, truth, meth, recv, recvL, recvS, start, take, setAll, mulOk, ibeq, SZv, log2_nat, fixed, rng_two, rng_one, rng_three, rng_four, rng_five, rng_six, wipe, outsFrom, fin, mkExc, frzs_strs, frzs_ints, fzs_strs, fzs_ints, seqWalk, z0, z1, e1, f1, f2, f3, f4, e2, Itm.w]
        · by_cases f3 : v = 3
          · have f5 : ¬ (0 < b2) := fun z => h3 ⟨f3, z⟩
            subst f3
            simp [itemFn, exec, ev, evT, evs, evPs, evo, evC, evI, pk_var, pk_mov, pk_cst, pk_fnv, pk_bin, pk_cmp, pk_ch2, pk_neg, pk_not, pk_and, pk_or, pk_ife, pk_tup, pk_lst, pk_ix, pk_sl, pk_call, pk_blt, pk_mut, pk_meth, pk_isin, pk_isx, pk_xfld, M.bind, M.pure, M.opt, M.fail, M.get, M.gets, PV.P.get, onE, okSet, doCall, doMut, mutW, lend, back, binOp, addW, subW, mulW, fdivW, modW, powW, cmpOp, eqW, gtW, ltW, leW, geW, isNonW, W.isNon, bifn, lenW, absW, intW, max2W, min2W, tupleW, listW, allI, datOk, W.depth, W.depths, W.dat, W.dats, W.frz, W.frzs, W.fz, W.fzs, D.w, D.ws, pyEq, pyEqs, getIx, setIx, ixn, augOp, tyAny, tyB, truth, meth, recv, recvL, recvS, start, take, setAll, mulOk, ibeq, SZv, log2_nat, fixed, rng_two, rng_one, rng_three, rng_four, rng_five, rng_six, wipe, outsFrom, fin, mkExc, frzs_strs, frzs_ints, fzs_strs, fzs_ints, seqWalk, z0, z1, e1, f5, e2, Itm.w]
          · by_cases f4 : 4 < v
            · have f6 : ¬ (0 < b1) := fun z => h5 ⟨f4, z⟩
              simp [itemFn, exec, ev, evT, evs, evPs, evo, evC, evI, pk_var, pk_mov, pk_cst, pk_fnv, pk_bin, pk_cmp, pk_ch2, pk_neg, pk_not, pk_and, pk_or, pk_ife, pk_tup, pk_lst, pk_ix, pk_sl, pk_call, pk_blt, pk_mut, pk_meth, pk_isin, pk_isx, pk_xfld, M.bind, M.pure, M.opt, M.fail, M.get, M.gets, PV.P.get, onE, okSet, doCall, doMut, mutW, lend, back, binOp, addW, subW, mulW, fdivW, modW, powW, cmpOp, eqW, gtW, ltW, leW, geW, isNonW, W.isNon, bifn, lenW, absW, intW, max2W, min2W, tupleW, listW, allI, datOk, W.depth, W.depths, W.dat, W.dats, W.frz, W.frzs, W.fz, W.fzs, D.w, D.ws, pyEq, pyEqs, getIx, setIx, ixn, augOp, tyAny, tyB, truth, meth, recv, recvL, recvS, start, take, setAll, mulOk, ibeq, SZv, log2_nat, fixed, rng_two, rng_one, rng_three, rng_four, rng_five, rng_six, wipe, outsFrom, fin, mkExc, frzs_strs, frzs_ints, fzs_strs, fzs_ints, seqWalk, z0, z1, e1, f1, f3, f4, f6, e2, Itm.w]
            · simp [itemFn, exec, ev, evT, evs, evPs, evo, evC, evI, pk_var, pk_mov, pk_cst, pk_fnv, pk_bin, pk_cmp, pk_ch2, pk_neg, pk_not, pk_and, pk_or, pk_ife, pk_tup, pk_lst, pk_ix, pk_sl, pk_call, pk_blt, pk_mut, pk_meth, pk_isin, pk_isx, pk_xfld, M.bind, M.pure, M.opt, M.fail, M.get, M.gets, PV.P.get, onE, okSet, doCall, doMut, mutW, lend, back, binOp, addW, subW, mulW, fdivW, modW, powW, cmpOp, eqW, gtW, ltW, leW, geW, isNonW, W.isNon, bifn, lenW, absW, intW, max2W, min2W, tupleW, listW, allI, datOk, W.depth, W.depths, W.dat, W.dats, W.frz, W.frzs, W.fz, W.fzs, D.w, D.ws, pyEq, pyEqs, getIx, setIx, ixn, augOp, tyAny, tyB, truth, meth, recv, recvL, recvS, start, take, setAll, mulOk, ibeq, SZv, log2_nat, fixed, rng_two, rng_one, rng_three, rng_four, rng_five, rng_six, wipe, outsFrom, fin, mkExc, frzs_strs, frzs_ints, fzs_strs, fzs_ints, seqWalk, z0, z1, e1, f1, f3, f4, e2, Itm.w]
theorem ws_app : ∀ {a b : List Itm}, Itm.ws (a ++ b) = Itm.ws a ++ Itm.ws b
  | [], b => rfl
  | i :: a, b => by rw [List.cons_append, Itm.ws, ws_app, Itm.ws, List.cons_append]
theorem ws_len : ∀ {a : List Itm}, (Itm.ws a).length = a.length
  | [] => rfl
  | i :: a => by rw [Itm.ws, List.length_cons, ws_len, List.length_cons]
theorem ws_set : ∀ {a : List Itm} {i : Nat} {t : Itm}, Itm.ws (a.set i t) = (Itm.ws a).set i t.w
  | [], _, _ => rfl
  | d :: a, 0, t => rfl
  | d :: a, i + 1, t => by rw [List.set_cons_succ, Itm.ws, ws_set, Itm.ws, List.set_cons_succ]
theorem dup_ok {C : Calls} {σ : St} {d : Itm} {ds : List Itm} (hi : d.good) (hd : d.dep ≤ 25) (h7 : σ[7]? = some (some (.lst true (Itm.ws (d :: ds))))) : ∃ b : Bool, evT C dupE σ = some (.ok b σ) ∧ (b = true → d.cnt = 1 ∧ d.chr = 0 ∧ d.rf = 0) := by
  cases d with
  | txt s =>
    obtain ⟨h1, h2, h3⟩ := hi
    cases s with
    | nil => simp at h1
    | cons c cs =>
      have l1 : cs.length + 1 ≤ 16777216 := by simp at h2; omega
      by_cases hc : c = '#'
      · subst hc
        exact absurd (h3 '#' List.mem_cons_self) (by decide)
      · have hb : (c == '#') = false := by simpa using hc
        exact ⟨false, by simp [dupE, slice, exec, ev, evT, evs, evPs, evo, evC, evI, pk_var, pk_mov, pk_cst, pk_fnv, pk_bin, pk_cmp, pk_ch2, pk_neg, pk_not, pk_and, pk_or, pk_ife, pk_tup, pk_lst, pk_ix, pk_sl, pk_call, pk_blt, pk_mut, pk_meth, pk_isin, pk_isx, pk_xfld, M.bind, M.pure, M.opt, M.fail, M.get, M.gets, PV.P.get, onE, okSet, doCall, doMut, mutW, lend, back, binOp, addW, subW, mulW, fdivW, modW, powW, cmpOp, eqW, gtW, ltW, leW, geW, isNonW, W.isNon, bifn, lenW, absW, intW, max2W, min2W, tupleW, listW, allI, datOk, W.depth, W.depths, W.dat, W.dats, W.frz, W.frzs, W.fz, W.fzs, D.w, D.ws, pyEq, pyEqs, getIx, setIx, ixn, augOp, tyAny, tyB, truth, meth, recv, recvL, recvS, start, take, setAll, mulOk, ibeq, SZv, log2_nat, fixed, rng_two, rng_one, rng_three, rng_four, rng_five, rng_six, wipe, outsFrom, fin, mkExc, frzs_strs, frzs_ints, fzs_strs, fzs_ints, seqWalk, h7, l1, hb, Itm.w, Itm.ws], fun z => by cases z⟩
  | ref n => exact ⟨false, by simp [dupE, slice, cut, slIx, exec, ev, evT, evs, evPs, evo, evC, evI, pk_var, pk_mov, pk_cst, pk_fnv, pk_bin, pk_cmp, pk_ch2, pk_neg, pk_not, pk_and, pk_or, pk_ife, pk_tup, pk_lst, pk_ix, pk_sl, pk_call, pk_blt, pk_mut, pk_meth, pk_isin, pk_isx, pk_xfld, M.bind, M.pure, M.opt, M.fail, M.get, M.gets, PV.P.get, onE, okSet, doCall, doMut, mutW, lend, back, binOp, addW, subW, mulW, fdivW, modW, powW, cmpOp, eqW, gtW, ltW, leW, geW, isNonW, W.isNon, bifn, lenW, absW, intW, max2W, min2W, tupleW, listW, allI, datOk, W.depth, W.depths, W.dat, W.dats, W.frz, W.frzs, W.fz, W.fzs, D.w, D.ws, pyEq, pyEqs, getIx, setIx, ixn, augOp, tyAny, tyB, truth, meth, recv, recvL, recvS, start, take, setAll, mulOk, ibeq, SZv, log2_nat, fixed, rng_two, rng_one, rng_three, rng_four, rng_five, rng_six, wipe, outsFrom, fin, mkExc, frzs_strs, frzs_ints, fzs_strs, fzs_ints, seqWalk, h7, Itm.w, Itm.ws], fun z => by cases z⟩
  | lab n => exact ⟨true, by simp [dupE, slice, cut, slIx, exec, ev, evT, evs, evPs, evo, evC, evI, pk_var, pk_mov, pk_cst, pk_fnv, pk_bin, pk_cmp, pk_ch2, pk_neg, pk_not, pk_and, pk_or, pk_ife, pk_tup, pk_lst, pk_ix, pk_sl, pk_call, pk_blt, pk_mut, pk_meth, pk_isin, pk_isx, pk_xfld, M.bind, M.pure, M.opt, M.fail, M.get, M.gets, PV.P.get, onE, okSet, doCall, doMut, mutW, lend, back, binOp, addW, subW, mulW, fdivW, modW, powW, cmpOp, eqW, gtW, ltW, leW, geW, isNonW, W.isNon, bifn, lenW, absW, intW, max2W, min2W, tupleW, listW, allI, datOk, W.depth, W.depths, W.dat, W.dats, W.frz, W.frzs, W.fz, W.fzs, D.w, D.ws, pyEq, pyEqs, getIx, setIx, ixn, augOp, tyAny, tyB, truth, meth, recv, recvL, recvS, start, take, setAll, mulOk, ibeq, SZv, log2_nat, fixed, rng_two, rng_one, rng_three, rng_four, rng_five, rng_six, wipe, outsFrom, fin, mkExc, frzs_strs, frzs_ints, fzs_strs, fzs_ints, seqWalk, h7, Itm.w, Itm.ws], fun _ => ⟨rfl, rfl, rfl⟩⟩
  | prt k ms is =>
    have hk : ¬ (k = ['#']) := fun e => by
      have := hi.1.2.2 '#' (by rw [e]; exact List.mem_singleton.mpr rfl)
      exact absurd this (by decide)
    have hkb : (k == ['#']) = false := by simpa using hk
    have hdd := Itm.depths is
    have d0 := Itm.dats is
    have d1 : W.depths (Itm.ws is) + 1 + 1 ≤ 60 := by
      simp only [Itm.dep] at hd
      omega
    cases is with
    | nil => exact ⟨true, by simp [dupE, slice, cut, slIx, exec, ev, evT, evs, evPs, evo, evC, evI, pk_var, pk_mov, pk_cst, pk_fnv, pk_bin, pk_cmp, pk_ch2, pk_neg, pk_not, pk_and, pk_or, pk_ife, pk_tup, pk_lst, pk_ix, pk_sl, pk_call, pk_blt, pk_mut, pk_meth, pk_isin, pk_isx, pk_xfld, M.bind, M.pure, M.opt, M.fail, M.get, M.gets, PV.P.get, onE, okSet, doCall, doMut, mutW, lend, back, binOp, addW, subW, mulW, fdivW, modW, powW, cmpOp, eqW, gtW, ltW, leW, geW, isNonW, W.isNon, bifn, lenW, absW, intW, max2W, min2W, tupleW, listW, allI, datOk, W.depth, W.depths, W.dat, W.dats, W.frz, W.frzs, W.fz, W.fzs, D.w, D.ws, pyEq, pyEqs, getIx, setIx, ixn, augOp, tyAny, tyB, truth, meth, recv, recvL, recvS, start, take, setAll, mulOk, ibeq, SZv, log2_nat, fixed, rng_two, rng_one, rng_three, rng_four, rng_five, rng_six, wipe, outsFrom, fin, mkExc, frzs_strs, frzs_ints, fzs_strs, fzs_ints, seqWalk, h7, hkb, Itm.w, Itm.ws], fun _ => ⟨rfl, rfl, rfl⟩⟩
    | cons e es =>
      simp only [Itm.ws] at d0 d1
      simp only [W.depths] at d1
      exact ⟨false, by simp [dupE, slice, cut, slIx, exec, ev, evT, evs, evPs, evo, evC, evI, pk_var, pk_mov, pk_cst, pk_fnv, pk_bin, pk_cmp, pk_ch2, pk_neg, pk_not, pk_and, pk_or, pk_ife, pk_tup, pk_lst, pk_ix, pk_sl, pk_call, pk_blt, pk_mut, pk_meth, pk_isin, pk_isx, pk_xfld, M.bind, M.pure, M.opt, M.fail, M.get, M.gets, PV.P.get, onE, okSet, doCall, doMut, mutW, lend, back, binOp, addW, subW, mulW, fdivW, modW, powW, cmpOp, eqW, gtW, ltW, leW, geW, isNonW, W.isNon, bifn, lenW, absW, intW, max2W, min2W, tupleW, listW, allI, datOk, W.depth, W.depths, W.dat, W.dats, W.frz, W.frzs, W.fz, W.fzs, D.w, D.ws, pyEq, pyEqs, getIx, setIx, ixn, augOp, tyAny, tyB, truth, meth, recv, recvL, recvS, start, take, setAll, mulOk, ibeq, SZv, log2_nat, fixed, rng_two, rng_one, rng_three, rng_four, rng_five, rng_six, wipe, outsFrom, fin, mkExc, frzs_strs, frzs_ints, fzs_strs, fzs_ints, seqWalk, h7, hkb, d1, Itm.w, Itm.ws], fun z => by cases z⟩
theorem sum_app {f : Itm → Nat} {a : List Itm} {t : Itm} : ((a ++ [t]).map f).sum = (a.map f).sum + f t := by simp
theorem part_step {k n : Nat} {d b3 : Int} (F : Fns P x) (hi : Spec P x.item (k + 4) (d + 1) b3 n 300 fun _ => True) {many B : Int} {p : W} {nms : List (List Char)} {b1 b2 b4 : Int} {N : Nat} {z4 z5 : Option W} (px : Pool N p) (hN : (N : Int) + 300 * (B + many) ≤ 100000000000) (hnm : ∀ s ∈ nms, isNm s) (hM : (nms.length : Int) + 10 * (B + many) ≤ 1000000)
    (hB : 0 ≤ B ∧ B ≤ 1000) (hm : 0 ≤ many ∧ many ≤ 1000) (h1 : 0 ≤ b1) (h2 : 0 ≤ b2) (h4 : 0 ≤ b4 ∧ b4 ≤ 1000) :
    ∃ (is : List Itm) (p' : W) (nms' : List (List Char)) (b0' b1' b2' : Int) (N' : Nat), is.length = many.toNat ∧ (∀ t ∈ is, t.good ∧ t.dep ≤ n ∧ (t.wid : Int) ≤ max 3 b4) ∧ ((is.map Itm.cnt).sum : Int) ≤ many + (B - b0') ∧ ((is.map Itm.chr).sum : Int) ≤ b1 - b1' ∧ ((is.map Itm.rf).sum : Int) ≤ b2 - b2' ∧ Pool N' p' ∧ (∀ s ∈ nms', isNm s) ∧ 0 ≤ b0' ∧ b0' ≤ B ∧ 0 ≤ b1' ∧ 0 ≤ b2' ∧ (N' : Int) ≤ N + 300 * (B - b0') + 300 * many ∧ (nms'.length : Int) ≤ nms.length + 10 * (many + (B - b0')) ∧
      exec P.xs (cl P (k + 4) [0, 1, 2, 3]) (part_1 x) [some p, some (nmW nms), some (bud B b1 b2 b3 b4), some (.int d), z4, z5, some (.int many), some (.lst true []), none] =
        some (.ok (.nx [some p', some (nmW nms'), some (bud b0' b1' b2' b3 b4), some (.int d), z4, z5, some (.int many), some (.lst true (Itm.ws is)), none])) := by
  obtain ⟨σ', e, is, p', nms', b0', b1', b2', N', q1, q2, q3, q4, q5, q6, q7, q8, q9, q10, q11, q12, q13, q14⟩ := for_ind (fx := [0, 1, 2, 3]) (tg := .name 8) (wp := [8]) (b := fun σ => exec P.xs (cl P (k + 4) [0, 1, 2, 3]) (part_0 x) σ) (rngItems 0 many.toNat 1)
    (fun i σ => ∃ (is : List Itm) (p' : W) (nms' : List (List Char)) (b0' b1' b2' : Int) (N' : Nat), σ = [some p', some (nmW nms'), some (bud b0' b1' b2' b3 b4), some (.int d), z4, z5, some (.int many), some (.lst true (Itm.ws is)), none] ∧ is.length = i ∧ (∀ t ∈ is, t.good ∧ t.dep ≤ n ∧ (t.wid : Int) ≤ max 3 b4) ∧ ((is.map Itm.cnt).sum : Int) ≤ i + (B - b0') ∧ ((is.map Itm.chr).sum : Int) ≤ b1 - b1' ∧ ((is.map Itm.rf).sum : Int) ≤ b2 - b2' ∧ Pool N' p' ∧ (∀ s ∈ nms', isNm s) ∧ 0 ≤ b0' ∧ b0' ≤ B ∧ 0 ≤ b1' ∧ 0 ≤ b2' ∧ (N' : Int) ≤ N + 300 * (B - b0') + 300 * i ∧ (nms'.length : Int) ≤ nms.length + 10 * (i + (B - b0')))
    (fun i it σ ei ⟨is, p', nms', b0', b1', b2', N', q1, q2, q3, q4, q5, q6, q7, q8, q9, q10, q11, q12, q13, q14⟩ => by
      obtain ⟨hi2, rfl⟩ := rng_at ei
      subst q1
      obtain ⟨t, p2, nms2, c0, c1, c2, N2, _, i1, i2, i3, i4, i5, i6, i7, i8, i9, i10, i11, e1⟩ := hi p' nms' b0' b1' b2' b4 N' q7 (by omega) q8 (by omega) q9 (by omega) q11 q12 h4.1 h4.2
      have u1 := i11.b1
      have u2 := i11.n
      have u3 := i11.m
      have u0 := i11.b0
      have hl : is.length < 16777216 := by omega
      have z0 := q7.frz
      refine ⟨[some p', some (nmW nms'), some (bud b0' b1' b2' b3 b4), some (.int d), z4, z5, some (.int many), some (.lst true (Itm.ws is)), some (.int (0 + (i : Int) * 1))], by simp [PV.take], [some p2, some (nmW nms2), some (bud c0 c1 c2 b3 b4), some (.int d), z4, z5, some (.int many), some (.lst true (Itm.ws (is ++ [t]))), some (.int (0 + (i : Int) * 1))], .inl ?_, is ++ [t], p2, nms2, c0, c1, c2, N2, by simp [wipe], by simp [q2], fun z hz => ?_, ?_, ?_, ?_, i7, i8, u0, by omega, i9, i10, by omega, by omega⟩
      · rw [ws_app]
        unfold bud nmW at *
        simp [part_0, exec, ev, evT, evs, evPs, evo, evC, evI, pk_var, pk_mov, pk_cst, pk_fnv, pk_bin, pk_cmp, pk_ch2, pk_neg, pk_not, pk_and, pk_or, pk_ife, pk_tup, pk_lst, pk_ix, pk_sl, pk_call, pk_blt, pk_mut, pk_meth, pk_isin, pk_isx, pk_xfld, M.bind, M.pure, M.opt, M.fail, M.get, M.gets, PV.P.get, onE, okSet, doCall, doMut, mutW, lend, back, binOp, addW, subW, mulW, fdivW, modW, powW, cmpOp, eqW, gtW, ltW, leW, geW, isNonW, W.isNon, bifn, lenW, absW, intW, max2W, min2W, tupleW, listW, allI, datOk, W.depth, W.depths, W.dat, W.dats, W.frz, W.frzs, W.fz, W.fzs, D.w, D.ws, pyEq, pyEqs, getIx, setIx, ixn, augOp, tyAny, tyB, truth, meth, recv, recvL, recvS, start, take, setAll, mulOk, ibeq, SZv, log2_nat, fixed, rng_two, rng_one, rng_three, rng_four, rng_five, rng_six, wipe, outsFrom, fin, mkExc, frzs_strs, frzs_ints, fzs_strs, fzs_ints, seqWalk, z0, e1, ws_len, hl, Itm.ws]
      · rcases List.mem_append.mp hz with hz | hz
        · exact q3 z hz
        · rw [List.mem_singleton.mp hz]; exact ⟨i1, i2, i3⟩
      · rw [sum_app]; omega
      · rw [sum_app]; omega
      · rw [sum_app]; omega)
    [some p, some (nmW nms), some (bud B b1 b2 b3 b4), some (.int d), z4, z5, some (.int many), some (.lst true []), none] ⟨[], p, nms, B, b1, b2, N, rfl, rfl, fun t ht => (by cases ht), (by simp), (by simp), (by simp), px, hnm, hB.1, Int.le_refl _, h1, h2, by omega, by omega⟩
  rw [rng_n] at q2 q4 q13 q14
  subst q1
  refine ⟨is, p', nms', b0', b1', b2', N', q2, q3, by omega, q5, q6, q7, q8, q9, q10, q11, q12, by omega, by omega, ?_⟩
  refine for_of (σ1 := [some p, some (nmW nms), some (bud B b1 b2 b3 b4), some (.int d), z4, z5, some (.int many), some (.lst true []), none]) (xs := rngItems 0 many.toNat 1) ?_ e
  simp [exec, ev, evT, evs, evPs, evo, evC, evI, pk_var, pk_mov, pk_cst, pk_fnv, pk_bin, pk_cmp, pk_ch2, pk_neg, pk_not, pk_and, pk_or, pk_ife, pk_tup, pk_lst, pk_ix, pk_sl, pk_call, pk_blt, pk_mut, pk_meth, pk_isin, pk_isx, pk_xfld, M.bind, M.pure, M.opt, M.fail, M.get, M.gets, PV.P.get, onE, okSet, doCall, doMut, mutW, lend, back, binOp, addW, subW, mulW, fdivW, modW, powW, cmpOp, eqW, gtW, ltW, leW, geW, isNonW, W.isNon, bifn, lenW, absW, intW, max2W, min2W, tupleW, listW, allI, datOk, W.depth, W.depths, W.dat, W.dats, W.frz, W.frzs, W.fz, W.fzs, D.w, D.ws, pyEq, pyEqs, getIx, setIx, ixn, augOp, tyAny, tyB, truth, meth, recv, recvL, recvS, start, take, setAll, mulOk, ibeq, SZv, log2_nat, fixed, rng_two, rng_one, rng_three, rng_four, rng_five, rng_six, wipe, outsFrom, fin, mkExc, frzs_strs, frzs_ints, fzs_strs, fzs_ints, seqWalk, rng0 hm.1 (by omega)]
theorem part2_ok {n : Nat} {mw : Int} {p : W} {nms : List (List Char)} {many : Int} {N : Nat} {z2 z3 z4 z5 z8 : Option W} {is : List Itm} {C : Calls} {X : List XCls} (px : Pool N p) (hl : is.length = many.toNat) (hm : 0 ≤ many ∧ many ≤ 1000) (hi : ∀ t ∈ is, t.good ∧ t.dep ≤ n ∧ (t.wid : Int) ≤ mw) (hn : n ≤ 25) (hfx : C.fx = [0, 1, 2, 3]) :
    ∃ (is' : List Itm), is'.length = is.length ∧ (∀ t ∈ is', t.good ∧ t.dep ≤ n ∧ (t.wid : Int) ≤ mw) ∧ (is'.map Itm.cnt).sum ≤ (is.map Itm.cnt).sum ∧ (is'.map Itm.chr).sum ≤ (is.map Itm.chr).sum ∧ (is'.map Itm.rf).sum ≤ (is.map Itm.rf).sum ∧ exec X C (part_2 x) [some p, some (nmW nms), z2, z3, z4, z5, some (.int many), some (.lst true (Itm.ws is)), z8] =
      some (.ok (.nx [some p, some (nmW nms), z2, z3, z4, z5, some (.int many), some (.lst true (Itm.ws is')), z8])) := by
  obtain ⟨a, b, c, d, e, rfl, _, _⟩ := px
  have same : exec X C (part_2 x) [some (.lst true [.int a, .int b, .int c, .int d, .int e]), some (nmW nms), z2, z3, z4, z5, some (.int many), some (.lst true (Itm.ws is)), z8] = some (.ok (.nx [some (.lst true [.int a, .int b, .int c, .int d, .int e]), some (nmW nms), z2, z3, z4, z5, some (.int many), some (.lst true (Itm.ws is)), z8])) → ∃ (is' : List Itm), is'.length = is.length ∧ (∀ t ∈ is', t.good ∧ t.dep ≤ n ∧ (t.wid : Int) ≤ mw) ∧ (is'.map Itm.cnt).sum ≤ (is.map Itm.cnt).sum ∧ (is'.map Itm.chr).sum ≤ (is.map Itm.chr).sum ∧ (is'.map Itm.rf).sum ≤ (is.map Itm.rf).sum ∧ exec X C (part_2 x) [some (.lst true [.int a, .int b, .int c, .int d, .int e]), some (nmW nms), z2, z3, z4, z5, some (.int many), some (.lst true (Itm.ws is)), z8] =
      some (.ok (.nx [some (.lst true [.int a, .int b, .int c, .int d, .int e]), some (nmW nms), z2, z3, z4, z5, some (.int many), some (.lst true (Itm.ws is')), z8])) := fun h => ⟨is, rfl, hi, Nat.le_refl _, Nat.le_refl _, Nat.le_refl _, h⟩
  by_cases h1 : 1 < many
  · by_cases h2 : c = 0
    · by_cases h3 : (nms.length : Int) % 3 = 1
      · cases is with
        | nil => simp at hl; omega
        | cons d0 ds =>
          obtain ⟨i1, i2, i3⟩ := hi d0 List.mem_cons_self
          obtain ⟨bb, e1, e2⟩ := dup_ok (C := C) (σ := [some (.lst true [.int a, .int b, .int c, .int d, .int e]), some (nmW nms), z2, z3, z4, z5, some (.int many), some (.lst true (Itm.ws (d0 :: ds))), z8]) (d := d0) (ds := ds) i1 (by omega) rfl
          cases bb with
          | false =>
            refine same ?_
            subst h2
            unfold nmW at *
            simp [part_2, exec, ev, evT, evs, evPs, evo, evC, evI, pk_var, pk_mov, pk_cst, pk_fnv, pk_bin, pk_cmp, pk_ch2, pk_neg, pk_not, pk_and, pk_or, pk_ife, pk_tup, pk_lst, pk_ix, pk_sl, pk_call, pk_blt, pk_mut, pk_meth, pk_isin, pk_isx, pk_xfld, M.bind, M.pure, M.opt, M.fail, M.get, M.gets, PV.P.get, onE, okSet, doCall, doMut, mutW, lend, back, binOp, addW, subW, mulW, fdivW, modW, powW, cmpOp, eqW, gtW, ltW, leW, geW, isNonW, W.isNon, bifn, lenW, absW, intW, max2W, min2W, tupleW, listW, allI, datOk, W.depth, W.depths, W.dat, W.dats, W.frz, W.frzs, W.fz, W.fzs, D.w, D.ws, pyEq, pyEqs, getIx, setIx, ixn, augOp, tyAny, tyB, truth, meth, recv, recvL, recvS, start, take, setAll, mulOk, ibeq, SZv, log2_nat, fixed, rng_two, rng_one, rng_three, rng_four, rng_five, rng_six, wipe, outsFrom, fin, mkExc, frzs_strs, frzs_ints, fzs_strs, fzs_ints, seqWalk, e1, h1, h3]
          | true =>
            obtain ⟨hc, hc2, hc3⟩ := e2 rfl
            have hlt : (many.toNat - 1) < (d0 :: ds).length := by rw [hl]; omega
            have hg := List.getElem?_eq_getElem hlt
            refine ⟨(d0 :: ds).set (many.toNat - 1) d0, by simp, fun t ht => ?_, sum_set hg (by rw [hc]; exact cnt_pos), sum_set hg (by omega), sum_set hg (by omega), ?_⟩
            · rcases List.mem_or_eq_of_mem_set ht with h | h
              · exact hi t h
              · rw [h]; exact ⟨i1, i2, i3⟩
            · have q0 : 1 ≤ many := by omega
              have q1 : many - 1 < ((d0 :: ds).length : Int) := by rw [hl]; omega
              have q3 : (many - 1).toNat = many.toNat - 1 := by omega
              rw [ws_set]
              simp only [List.length_cons, Int.natCast_succ] at q1
              subst h2
              unfold nmW at *
              simp only [Itm.ws] at e1 ⊢
              simp [part_2, exec, ev, evT, evs, evPs, evo, evC, evI, pk_var, pk_mov, pk_cst, pk_fnv, pk_bin, pk_cmp, pk_ch2, pk_neg, pk_not, pk_and, pk_or, pk_ife, pk_tup, pk_lst, pk_ix, pk_sl, pk_call, pk_blt, pk_mut, pk_meth, pk_isin, pk_isx, pk_xfld, M.bind, M.pure, M.opt, M.fail, M.get, M.gets, PV.P.get, onE, okSet, doCall, doMut, mutW, lend, back, binOp, addW, subW, mulW, fdivW, modW, powW, cmpOp, eqW, gtW, ltW, leW, geW, isNonW, W.isNon, bifn, lenW, absW, intW, max2W, min2W, tupleW, listW, allI, datOk, W.depth, W.depths, W.dat, W.dats, W.frz, W.frzs, W.fz, W.fzs, D.w, D.ws, pyEq, pyEqs, getIx, setIx, ixn, augOp, tyAny, tyB, truth, meth, recv, recvL, recvS, start, take, setAll, mulOk, ibeq, SZv, log2_nat, fixed, rng_two, rng_one, rng_three, rng_four, rng_five, rng_six, wipe, outsFrom, fin, mkExc, frzs_strs, frzs_ints, fzs_strs, fzs_ints, seqWalk, e1, h1, h3, q0, q1, q3, hfx, ws_len]
      · exact same (by unfold nmW; simp [part_2, exec, ev, evT, evs, evPs, evo, evC, evI, pk_var, pk_mov, pk_cst, pk_fnv, pk_bin, pk_cmp, pk_ch2, pk_neg, pk_not, pk_and, pk_or, pk_ife, pk_tup, pk_lst, pk_ix, pk_sl, pk_call, pk_blt, pk_mut, pk_meth, pk_isin, pk_isx, pk_xfld, M.bind, M.pure, M.opt, M.fail, M.get, M.gets, PV.P.get, onE, okSet, doCall, doMut, mutW, lend, back, binOp, addW, subW, mulW, fdivW, modW, powW, cmpOp, eqW, gtW, ltW, leW, geW, isNonW, W.isNon, bifn, lenW, absW, intW, max2W, min2W, tupleW, listW, allI, datOk, W.depth, W.depths, W.dat, W.dats, W.frz, W.frzs, W.fz, W.fzs, D.w, D.ws, pyEq, pyEqs, getIx, setIx, ixn, augOp, tyAny, tyB, truth, meth, recv, recvL, recvS, start, take, setAll, mulOk, ibeq, SZv, log2_nat, fixed, rng_two, rng_one, rng_three, rng_four, rng_five, rng_six, wipe, outsFrom, fin, mkExc, frzs_strs, frzs_ints, fzs_strs, fzs_ints, seqWalk, h1, h2, h3])
    · exact same (by unfold nmW; simp [part_2, exec, ev, evT, evs, evPs, evo, evC, evI, pk_var, pk_mov, pk_cst, pk_fnv, pk_bin, pk_cmp, pk_ch2, pk_neg, pk_not, pk_and, pk_or, pk_ife, pk_tup, pk_lst, pk_ix, pk_sl, pk_call, pk_blt, pk_mut, pk_meth, pk_isin, pk_isx, pk_xfld, M.bind, M.pure, M.opt, M.fail, M.get, M.gets, PV.P.get, onE, okSet, doCall, doMut, mutW, lend, back, binOp, addW, subW, mulW, fdivW, modW, powW, cmpOp, eqW, gtW, ltW, leW, geW, isNonW, W.isNon, bifn, lenW, absW, intW, max2W, min2W, tupleW, listW, allI, datOk, W.depth, W.depths, W.dat, W.dats, W.frz, W.frzs, W.fz, W.fzs, D.w, D.ws, pyEq, pyEqs, getIx, setIx, ixn, augOp, tyAny, tyB, truth, meth, recv, recvL, recvS, start, take, setAll, mulOk, ibeq, SZv, log2_nat, fixed, rng_two, rng_one, rng_three, rng_four, rng_five, rng_six, wipe, outsFrom, fin, mkExc, frzs_strs, frzs_ints, fzs_strs, fzs_ints, seqWalk, h1, h2])
  · exact same (by unfold nmW; simp [part_2, exec, ev, evT, evs, evPs, evo, evC, evI, pk_var, pk_mov, pk_cst, pk_fnv, pk_bin, pk_cmp, pk_ch2, pk_neg, pk_not, pk_and, pk_or, pk_ife, pk_tup, pk_lst, pk_ix, pk_sl, pk_call, pk_blt, pk_mut, pk_meth, pk_isin, pk_isx, pk_xfld, M.bind, M.pure, M.opt, M.fail, M.get, M.gets, PV.P.get, onE, okSet, doCall, doMut, mutW, lend, back, binOp, addW, subW, mulW, fdivW, modW, powW, cmpOp, eqW, gtW, ltW, leW, geW, isNonW, W.isNon, bifn, lenW, absW, intW, max2W, min2W, tupleW, listW, allI, datOk, W.depth, W.depths, W.dat, W.dats, W.frz, W.frzs, W.fz, W.fzs, D.w, D.ws, pyEq, pyEqs, getIx, setIx, ixn, augOp, tyAny, tyB, truth, meth, recv, recvL, recvS, start, take, setAll, mulOk, ibeq, SZv, log2_nat, fixed, rng_two, rng_one, rng_three, rng_four, rng_five, rng_six, wipe, outsFrom, fin, mkExc, frzs_strs, frzs_ints, fzs_strs, fzs_ints, seqWalk, h1])
theorem part_ok {k n : Nat} {d b3 : Int} (F : Fns P x) (hn : n ≤ 24) (hi : Spec P x.item (k + 4) (d + 1) b3 n 300 fun _ => True) : Spec P x.part (k + 5) d b3 (n + 1) 250 Itm.isPrt := by
  intro p nms b0 b1 b2 b4 N px hN hnm hM h0 h0' h1 h2 h4 h4'
  have z0 := px.frz
  obtain ⟨s, p1, hs, q1, e1⟩ := name_ok (k := k + 1) F.take F.letters F.name px (by omega) hnm (by omega)
  have z1 := q1.frz
  have hnm1 := nm_add hnm hs
  obtain ⟨ms, new, p2, g1, l2, m2, q2, e2⟩ := marks_ok (k := k) F.take F.letters F.name F.marks q1 (by omega) hnm1 (by simp; omega)
  have z2 := q2.frz
  have hnm2 : ∀ z ∈ nms ++ [s] ++ new, isNm z := fun z hz => (List.mem_append.mp hz).elim (hnm1 z) (m2 z)
  obtain ⟨v, p3, a3, c3, q3, e3⟩ := take_ok (k := k + 3) (many := 5) F.take q2 (by omega) (by omega) (by omega)
  have z3 := q3.frz
  have lnm : (nms ++ [s] ++ new).length = nms.length + 1 + new.length := by simp; omega
  generalize nms ++ [s] ++ new = nms2 at *
  -- how many
  have hmany : ∃ (many0 : Int) (p4 : W), 0 ≤ many0 ∧ many0 ≤ max 3 b4 ∧ Pool (N + 30 + 100 + 1 + 1) p4 ∧ (∀ z0 z1 z3 z4 z5 z7 z8 : Option W, exec P.xs (cl P (k + 4) [0, 1, 2, 3]) (part_3 x) [some p3, z1, some (bud b0 b1 b2 b3 b4), z3, z4, z5, some (.int v), z7, z8] = some (.ok (.nx [some p4, z1, some (bud b0 b1 b2 b3 b4), z3, z4, z5, some (.int many0), z7, z8]))) := by
    by_cases h : v = 4
    · obtain ⟨u, p4, a4, c4, q4, e4⟩ := take_ok (k := k + 3) (many := b4 + 1) F.take q3 (by omega) (by omega) (by omega)
      refine ⟨u, p4, a4, by omega, q4, fun z0 z1 z3' z4 z5 z7 z8 => ?_⟩
      subst h
      unfold bud
      simp [part_3, exec, ev, evT, evs, evPs, evo, evC, evI, pk_var, pk_mov, pk_cst, pk_fnv, pk_bin, pk_cmp, pk_ch2, pk_neg, pk_not, pk_and, pk_or, pk_ife, pk_tup, pk_lst, pk_ix, pk_sl, pk_call, pk_blt, pk_mut, pk_meth, pk_isin, pk_isx, pk_xfld, M.bind, M.pure, M.opt, M.fail, M.get, M.gets, PV.P.get, onE, okSet, doCall, doMut, mutW, lend, back, binOp, addW, subW, mulW, fdivW, modW, powW, cmpOp, eqW, gtW, ltW, leW, geW, isNonW, W.isNon, bifn, lenW, absW, intW, max2W, min2W, tupleW, listW, allI, datOk, W.depth, W.depths, W.dat, W.dats, W.frz, W.frzs, W.fz, W.fzs, D.w, D.ws, pyEq, pyEqs, getIx, setIx, ixn, augOp, tyAny, tyB, truth, meth, recv, recvL, recvS, start, take, setAll, mulOk, ibeq, SZv, log2_nat, fixed, rng_two, rng_one, rng_three, rng_four, rng_five, rng_six, wipe, outsFrom, fin, mkExc, frzs_strs, frzs_ints, fzs_strs, fzs_ints, seqWalk, z3, e4]
    · exact ⟨v, p3, a3, by omega, q3.mono (by omega), fun z0 z1 z3' z4 z5 z7 z8 => by unfold bud; simp [part_3, exec, ev, evT, evs, evPs, evo, evC, evI, pk_var, pk_mov, pk_cst, pk_fnv, pk_bin, pk_cmp, pk_ch2, pk_neg, pk_not, pk_and, pk_or, pk_ife, pk_tup, pk_lst, pk_ix, pk_sl, pk_call, pk_blt, pk_mut, pk_meth, pk_isin, pk_isx, pk_xfld, M.bind, M.pure, M.opt, M.fail, M.get, M.gets, PV.P.get, onE, okSet, doCall, doMut, mutW, lend, back, binOp, addW, subW, mulW, fdivW, modW, powW, cmpOp, eqW, gtW, ltW, leW, geW, isNonW, W.isNon, bifn, lenW, absW, intW, max2W, min2W, tupleW, listW, allI, datOk, W.depth, W.depths, W.dat, W.dats, W.frz, W.frzs, W.fz, W.fzs, D.w, D.ws, pyEq, pyEqs, getIx, setIx, ixn, augOp, tyAny, tyB, truth, meth, recv, recvL, recvS, start, take, setAll, mulOk, ibeq, SZv, log2_nat, fixed, rng_two, rng_one, rng_three, rng_four, rng_five, rng_six, wipe, outsFrom, fin, mkExc, frzs_strs, frzs_ints, fzs_strs, fzs_ints, seqWalk, h]⟩
  obtain ⟨many0, p4, o1, o2, q4, e4⟩ := hmany
  generalize hmin : (if b0 < many0 then b0 else many0) = many
  have hm : 0 ≤ many ∧ many ≤ b0 ∧ many ≤ many0 := by rw [← hmin]; split <;> omega
  obtain ⟨is, p5, nms5, c0, c1, c2, N5, i1, i2, i3, i4, i5, q5, i6, i7, i8, i9, i10, i11, i12, e5⟩ := part_step (k := k) (n := n) (d := d) (B := b0 - many) (many := many) (z4 := some (.str s)) (z5 := some (.tup (ms.map W.str))) F hi q4 (by omega) hnm2 (by omega) ⟨by omega, by omega⟩ ⟨hm.1, by omega⟩ h1 h2 ⟨h4, h4'⟩
  obtain ⟨is', j1, j2, j3, j4, j5, e6⟩ := part2_ok (x := x) (C := cl P (k + 4) [0, 1, 2, 3]) (X := P.xs) (n := n) (mw := max 3 b4) (nms := nms5) (many := many) (z2 := some (bud c0 c1 c2 b3 b4)) (z3 := some (.int d)) (z4 := some (.str s)) (z5 := some (.tup (ms.map W.str))) (z8 := none) q5 i1 ⟨hm.1, by omega⟩ i2 (by omega) rfl
  refine ⟨.prt s ms is', p5, nms5, c0, c1, c2, N5, trivial, ⟨hs, g1, goods_iff.mpr fun t ht => (j2 t ht).1⟩, ?_, ?_, ?_, ?_, ?_, q5, i6, i9, i10, ⟨i7, by omega, by omega, by omega⟩, ?_⟩
  · have := deps_le.mpr fun t ht => (j2 t ht).2.1
    show 1 + Itm.deps is' ≤ n + 1
    omega
  · have : Itm.wids is' ≤ (max 3 b4).toNat := wids_le.mpr fun t ht => by
      have := (j2 t ht).2.2
      omega
    show ((max is'.length (Itm.wids is') : Nat) : Int) ≤ _
    omega
  · show ((1 + Itm.cnts is' : Nat) : Int) ≤ _
    rw [cnts_sum]
    omega
  · show ((Itm.chrs is' : Nat) : Int) ≤ _
    rw [chrs_sum]
    omega
  · show ((Itm.rfs is' : Nat) : Int) ≤ _
    rw [rfs_sum]
    omega
  · rw [call_eq F.part rfl]
    have e4' := fun z7 z8 => e4 none (some (nmW nms2)) (some (.int d)) (some (.str s)) (some (.tup (ms.map W.str))) z7 z8
    unfold bud nmW at *
    simp at e2
    simp [partFn, exec, ev, evT, evs, evPs, evo, evC, evI, pk_var, pk_mov, pk_cst, pk_fnv, pk_bin, pk_cmp, pk_ch2, pk_neg, pk_not, pk_and, pk_or, pk_ife, pk_tup, pk_lst, pk_ix, pk_sl, pk_call, pk_blt, pk_mut, pk_meth, pk_isin, pk_isx, pk_xfld, M.bind, M.pure, M.opt, M.fail, M.get, M.gets, PV.P.get, onE, okSet, doCall, doMut, mutW, lend, back, binOp, addW, subW, mulW, fdivW, modW, powW, cmpOp, eqW, gtW, ltW, leW, geW, isNonW, W.isNon, bifn, lenW, absW, intW, max2W, min2W, tupleW, listW, allI, datOk, W.depth, W.depths, W.dat, W.dats, W.frz, W.frzs, W.fz, W.fzs, D.w, D.ws, pyEq, pyEqs, getIx, setIx, ixn, augOp, tyAny, tyB, truth, meth, recv, recvL, recvS, start, take, setAll, mulOk, ibeq, SZv, log2_nat, fixed, rng_two, rng_one, rng_three, rng_four, rng_five, rng_six, wipe, outsFrom, fin, mkExc, frzs_strs, frzs_ints, fzs_strs, fzs_ints, seqWalk, z0, z1, z2, z3, e1, e2, e3, e4', hmin, e5, e6, Itm.w]
theorem part_all {k : Nat} {b3 : Int} (F : Fns P x) : ∀ (m : Nat) (d : Int), d + m = b3 → m ≤ 21 → Spec P x.part (k + 5 + 2 * m) d b3 (m + 1) 250 Itm.isPrt
  | 0, d, e, hm => by
    have hi : Spec P x.item (k + 4) (d + 1) b3 0 300 fun _ => True := item_ok F fun z => absurd z (by omega)
    exact part_ok F (by omega) hi
  | m + 1, d, e, hm => by
    have ih := part_all (k := k) (b3 := b3) F m (d + 1) (by omega) (by omega)
    have hi : Spec P x.item (k + 2 + 2 * m + 4) (d + 1) b3 (m + 1) 300 fun _ => True := item_ok (k := k + 2 + 2 * m) (d := d + 1) F fun _ => by
      rw [show k + 2 + 2 * m + 3 = k + 5 + 2 * m by omega]
      exact ih
    have q := part_ok (k := k + 2 + 2 * m) (n := m + 1) (d := d) F (by omega) hi
    rw [show k + 2 + 2 * m + 5 = k + 5 + 2 * (m + 1) by omega] at q
    exact q
/-- what a drawn tree is like -/
structure Tree (t : Itm) : Prop where
  prt : t.isPrt
  good : t.good
  lim : (t.cnt ≤ 60 ∧ t.chr ≤ 400 ∧ t.rf ≤ 3 ∧ t.dep ≤ 6 ∧ t.wid ≤ 12) ∨ (t.cnt ≤ 251 ∧ t.chr ≤ 2000 ∧ t.rf ≤ 40 ∧ t.dep ≤ 20 ∧ t.wid ≤ 40)
theorem Tree.dep {t : Itm} (h : Tree t) : t.dep ≤ 20 := by rcases h.lim with h | h <;> omega
theorem Tree.cnt {t : Itm} (h : Tree t) : t.cnt ≤ 251 := by rcases h.lim with h | h <;> omega
theorem Tree.wid {t : Itm} (h : Tree t) : t.wid ≤ 40 := by rcases h.lim with h | h <;> omega
theorem tree_ok {k N : Nat} {p : W} (F : Fns P x) (hf : P.fns[x.tree]? = some (treeFn x)) (px : Pool N p) (hN : N ≤ 1000000) :
    ∃ (t : Itm) (p' : W) (nms' : List (List Char)), Tree t ∧ Pool (N + 100000) p' ∧ callF P (k + 50) x.tree [p, nmW []] = some (.ok t.w [p', nmW nms']) := by
  obtain ⟨v, p1, a1, c1, q1, e1⟩ := take_ok (k := k + 48) (many := 8) F.take px (by omega) (by omega) (by omega)
  have z0 := px.frz
  have z1 := q1.frz
  by_cases h : v = 3
  · obtain ⟨t, p', nms', b0', b1', b2', N', i0, i1, i2, i3, i4, i5, i6, i7, i8, i9, i10, i11, e⟩ := part_all (k := k + 6) (b3 := 20) F 19 1 (by omega) (by omega) p1 [] 250 2000 40 40 (N + 1) q1 (by omega) (fun s hs => by cases hs) (by simp) (by omega) (by omega) (by omega) (by omega) (by omega) (by omega)
    have u0 := i11.b0
    have u2 := i11.n
    refine ⟨t, p', nms', ⟨i0, i1, .inr ⟨by omega, by omega, by omega, by omega, by omega⟩⟩, i7.mono (by omega), ?_⟩
    subst h
    rw [call_eq hf rfl]
    unfold bud nmW at *
    simp at e ⊢
    simp [treeFn, exec, ev, evT, evs, evPs, evo, evC, evI, pk_var, pk_mov, pk_cst, pk_fnv, pk_bin, pk_cmp, pk_ch2, pk_neg, pk_not, pk_and, pk_or, pk_ife, pk_tup, pk_lst, pk_ix, pk_sl, pk_call, pk_blt, pk_mut, pk_meth, pk_isin, pk_isx, pk_xfld, M.bind, M.pure, M.opt, M.fail, M.get, M.gets, PV.P.get, onE, okSet, doCall, doMut, mutW, lend, back, binOp, addW, subW, mulW, fdivW, modW, powW, cmpOp, eqW, gtW, ltW, leW, geW, isNonW, W.isNon, bifn, lenW, absW, intW, max2W, min2W, tupleW, listW, allI, datOk, W.depth, W.depths, W.dat, W.dats, W.frz, W.frzs, W.fz, W.fzs, D.w, D.ws, pyEq, pyEqs, getIx, setIx, ixn, augOp, tyAny, tyB, truth, meth, recv, recvL, recvS, start, take, setAll, mulOk, ibeq, SZv, log2_nat, fixed, rng_two, rng_one, rng_three, rng_four, rng_five, rng_six, wipe, outsFrom, fin, mkExc, frzs_strs, frzs_ints, fzs_strs, fzs_ints, seqWalk, z0, z1, e1, e]
  · obtain ⟨t, p', nms', b0', b1', b2', N', i0, i1, i2, i3, i4, i5, i6, i7, i8, i9, i10, i11, e⟩ := part_all (k := k + 34) (b3 := 6) F 5 1 (by omega) (by omega) p1 [] 59 400 3 12 (N + 1) q1 (by omega) (fun s hs => by cases hs) (by simp) (by omega) (by omega) (by omega) (by omega) (by omega) (by omega)
    have u0 := i11.b0
    have u2 := i11.n
    refine ⟨t, p', nms', ⟨i0, i1, .inl ⟨by omega, by omega, by omega, by omega, by omega⟩⟩, i7.mono (by omega), ?_⟩
    rw [call_eq hf rfl]
    unfold bud nmW at *
    simp at e ⊢
    simp [treeFn, exec, ev, evT, evs, evPs, evo, evC, evI, pk_var, pk_mov, pk_cst, pk_fnv, pk_bin, pk_cmp, pk_ch2, pk_neg, pk_not, pk_and, pk_or, pk_ife, pk_tup, pk_lst, pk_ix, pk_sl, pk_call, pk_blt, pk_mut, pk_meth, pk_isin, pk_isx, pk_xfld, M.bind, M.pure, M.opt, M.fail, M.get, M.gets, PV.P.get, onE, okSet, doCall, doMut, mutW, lend, back, binOp, addW, subW, mulW, fdivW, modW, powW, cmpOp, eqW, gtW, ltW, leW, geW, isNonW, W.isNon, bifn, lenW, absW, intW, max2W, min2W, tupleW, listW, allI, datOk, W.depth, W.depths, W.dat, W.dats, W.frz, W.frzs, W.fz, W.fzs, D.w, D.ws, pyEq, pyEqs, getIx, setIx, ixn, augOp, tyAny, tyB, truth, meth, recv, recvL, recvS, start, take, setAll, mulOk, ibeq, SZv, log2_nat, fixed, rng_two, rng_one, rng_three, rng_four, rng_five, rng_six, wipe, outsFrom, fin, mkExc, frzs_strs, frzs_ints, fzs_strs, fzs_ints, seqWalk, z0, z1, e1, e, h]
/-! ### all paths -/
theorem rng0i {n : Nat} (h : n ≤ 1000000000) : rngWalk 0 (n : Int) = some (rngItems 0 n 1) := by
  have := rng0 (j := (n : Int)) (by omega) (by omega)
  rwa [Int.toNat_natCast] at this
theorem drop_cons {α : Type} {l : List α} {i : Nat} (h : i < l.length) : l.drop i = l[i] :: l.drop (i + 1) := List.drop_eq_getElem_cons h
mutual
/-- a document's items with their paths, in the order of the text -/
def Itm.pth : List Int → Itm → List (List Int × Itm)
  | q, .prt k ms is => (q, .prt k ms is) :: Itm.pths q 0 is
  | q, .txt s => [(q, .txt s)]
  | q, .ref s => [(q, .ref s)]
  | q, .lab s => [(q, .lab s)]
def Itm.pths : List Int → Nat → List Itm → List (List Int × Itm)
  | _, _, [] => []
  | q, i, t :: ts => t.pth (q ++ [(i : Int)]) ++ Itm.pths q (i + 1) ts
end
mutual
theorem pth_len : ∀ (t : Itm) (q : List Int), (t.pth q).length = t.cnt
  | .txt _, _ => rfl
  | .ref _, _ => rfl
  | .lab _, _ => rfl
  | .prt k ms is, q => by simp only [Itm.pth, List.length_cons, pths_len is, Itm.cnt]; omega
theorem pths_len : ∀ (t : List Itm) (q : List Int) (i : Nat), (Itm.pths q i t).length = Itm.cnts t
  | [], _, _ => rfl
  | t :: ts, q, i => by simp only [Itm.pths, List.length_append, pth_len t, pths_len ts, Itm.cnts]
end
/-- a row of the list of paths -/
def rowW (r : List Int × Itm) : W := .tup [.tup (r.1.map W.int), r.2.w]
@[simp] theorem rowW_frz {r : List Int × Itm} : (rowW r).frz = true := by simp [rowW, W.frz, W.frzs, frzs_ints]
@[simp] theorem rows_frz {l : List (List Int × Itm)} : W.frzs (l.map rowW) = true := frzs_map (fun _ => rowW_frz) l
theorem ws_get : ∀ {ts : List Itm} {i : Nat}, (Itm.ws ts)[i]? = (ts[i]?).map Itm.w := by
  intro ts i
  rw [ws_map, List.getElem?_map]
theorem pths_snoc (q : List Int) (t : Itm) : ∀ (a : List Itm) (i : Nat), Itm.pths q i (a ++ [t]) = Itm.pths q i a ++ t.pth (q ++ [((i + a.length : Nat) : Int)])
  | [], i => by simp [Itm.pths]
  | d :: a, i => by
    rw [List.cons_append, Itm.pths, pths_snoc q t a (i + 1), Itm.pths, List.append_assoc, List.length_cons]
    rw [show i + 1 + a.length = i + (a.length + 1) by omega]
theorem cnts_app (a : List Itm) (t : Itm) : Itm.cnts (a ++ [t]) = Itm.cnts a + t.cnt := by rw [cnts_sum, cnts_sum, sum_app]
theorem cnts_take {a : List Itm} {i : Nat} (h : i ≤ a.length) : Itm.cnts (a.take i) ≤ Itm.cnts a := by
  rw [cnts_sum, cnts_sum]
  conv => rhs; rw [← List.take_append_drop i a]
  rw [List.map_append, List.sum_append]
  omega
theorem deps_mem {a : List Itm} {t : Itm} (h : t ∈ a) : t.dep ≤ Itm.deps a := deps_le.mp (Nat.le_refl _) t h
theorem cnts_mem {t : Itm} : ∀ {a : List Itm}, t ∈ a → t.cnt ≤ Itm.cnts a
  | d :: a, h => by
    rw [Itm.cnts]
    rcases List.mem_cons.mp h with rfl | h
    · omega
    · have := cnts_mem h; omega
theorem take_snoc {α : Type} {l : List α} {i : Nat} {d : α} (h : l[i]? = some d) : l.take (i + 1) = l.take i ++ [d] := by
  rw [List.take_succ, h]; rfl
theorem paths_ok (hf : P.fns[x.paths]? = some (pathsFn x)) : ∀ (n : Nat) (t : Itm) (q : List Int) (k : Nat), t.dep ≤ n → t.cnt ≤ 1000000 → q.length + n ≤ 1000000 → callF P (k + n + 1) x.paths [t.w, .tup (q.map W.int)] = some (.ok (.lst true ((t.pth q).map rowW)) [t.w, .tup (q.map W.int)]) := by
  intro n
  induction n with
  | zero =>
    intro t q k hd hc hq
    rw [call_eq hf rfl]
    cases t with
    | txt s => simp [pathsFn, exec, ev, evT, evs, evPs, evo, evC, evI, pk_var, pk_mov, pk_cst, pk_fnv, pk_bin, pk_cmp, pk_ch2, pk_neg, pk_not, pk_and, pk_or, pk_ife, pk_tup, pk_lst, pk_ix, pk_sl, pk_call, pk_blt, pk_mut, pk_meth, pk_isin, pk_isx, pk_xfld, M.bind, M.pure, M.opt, M.fail, M.get, M.gets, PV.P.get, onE, okSet, doCall, doMut, mutW, lend, back, binOp, addW, subW, mulW, fdivW, modW, powW, cmpOp, eqW, gtW, ltW, leW, geW, isNonW, W.isNon, bifn, lenW, absW, intW, max2W, min2W, tupleW, listW, allI, datOk, W.depth, W.depths, W.dat, W.dats, W.frz, W.frzs, W.fz, W.fzs, D.w, D.ws, pyEq, pyEqs, getIx, setIx, ixn, augOp, tyAny, tyB, truth, meth, recv, recvL, recvS, start, take, setAll, mulOk, ibeq, SZv, log2_nat, fixed, rng_two, rng_one, rng_three, rng_four, rng_five, rng_six, wipe, outsFrom, fin, mkExc, frzs_strs, frzs_ints, fzs_strs, fzs_ints, seqWalk, Itm.w, Itm.pth, rowW]
    | ref s => simp [pathsFn, exec, ev, evT, evs, evPs, evo, evC, evI, pk_var, pk_mov, pk_cst, pk_fnv, pk_bin, pk_cmp, pk_ch2, pk_neg, pk_not, pk_and, pk_or, pk_ife, pk_tup, pk_lst, pk_ix, pk_sl, pk_call, pk_blt, pk_mut, pk_meth, pk_isin, pk_isx, pk_xfld, M.bind, M.pure, M.opt, M.fail, M.get, M.gets, PV.P.get, onE, okSet, doCall, doMut, mutW, lend, back, binOp, addW, subW, mulW, fdivW, modW, powW, cmpOp, eqW, gtW, ltW, leW, geW, isNonW, W.isNon, bifn, lenW, absW, intW, max2W, min2W, tupleW, listW, allI, datOk, W.depth, W.depths, W.dat, W.dats, W.frz, W.frzs, W.fz, W.fzs, D.w, D.ws, pyEq, pyEqs, getIx, setIx, ixn, augOp, tyAny, tyB, truth, meth, recv, recvL, recvS, start, take, setAll, mulOk, ibeq, SZv, log2_nat, fixed, rng_two, rng_one, rng_three, rng_four, rng_five, rng_six, wipe, outsFrom, fin, mkExc, frzs_strs, frzs_ints, fzs_strs, fzs_ints, seqWalk, Itm.w, Itm.pth, rowW]
    | lab s => simp [pathsFn, exec, ev, evT, evs, evPs, evo, evC, evI, pk_var, pk_mov, pk_cst, pk_fnv, pk_bin, pk_cmp, pk_ch2, pk_neg, pk_not, pk_and, pk_or, pk_ife, pk_tup, pk_lst, pk_ix, pk_sl, pk_call, pk_blt, pk_mut, pk_meth, pk_isin, pk_isx, pk_xfld, M.bind, M.pure, M.opt, M.fail, M.get, M.gets, PV.P.get, onE, okSet, doCall, doMut, mutW, lend, back, binOp, addW, subW, mulW, fdivW, modW, powW, cmpOp, eqW, gtW, ltW, leW, geW, isNonW, W.isNon, bifn, lenW, absW, intW, max2W, min2W, tupleW, listW, allI, datOk, W.depth, W.depths, W.dat, W.dats, W.frz, W.frzs, W.fz, W.fzs, D.w, D.ws, pyEq, pyEqs, getIx, setIx, ixn, augOp, tyAny, tyB, truth, meth, recv, recvL, recvS, start, take, setAll, mulOk, ibeq, SZv, log2_nat, fixed, rng_two, rng_one, rng_three, rng_four, rng_five, rng_six, wipe, outsFrom, fin, mkExc, frzs_strs, frzs_ints, fzs_strs, fzs_ints, seqWalk, Itm.w, Itm.pth, rowW]
    | prt k ms is => simp [Itm.dep] at hd
  | succ n ih =>
    intro t q k hd hc hq
    cases t with
    | txt s => rw [call_eq hf rfl]; simp [pathsFn, exec, ev, evT, evs, evPs, evo, evC, evI, pk_var, pk_mov, pk_cst, pk_fnv, pk_bin, pk_cmp, pk_ch2, pk_neg, pk_not, pk_and, pk_or, pk_ife, pk_tup, pk_lst, pk_ix, pk_sl, pk_call, pk_blt, pk_mut, pk_meth, pk_isin, pk_isx, pk_xfld, M.bind, M.pure, M.opt, M.fail, M.get, M.gets, PV.P.get, onE, okSet, doCall, doMut, mutW, lend, back, binOp, addW, subW, mulW, fdivW, modW, powW, cmpOp, eqW, gtW, ltW, leW, geW, isNonW, W.isNon, bifn, lenW, absW, intW, max2W, min2W, tupleW, listW, allI, datOk, W.depth, W.depths, W.dat, W.dats, W.frz, W.frzs, W.fz, W.fzs, D.w, D.ws, pyEq, pyEqs, getIx, setIx, ixn, augOp, tyAny, tyB, truth, meth, recv, recvL, recvS, start, take, setAll, mulOk, ibeq, SZv, log2_nat, fixed, rng_two, rng_one, rng_three, rng_four, rng_five, rng_six, wipe, outsFrom, fin, mkExc, frzs_strs, frzs_ints, fzs_strs, fzs_ints, seqWalk, Itm.w, Itm.pth, rowW]
    | ref s => rw [call_eq hf rfl]; simp [pathsFn, exec, ev, evT, evs, evPs, evo, evC, evI, pk_var, pk_mov, pk_cst, pk_fnv, pk_bin, pk_cmp, pk_ch2, pk_neg, pk_not, pk_and, pk_or, pk_ife, pk_tup, pk_lst, pk_ix, pk_sl, pk_call, pk_blt, pk_mut, pk_meth, pk_isin, pk_isx, pk_xfld, M.bind, M.pure, M.opt, M.fail, M.get, M.gets, PV.P.get, onE, okSet, doCall, doMut, mutW, lend, back, binOp, addW, subW, mulW, fdivW, modW, powW, cmpOp, eqW, gtW, ltW, leW, geW, isNonW, W.isNon, bifn, lenW, absW, intW, max2W, min2W, tupleW, listW, allI, datOk, W.depth, W.depths, W.dat, W.dats, W.frz, W.frzs, W.fz, W.fzs, D.w, D.ws, pyEq, pyEqs, getIx, setIx, ixn, augOp, tyAny, tyB, truth, meth, recv, recvL, recvS, start, take, setAll, mulOk, ibeq, SZv, log2_nat, fixed, rng_two, rng_one, rng_three, rng_four, rng_five, rng_six, wipe, outsFrom, fin, mkExc, frzs_strs, frzs_ints, fzs_strs, fzs_ints, seqWalk, Itm.w, Itm.pth, rowW]
    | lab s => rw [call_eq hf rfl]; simp [pathsFn, exec, ev, evT, evs, evPs, evo, evC, evI, pk_var, pk_mov, pk_cst, pk_fnv, pk_bin, pk_cmp, pk_ch2, pk_neg, pk_not, pk_and, pk_or, pk_ife, pk_tup, pk_lst, pk_ix, pk_sl, pk_call, pk_blt, pk_mut, pk_meth, pk_isin, pk_isx, pk_xfld, M.bind, M.pure, M.opt, M.fail, M.get, M.gets, PV.P.get, onE, okSet, doCall, doMut, mutW, lend, back, binOp, addW, subW, mulW, fdivW, modW, powW, cmpOp, eqW, gtW, ltW, leW, geW, isNonW, W.isNon, bifn, lenW, absW, intW, max2W, min2W, tupleW, listW, allI, datOk, W.depth, W.depths, W.dat, W.dats, W.frz, W.frzs, W.fz, W.fzs, D.w, D.ws, pyEq, pyEqs, getIx, setIx, ixn, augOp, tyAny, tyB, truth, meth, recv, recvL, recvS, start, take, setAll, mulOk, ibeq, SZv, log2_nat, fixed, rng_two, rng_one, rng_three, rng_four, rng_five, rng_six, wipe, outsFrom, fin, mkExc, frzs_strs, frzs_ints, fzs_strs, fzs_ints, seqWalk, Itm.w, Itm.pth, rowW]
    | prt kd ms is =>
      have hwd : is.length ≤ 1000000 := by
        have : ∀ l : List Itm, l.length ≤ Itm.cnts l := fun l => by
          induction l with
          | nil => exact Nat.le_refl _
          | cons a l ih => rw [List.length_cons, Itm.cnts]; have := cnt_pos (t := a); omega
        have := this is
        simp only [Itm.cnt] at hc
        omega
      have el : exec P.xs (cl P (k + n + 1) [0, 1]) (paths_1 x) [some (Itm.prt kd ms is).w, some (.tup (q.map W.int)), some (.lst true [rowW (q, .prt kd ms is)]), none] = some (.ok (.nx [some (Itm.prt kd ms is).w, some (.tup (q.map W.int)), some (.lst true (((Itm.prt kd ms is).pth q).map rowW)), none])) := by
        obtain ⟨σ', e, he⟩ := for_ind (fx := [0, 1]) (tg := .name 3) (wp := [3]) (b := fun σ => exec P.xs (cl P (k + n + 1) [0, 1]) (paths_0 x) σ) (rngItems 0 is.length 1)
          (fun i σ => σ = [some (Itm.prt kd ms is).w, some (.tup (q.map W.int)), some (.lst true (((q, Itm.prt kd ms is) :: Itm.pths q 0 (is.take i)).map rowW)), none])
          (fun i it σ ei hσ => by
            obtain ⟨hi, rfl⟩ := rng_at ei
            subst hσ
            have hg := List.getElem?_eq_getElem hi
            generalize hd0 : is[i] = d at hg
            have hm : d ∈ is := List.mem_of_getElem? hg
            have h1 := deps_mem hm
            have h2 := cnts_mem hm
            simp only [Itm.dep] at hd
            simp only [Itm.cnt] at hc
            have e1 := ih d (q ++ [(i : Int)]) k (by omega) (by omega) (by simp; omega)
            have h3 : Itm.cnts (is.take (i + 1)) ≤ Itm.cnts is := cnts_take (by omega)
            rw [take_snoc hg, cnts_app] at h3
            refine ⟨[some (Itm.prt kd ms is).w, some (.tup (q.map W.int)), some (.lst true (((q, Itm.prt kd ms is) :: Itm.pths q 0 (is.take i)).map rowW)), some (.int (0 + (i : Int) * 1))], by simp [PV.take], [some (Itm.prt kd ms is).w, some (.tup (q.map W.int)), some (.lst true (((q, Itm.prt kd ms is) :: Itm.pths q 0 (is.take (i + 1))).map rowW)), some (.int (0 + (i : Int) * 1))], .inl ?_, by simp [wipe]⟩
            rw [take_snoc hg, pths_snoc]
            have hl : (is.take i).length = i := by rw [List.length_take]; omega
            rw [hl]
            have l1 : Itm.cnts (is.take i) + 1 + d.cnt ≤ 16777216 := by omega
            have l2 : q.length + 1 ≤ 16777216 := by omega
            simp at e1
            have g1 : ∀ h, (Itm.ws is)[i]'h = d.w := fun h => by
              have : (Itm.ws is)[i]? = some d.w := by rw [ws_get, hg]; rfl
              rw [List.getElem?_eq_getElem h] at this
              exact Option.some.inj this
            simp [paths_0, exec, ev, evT, evs, evPs, evo, evC, evI, pk_var, pk_mov, pk_cst, pk_fnv, pk_bin, pk_cmp, pk_ch2, pk_neg, pk_not, pk_and, pk_or, pk_ife, pk_tup, pk_lst, pk_ix, pk_sl, pk_call, pk_blt, pk_mut, pk_meth, pk_isin, pk_isx, pk_xfld, M.bind, M.pure, M.opt, M.fail, M.get, M.gets, PV.P.get, onE, okSet, doCall, doMut, mutW, lend, back, binOp, addW, subW, mulW, fdivW, modW, powW, cmpOp, eqW, gtW, ltW, leW, geW, isNonW, W.isNon, bifn, lenW, absW, intW, max2W, min2W, tupleW, listW, allI, datOk, W.depth, W.depths, W.dat, W.dats, W.frz, W.frzs, W.fz, W.fzs, D.w, D.ws, pyEq, pyEqs, getIx, setIx, ixn, augOp, tyAny, tyB, truth, meth, recv, recvL, recvS, start, take, setAll, mulOk, ibeq, SZv, log2_nat, fixed, rng_two, rng_one, rng_three, rng_four, rng_five, rng_six, wipe, outsFrom, fin, mkExc, frzs_strs, frzs_ints, fzs_strs, fzs_ints, seqWalk, e1, Itm.w, frzs_append, pths_len, pth_len, l1, l2, ws_len, hi, g1])
          [some (Itm.prt kd ms is).w, some (.tup (q.map W.int)), some (.lst true [rowW (q, .prt kd ms is)]), none] rfl
        rw [rng_n] at he
        rw [List.take_length] at he
        subst he
        refine for_of (σ1 := [some (Itm.prt kd ms is).w, some (.tup (q.map W.int)), some (.lst true [rowW (q, .prt kd ms is)]), none]) (xs := rngItems 0 is.length 1) ?_ e
        simp [exec, ev, evT, evs, evPs, evo, evC, evI, pk_var, pk_mov, pk_cst, pk_fnv, pk_bin, pk_cmp, pk_ch2, pk_neg, pk_not, pk_and, pk_or, pk_ife, pk_tup, pk_lst, pk_ix, pk_sl, pk_call, pk_blt, pk_mut, pk_meth, pk_isin, pk_isx, pk_xfld, M.bind, M.pure, M.opt, M.fail, M.get, M.gets, PV.P.get, onE, okSet, doCall, doMut, mutW, lend, back, binOp, addW, subW, mulW, fdivW, modW, powW, cmpOp, eqW, gtW, ltW, leW, geW, isNonW, W.isNon, bifn, lenW, absW, intW, max2W, min2W, tupleW, listW, allI, datOk, W.depth, W.depths, W.dat, W.dats, W.frz, W.frzs, W.fz, W.fzs, D.w, D.ws, pyEq, pyEqs, getIx, setIx, ixn, augOp, tyAny, tyB, truth, meth, recv, recvL, recvS, start, take, setAll, mulOk, ibeq, SZv, log2_nat, fixed, rng_two, rng_one, rng_three, rng_four, rng_five, rng_six, wipe, outsFrom, fin, mkExc, frzs_strs, frzs_ints, fzs_strs, fzs_ints, seqWalk, Itm.w, ws_len, rng0i (n := is.length) (by omega)]
      rw [show k + (n + 1) + 1 = (k + n + 1) + 1 by omega, call_eq hf rfl]
      have hr : rowW (q, .prt kd ms is) = .tup [.tup (q.map W.int), (Itm.prt kd ms is).w] := rfl
      rw [hr] at el
      simp [pathsFn, exec, ev, evT, evs, evPs, evo, evC, evI, pk_var, pk_mov, pk_cst, pk_fnv, pk_bin, pk_cmp, pk_ch2, pk_neg, pk_not, pk_and, pk_or, pk_ife, pk_tup, pk_lst, pk_ix, pk_sl, pk_call, pk_blt, pk_mut, pk_meth, pk_isin, pk_isx, pk_xfld, M.bind, M.pure, M.opt, M.fail, M.get, M.gets, PV.P.get, onE, okSet, doCall, doMut, mutW, lend, back, binOp, addW, subW, mulW, fdivW, modW, powW, cmpOp, eqW, gtW, ltW, leW, geW, isNonW, W.isNon, bifn, lenW, absW, intW, max2W, min2W, tupleW, listW, allI, datOk, W.depth, W.depths, W.dat, W.dats, W.frz, W.frzs, W.fz, W.fzs, D.w, D.ws, pyEq, pyEqs, getIx, setIx, ixn, augOp, tyAny, tyB, truth, meth, recv, recvL, recvS, start, take, setAll, mulOk, ibeq, SZv, log2_nat, fixed, rng_two, rng_one, rng_three, rng_four, rng_five, rng_six, wipe, outsFrom, fin, mkExc, frzs_strs, frzs_ints, fzs_strs, fzs_ints, seqWalk, Itm.w] at el ⊢
      simp [el]
end
end PV

/-! V10: deep likeness. -/
namespace PV
mutual
def sameW : W → W → Bool
  | .bl a, .bl b => a == b
  | .int a, .int b => a == b
  | .str a, .str b => a == b
  | .tup a, .tup b => sameWs a b
  | .lst _ a, .lst _ b => sameWs a b
  | .non, .non => true
  | _, _ => false
def sameWs : List W → List W → Bool
  | [], [] => true
  | a :: as, b :: bs => sameW a b && sameWs as bs
  | _, _ => false
end
mutual
theorem sameW_refl : ∀ a : W, a.dat = true → sameW a a = true
  | .non, _ => rfl
  | .bl _, _ => by simp [sameW]
  | .int _, _ => by simp [sameW]
  | .str _, _ => by simp [sameW]
  | .tup a, h => by simp only [W.dat] at h; simp only [sameW, sameWs_refl a h]
  | .lst _ a, h => by simp only [W.dat] at h; simp only [sameW, sameWs_refl a h]
  | .dic _ _ _, h => by simp [W.dat] at h
  | .ins _ _ _, h => by simp [W.dat] at h
  | .ro _, h => by simp [W.dat] at h
  | .fn _, h => by simp [W.dat] at h
theorem sameWs_refl : ∀ a : List W, W.dats a = true → sameWs a a = true
  | [], _ => rfl
  | a :: as, h => by simp only [W.dats, Bool.and_eq_true] at h; simp only [sameWs, sameW_refl a h.1, sameWs_refl as h.2]; rfl
end
theorem sameWs_len : ∀ {a b : List W}, sameWs a b = true → a.length = b.length
  | [], [], _ => rfl
  | [], _ :: _, h => by simp [sameWs] at h
  | _ :: _, [], h => by simp [sameWs] at h
  | a :: as, b :: bs, h => by simp only [sameWs, Bool.and_eq_true] at h; simp [sameWs_len h.2]
theorem sameWs_snoc {x y : W} : ∀ {a b : List W}, a.length = b.length → sameWs (a ++ [x]) (b ++ [y]) = (sameWs a b && sameW x y)
  | [], [], _ => by simp [sameWs]
  | [], _ :: _, h => by simp at h
  | _ :: _, [], h => by simp at h
  | a :: as, b :: bs, h => by
    rw [List.cons_append, List.cons_append, sameWs, sameWs, sameWs_snoc (a := as) (b := bs) (by simpa using h), Bool.and_assoc]
theorem sameWs_get {x y : W} : ∀ {a b : List W} {i : Nat}, a[i]? = some x → b[i]? = some y → sameW x y = false → sameWs a b = false
  | [], _, _, h, _, _ => by simp at h
  | _ :: _, [], _, _, h, _ => by simp at h
  | a :: as, b :: bs, 0, h1, h2, h => by
    simp at h1 h2
    subst h1 h2
    simp [sameWs, h]
  | a :: as, b :: bs, i + 1, h1, h2, h => by
    rw [sameWs, sameWs_get (i := i) (by simpa using h1) (by simpa using h2) h, Bool.and_false]
/-- only the value itself may be changed -/
def W.kf : W → Bool
  | .tup ws => W.frzs ws
  | .lst _ ws => W.frzs ws
  | _ => true
theorem kf_frz {w : W} (h : w.frz = true) (hd : w.dat = true) : w.kf = true := by
  cases w <;> simp_all [W.frz, W.kf, W.dat]
theorem dats_get {xs : List W} {i : Nat} {x : W} (h : W.dats xs = true) (e : xs[i]? = some x) : x.dat = true := dats_all.mp h x (List.mem_of_getElem? e)
theorem depths_get {xs : List W} {i : Nat} {x : W} (e : xs[i]? = some x) : x.depth ≤ W.depths xs := depths_le.mp (Nat.le_refl _) x (List.mem_of_getElem? e)
mutual
/-- the longest row within -/
def W.wd : W → Nat
  | .tup ws => max ws.length (W.wds ws)
  | .lst _ ws => max ws.length (W.wds ws)
  | _ => 0
def W.wds : List W → Nat
  | [] => 0
  | w :: ws => max w.wd (W.wds ws)
end
theorem wds_le {n : Nat} {a : List W} : W.wds a ≤ n ↔ ∀ x ∈ a, x.wd ≤ n := by
  induction a with
  | nil => simp [W.wds]
  | cons x a ih => simp only [W.wds, List.mem_cons, forall_eq_or_imp, ← ih]; omega
theorem wds_get {xs : List W} {i : Nat} {x : W} (e : xs[i]? = some x) : x.wd ≤ W.wds xs := wds_le.mp (Nat.le_refl _) x (List.mem_of_getElem? e)
theorem getIx_tup {ws : List W} {i : Nat} {a : W} (h : ws[i]? = some a) : getIx (.tup ws) (.int i) = some a := by
  have hi := (List.getElem?_eq_some_iff.mp h).1
  have h2 := h
  rw [List.getElem?_eq_getElem hi] at h2
  simp [getIx, ixn, hi, Option.some.inj h2]
theorem getIx_lst {o : Bool} {ws : List W} {i : Nat} {a : W} (h : ws[i]? = some a) : getIx (.lst o ws) (.int i) = some a := by
  have hi := (List.getElem?_eq_some_iff.mp h).1
  have h2 := h
  rw [List.getElem?_eq_getElem hi] at h2
  simp [getIx, ixn, hi, Option.some.inj h2]
section
variable {P : Prog} {x : Ix}
theorem same_loop {k : Nat} {wa wb : W} {z2 : Option W} {as bs : List W} (hl : as.length = bs.length) (hn : as.length ≤ 1000000000)
    (ga : ∀ (i : Nat) (a : W), as[i]? = some a → getIx wa (.int i) = some a) (gb : ∀ (i : Nat) (b : W), bs[i]? = some b → getIx wb (.int i) = some b)
    (hc : ∀ (i : Nat) (a b : W), as[i]? = some a → bs[i]? = some b → a.frz = true ∧ b.frz = true ∧ callF P k x.same [a, b] = some (.ok (.bl (sameW a b)) [a, b])) :
    ∃ o, forL [0, 1] (.name 3) [3] (fun σ => exec P.xs (cl P k [0, 1]) (same_0 x) σ) (rngItems 0 as.length 1) [some wa, some wb, z2, none] = some o ∧
      ((sameWs as bs = true ∧ o = .ok (.nx [some wa, some wb, z2, none])) ∨ (sameWs as bs = false ∧ ∃ z, o = .ok (.rt (.bl false) [some wa, some wb, z2, z]))) := by
  refine for_or (fx := [0, 1]) (tg := .name 3) (wp := [3]) (b := fun σ => exec P.xs (cl P k [0, 1]) (same_0 x) σ) (rngItems 0 as.length 1)
    (fun i σ => σ = [some wa, some wb, z2, none] ∧ sameWs (as.take i) (bs.take i) = true) _
    (fun i it σ ei ⟨hσ, hs⟩ => ?_) (fun σ ⟨hσ, hs⟩ => ?_) _ ⟨rfl, by simp [sameWs]⟩
  · obtain ⟨hi, rfl⟩ := rng_at ei
    subst hσ
    have h1 := List.getElem?_eq_getElem hi
    have h2 := List.getElem?_eq_getElem (l := bs) (i := i) (by omega)
    generalize as[i] = a at h1
    generalize bs[i]'(by omega) = b at h2
    obtain ⟨f1, f2, e1⟩ := hc i a b h1 h2
    have e2 := ga i a h1
    have e3 := gb i b h2
    refine ⟨[some wa, some wb, z2, some (.int (0 + (i : Int) * 1))], by simp [PV.take], ?_⟩
    cases hab : sameW a b with
    | true =>
      rw [hab] at e1
      refine .inl ⟨[some wa, some wb, z2, some (.int (0 + (i : Int) * 1))], .inl ?_, by simp [wipe], ?_⟩
      · simp [same_0, exec, ev, evT, evs, evPs, evo, evC, evI, pk_var, pk_mov, pk_cst, pk_fnv, pk_bin, pk_cmp, pk_ch2, pk_neg, pk_not, pk_and, pk_or, pk_ife, pk_tup, pk_lst, pk_ix, pk_sl, pk_call, pk_blt, pk_mut, pk_meth, pk_isin, pk_isx, pk_xfld, M.bind, M.pure, M.opt, M.fail, M.get, M.gets, PV.P.get, onE, okSet, doCall, doMut, mutW, lend, back, binOp, addW, subW, mulW, fdivW, modW, powW, cmpOp, eqW, gtW, ltW, leW, geW, isNonW, W.isNon, bifn, lenW, absW, intW, max2W, min2W, tupleW, listW, allI, datOk, W.depth, W.depths, W.dat, W.dats, W.frz, W.frzs, W.fz, W.fzs, D.w, D.ws, pyEq, pyEqs, setIx, ixn, augOp, tyAny, tyB, truth, meth, recv, recvL, recvS, start, take, setAll, mulOk, ibeq, SZv, log2_nat, fixed, rng_two, rng_one, rng_three, rng_four, rng_five, rng_six, wipe, outsFrom, fin, mkExc, frzs_strs, frzs_ints, fzs_strs, fzs_ints, seqWalk, e1, e2, e3, f1, f2]
      · rw [take_snoc h1, take_snoc h2, sameWs_snoc (by rw [List.length_take, List.length_take, hl]), hs, hab]; rfl
    | false =>
      rw [hab] at e1
      refine .inr (.inr (.inl ⟨.bl false, [some wa, some wb, z2, some (.int (0 + (i : Int) * 1))], ?_, .inr ⟨sameWs_get h1 h2 hab, _, rfl⟩⟩))
      simp [same_0, exec, ev, evT, evs, evPs, evo, evC, evI, pk_var, pk_mov, pk_cst, pk_fnv, pk_bin, pk_cmp, pk_ch2, pk_neg, pk_not, pk_and, pk_or, pk_ife, pk_tup, pk_lst, pk_ix, pk_sl, pk_call, pk_blt, pk_mut, pk_meth, pk_isin, pk_isx, pk_xfld, M.bind, M.pure, M.opt, M.fail, M.get, M.gets, PV.P.get, onE, okSet, doCall, doMut, mutW, lend, back, binOp, addW, subW, mulW, fdivW, modW, powW, cmpOp, eqW, gtW, ltW, leW, geW, isNonW, W.isNon, bifn, lenW, absW, intW, max2W, min2W, tupleW, listW, allI, datOk, W.depth, W.depths, W.dat, W.dats, W.frz, W.frzs, W.fz, W.fzs, D.w, D.ws, pyEq, pyEqs, setIx, ixn, augOp, tyAny, tyB, truth, meth, recv, recvL, recvS, start, take, setAll, mulOk, ibeq, SZv, log2_nat, fixed, rng_two, rng_one, rng_three, rng_four, rng_five, rng_six, wipe, outsFrom, fin, mkExc, frzs_strs, frzs_ints, fzs_strs, fzs_ints, seqWalk, e1, e2, e3, f1, f2]
  · rw [rng_n, List.take_length, hl, List.take_length] at hs
    exact .inl ⟨hs, by rw [hσ]⟩
theorem same_rows {k : Nat} {wa wb : W} {as bs : List W} (hf : P.fns[x.same]? = some (sameFn x)) (hn : as.length ≤ 1000000000)
    {bt : Bool} (hk : (wa = .tup as ∧ wb = .tup bs ∧ bt = true) ∨ ∃ o p, wa = .lst o as ∧ wb = .lst p bs ∧ bt = false)
    (hc : ∀ (i : Nat) (a b : W), as[i]? = some a → bs[i]? = some b → a.frz = true ∧ b.frz = true ∧ callF P k x.same [a, b] = some (.ok (.bl (sameW a b)) [a, b])) :
    callF P (k + 1) x.same [wa, wb] = some (.ok (.bl (sameWs as bs)) [wa, wb]) := by
  rw [call_eq hf rfl]
  by_cases hl : as.length = bs.length
  · obtain ⟨o, e, h⟩ := same_loop (P := P) (x := x) (k := k) (wa := wa) (wb := wb) (z2 := some (.bl bt)) hl hn
      (fun i a ha => by rcases hk with ⟨rfl, rfl, rfl⟩ | ⟨o, p, rfl, rfl, rfl⟩; exact getIx_tup ha; exact getIx_lst ha)
      (fun i b hb => by rcases hk with ⟨rfl, rfl, rfl⟩ | ⟨o, p, rfl, rfl, rfl⟩; exact getIx_tup hb; exact getIx_lst hb) hc
    have hr := rng0i hn
    have ef : exec P.xs (cl P k [0, 1]) (same_1 x) [some wa, some wb, some (.bl bt), none] = some o := by
      refine for_of (σ1 := [some wa, some wb, some (.bl bt), none]) (xs := rngItems 0 as.length 1) ?_ e
      rcases hk with ⟨rfl, rfl, rfl⟩ | ⟨o, p, rfl, rfl, rfl⟩ <;> simp [exec, ev, evT, evs, evPs, evo, evC, evI, pk_var, pk_mov, pk_cst, pk_fnv, pk_bin, pk_cmp, pk_ch2, pk_neg, pk_not, pk_and, pk_or, pk_ife, pk_tup, pk_lst, pk_ix, pk_sl, pk_call, pk_blt, pk_mut, pk_meth, pk_isin, pk_isx, pk_xfld, M.bind, M.pure, M.opt, M.fail, M.get, M.gets, PV.P.get, onE, okSet, doCall, doMut, mutW, lend, back, binOp, addW, subW, mulW, fdivW, modW, powW, cmpOp, eqW, gtW, ltW, leW, geW, isNonW, W.isNon, bifn, lenW, absW, intW, max2W, min2W, tupleW, listW, allI, datOk, W.depth, W.depths, W.dat, W.dats, W.frz, W.frzs, W.fz, W.fzs, D.w, D.ws, pyEq, pyEqs, getIx, setIx, ixn, augOp, tyAny, tyB, truth, meth, recv, recvL, recvS, start, take, setAll, mulOk, ibeq, SZv, log2_nat, fixed, rng_two, rng_one, rng_three, rng_four, rng_five, rng_six, wipe, outsFrom, fin, mkExc, frzs_strs, frzs_ints, fzs_strs, fzs_ints, seqWalk, hr]
    rcases h with ⟨h1, rfl⟩ | ⟨h1, z, rfl⟩
    · rw [h1]
      rcases hk with ⟨rfl, rfl, rfl⟩ | ⟨o, p, rfl, rfl, rfl⟩ <;> simp [sameFn, exec, ev, evT, evs, evPs, evo, evC, evI, pk_var, pk_mov, pk_cst, pk_fnv, pk_bin, pk_cmp, pk_ch2, pk_neg, pk_not, pk_and, pk_or, pk_ife, pk_tup, pk_lst, pk_ix, pk_sl, pk_call, pk_blt, pk_mut, pk_meth, pk_isin, pk_isx, pk_xfld, M.bind, M.pure, M.opt, M.fail, M.get, M.gets, PV.P.get, onE, okSet, doCall, doMut, mutW, lend, back, binOp, addW, subW, mulW, fdivW, modW, powW, cmpOp, eqW, gtW, ltW, leW, geW, isNonW, W.isNon, bifn, lenW, absW, intW, max2W, min2W, tupleW, listW, allI, datOk, W.depth, W.depths, W.dat, W.dats, W.frz, W.frzs, W.fz, W.fzs, D.w, D.ws, pyEq, pyEqs, getIx, setIx, ixn, augOp, tyAny, tyB, truth, meth, recv, recvL, recvS, start, take, setAll, mulOk, ibeq, SZv, log2_nat, fixed, rng_two, rng_one, rng_three, rng_four, rng_five, rng_six, wipe, outsFrom, fin, mkExc, frzs_strs, frzs_ints, fzs_strs, fzs_ints, seqWalk, hl, ef]
    · rw [h1]
      rcases hk with ⟨rfl, rfl, rfl⟩ | ⟨o, p, rfl, rfl, rfl⟩ <;> simp [sameFn, exec, ev, evT, evs, evPs, evo, evC, evI, pk_var, pk_mov, pk_cst, pk_fnv, pk_bin, pk_cmp, pk_ch2, pk_neg, pk_not, pk_and, pk_or, pk_ife, pk_tup, pk_lst, pk_ix, pk_sl, pk_call, pk_blt, pk_mut, pk_meth, pk_isin, pk_isx, pk_xfld, M.bind, M.pure, M.opt, M.fail, M.get, M.gets, PV.P.get, onE, okSet, doCall, doMut, mutW, lend, back, binOp, addW, subW, mulW, fdivW, modW, powW, cmpOp, eqW, gtW, ltW, leW, geW, isNonW, W.isNon, bifn, lenW, absW, intW, max2W, min2W, tupleW, listW, allI, datOk, W.depth, W.depths, W.dat, W.dats, W.frz, W.frzs, W.fz, W.fzs, D.w, D.ws, pyEq, pyEqs, getIx, setIx, ixn, augOp, tyAny, tyB, truth, meth, recv, recvL, recvS, start, take, setAll, mulOk, ibeq, SZv, log2_nat, fixed, rng_two, rng_one, rng_three, rng_four, rng_five, rng_six, wipe, outsFrom, fin, mkExc, frzs_strs, frzs_ints, fzs_strs, fzs_ints, seqWalk, hl, ef]
  · have h1 : sameWs as bs = false := by
      cases h : sameWs as bs with
      | false => rfl
      | true => exact absurd (sameWs_len h) hl
    have hl' : ¬ ((as.length : Int) = bs.length) := by omega
    rw [h1]
    rcases hk with ⟨rfl, rfl, rfl⟩ | ⟨o, p, rfl, rfl, rfl⟩ <;> simp [sameFn, exec, ev, evT, evs, evPs, evo, evC, evI, pk_var, pk_mov, pk_cst, pk_fnv, pk_bin, pk_cmp, pk_ch2, pk_neg, pk_not, pk_and, pk_or, pk_ife, pk_tup, pk_lst, pk_ix, pk_sl, pk_call, pk_blt, pk_mut, pk_meth, pk_isin, pk_isx, pk_xfld, M.bind, M.pure, M.opt, M.fail, M.get, M.gets, PV.P.get, onE, okSet, doCall, doMut, mutW, lend, back, binOp, addW, subW, mulW, fdivW, modW, powW, cmpOp, eqW, gtW, ltW, leW, geW, isNonW, W.isNon, bifn, lenW, absW, intW, max2W, min2W, tupleW, listW, allI, datOk, W.depth, W.depths, W.dat, W.dats, W.frz, W.frzs, W.fz, W.fzs, D.w, D.ws, pyEq, pyEqs, getIx, setIx, ixn, augOp, tyAny, tyB, truth, meth, recv, recvL, recvS, start, take, setAll, mulOk, ibeq, SZv, log2_nat, fixed, rng_two, rng_one, rng_three, rng_four, rng_five, rng_six, wipe, outsFrom, fin, mkExc, frzs_strs, frzs_ints, fzs_strs, fzs_ints, seqWalk, hl']
theorem same_ok (hf : P.fns[x.same]? = some (sameFn x)) : ∀ (n k : Nat) (a b : W), a.depth ≤ n → a.dat = true → b.dat = true → a.kf = true → b.kf = true → a.wd ≤ 1000000000 → callF P (k + n + 1) x.same [a, b] = some (.ok (.bl (sameW a b)) [a, b]) := by
  intro n
  induction n with
  | zero =>
    intro k a b hd da db ka kb wa
    cases a <;> first | (simp [W.dat] at da; done) | (simp [W.depth] at hd; done) | (cases b <;> first | (simp [W.dat] at db; done) | (rw [call_eq hf rfl]; simp [sameFn, exec, ev, evT, evs, evPs, evo, evC, evI, pk_var, pk_mov, pk_cst, pk_fnv, pk_bin, pk_cmp, pk_ch2, pk_neg, pk_not, pk_and, pk_or, pk_ife, pk_tup, pk_lst, pk_ix, pk_sl, pk_call, pk_blt, pk_mut, pk_meth, pk_isin, pk_isx, pk_xfld, M.bind, M.pure, M.opt, M.fail, M.get, M.gets, PV.P.get, onE, okSet, doCall, doMut, mutW, lend, back, binOp, addW, subW, mulW, fdivW, modW, powW, cmpOp, eqW, gtW, ltW, leW, geW, isNonW, W.isNon, bifn, lenW, absW, intW, max2W, min2W, tupleW, listW, allI, datOk, W.depth, W.depths, W.dat, W.dats, W.frz, W.frzs, W.fz, W.fzs, D.w, D.ws, pyEq, pyEqs, getIx, setIx, ixn, augOp, tyAny, tyB, truth, meth, recv, recvL, recvS, start, take, setAll, mulOk, ibeq, SZv, log2_nat, fixed, rng_two, rng_one, rng_three, rng_four, rng_five, rng_six, wipe, outsFrom, fin, mkExc, frzs_strs, frzs_ints, fzs_strs, fzs_ints, seqWalk, sameW]; done))
  | succ n ih =>
    intro k a b hd da db ka kb wa
    have sub : ∀ as bs : List W, W.depths as ≤ n → W.dats as = true → W.dats bs = true → W.frzs as = true → W.frzs bs = true → W.wds as ≤ 1000000000 → ∀ (i : Nat) (a b : W), as[i]? = some a → bs[i]? = some b → a.frz = true ∧ b.frz = true ∧ callF P (k + n + 1) x.same [a, b] = some (.ok (.bl (sameW a b)) [a, b]) := fun as bs h1 h2 h3 h4 h5 h6 i a b ha hb => by
      have fa := frzs_all.mp h4 a (List.mem_of_getElem? ha)
      have fb := frzs_all.mp h5 b (List.mem_of_getElem? hb)
      have da := dats_get h2 ha
      have db := dats_get h3 hb
      have := depths_get ha
      have := wds_get ha
      exact ⟨fa, fb, ih k a b (by omega) da db (kf_frz fa da) (kf_frz fb db) (by omega)⟩
    rw [show k + (n + 1) + 1 = k + n + 1 + 1 by omega]
    cases a <;> first | (simp [W.dat] at da; done) | skip
    case tup as =>
      cases b <;> first | (simp [W.dat] at db; done) | skip
      case tup bs =>
        simp only [W.depth, W.dat, W.kf, W.wd] at hd da db ka kb wa
        exact same_rows hf (by omega) (.inl ⟨rfl, rfl, rfl⟩) (sub as bs (by omega) da db ka kb (by omega))
      all_goals (rw [call_eq hf rfl]; simp [sameFn, exec, ev, evT, evs, evPs, evo, evC, evI, pk_var, pk_mov, pk_cst, pk_fnv, pk_bin, pk_cmp, pk_ch2, pk_neg, pk_not, pk_and, pk_or, pk_ife, pk_tup, pk_lst, pk_ix, pk_sl, pk_call, pk_blt, pk_mut, pk_meth, pk_isin, pk_isx, pk_xfld, M.bind, M.pure, M.opt, M.fail, M.get, M.gets, PV.P.get, onE, okSet, doCall, doMut, mutW, lend, back, binOp, addW, subW, mulW, fdivW, modW, powW, cmpOp, eqW, gtW, ltW, leW, geW, isNonW, W.isNon, bifn, lenW, absW, intW, max2W, min2W, tupleW, listW, allI, datOk, W.depth, W.depths, W.dat, W.dats, W.frz, W.frzs, W.fz, W.fzs, D.w, D.ws, pyEq, pyEqs, getIx, setIx, ixn, augOp, tyAny, tyB, truth, meth, recv, recvL, recvS, start, take, setAll, mulOk, ibeq, SZv, log2_nat, fixed, rng_two, rng_one, rng_three, rng_four, rng_five, rng_six, wipe, outsFrom, fin, mkExc, frzs_strs, frzs_ints, fzs_strs, fzs_ints, seqWalk, sameW]; done)
    case lst o as =>
      cases b <;> first | (simp [W.dat] at db; done) | skip
      case lst p bs =>
        simp only [W.depth, W.dat, W.kf, W.wd] at hd da db ka kb wa
        exact same_rows hf (by omega) (.inr ⟨o, p, rfl, rfl, rfl⟩) (sub as bs (by omega) da db ka kb (by omega))
      all_goals (rw [call_eq hf rfl]; simp [sameFn, exec, ev, evT, evs, evPs, evo, evC, evI, pk_var, pk_mov, pk_cst, pk_fnv, pk_bin, pk_cmp, pk_ch2, pk_neg, pk_not, pk_and, pk_or, pk_ife, pk_tup, pk_lst, pk_ix, pk_sl, pk_call, pk_blt, pk_mut, pk_meth, pk_isin, pk_isx, pk_xfld, M.bind, M.pure, M.opt, M.fail, M.get, M.gets, PV.P.get, onE, okSet, doCall, doMut, mutW, lend, back, binOp, addW, subW, mulW, fdivW, modW, powW, cmpOp, eqW, gtW, ltW, leW, geW, isNonW, W.isNon, bifn, lenW, absW, intW, max2W, min2W, tupleW, listW, allI, datOk, W.depth, W.depths, W.dat, W.dats, W.frz, W.frzs, W.fz, W.fzs, D.w, D.ws, pyEq, pyEqs, getIx, setIx, ixn, augOp, tyAny, tyB, truth, meth, recv, recvL, recvS, start, take, setAll, mulOk, ibeq, SZv, log2_nat, fixed, rng_two, rng_one, rng_three, rng_four, rng_five, rng_six, wipe, outsFrom, fin, mkExc, frzs_strs, frzs_ints, fzs_strs, fzs_ints, seqWalk, sameW]; done)
    all_goals (cases b <;> first | (simp [W.dat] at db; done) | (rw [call_eq hf rfl]; simp [sameFn, exec, ev, evT, evs, evPs, evo, evC, evI, pk_var, pk_mov, pk_cst, pk_fnv, pk_bin, pk_cmp, pk_ch2, pk_neg, pk_not, pk_and, pk_or, pk_ife, pk_tup, pk_lst, pk_ix, pk_sl, pk_call, pk_blt, pk_mut, pk_meth, pk_isin, pk_isx, pk_xfld, M.bind, M.pure, M.opt, M.fail, M.get, M.gets, PV.P.get, onE, okSet, doCall, doMut, mutW, lend, back, binOp, addW, subW, mulW, fdivW, modW, powW, cmpOp, eqW, gtW, ltW, leW, geW, isNonW, W.isNon, bifn, lenW, absW, intW, max2W, min2W, tupleW, listW, allI, datOk, W.depth, W.depths, W.dat, W.dats, W.frz, W.frzs, W.fz, W.fzs, D.w, D.ws, pyEq, pyEqs, getIx, setIx, ixn, augOp, tyAny, tyB, truth, meth, recv, recvL, recvS, start, take, setAll, mulOk, ibeq, SZv, log2_nat, fixed, rng_two, rng_one, rng_three, rng_four, rng_five, rng_six, wipe, outsFrom, fin, mkExc, frzs_strs, frzs_ints, fzs_strs, fzs_ints, seqWalk, sameW]; done))
end
end PV

/-! V11: walk(root), the generator that many laws walk over. -/
namespace PV
def ispFn : Fn := ⟨1, 1, [],
  (.ret (.some (.and (.isin (.var 0) [.tuple]) (.cmp .eq (.blt .len (.cons (.var 0) .nil)) (.cst (.int 3))))))⟩
def Itm.isP : Itm → Bool
  | .prt _ _ _ => true
  | _ => false
theorem isp_ok {P : Prog} {k ip : Nat} (hp : P.fns[ip]? = some ispFn) {t : Itm} : callF P (k + 1) ip [t.w] = some (.ok (.bl t.isP) [t.w]) := by
  rw [call_eq hp rfl]
  cases t <;> simp [ispFn, exec, ev, evT, evs, evPs, evo, evC, evI, pk_var, pk_mov, pk_cst, pk_fnv, pk_bin, pk_cmp, pk_ch2, pk_neg, pk_not, pk_and, pk_or, pk_ife, pk_tup, pk_lst, pk_ix, pk_sl, pk_call, pk_blt, pk_mut, pk_meth, pk_isin, pk_isx, pk_xfld, M.bind, M.pure, M.opt, M.fail, M.get, M.gets, PV.P.get, onE, okSet, doCall, doMut, mutW, lend, back, binOp, addW, subW, mulW, fdivW, modW, powW, cmpOp, eqW, gtW, ltW, leW, geW, isNonW, W.isNon, bifn, lenW, absW, intW, max2W, min2W, tupleW, listW, allI, datOk, W.depth, W.depths, W.dat, W.dats, W.frz, W.frzs, W.fz, W.fzs, D.w, D.ws, pyEq, pyEqs, getIx, setIx, ixn, augOp, tyAny, tyB, truth, meth, recv, recvL, recvS, start, take, setAll, mulOk, ibeq, SZv, log2_nat, fixed, rng_two, rng_one, rng_three, rng_four, rng_five, rng_six, wipe, outsFrom, fin, mkExc, frzs_strs, frzs_ints, fzs_strs, fzs_ints, seqWalk, Itm.w, Itm.isP]
def walk_0 : S := 
  (.setT [2, 3] (.mut .pop 1 .nil))
def walk_1 : S := 
  (.expr (.mut .append 1 (.cons (.tup (.cons (.bin .add (.var 2) (.tup (.cons (.var 4) .nil))) (.cons (.ix (.ix (.var 3) (.cst (.int 2))) (.var 4)) .nil))) .nil)))
def walk_2 : S := (.for (.name 4) (.rng3 (.bin .sub (.blt .len (.cons (.ix (.var 3) (.cst (.int 2))) .nil)) (.cst (.int 1))) (.neg (.cst (.int 1))) (.neg (.cst (.int 1)))) walk_1 [4])
def walk_3 (ip : Nat) : S := 
  (.ife (.call ip (.cons (.var 3) .nil))
    walk_2
    .skip)
def walkGn (ip : Nat) : Gn := ⟨5, 1, (.set 1 (.lst (.cons (.tup (.cons (.tup .nil) (.cons (.var 0) .nil))) .nil))), (.var 1), walk_0, (.tup (.cons (.var 2) (.cons (.var 3) .nil))), walk_3 ip, [2, 3, 4]⟩
/-- a part's items with their paths -/
def kids (q : List Int) : Nat → List Itm → List (List Int × Itm)
  | _, [] => []
  | i, t :: ts => (q ++ [(i : Int)], t) :: kids q (i + 1) ts
theorem pths_kids {q : List Int} : ∀ {ts : List Itm} {i : Nat}, Itm.pths q i ts = (kids q i ts).flatMap fun r => r.2.pth r.1
  | [], i => rfl
  | t :: ts, i => by rw [Itm.pths, kids, List.flatMap_cons, pths_kids]
def kidsOf : List Int × Itm → List (List Int × Itm)
  | (q, .prt _ _ is) => kids q 0 is
  | _ => []
theorem pth_kids : ∀ {r : List Int × Itm}, r.2.pth r.1 = r :: (kidsOf r).flatMap fun r => r.2.pth r.1
  | (q, .txt s) => rfl
  | (q, .ref s) => rfl
  | (q, .lab s) => rfl
  | (q, .prt k ms is) => by
    show Itm.pth q (.prt k ms is) = _
    rw [Itm.pth, pths_kids]
    rfl
theorem kids_len {q : List Int} : ∀ {ts : List Itm} {i : Nat}, (kids q i ts).length = ts.length
  | [], i => rfl
  | t :: ts, i => by rw [kids, List.length_cons, kids_len, List.length_cons]
theorem kids_get {q : List Int} : ∀ {ts : List Itm} {i j : Nat} {t : Itm}, ts[j]? = some t → (kids q i ts)[j]? = some (q ++ [((i + j : Nat) : Int)], t)
  | t :: ts, i, 0, u, h => by
    simp at h
    subst h
    simp [kids]
  | t :: ts, i, j + 1, u, h => by
    rw [kids, List.getElem?_cons_succ, kids_get (ts := ts) (i := i + 1) (j := j) (by simpa using h)]
    rw [show i + 1 + j = i + (j + 1) by omega]
/-- what is left to do: the items of the rows that wait -/
def load : List (List Int × Itm) → Nat
  | [] => 0
  | r :: rs => r.2.cnt + load rs
theorem load_app : ∀ {a b : List (List Int × Itm)}, load (a ++ b) = load a + load b
  | [], b => by simp [load]
  | r :: a, b => by rw [List.cons_append, load, load_app, load]; omega
theorem load_kids {q : List Int} : ∀ {ts : List Itm} {i : Nat}, load (kids q i ts) = Itm.cnts ts
  | [], i => rfl
  | t :: ts, i => by rw [kids, load, load_kids, Itm.cnts]
theorem load_of : ∀ {r : List Int × Itm}, load (kidsOf r) + 1 = r.2.cnt
  | (q, .txt s) => rfl
  | (q, .ref s) => rfl
  | (q, .lab s) => rfl
  | (q, .prt k ms is) => by
    show load (kids q 0 is) + 1 = 1 + Itm.cnts is
    rw [load_kids]; omega
section
variable {P : Prog} {k ip : Nat}
abbrev wcl (P : Prog) (k : Nat) : Calls := ⟨callF P k, none, [0], fun _ _ => none⟩
theorem walk_push (hp : P.fns[ip]? = some ispFn) {z0 z4 : Option W} {q : List Int} {t : Itm} {rest : List (List Int × Itm)} (hq : q.length ≤ 100000) (hl : load rest + t.cnt ≤ 1000000) (hr : rest.length ≤ load rest) :
    exec P.xs (wcl P (k + 1)) (walk_3 ip) [z0, some (.lst true (rest.reverse.map rowW)), some (.tup (q.map W.int)), some t.w, none] = some (.ok (.nx [z0, some (.lst true ((kidsOf (q, t) ++ rest).reverse.map rowW)), some (.tup (q.map W.int)), some t.w, none])) := by
  have ei := isp_ok (k := k) hp (t := t)
  cases t with
  | txt s => simp [Itm.isP] at ei; simp [walk_3, exec, ev, evT, evs, evPs, evo, evC, evI, pk_var, pk_mov, pk_cst, pk_fnv, pk_bin, pk_cmp, pk_ch2, pk_neg, pk_not, pk_and, pk_or, pk_ife, pk_tup, pk_lst, pk_ix, pk_sl, pk_call, pk_blt, pk_mut, pk_meth, pk_isin, pk_isx, pk_xfld, M.bind, M.pure, M.opt, M.fail, M.get, M.gets, PV.P.get, onE, okSet, doCall, doMut, mutW, lend, back, binOp, addW, subW, mulW, fdivW, modW, powW, cmpOp, eqW, gtW, ltW, leW, geW, isNonW, W.isNon, bifn, lenW, absW, intW, max2W, min2W, tupleW, listW, allI, datOk, W.depth, W.depths, W.dat, W.dats, W.frz, W.frzs, W.fz, W.fzs, D.w, D.ws, pyEq, pyEqs, getIx, setIx, ixn, augOp, tyAny, tyB, truth, meth, recv, recvL, recvS, start, take, setAll, mulOk, ibeq, SZv, log2_nat, fixed, rng_two, rng_one, rng_three, rng_four, rng_five, rng_six, wipe, outsFrom, fin, mkExc, frzs_strs, frzs_ints, fzs_strs, fzs_ints, seqWalk, ei, kidsOf]
  | ref s => simp [Itm.isP] at ei; simp [walk_3, exec, ev, evT, evs, evPs, evo, evC, evI, pk_var, pk_mov, pk_cst, pk_fnv, pk_bin, pk_cmp, pk_ch2, pk_neg, pk_not, pk_and, pk_or, pk_ife, pk_tup, pk_lst, pk_ix, pk_sl, pk_call, pk_blt, pk_mut, pk_meth, pk_isin, pk_isx, pk_xfld, M.bind, M.pure, M.opt, M.fail, M.get, M.gets, PV.P.get, onE, okSet, doCall, doMut, mutW, lend, back, binOp, addW, subW, mulW, fdivW, modW, powW, cmpOp, eqW, gtW, ltW, leW, geW, isNonW, W.isNon, bifn, lenW, absW, intW, max2W, min2W, tupleW, listW, allI, datOk, W.depth, W.depths, W.dat, W.dats, W.frz, W.frzs, W.fz, W.fzs, D.w, D.ws, pyEq, pyEqs, getIx, setIx, ixn, augOp, tyAny, tyB, truth, meth, recv, recvL, recvS, start, take, setAll, mulOk, ibeq, SZv, log2_nat, fixed, rng_two, rng_one, rng_three, rng_four, rng_five, rng_six, wipe, outsFrom, fin, mkExc, frzs_strs, frzs_ints, fzs_strs, fzs_ints, seqWalk, ei, kidsOf]
  | lab s => simp [Itm.isP] at ei; simp [walk_3, exec, ev, evT, evs, evPs, evo, evC, evI, pk_var, pk_mov, pk_cst, pk_fnv, pk_bin, pk_cmp, pk_ch2, pk_neg, pk_not, pk_and, pk_or, pk_ife, pk_tup, pk_lst, pk_ix, pk_sl, pk_call, pk_blt, pk_mut, pk_meth, pk_isin, pk_isx, pk_xfld, M.bind, M.pure, M.opt, M.fail, M.get, M.gets, PV.P.get, onE, okSet, doCall, doMut, mutW, lend, back, binOp, addW, subW, mulW, fdivW, modW, powW, cmpOp, eqW, gtW, ltW, leW, geW, isNonW, W.isNon, bifn, lenW, absW, intW, max2W, min2W, tupleW, listW, allI, datOk, W.depth, W.depths, W.dat, W.dats, W.frz, W.frzs, W.fz, W.fzs, D.w, D.ws, pyEq, pyEqs, getIx, setIx, ixn, augOp, tyAny, tyB, truth, meth, recv, recvL, recvS, start, take, setAll, mulOk, ibeq, SZv, log2_nat, fixed, rng_two, rng_one, rng_three, rng_four, rng_five, rng_six, wipe, outsFrom, fin, mkExc, frzs_strs, frzs_ints, fzs_strs, fzs_ints, seqWalk, ei, kidsOf]
  | prt kd ms is =>
    have hn : is.length ≤ Itm.cnts is := by
      have : ∀ l : List Itm, l.length ≤ Itm.cnts l := fun l => by
        induction l with
        | nil => exact Nat.le_refl _
        | cons a l ih => rw [List.length_cons, Itm.cnts]; have := cnt_pos (t := a); omega
      exact this is
    have hc : Itm.cnts is + 1 + load rest ≤ 1000000 := by
      have : (Itm.prt kd ms is).cnt = 1 + Itm.cnts is := rfl
      omega
    have hk : (kids q 0 is).length = is.length := kids_len
    obtain ⟨σ', e, he⟩ := for_ind (fx := [0]) (tg := .name 4) (wp := [4]) (b := fun σ => exec P.xs (wcl P (k + 1)) walk_1 σ) (rngItems ((is.length : Int) - 1) is.length (-1))
      (fun i σ => σ = [z0, some (.lst true (((kids q 0 is).drop (is.length - i) ++ rest).reverse.map rowW)), some (.tup (q.map W.int)), some (Itm.prt kd ms is).w, none])
      (fun i it σ ex hσ => by
        obtain ⟨hi, rfl⟩ := rng_at ex
        subst hσ
        have hj : is.length - 1 - i < is.length := by omega
        have hg := List.getElem?_eq_getElem hj
        generalize hdd : is[is.length - 1 - i] = d at hg
        have hkg := kids_get (q := q) (i := 0) hg
        rw [Nat.zero_add] at hkg
        have hat : (is.length : Int) - 1 + (i : Int) * -1 = ((is.length - 1 - i : Nat) : Int) := by omega
        rw [hat]
        have hdrop : (kids q 0 is).drop (is.length - (i + 1)) = (q ++ [((is.length - 1 - i : Nat) : Int)], d) :: (kids q 0 is).drop (is.length - i) := by
          have h1 : is.length - (i + 1) < (kids q 0 is).length := by omega
          rw [List.drop_eq_getElem_cons h1]
          rw [show is.length - (i + 1) + 1 = is.length - i by omega]
          congr 1
          have e2 : is.length - (i + 1) = is.length - 1 - i := by omega
          rw [← e2] at hkg ⊢
          rw [List.getElem?_eq_getElem h1] at hkg
          exact Option.some.inj hkg
        generalize hjj : is.length - 1 - i = j at *
        refine ⟨[z0, some (.lst true (((kids q 0 is).drop (is.length - i) ++ rest).reverse.map rowW)), some (.tup (q.map W.int)), some (Itm.prt kd ms is).w, some (.int (j : Int))], by simp [PV.take], [z0, some (.lst true (((kids q 0 is).drop (is.length - (i + 1)) ++ rest).reverse.map rowW)), some (.tup (q.map W.int)), some (Itm.prt kd ms is).w, some (.int (j : Int))], .inl ?_, by simp [wipe]⟩
        have g1 : ∀ h, (Itm.ws is)[j]'h = d.w := fun h => by
          have : (Itm.ws is)[j]? = some d.w := by rw [ws_get, hg]; rfl
          rw [List.getElem?_eq_getElem h] at this
          exact Option.some.inj this
        have s1 : q.length + 1 ≤ 16777216 := by omega
        have s2 : rest.length + ((kids q 0 is).length - (is.length - i)) < 16777216 := by omega
        rw [hdrop]
        simp [walk_1, exec, ev, evT, evs, evPs, evo, evC, evI, pk_var, pk_mov, pk_cst, pk_fnv, pk_bin, pk_cmp, pk_ch2, pk_neg, pk_not, pk_and, pk_or, pk_ife, pk_tup, pk_lst, pk_ix, pk_sl, pk_call, pk_blt, pk_mut, pk_meth, pk_isin, pk_isx, pk_xfld, M.bind, M.pure, M.opt, M.fail, M.get, M.gets, PV.P.get, onE, okSet, doCall, doMut, mutW, lend, back, binOp, addW, subW, mulW, fdivW, modW, powW, cmpOp, eqW, gtW, ltW, leW, geW, isNonW, W.isNon, bifn, lenW, absW, intW, max2W, min2W, tupleW, listW, allI, datOk, W.depth, W.depths, W.dat, W.dats, W.frz, W.frzs, W.fz, W.fzs, D.w, D.ws, pyEq, pyEqs, getIx, setIx, ixn, augOp, tyAny, tyB, truth, meth, recv, recvL, recvS, start, take, setAll, mulOk, ibeq, SZv, log2_nat, fixed, rng_two, rng_one, rng_three, rng_four, rng_five, rng_six, wipe, outsFrom, fin, mkExc, frzs_strs, frzs_ints, fzs_strs, fzs_ints, seqWalk, Itm.w, ws_len, hj, g1, s1, s2, frzs_append, rowW])
      [z0, some (.lst true (rest.reverse.map rowW)), some (.tup (q.map W.int)), some (Itm.prt kd ms is).w, none] (by simp [hk])
    rw [rng_n, Nat.sub_self, List.drop_zero] at he
    subst he
    have hw3 : rngWalk3 ((is.length : Int) - 1) (-1) (-1) = some (rngItems ((is.length : Int) - 1) is.length (-1)) := by
      unfold rngWalk3 big
      rw [if_pos ⟨by omega, by omega, rfl⟩]
      congr 2
      omega
    have ef : exec P.xs (wcl P (k + 1)) walk_2 [z0, some (.lst true (rest.reverse.map rowW)), some (.tup (q.map W.int)), some (Itm.prt kd ms is).w, none] = _ := for_of (σ1 := [z0, some (.lst true (rest.reverse.map rowW)), some (.tup (q.map W.int)), some (Itm.prt kd ms is).w, none]) (xs := rngItems ((is.length : Int) - 1) is.length (-1)) (by simp [exec, ev, evT, evs, evPs, evo, evC, evI, pk_var, pk_mov, pk_cst, pk_fnv, pk_bin, pk_cmp, pk_ch2, pk_neg, pk_not, pk_and, pk_or, pk_ife, pk_tup, pk_lst, pk_ix, pk_sl, pk_call, pk_blt, pk_mut, pk_meth, pk_isin, pk_isx, pk_xfld, M.bind, M.pure, M.opt, M.fail, M.get, M.gets, PV.P.get, onE, okSet, doCall, doMut, mutW, lend, back, binOp, addW, subW, mulW, fdivW, modW, powW, cmpOp, eqW, gtW, ltW, leW, geW, isNonW, W.isNon, bifn, lenW, absW, intW, max2W, min2W, tupleW, listW, allI, datOk, W.depth, W.depths, W.dat, W.dats, W.frz, W.frzs, W.fz, W.fzs, D.w, D.ws, pyEq, pyEqs, getIx, setIx, ixn, augOp, tyAny, tyB, truth, meth, recv, recvL, recvS, start, take, setAll, mulOk, ibeq, SZv, log2_nat, fixed, rng_two, rng_one, rng_three, rng_four, rng_five, rng_six, wipe, outsFrom, fin, mkExc, frzs_strs, frzs_ints, fzs_strs, fzs_ints, seqWalk, Itm.w, ws_len, hw3]) e
    rw [show (Itm.prt kd ms is).isP = true from rfl] at ei
    simp at ef
    simp [walk_3, exec, ev, evT, evs, evPs, evo, evC, evI, pk_var, pk_mov, pk_cst, pk_fnv, pk_bin, pk_cmp, pk_ch2, pk_neg, pk_not, pk_and, pk_or, pk_ife, pk_tup, pk_lst, pk_ix, pk_sl, pk_call, pk_blt, pk_mut, pk_meth, pk_isin, pk_isx, pk_xfld, M.bind, M.pure, M.opt, M.fail, M.get, M.gets, PV.P.get, onE, okSet, doCall, doMut, mutW, lend, back, binOp, addW, subW, mulW, fdivW, modW, powW, cmpOp, eqW, gtW, ltW, leW, geW, isNonW, W.isNon, bifn, lenW, absW, intW, max2W, min2W, tupleW, listW, allI, datOk, W.depth, W.depths, W.dat, W.dats, W.frz, W.frzs, W.fz, W.fzs, D.w, D.ws, pyEq, pyEqs, getIx, setIx, ixn, augOp, tyAny, tyB, truth, meth, recv, recvL, recvS, start, take, setAll, mulOk, ibeq, SZv, log2_nat, fixed, rng_two, rng_one, rng_three, rng_four, rng_five, rng_six, wipe, outsFrom, fin, mkExc, frzs_strs, frzs_ints, fzs_strs, fzs_ints, seqWalk, ei, ef, kidsOf]
theorem len_load : ∀ st : List (List Int × Itm), st.length ≤ load st
  | [] => Nat.le_refl _
  | r :: st => by
    have := len_load st
    have := cnt_pos (t := r.2)
    rw [List.length_cons, load]
    omega
theorem kids_dep {q : List Int} : ∀ {ts : List Itm} {i : Nat}, ∀ r ∈ kids q i ts, r.1.length + r.2.dep ≤ q.length + 1 + Itm.deps ts
  | [], i, r, h => by cases h
  | t :: ts, i, r, h => by
    rw [kids] at h
    simp only [Itm.deps]
    rcases List.mem_cons.mp h with rfl | h
    · simp; omega
    · have := kids_dep (ts := ts) r h
      omega
theorem kid_dep : ∀ {s r : List Int × Itm}, r ∈ kidsOf s → r.1.length + r.2.dep ≤ s.1.length + s.2.dep
  | (q, .txt s), r, h => by cases h
  | (q, .ref s), r, h => by cases h
  | (q, .lab s), r, h => by cases h
  | (q, .prt k ms is), r, h => by
    have := kids_dep (q := q) (ts := is) (i := 0) r h
    show _ ≤ q.length + (1 + Itm.deps is)
    omega
/-- one after another -/
theorem walk_gen (hp : P.fns[ip]? = some ispFn) {z0 : Option W} : ∀ (m : Nat) (st : List (List Int × Itm)) (n : Nat), load st ≤ m → m ≤ 1000000 → (∀ r ∈ st, r.1.length + r.2.dep ≤ 100000) →
    genL P.xs (wcl P (k + 1)) (.var 1) walk_0 (.tup (.cons (.var 2) (.cons (.var 3) .nil))) (walk_3 ip) [2, 3, 4] (m + 1 + n) [z0, some (.lst true (st.reverse.map rowW)), none, none, none] = some ((st.flatMap fun r => r.2.pth r.1).map rowW) := by
  intro m
  induction m with
  | zero =>
    intro st n h1 h2 h4
    have h3 := len_load st
    have : st = [] := List.eq_nil_of_length_eq_zero (by omega)
    subst this
    rw [show 0 + 1 + n = n + 1 by omega]
    unfold genL
    simp [exec, ev, evT, evs, evPs, evo, evC, evI, pk_var, pk_mov, pk_cst, pk_fnv, pk_bin, pk_cmp, pk_ch2, pk_neg, pk_not, pk_and, pk_or, pk_ife, pk_tup, pk_lst, pk_ix, pk_sl, pk_call, pk_blt, pk_mut, pk_meth, pk_isin, pk_isx, pk_xfld, M.bind, M.pure, M.opt, M.fail, M.get, M.gets, PV.P.get, onE, okSet, doCall, doMut, mutW, lend, back, binOp, addW, subW, mulW, fdivW, modW, powW, cmpOp, eqW, gtW, ltW, leW, geW, isNonW, W.isNon, bifn, lenW, absW, intW, max2W, min2W, tupleW, listW, allI, datOk, W.depth, W.depths, W.dat, W.dats, W.frz, W.frzs, W.fz, W.fzs, D.w, D.ws, pyEq, pyEqs, getIx, setIx, ixn, augOp, tyAny, tyB, truth, meth, recv, recvL, recvS, start, take, setAll, mulOk, ibeq, SZv, log2_nat, fixed, rng_two, rng_one, rng_three, rng_four, rng_five, rng_six, wipe, outsFrom, fin, mkExc, frzs_strs, frzs_ints, fzs_strs, fzs_ints, seqWalk]
  | succ m ih =>
    intro st n h1 h2 h4
    cases st with
    | nil =>
      rw [show m + 1 + 1 + n = (m + 1 + n) + 1 by omega]
      unfold genL
      simp [exec, ev, evT, evs, evPs, evo, evC, evI, pk_var, pk_mov, pk_cst, pk_fnv, pk_bin, pk_cmp, pk_ch2, pk_neg, pk_not, pk_and, pk_or, pk_ife, pk_tup, pk_lst, pk_ix, pk_sl, pk_call, pk_blt, pk_mut, pk_meth, pk_isin, pk_isx, pk_xfld, M.bind, M.pure, M.opt, M.fail, M.get, M.gets, PV.P.get, onE, okSet, doCall, doMut, mutW, lend, back, binOp, addW, subW, mulW, fdivW, modW, powW, cmpOp, eqW, gtW, ltW, leW, geW, isNonW, W.isNon, bifn, lenW, absW, intW, max2W, min2W, tupleW, listW, allI, datOk, W.depth, W.depths, W.dat, W.dats, W.frz, W.frzs, W.fz, W.fzs, D.w, D.ws, pyEq, pyEqs, getIx, setIx, ixn, augOp, tyAny, tyB, truth, meth, recv, recvL, recvS, start, take, setAll, mulOk, ibeq, SZv, log2_nat, fixed, rng_two, rng_one, rng_three, rng_four, rng_five, rng_six, wipe, outsFrom, fin, mkExc, frzs_strs, frzs_ints, fzs_strs, fzs_ints, seqWalk]
    | cons r rest =>
      have hl := load_of (r := r)
      have hld : load (r :: rest) = r.2.cnt + load rest := rfl
      have hcp := cnt_pos (t := r.2)
      have h5 := h4 r List.mem_cons_self
      have h6 := len_load rest
      obtain ⟨q, t⟩ := r
      dsimp only at hl hld hcp h5
      have e1 : evT (wcl P (k + 1)) (.var 1) [z0, some (.lst true (((q, t) :: rest).reverse.map rowW)), none, none, none] = some (.ok true [z0, some (.lst true (((q, t) :: rest).reverse.map rowW)), none, none, none]) := by simp [exec, ev, evT, evs, evPs, evo, evC, evI, pk_var, pk_mov, pk_cst, pk_fnv, pk_bin, pk_cmp, pk_ch2, pk_neg, pk_not, pk_and, pk_or, pk_ife, pk_tup, pk_lst, pk_ix, pk_sl, pk_call, pk_blt, pk_mut, pk_meth, pk_isin, pk_isx, pk_xfld, M.bind, M.pure, M.opt, M.fail, M.get, M.gets, PV.P.get, onE, okSet, doCall, doMut, mutW, lend, back, binOp, addW, subW, mulW, fdivW, modW, powW, cmpOp, eqW, gtW, ltW, leW, geW, isNonW, W.isNon, bifn, lenW, absW, intW, max2W, min2W, tupleW, listW, allI, datOk, W.depth, W.depths, W.dat, W.dats, W.frz, W.frzs, W.fz, W.fzs, D.w, D.ws, pyEq, pyEqs, getIx, setIx, ixn, augOp, tyAny, tyB, truth, meth, recv, recvL, recvS, start, take, setAll, mulOk, ibeq, SZv, log2_nat, fixed, rng_two, rng_one, rng_three, rng_four, rng_five, rng_six, wipe, outsFrom, fin, mkExc, frzs_strs, frzs_ints, fzs_strs, fzs_ints, seqWalk]
      have e2 : exec P.xs (wcl P (k + 1)) walk_0 [z0, some (.lst true (((q, t) :: rest).reverse.map rowW)), none, none, none] = some (.ok (.nx [z0, some (.lst true (rest.reverse.map rowW)), some (.tup (q.map W.int)), some t.w, none])) := by
        have g1 : rowW (q, t) = .tup [.tup (q.map W.int), t.w] := rfl
        simp [walk_0, exec, ev, evT, evs, evPs, evo, evC, evI, pk_var, pk_mov, pk_cst, pk_fnv, pk_bin, pk_cmp, pk_ch2, pk_neg, pk_not, pk_and, pk_or, pk_ife, pk_tup, pk_lst, pk_ix, pk_sl, pk_call, pk_blt, pk_mut, pk_meth, pk_isin, pk_isx, pk_xfld, M.bind, M.pure, M.opt, M.fail, M.get, M.gets, PV.P.get, onE, okSet, doCall, doMut, mutW, lend, back, binOp, addW, subW, mulW, fdivW, modW, powW, cmpOp, eqW, gtW, ltW, leW, geW, isNonW, W.isNon, bifn, lenW, absW, intW, max2W, min2W, tupleW, listW, allI, datOk, W.depth, W.depths, W.dat, W.dats, W.frz, W.frzs, W.fz, W.fzs, D.w, D.ws, pyEq, pyEqs, getIx, setIx, ixn, augOp, tyAny, tyB, truth, meth, recv, recvL, recvS, start, take, setAll, mulOk, ibeq, SZv, log2_nat, fixed, rng_two, rng_one, rng_three, rng_four, rng_five, rng_six, wipe, outsFrom, fin, mkExc, frzs_strs, frzs_ints, fzs_strs, fzs_ints, seqWalk, g1]
      have e3 : ev (wcl P (k + 1)) (.tup (.cons (.var 2) (.cons (.var 3) .nil))) [z0, some (.lst true (rest.reverse.map rowW)), some (.tup (q.map W.int)), some t.w, none] = some (.ok (rowW (q, t)) [z0, some (.lst true (rest.reverse.map rowW)), some (.tup (q.map W.int)), some t.w, none]) := by
        simp [exec, ev, evT, evs, evPs, evo, evC, evI, pk_var, pk_mov, pk_cst, pk_fnv, pk_bin, pk_cmp, pk_ch2, pk_neg, pk_not, pk_and, pk_or, pk_ife, pk_tup, pk_lst, pk_ix, pk_sl, pk_call, pk_blt, pk_mut, pk_meth, pk_isin, pk_isx, pk_xfld, M.bind, M.pure, M.opt, M.fail, M.get, M.gets, PV.P.get, onE, okSet, doCall, doMut, mutW, lend, back, binOp, addW, subW, mulW, fdivW, modW, powW, cmpOp, eqW, gtW, ltW, leW, geW, isNonW, W.isNon, bifn, lenW, absW, intW, max2W, min2W, tupleW, listW, allI, datOk, W.depth, W.depths, W.dat, W.dats, W.frz, W.frzs, W.fz, W.fzs, D.w, D.ws, pyEq, pyEqs, getIx, setIx, ixn, augOp, tyAny, tyB, truth, meth, recv, recvL, recvS, start, take, setAll, mulOk, ibeq, SZv, log2_nat, fixed, rng_two, rng_one, rng_three, rng_four, rng_five, rng_six, wipe, outsFrom, fin, mkExc, frzs_strs, frzs_ints, fzs_strs, fzs_ints, seqWalk, rowW]
      have e4 := walk_push (k := k) (z4 := none) hp (z0 := z0) (q := q) (t := t) (rest := rest) (by omega) (by omega) h6
      have e5 := ih (kidsOf (q, t) ++ rest) n (by rw [load_app]; omega) (by omega) (fun r hr => (List.mem_append.mp hr).elim (fun z => Nat.le_trans (kid_dep z) h5) fun z => h4 r (List.mem_cons_of_mem _ z))
      rw [show m + 1 + 1 + n = (m + 1 + n) + 1 by omega]
      unfold genL
      rw [e1]
      dsimp only
      rw [e2]
      dsimp only
      rw [e3]
      dsimp only
      rw [if_pos rowW_frz, e4]
      dsimp only
      rw [show PV.wipe [z0, some (W.lst true ((kidsOf (q, t) ++ rest).reverse.map rowW)), some (W.tup (q.map W.int)), some t.w, none] [2, 3, 4] = [z0, some (W.lst true ((kidsOf (q, t) ++ rest).reverse.map rowW)), none, none, none] from rfl, e5]
      have := pth_kids (r := (q, t))
      dsimp only at this
      rw [List.flatMap_cons, this]
      simp
/-- walk(root) hands out the items with their paths -/
theorem walk_ok {iw : Nat} (hg : P.gs.lookup iw = some (walkGn ip)) (hp : P.fns[ip]? = some ispFn) {t : Itm} (hc : t.cnt ≤ 1000000) (hd : t.dep ≤ 100000) : genOf P (callF P (k + 1)) iw [t.w] = some ((t.pth []).map rowW) := by
  obtain ⟨n, hn⟩ := fuel_big (m := t.cnt) (by omega)
  have e := walk_gen (P := P) (k := k) hp (z0 := some t.w) t.cnt [([], t)] n (by simp [load]) hc (fun r hr => by rw [List.mem_singleton.mp hr]; simpa using hd)
  rw [← hn] at e
  unfold genOf
  rw [hg]
  unfold genF
  have e0 : exec P.xs (wcl P (k + 1)) (walkGn ip).p (start (walkGn ip).n [t.w]) = some (.ok (.nx [some t.w, some (.lst true [rowW ([], t)]), none, none, none])) := by
    simp [walkGn, exec, ev, evT, evs, evPs, evo, evC, evI, pk_var, pk_mov, pk_cst, pk_fnv, pk_bin, pk_cmp, pk_ch2, pk_neg, pk_not, pk_and, pk_or, pk_ife, pk_tup, pk_lst, pk_ix, pk_sl, pk_call, pk_blt, pk_mut, pk_meth, pk_isin, pk_isx, pk_xfld, M.bind, M.pure, M.opt, M.fail, M.get, M.gets, PV.P.get, onE, okSet, doCall, doMut, mutW, lend, back, binOp, addW, subW, mulW, fdivW, modW, powW, cmpOp, eqW, gtW, ltW, leW, geW, isNonW, W.isNon, bifn, lenW, absW, intW, max2W, min2W, tupleW, listW, allI, datOk, W.depth, W.depths, W.dat, W.dats, W.frz, W.frzs, W.fz, W.fzs, D.w, D.ws, pyEq, pyEqs, getIx, setIx, ixn, augOp, tyAny, tyB, truth, meth, recv, recvL, recvS, start, take, setAll, mulOk, ibeq, SZv, log2_nat, fixed, rng_two, rng_one, rng_three, rng_four, rng_five, rng_six, wipe, outsFrom, fin, mkExc, frzs_strs, frzs_ints, fzs_strs, fzs_ints, seqWalk, rowW]
  dsimp only
  rw [if_pos (show [t.w].length = (walkGn ip).ps from rfl), show fixed (walkGn ip).ps [] = [0] from rfl, e0]
  dsimp only
  rw [show some ((t.pth []).map rowW) = some (([([], t)].flatMap fun r : List Int × Itm => r.2.pth r.1).map rowW) by simp]
  exact e
end
end PV

/-! V12: the bounds of a document: within_bounds, and the law's own sizes. -/
namespace PV
structure Iy extends Ix where
  full_count : Nat
  full_depth : Nat
  full_prose : Nat
  full_refs : Nat
  full_row : Nat
  leaf : Nat
  lt : Nat
  sizes : Nat
  wrapped : Nat
/-- one row of the walk within the bounds -/
def wbF (a : Nat × Nat × Nat) (r : List Int × Itm) : Unit ⊕ (Nat × Nat × Nat) := match r.2 with
  | .txt s => .inr (a.1 + 1, a.2.1 + s.length, a.2.2)
  | .prt _ _ is => if 12 < is.length ∨ 6 ≤ r.1.length then .inl () else .inr (a.1 + 1, a.2.1, a.2.2)
  | .ref _ => .inr (a.1 + 1, a.2.1, a.2.2 + 1)
  | .lab _ => .inr (a.1 + 1, a.2.1, a.2.2)
/-- the row lets it be -/
def fits (n : Nat) (t : Itm) : Prop := t.wid ≤ 12 ∧ (t.dep = 0 ∨ n + t.dep ≤ 6)
def fitss (n : Nat) (ts : List Itm) : Prop := Itm.wids ts ≤ 12 ∧ (Itm.deps ts = 0 ∨ n + Itm.deps ts ≤ 6)
theorem foldE_app {α β ε : Type} {f : α → β → ε ⊕ α} : ∀ {l m : List β} {a : α}, foldE f (l ++ m) a = match foldE f l a with
    | .inl e => .inl e
    | .inr b => foldE f m b
  | [], m, a => rfl
  | x :: l, m, a => by
    have ih := fun b => foldE_app (f := f) (l := l) (m := m) (a := b)
    rw [List.cons_append]
    rw [show foldE f (x :: (l ++ m)) a = (match f a x with | .inl o => .inl o | .inr a' => foldE f (l ++ m) a') from rfl, show foldE f (x :: l) a = (match f a x with | .inl o => .inl o | .inr a' => foldE f l a') from rfl]
    cases f a x with
    | inl e => rfl
    | inr b => exact ih b
mutual
theorem wb_fold : ∀ (t : Itm) (q : List Int) (a : Nat × Nat × Nat), (fits q.length t → foldE wbF (t.pth q) a = .inr (a.1 + t.cnt, a.2.1 + t.chr, a.2.2 + t.rf)) ∧ (¬ fits q.length t → foldE wbF (t.pth q) a = .inl ())
  | .txt s, q, a => ⟨fun _ => rfl, fun h => absurd ⟨Nat.zero_le _, .inl rfl⟩ h⟩
  | .ref s, q, a => ⟨fun _ => rfl, fun h => absurd ⟨Nat.zero_le _, .inl rfl⟩ h⟩
  | .lab s, q, a => ⟨fun _ => rfl, fun h => absurd ⟨Nat.zero_le _, .inl rfl⟩ h⟩
  | .prt k ms is, q, a => by
    have ih := wb_folds is q 0 (a.1 + 1, a.2.1, a.2.2)
    have e1 : (Itm.prt k ms is).wid = max is.length (Itm.wids is) := rfl
    have e2 : (Itm.prt k ms is).dep = 1 + Itm.deps is := rfl
    by_cases h : 12 < is.length ∨ 6 ≤ q.length
    · have ef : foldE wbF ((Itm.prt k ms is).pth q) a = .inl () := by
        rw [Itm.pth]
        unfold foldE wbF
        dsimp only
        rw [if_pos h]
      refine ⟨fun hf => ?_, fun _ => ef⟩
      obtain ⟨f1, f2⟩ := hf
      omega
    · have ef : foldE wbF ((Itm.prt k ms is).pth q) a = foldE wbF (Itm.pths q 0 is) (a.1 + 1, a.2.1, a.2.2) := by
        rw [Itm.pth]
        conv => lhs; unfold foldE wbF
        dsimp only
        rw [if_neg h]
        rfl
      rw [ef]
      have eq : fits q.length (.prt k ms is) ↔ fitss (q.length + 1) is := by
        unfold fits fitss
        rw [e1, e2]
        omega
      refine ⟨fun hf => ?_, fun hf => ih.2 fun z => hf (eq.mpr z)⟩
      rw [ih.1 (eq.mp hf)]
      show Sum.inr (a.1 + 1 + Itm.cnts is, a.2.1 + Itm.chrs is, a.2.2 + Itm.rfs is) = Sum.inr (a.1 + (1 + Itm.cnts is), a.2.1 + Itm.chrs is, a.2.2 + Itm.rfs is)
      rw [Nat.add_assoc]
theorem wb_folds : ∀ (ts : List Itm) (q : List Int) (i : Nat) (a : Nat × Nat × Nat), (fitss (q.length + 1) ts → foldE wbF (Itm.pths q i ts) a = .inr (a.1 + Itm.cnts ts, a.2.1 + Itm.chrs ts, a.2.2 + Itm.rfs ts)) ∧ (¬ fitss (q.length + 1) ts → foldE wbF (Itm.pths q i ts) a = .inl ())
  | [], q, i, a => ⟨fun _ => rfl, fun h => absurd ⟨Nat.zero_le _, .inl rfl⟩ h⟩
  | t :: ts, q, i, a => by
    have h1 := wb_fold t (q ++ [(i : Int)]) a
    rw [List.length_append, List.length_singleton] at h1
    have h2 := wb_folds ts q (i + 1) (a.1 + t.cnt, a.2.1 + t.chr, a.2.2 + t.rf)
    have e1 : Itm.wids (t :: ts) = max t.wid (Itm.wids ts) := rfl
    have e2 : Itm.deps (t :: ts) = max t.dep (Itm.deps ts) := rfl
    have eq : fitss (q.length + 1) (t :: ts) ↔ fits (q.length + 1) t ∧ fitss (q.length + 1) ts := by
      unfold fits fitss
      rw [e1, e2]
      omega
    rw [Itm.pths, foldE_app]
    refine ⟨fun hf => ?_, fun hf => ?_⟩
    · obtain ⟨f1, f2⟩ := eq.mp hf
      rw [h1.1 f1]
      dsimp only
      rw [h2.1 f2]
      simp [Itm.cnts, Itm.chrs, Itm.rfs, Nat.add_assoc]
    · by_cases f1 : fits (q.length + 1) t
      · rw [h1.1 f1]
        exact h2.2 fun f2 => hf (eq.mpr ⟨f1, f2⟩)
      · rw [h1.2 f1]
end
mutual
theorem pth_good : ∀ (t : Itm) (q : List Int), t.good → ∀ r ∈ t.pth q, r.2.good
  | .txt s, q, h, r, hr => by simp [Itm.pth] at hr; rw [hr]; exact h
  | .ref s, q, h, r, hr => by simp [Itm.pth] at hr; rw [hr]; exact h
  | .lab s, q, h, r, hr => by simp [Itm.pth] at hr; rw [hr]; exact h
  | .prt k ms is, q, h, r, hr => by
    rw [Itm.pth] at hr
    rcases List.mem_cons.mp hr with rfl | hr
    · exact h
    · exact pths_good is q 0 h.2.2 r hr
theorem pths_good : ∀ (ts : List Itm) (q : List Int) (i : Nat), Itm.goods ts → ∀ r ∈ Itm.pths q i ts, r.2.good
  | [], q, i, h, r, hr => by cases hr
  | t :: ts, q, i, h, r, hr => by
    rw [Itm.pths] at hr
    rcases List.mem_append.mp hr with hr | hr
    · exact pth_good t _ h.1 r hr
    · exact pths_good ts q (i + 1) h.2 r hr
end
def wb (t : Itm) : Prop := fits 0 t ∧ t.cnt ≤ 60 ∧ t.chr ≤ 400 ∧ t.rf ≤ 3
instance (t : Itm) : Decidable (wb t) := by unfold wb fits; exact inferInstance
def within_0 (ip : Nat) : S := 
  (.seq (.aug 1 .add (.cst (.int 1)))
  (.ife (.isin (.var 5) [.str])
    (.aug 2 .add (.blt .len (.cons (.var 5) .nil)))
    (.ife (.call ip (.cons (.var 5) .nil))
      (.ife (.or (.cmp .gt (.blt .len (.cons (.ix (.var 5) (.cst (.int 2))) .nil)) (.cst (.int 12))) (.cmp .ge (.blt .len (.cons (.var 4) .nil)) (.cst (.int 6))))
        (.ret (.some (.cst (.bl false))))
        .skip)
      (.ife (.cmp .eq (.ix (.var 5) (.cst (.int 0))) (.cst (.str ['@'])))
        (.aug 3 .add (.cst (.int 1)))
        .skip))))
def within_1 (ip iw : Nat) : S := (.forG (.tup [4, 5]) iw (.cons (.var 0) .nil) (within_0 ip) [4, 5])
def withinFn (ip iw : Nat) : Fn := ⟨6, 1, [],
  (.seq (.set 1 (.cst (.int 0)))
  (.seq (.set 2 (.cst (.int 0)))
  (.seq (.set 3 (.cst (.int 0)))
  (.seq (within_1 ip iw)
  (.ret (.some (.and (.cmp .le (.var 1) (.cst (.int 60))) (.and (.cmp .le (.var 2) (.cst (.int 400))) (.cmp .le (.var 3) (.cst (.int 3)))))))))))⟩
def sizes_0 (x : Iy) : E := (.bin .add (.ix (.var 2) (.var 7)) (.ix (.var 4) (.var 7)))
def sizes_1 (x : Iy) : E := (.comp (sizes_0 x) (.name 7) (.rng1 (.cst (.int 5))) .none [6, 7])
def sizes_2 (x : Iy) : S := 
  (.seq (.set 4 (.call x.sizes (.cons (.var 3) (.cons (.bin .add (.var 1) (.cst (.int 1))) .nil))))
  (.seq (.set 5 (sizes_1 x))
  (.seq (.setI 5 (.cst (.int 2)) (.blt .max2 (.cons (.blt .int (.cons (.ix (.var 2) (.cst (.int 2))) .nil)) (.cons (.ix (.var 4) (.cst (.int 2))) .nil))))
  (.seq (.setI 5 (.cst (.int 4)) (.blt .max2 (.cons (.blt .int (.cons (.ix (.var 2) (.cst (.int 4))) .nil)) (.cons (.ix (.var 4) (.cst (.int 4))) .nil))))
  (.set 2 (.var 5))))))
def sizes_3 (x : Iy) : S := (.for (.name 3) (.seq (.ix (.var 0) (.cst (.int 2)))) (sizes_2 x) [3, 4, 5, 6])
def sizesFn (x : Iy) : Fn := ⟨8, 2, [],
  (.seq (.ife (.isin (.var 0) [.str])
    (.ret (.some (.lst (.cons (.cst (.int 1)) (.cons (.blt .len (.cons (.var 0) .nil)) (.cons (.bin .sub (.var 1) (.cst (.int 1))) (.cons (.cst (.int 0)) (.cons (.cst (.int 0)) .nil))))))))
    .skip)
  (.seq (.ife (.cmp .eq (.blt .len (.cons (.var 0) .nil)) (.cst (.int 2)))
    (.ret (.some (.lst (.cons (.cst (.int 1)) (.cons (.cst (.int 0)) (.cons (.bin .sub (.var 1) (.cst (.int 1))) (.cons (.blt .int (.cons (.cmp .eq (.ix (.var 0) (.cst (.int 0))) (.cst (.str ['@']))) .nil)) (.cons (.cst (.int 0)) .nil))))))))
    .skip)
  (.seq (.set 2 (.lst (.cons (.cst (.int 1)) (.cons (.cst (.int 0)) (.cons (.var 1) (.cons (.cst (.int 0)) (.cons (.blt .len (.cons (.ix (.var 0) (.cst (.int 2))) .nil)) .nil)))))))
  (.seq (sizes_3 x)
  (.ret (.some (.mov 2)))))))⟩
def lt_0 (x : Iy) : E := (.var 4)
def lt_1 (x : Iy) : Eo := (.some (.cmp .gt (.ix (.var 1) (.var 4)) (.ix (.var 2) (.var 4))))
def lt_2 (x : Iy) : E := (.comp (lt_0 x) (.name 4) (.rng1 (.cst (.int 5))) (lt_1 x) [3, 4])
def lt_Fn (x : Iy) : Fn := ⟨5, 1, [],
  (.seq (.set 1 (.call x.sizes (.cons (.var 0) (.cons (.cst (.int 1)) .nil))))
  (.seq (.set 2 (.lst (.cons (.cst (.int 60)) (.cons (.cst (.int 400)) (.cons (.cst (.int 6)) (.cons (.cst (.int 3)) (.cons (.cst (.int 12)) .nil)))))))
  (.ret (.some (.cmp .eq (.blt .len (.cons (lt_2 x) .nil)) (.cst (.int 0)))))))⟩
section
variable {P : Prog} {k ip iw ib : Nat} {x : Iy}
theorem within_ok {t : Itm} (hwk : P.gs.lookup iw = some (walkGn ip)) (hp : P.fns[ip]? = some ispFn) (hf : P.fns[ib]? = some (withinFn ip iw)) (hg : t.good) (hc : t.cnt ≤ 1000000) (hd : t.dep ≤ 1000) : callF P (k + 2) ib [t.w] = some (.ok (.bl (decide (wb t))) [t.w]) := by
  have hw := walk_ok (P := P) (k := k) (iw := iw) (ip := ip) hwk hp hc (by omega)
  obtain ⟨o, e, h⟩ := for_foldE (fx := [0]) (tg := .tup [4, 5]) (wp := [4, 5]) (b := fun σ => exec P.xs (cl P (k + 1) [0]) (within_0 ip) σ) (fun r => .one (rowW r)) (fun a : Nat × Nat × Nat => [some t.w, some (.int a.1), some (.int a.2.1), some (.int a.2.2), none, none])
    wbF (fun _ o => ∃ z1 z2 z3 z4 z5, o = .ok (.rt (.bl false) [some t.w, z1, z2, z3, z4, z5])) (fun _ => True) (t.pth []) (0, 0, 0)
    (fun a r hr _ => by
      obtain ⟨a1, a2, a3⟩ := a
      obtain ⟨q, u⟩ := r
      refine ⟨[some t.w, some (.int a1), some (.int a2), some (.int a3), some (.tup (q.map W.int)), some u.w], by simp [PV.take, rowW, setAll], ?_⟩
      have ei := isp_ok (P := P) (k := k) (ip := ip) hp (t := u)
      cases u with
      | txt s =>
        have hs : s.length ≤ 16777216 := by
          have := (pth_good t [] hg _ hr).2.1
          omega
        refine ⟨trivial, [some t.w, some (.int ((a1 + 1 : Nat) : Int)), some (.int ((a2 + s.length : Nat) : Int)), some (.int a3), some (.tup (q.map W.int)), some (Itm.txt s).w], .inl ?_, rfl⟩
        simp [within_0, exec, ev, evT, evs, evPs, evo, evC, evI, pk_var, pk_mov, pk_cst, pk_fnv, pk_bin, pk_cmp, pk_ch2, pk_neg, pk_not, pk_and, pk_or, pk_ife, pk_tup, pk_lst, pk_ix, pk_sl, pk_call, pk_blt, pk_mut, pk_meth, pk_isin, pk_isx, pk_xfld, M.bind, M.pure, M.opt, M.fail, M.get, M.gets, PV.P.get, onE, okSet, doCall, doMut, mutW, lend, back, binOp, addW, subW, mulW, fdivW, modW, powW, cmpOp, eqW, gtW, ltW, leW, geW, isNonW, W.isNon, bifn, lenW, absW, intW, max2W, min2W, tupleW, listW, allI, datOk, W.depth, W.depths, W.dat, W.dats, W.frz, W.frzs, W.fz, W.fzs, D.w, D.ws, pyEq, pyEqs, getIx, setIx, ixn, augOp, tyAny, tyB, truth, meth, recv, recvL, recvS, start, take, setAll, mulOk, ibeq, SZv, log2_nat, fixed, rng_two, rng_one, rng_three, rng_four, rng_five, rng_six, wipe, outsFrom, fin, mkExc, frzs_strs, frzs_ints, fzs_strs, fzs_ints, seqWalk, Itm.w, hs]
      | ref s =>
        refine ⟨trivial, [some t.w, some (.int ((a1 + 1 : Nat) : Int)), some (.int a2), some (.int ((a3 + 1 : Nat) : Int)), some (.tup (q.map W.int)), some (Itm.ref s).w], .inl ?_, rfl⟩
        simp only [Itm.isP, Itm.w] at ei
        simp [within_0, exec, ev, evT, evs, evPs, evo, evC, evI, pk_var, pk_mov, pk_cst, pk_fnv, pk_bin, pk_cmp, pk_ch2, pk_neg, pk_not, pk_and, pk_or, pk_ife, pk_tup, pk_lst, pk_ix, pk_sl, pk_call, pk_blt, pk_mut, pk_meth, pk_isin, pk_isx, pk_xfld, M.bind, M.pure, M.opt, M.fail, M.get, M.gets, PV.P.get, onE, okSet, doCall, doMut, mutW, lend, back, binOp, addW, subW, mulW, fdivW, modW, powW, cmpOp, eqW, gtW, ltW, leW, geW, isNonW, W.isNon, bifn, lenW, absW, intW, max2W, min2W, tupleW, listW, allI, datOk, W.depth, W.depths, W.dat, W.dats, W.frz, W.frzs, W.fz, W.fzs, D.w, D.ws, pyEq, pyEqs, getIx, setIx, ixn, augOp, tyAny, tyB, truth, meth, recv, recvL, recvS, start, take, setAll, mulOk, ibeq, SZv, log2_nat, fixed, rng_two, rng_one, rng_three, rng_four, rng_five, rng_six, wipe, outsFrom, fin, mkExc, frzs_strs, frzs_ints, fzs_strs, fzs_ints, seqWalk, Itm.w, ei]
      | lab s =>
        refine ⟨trivial, [some t.w, some (.int ((a1 + 1 : Nat) : Int)), some (.int a2), some (.int a3), some (.tup (q.map W.int)), some (Itm.lab s).w], .inl ?_, rfl⟩
        simp only [Itm.isP, Itm.w] at ei
        simp [within_0, exec, ev, evT, evs, evPs, evo, evC, evI, pk_var, pk_mov, pk_cst, pk_fnv, pk_bin, pk_cmp, pk_ch2, pk_neg, pk_not, pk_and, pk_or, pk_ife, pk_tup, pk_lst, pk_ix, pk_sl, pk_call, pk_blt, pk_mut, pk_meth, pk_isin, pk_isx, pk_xfld, M.bind, M.pure, M.opt, M.fail, M.get, M.gets, PV.P.get, onE, okSet, doCall, doMut, mutW, lend, back, binOp, addW, subW, mulW, fdivW, modW, powW, cmpOp, eqW, gtW, ltW, leW, geW, isNonW, W.isNon, bifn, lenW, absW, intW, max2W, min2W, tupleW, listW, allI, datOk, W.depth, W.depths, W.dat, W.dats, W.frz, W.frzs, W.fz, W.fzs, D.w, D.ws, pyEq, pyEqs, getIx, setIx, ixn, augOp, tyAny, tyB, truth, meth, recv, recvL, recvS, start, take, setAll, mulOk, ibeq, SZv, log2_nat, fixed, rng_two, rng_one, rng_three, rng_four, rng_five, rng_six, wipe, outsFrom, fin, mkExc, frzs_strs, frzs_ints, fzs_strs, fzs_ints, seqWalk, Itm.w, ei]
      | prt kd ms is =>
        simp only [Itm.isP, Itm.w] at ei
        unfold wbF
        dsimp only
        by_cases h1 : 12 < is.length
        · rw [if_pos (.inl h1)]
          have h1' : (12 : Int) < is.length := by omega
          exact .inl ⟨.bl false, [some t.w, some (.int ((a1 : Int) + 1)), some (.int a2), some (.int a3), some (.tup (q.map W.int)), some (Itm.prt kd ms is).w], by simp [within_0, exec, ev, evT, evs, evPs, evo, evC, evI, pk_var, pk_mov, pk_cst, pk_fnv, pk_bin, pk_cmp, pk_ch2, pk_neg, pk_not, pk_and, pk_or, pk_ife, pk_tup, pk_lst, pk_ix, pk_sl, pk_call, pk_blt, pk_mut, pk_meth, pk_isin, pk_isx, pk_xfld, M.bind, M.pure, M.opt, M.fail, M.get, M.gets, PV.P.get, onE, okSet, doCall, doMut, mutW, lend, back, binOp, addW, subW, mulW, fdivW, modW, powW, cmpOp, eqW, gtW, ltW, leW, geW, isNonW, W.isNon, bifn, lenW, absW, intW, max2W, min2W, tupleW, listW, allI, datOk, W.depth, W.depths, W.dat, W.dats, W.frz, W.frzs, W.fz, W.fzs, D.w, D.ws, pyEq, pyEqs, getIx, setIx, ixn, augOp, tyAny, tyB, truth, meth, recv, recvL, recvS, start, take, setAll, mulOk, ibeq, SZv, log2_nat, fixed, rng_two, rng_one, rng_three, rng_four, rng_five, rng_six, wipe, outsFrom, fin, mkExc, frzs_strs, frzs_ints, fzs_strs, fzs_ints, seqWalk, Itm.w, ei, ws_len, h1'], _, _, _, _, _, rfl⟩
        · have h1' : ¬ (12 : Int) < is.length := by omega
          by_cases h2 : 6 ≤ q.length
          · rw [if_pos (.inr h2)]
            have h2' : (6 : Int) ≤ q.length := by omega
            exact .inl ⟨.bl false, [some t.w, some (.int ((a1 : Int) + 1)), some (.int a2), some (.int a3), some (.tup (q.map W.int)), some (Itm.prt kd ms is).w], by simp [within_0, exec, ev, evT, evs, evPs, evo, evC, evI, pk_var, pk_mov, pk_cst, pk_fnv, pk_bin, pk_cmp, pk_ch2, pk_neg, pk_not, pk_and, pk_or, pk_ife, pk_tup, pk_lst, pk_ix, pk_sl, pk_call, pk_blt, pk_mut, pk_meth, pk_isin, pk_isx, pk_xfld, M.bind, M.pure, M.opt, M.fail, M.get, M.gets, PV.P.get, onE, okSet, doCall, doMut, mutW, lend, back, binOp, addW, subW, mulW, fdivW, modW, powW, cmpOp, eqW, gtW, ltW, leW, geW, isNonW, W.isNon, bifn, lenW, absW, intW, max2W, min2W, tupleW, listW, allI, datOk, W.depth, W.depths, W.dat, W.dats, W.frz, W.frzs, W.fz, W.fzs, D.w, D.ws, pyEq, pyEqs, getIx, setIx, ixn, augOp, tyAny, tyB, truth, meth, recv, recvL, recvS, start, take, setAll, mulOk, ibeq, SZv, log2_nat, fixed, rng_two, rng_one, rng_three, rng_four, rng_five, rng_six, wipe, outsFrom, fin, mkExc, frzs_strs, frzs_ints, fzs_strs, fzs_ints, seqWalk, Itm.w, ei, ws_len, h1', h2'], _, _, _, _, _, rfl⟩
          · rw [if_neg (by omega)]
            have h2' : ¬ (6 : Int) ≤ q.length := by omega
            refine ⟨trivial, [some t.w, some (.int ((a1 + 1 : Nat) : Int)), some (.int a2), some (.int a3), some (.tup (q.map W.int)), some (Itm.prt kd ms is).w], .inl ?_, rfl⟩
            simp [within_0, exec, ev, evT, evs, evPs, evo, evC, evI, pk_var, pk_mov, pk_cst, pk_fnv, pk_bin, pk_cmp, pk_ch2, pk_neg, pk_not, pk_and, pk_or, pk_ife, pk_tup, pk_lst, pk_ix, pk_sl, pk_call, pk_blt, pk_mut, pk_meth, pk_isin, pk_isx, pk_xfld, M.bind, M.pure, M.opt, M.fail, M.get, M.gets, PV.P.get, onE, okSet, doCall, doMut, mutW, lend, back, binOp, addW, subW, mulW, fdivW, modW, powW, cmpOp, eqW, gtW, ltW, leW, geW, isNonW, W.isNon, bifn, lenW, absW, intW, max2W, min2W, tupleW, listW, allI, datOk, W.depth, W.depths, W.dat, W.dats, W.frz, W.frzs, W.fz, W.fzs, D.w, D.ws, pyEq, pyEqs, getIx, setIx, ixn, augOp, tyAny, tyB, truth, meth, recv, recvL, recvS, start, take, setAll, mulOk, ibeq, SZv, log2_nat, fixed, rng_two, rng_one, rng_three, rng_four, rng_five, rng_six, wipe, outsFrom, fin, mkExc, frzs_strs, frzs_ints, fzs_strs, fzs_ints, seqWalk, Itm.w, ei, ws_len, h1', h2']) trivial
  have ef : exec P.xs (cl P (k + 1) [0]) (within_1 ip iw) [some t.w, some (.int 0), some (.int 0), some (.int 0), none, none] = some o := by
    refine forG_of (σ1 := [some t.w, some (.int 0), some (.int 0), some (.int 0), none, none]) (ws := [t.w]) (xs := (t.pth []).map rowW) (by simp [exec, ev, evT, evs, evPs, evo, evC, evI, pk_var, pk_mov, pk_cst, pk_fnv, pk_bin, pk_cmp, pk_ch2, pk_neg, pk_not, pk_and, pk_or, pk_ife, pk_tup, pk_lst, pk_ix, pk_sl, pk_call, pk_blt, pk_mut, pk_meth, pk_isin, pk_isx, pk_xfld, M.bind, M.pure, M.opt, M.fail, M.get, M.gets, PV.P.get, onE, okSet, doCall, doMut, mutW, lend, back, binOp, addW, subW, mulW, fdivW, modW, powW, cmpOp, eqW, gtW, ltW, leW, geW, isNonW, W.isNon, bifn, lenW, absW, intW, max2W, min2W, tupleW, listW, allI, datOk, W.depth, W.depths, W.dat, W.dats, W.frz, W.frzs, W.fz, W.fzs, D.w, D.ws, pyEq, pyEqs, getIx, setIx, ixn, augOp, tyAny, tyB, truth, meth, recv, recvL, recvS, start, take, setAll, mulOk, ibeq, SZv, log2_nat, fixed, rng_two, rng_one, rng_three, rng_four, rng_five, rng_six, wipe, outsFrom, fin, mkExc, frzs_strs, frzs_ints, fzs_strs, fzs_ints, seqWalk]) (by simp [W.frzs]) hw ?_
    rw [List.map_map]
    exact e
  have hwb := wb_fold t [] (0, 0, 0)
  rw [List.length_nil] at hwb
  rw [call_eq hf rfl]
  by_cases hfit : fits 0 t
  · rw [hwb.1 hfit] at h
    obtain ⟨rfl, _⟩ := h
    have e1 : ((0 + t.cnt : Nat) : Int) ≤ 60 ↔ t.cnt ≤ 60 := by omega
    simp at ef
    simp only [wb, hfit, true_and]
    by_cases c1 : t.cnt ≤ 60
    · have c1' : (t.cnt : Int) ≤ 60 := by omega
      by_cases c2 : t.chr ≤ 400
      · have c2' : (t.chr : Int) ≤ 400 := by omega
        by_cases c3 : t.rf ≤ 3
        · have c3' : (t.rf : Int) ≤ 3 := by omega
          simp [withinFn, exec, ev, evT, evs, evPs, evo, evC, evI, pk_var, pk_mov, pk_cst, pk_fnv, pk_bin, pk_cmp, pk_ch2, pk_neg, pk_not, pk_and, pk_or, pk_ife, pk_tup, pk_lst, pk_ix, pk_sl, pk_call, pk_blt, pk_mut, pk_meth, pk_isin, pk_isx, pk_xfld, M.bind, M.pure, M.opt, M.fail, M.get, M.gets, PV.P.get, onE, okSet, doCall, doMut, mutW, lend, back, binOp, addW, subW, mulW, fdivW, modW, powW, cmpOp, eqW, gtW, ltW, leW, geW, isNonW, W.isNon, bifn, lenW, absW, intW, max2W, min2W, tupleW, listW, allI, datOk, W.depth, W.depths, W.dat, W.dats, W.frz, W.frzs, W.fz, W.fzs, D.w, D.ws, pyEq, pyEqs, getIx, setIx, ixn, augOp, tyAny, tyB, truth, meth, recv, recvL, recvS, start, take, setAll, mulOk, ibeq, SZv, log2_nat, fixed, rng_two, rng_one, rng_three, rng_four, rng_five, rng_six, wipe, outsFrom, fin, mkExc, frzs_strs, frzs_ints, fzs_strs, fzs_ints, seqWalk, ef, c1, c2, c3, c1', c2', c3']
        · have c3' : ¬ (t.rf : Int) ≤ 3 := by omega
          simp [withinFn, exec, ev, evT, evs, evPs, evo, evC, evI, pk_var, pk_mov, pk_cst, pk_fnv, pk_bin, pk_cmp, pk_ch2, pk_neg, pk_not, pk_and, pk_or, pk_ife, pk_tup, pk_lst, pk_ix, pk_sl, pk_call, pk_blt, pk_mut, pk_meth, pk_isin, pk_isx, pk_xfld, M.bind, M.pure, M.opt, M.fail, M.get, M.gets, PV.P.get, onE, okSet, doCall, doMut, mutW, lend, back, binOp, addW, subW, mulW, fdivW, modW, powW, cmpOp, eqW, gtW, ltW, leW, geW, isNonW, W.isNon, bifn, lenW, absW, intW, max2W, min2W, tupleW, listW, allI, datOk, W.depth, W.depths, W.dat, W.dats, W.frz, W.frzs, W.fz, W.fzs, D.w, D.ws, pyEq, pyEqs, getIx, setIx, ixn, augOp, tyAny, tyB, truth, meth, recv, recvL, recvS, start, take, setAll, mulOk, ibeq, SZv, log2_nat, fixed, rng_two, rng_one, rng_three, rng_four, rng_five, rng_six, wipe, outsFrom, fin, mkExc, frzs_strs, frzs_ints, fzs_strs, fzs_ints, seqWalk, ef, c1, c2, c3, c1', c2', c3']
      · have c2' : ¬ (t.chr : Int) ≤ 400 := by omega
        simp [withinFn, exec, ev, evT, evs, evPs, evo, evC, evI, pk_var, pk_mov, pk_cst, pk_fnv, pk_bin, pk_cmp, pk_ch2, pk_neg, pk_not, pk_and, pk_or, pk_ife, pk_tup, pk_lst, pk_ix, pk_sl, pk_call, pk_blt, pk_mut, pk_meth, pk_isin, pk_isx, pk_xfld, M.bind, M.pure, M.opt, M.fail, M.get, M.gets, PV.P.get, onE, okSet, doCall, doMut, mutW, lend, back, binOp, addW, subW, mulW, fdivW, modW, powW, cmpOp, eqW, gtW, ltW, leW, geW, isNonW, W.isNon, bifn, lenW, absW, intW, max2W, min2W, tupleW, listW, allI, datOk, W.depth, W.depths, W.dat, W.dats, W.frz, W.frzs, W.fz, W.fzs, D.w, D.ws, pyEq, pyEqs, getIx, setIx, ixn, augOp, tyAny, tyB, truth, meth, recv, recvL, recvS, start, take, setAll, mulOk, ibeq, SZv, log2_nat, fixed, rng_two, rng_one, rng_three, rng_four, rng_five, rng_six, wipe, outsFrom, fin, mkExc, frzs_strs, frzs_ints, fzs_strs, fzs_ints, seqWalk, ef, c1, c2, c1', c2']
    · have c1' : ¬ (t.cnt : Int) ≤ 60 := by omega
      simp [withinFn, exec, ev, evT, evs, evPs, evo, evC, evI, pk_var, pk_mov, pk_cst, pk_fnv, pk_bin, pk_cmp, pk_ch2, pk_neg, pk_not, pk_and, pk_or, pk_ife, pk_tup, pk_lst, pk_ix, pk_sl, pk_call, pk_blt, pk_mut, pk_meth, pk_isin, pk_isx, pk_xfld, M.bind, M.pure, M.opt, M.fail, M.get, M.gets, PV.P.get, onE, okSet, doCall, doMut, mutW, lend, back, binOp, addW, subW, mulW, fdivW, modW, powW, cmpOp, eqW, gtW, ltW, leW, geW, isNonW, W.isNon, bifn, lenW, absW, intW, max2W, min2W, tupleW, listW, allI, datOk, W.depth, W.depths, W.dat, W.dats, W.frz, W.frzs, W.fz, W.fzs, D.w, D.ws, pyEq, pyEqs, getIx, setIx, ixn, augOp, tyAny, tyB, truth, meth, recv, recvL, recvS, start, take, setAll, mulOk, ibeq, SZv, log2_nat, fixed, rng_two, rng_one, rng_three, rng_four, rng_five, rng_six, wipe, outsFrom, fin, mkExc, frzs_strs, frzs_ints, fzs_strs, fzs_ints, seqWalk, ef, c1, c1']
  · rw [hwb.2 hfit] at h
    obtain ⟨z1, z2, z3, z4, z5, rfl⟩ := h
    have : ¬ wb t := fun z => hfit z.1
    simp [withinFn, exec, ev, evT, evs, evPs, evo, evC, evI, pk_var, pk_mov, pk_cst, pk_fnv, pk_bin, pk_cmp, pk_ch2, pk_neg, pk_not, pk_and, pk_or, pk_ife, pk_tup, pk_lst, pk_ix, pk_sl, pk_call, pk_blt, pk_mut, pk_meth, pk_isin, pk_isx, pk_xfld, M.bind, M.pure, M.opt, M.fail, M.get, M.gets, PV.P.get, onE, okSet, doCall, doMut, mutW, lend, back, binOp, addW, subW, mulW, fdivW, modW, powW, cmpOp, eqW, gtW, ltW, leW, geW, isNonW, W.isNon, bifn, lenW, absW, intW, max2W, min2W, tupleW, listW, allI, datOk, W.depth, W.depths, W.dat, W.dats, W.frz, W.frzs, W.fz, W.fzs, D.w, D.ws, pyEq, pyEqs, getIx, setIx, ixn, augOp, tyAny, tyB, truth, meth, recv, recvL, recvS, start, take, setAll, mulOk, ibeq, SZv, log2_nat, fixed, rng_two, rng_one, rng_three, rng_four, rng_five, rng_six, wipe, outsFrom, fin, mkExc, frzs_strs, frzs_ints, fzs_strs, fzs_ints, seqWalk, ef, this]
theorem rng5 : rngWalk 0 5 = some [.one (.int 0), .one (.int 1), .one (.int 2), .one (.int 3), .one (.int 4)] := by
  rw [rng0 (by omega) (by omega)]
  rfl
theorem sum5 {f : Nat → List W → Option CR} {gg : Nat → List W → Option (List W)} {z0 z1 z3 z5 : Option W} {o1 o2 : Bool} {a b c d e a' b' c' d' e' : Int} :
    ev ⟨f, none, [0, 1], gg⟩ (sizes_1 x) [z0, z1, some (.lst o1 [.int a, .int b, .int c, .int d, .int e]), z3, some (.lst o2 [.int a', .int b', .int c', .int d', .int e']), z5, none, none] =
      some (.ok (.lst true [.int (a + a'), .int (b + b'), .int (c + c'), .int (d + d'), .int (e + e')]) [z0, z1, some (.lst o1 [.int a, .int b, .int c, .int d, .int e]), z3, some (.lst o2 [.int a', .int b', .int c', .int d', .int e']), z5, none, none]) :=
  comp_of (σ1 := [z0, z1, some (.lst o1 [.int a, .int b, .int c, .int d, .int e]), z3, some (.lst o2 [.int a', .int b', .int c', .int d', .int e']), z5, none, none]) (by simp [exec, ev, evT, evs, evPs, evo, evC, evI, pk_var, pk_mov, pk_cst, pk_fnv, pk_bin, pk_cmp, pk_ch2, pk_neg, pk_not, pk_and, pk_or, pk_ife, pk_tup, pk_lst, pk_ix, pk_sl, pk_call, pk_blt, pk_mut, pk_meth, pk_isin, pk_isx, pk_xfld, M.bind, M.pure, M.opt, M.fail, M.get, M.gets, PV.P.get, onE, okSet, doCall, doMut, mutW, lend, back, binOp, addW, subW, mulW, fdivW, modW, powW, cmpOp, eqW, gtW, ltW, leW, geW, isNonW, W.isNon, bifn, lenW, absW, intW, max2W, min2W, tupleW, listW, allI, datOk, W.depth, W.depths, W.dat, W.dats, W.frz, W.frzs, W.fz, W.fzs, D.w, D.ws, pyEq, pyEqs, getIx, setIx, ixn, augOp, tyAny, tyB, truth, meth, recv, recvL, recvS, start, take, setAll, mulOk, ibeq, SZv, log2_nat, fixed, rng_two, rng_one, rng_three, rng_four, rng_five, rng_six, wipe, outsFrom, fin, mkExc, frzs_strs, frzs_ints, fzs_strs, fzs_ints, seqWalk, rng5]; rfl) (by simp [compL, sizes_0, exec, ev, evT, evs, evPs, evo, evC, evI, pk_var, pk_mov, pk_cst, pk_fnv, pk_bin, pk_cmp, pk_ch2, pk_neg, pk_not, pk_and, pk_or, pk_ife, pk_tup, pk_lst, pk_ix, pk_sl, pk_call, pk_blt, pk_mut, pk_meth, pk_isin, pk_isx, pk_xfld, M.bind, M.pure, M.opt, M.fail, M.get, M.gets, PV.P.get, onE, okSet, doCall, doMut, mutW, lend, back, binOp, addW, subW, mulW, fdivW, modW, powW, cmpOp, eqW, gtW, ltW, leW, geW, isNonW, W.isNon, bifn, lenW, absW, intW, max2W, min2W, tupleW, listW, allI, datOk, W.depth, W.depths, W.dat, W.dats, W.frz, W.frzs, W.fz, W.fzs, D.w, D.ws, pyEq, pyEqs, getIx, setIx, ixn, augOp, tyAny, tyB, truth, meth, recv, recvL, recvS, start, take, setAll, mulOk, ibeq, SZv, log2_nat, fixed, rng_two, rng_one, rng_three, rng_four, rng_five, rng_six, wipe, outsFrom, fin, mkExc, frzs_strs, frzs_ints, fzs_strs, fzs_ints, seqWalk])
def szW (o : Bool) (t : Itm) (d : Int) : W := .lst o [.int t.cnt, .int t.chr, .int (d - 1 + t.dep), .int t.rf, .int t.wid]
theorem sizes_ok (hf : P.fns[x.sizes]? = some (sizesFn x)) : ∀ (n k : Nat) (t : Itm) (d : Int), t.dep ≤ n → t.good → ∃ o, callF P (k + n + 1) x.sizes [t.w, .int d] = some (.ok (szW o t d) [t.w, .int d]) := by
  intro n
  induction n with
  | zero =>
    intro k t d hd hg
    cases t with
    | txt s =>
      have hs : s.length ≤ 16777216 := by have := hg.2.1; omega
      exact ⟨true, by rw [call_eq hf rfl]; simp [sizesFn, exec, ev, evT, evs, evPs, evo, evC, evI, pk_var, pk_mov, pk_cst, pk_fnv, pk_bin, pk_cmp, pk_ch2, pk_neg, pk_not, pk_and, pk_or, pk_ife, pk_tup, pk_lst, pk_ix, pk_sl, pk_call, pk_blt, pk_mut, pk_meth, pk_isin, pk_isx, pk_xfld, M.bind, M.pure, M.opt, M.fail, M.get, M.gets, PV.P.get, onE, okSet, doCall, doMut, mutW, lend, back, binOp, addW, subW, mulW, fdivW, modW, powW, cmpOp, eqW, gtW, ltW, leW, geW, isNonW, W.isNon, bifn, lenW, absW, intW, max2W, min2W, tupleW, listW, allI, datOk, W.depth, W.depths, W.dat, W.dats, W.frz, W.frzs, W.fz, W.fzs, D.w, D.ws, pyEq, pyEqs, getIx, setIx, ixn, augOp, tyAny, tyB, truth, meth, recv, recvL, recvS, start, take, setAll, mulOk, ibeq, SZv, log2_nat, fixed, rng_two, rng_one, rng_three, rng_four, rng_five, rng_six, wipe, outsFrom, fin, mkExc, frzs_strs, frzs_ints, fzs_strs, fzs_ints, seqWalk, Itm.w, hs, szW, Itm.cnt, Itm.chr, Itm.dep, Itm.rf, Itm.wid]⟩
    | ref s => exact ⟨true, by rw [call_eq hf rfl]; simp [sizesFn, exec, ev, evT, evs, evPs, evo, evC, evI, pk_var, pk_mov, pk_cst, pk_fnv, pk_bin, pk_cmp, pk_ch2, pk_neg, pk_not, pk_and, pk_or, pk_ife, pk_tup, pk_lst, pk_ix, pk_sl, pk_call, pk_blt, pk_mut, pk_meth, pk_isin, pk_isx, pk_xfld, M.bind, M.pure, M.opt, M.fail, M.get, M.gets, PV.P.get, onE, okSet, doCall, doMut, mutW, lend, back, binOp, addW, subW, mulW, fdivW, modW, powW, cmpOp, eqW, gtW, ltW, leW, geW, isNonW, W.isNon, bifn, lenW, absW, intW, max2W, min2W, tupleW, listW, allI, datOk, W.depth, W.depths, W.dat, W.dats, W.frz, W.frzs, W.fz, W.fzs, D.w, D.ws, pyEq, pyEqs, getIx, setIx, ixn, augOp, tyAny, tyB, truth, meth, recv, recvL, recvS, start, take, setAll, mulOk, ibeq, SZv, log2_nat, fixed, rng_two, rng_one, rng_three, rng_four, rng_five, rng_six, wipe, outsFrom, fin, mkExc, frzs_strs, frzs_ints, fzs_strs, fzs_ints, seqWalk, Itm.w, szW, Itm.cnt, Itm.chr, Itm.dep, Itm.rf, Itm.wid]⟩
    | lab s => exact ⟨true, by rw [call_eq hf rfl]; simp [sizesFn, exec, ev, evT, evs, evPs, evo, evC, evI, pk_var, pk_mov, pk_cst, pk_fnv, pk_bin, pk_cmp, pk_ch2, pk_neg, pk_not, pk_and, pk_or, pk_ife, pk_tup, pk_lst, pk_ix, pk_sl, pk_call, pk_blt, pk_mut, pk_meth, pk_isin, pk_isx, pk_xfld, M.bind, M.pure, M.opt, M.fail, M.get, M.gets, PV.P.get, onE, okSet, doCall, doMut, mutW, lend, back, binOp, addW, subW, mulW, fdivW, modW, powW, cmpOp, eqW, gtW, ltW, leW, geW, isNonW, W.isNon, bifn, lenW, absW, intW, max2W, min2W, tupleW, listW, allI, datOk, W.depth, W.depths, W.dat, W.dats, W.frz, W.frzs, W.fz, W.fzs, D.w, D.ws, pyEq, pyEqs, getIx, setIx, ixn, augOp, tyAny, tyB, truth, meth, recv, recvL, recvS, start, take, setAll, mulOk, ibeq, SZv, log2_nat, fixed, rng_two, rng_one, rng_three, rng_four, rng_five, rng_six, wipe, outsFrom, fin, mkExc, frzs_strs, frzs_ints, fzs_strs, fzs_ints, seqWalk, Itm.w, szW, Itm.cnt, Itm.chr, Itm.dep, Itm.rf, Itm.wid]⟩
    | prt kd ms is => simp [Itm.dep] at hd
  | succ n ih =>
    intro k t d hd hg
    rw [show k + (n + 1) + 1 = k + n + 1 + 1 by omega]
    cases t with
    | txt s =>
      have hs : s.length ≤ 16777216 := by have := hg.2.1; omega
      exact ⟨true, by rw [call_eq hf rfl]; simp [sizesFn, exec, ev, evT, evs, evPs, evo, evC, evI, pk_var, pk_mov, pk_cst, pk_fnv, pk_bin, pk_cmp, pk_ch2, pk_neg, pk_not, pk_and, pk_or, pk_ife, pk_tup, pk_lst, pk_ix, pk_sl, pk_call, pk_blt, pk_mut, pk_meth, pk_isin, pk_isx, pk_xfld, M.bind, M.pure, M.opt, M.fail, M.get, M.gets, PV.P.get, onE, okSet, doCall, doMut, mutW, lend, back, binOp, addW, subW, mulW, fdivW, modW, powW, cmpOp, eqW, gtW, ltW, leW, geW, isNonW, W.isNon, bifn, lenW, absW, intW, max2W, min2W, tupleW, listW, allI, datOk, W.depth, W.depths, W.dat, W.dats, W.frz, W.frzs, W.fz, W.fzs, D.w, D.ws, pyEq, pyEqs, getIx, setIx, ixn, augOp, tyAny, tyB, truth, meth, recv, recvL, recvS, start, take, setAll, mulOk, ibeq, SZv, log2_nat, fixed, rng_two, rng_one, rng_three, rng_four, rng_five, rng_six, wipe, outsFrom, fin, mkExc, frzs_strs, frzs_ints, fzs_strs, fzs_ints, seqWalk, Itm.w, hs, szW, Itm.cnt, Itm.chr, Itm.dep, Itm.rf, Itm.wid]⟩
    | ref s => exact ⟨true, by rw [call_eq hf rfl]; simp [sizesFn, exec, ev, evT, evs, evPs, evo, evC, evI, pk_var, pk_mov, pk_cst, pk_fnv, pk_bin, pk_cmp, pk_ch2, pk_neg, pk_not, pk_and, pk_or, pk_ife, pk_tup, pk_lst, pk_ix, pk_sl, pk_call, pk_blt, pk_mut, pk_meth, pk_isin, pk_isx, pk_xfld, M.bind, M.pure, M.opt, M.fail, M.get, M.gets, PV.P.get, onE, okSet, doCall, doMut, mutW, lend, back, binOp, addW, subW, mulW, fdivW, modW, powW, cmpOp, eqW, gtW, ltW, leW, geW, isNonW, W.isNon, bifn, lenW, absW, intW, max2W, min2W, tupleW, listW, allI, datOk, W.depth, W.depths, W.dat, W.dats, W.frz, W.frzs, W.fz, W.fzs, D.w, D.ws, pyEq, pyEqs, getIx, setIx, ixn, augOp, tyAny, tyB, truth, meth, recv, recvL, recvS, start, take, setAll, mulOk, ibeq, SZv, log2_nat, fixed, rng_two, rng_one, rng_three, rng_four, rng_five, rng_six, wipe, outsFrom, fin, mkExc, frzs_strs, frzs_ints, fzs_strs, fzs_ints, seqWalk, Itm.w, szW, Itm.cnt, Itm.chr, Itm.dep, Itm.rf, Itm.wid]⟩
    | lab s => exact ⟨true, by rw [call_eq hf rfl]; simp [sizesFn, exec, ev, evT, evs, evPs, evo, evC, evI, pk_var, pk_mov, pk_cst, pk_fnv, pk_bin, pk_cmp, pk_ch2, pk_neg, pk_not, pk_and, pk_or, pk_ife, pk_tup, pk_lst, pk_ix, pk_sl, pk_call, pk_blt, pk_mut, pk_meth, pk_isin, pk_isx, pk_xfld, M.bind, M.pure, M.opt, M.fail, M.get, M.gets, PV.P.get, onE, okSet, doCall, doMut, mutW, lend, back, binOp, addW, subW, mulW, fdivW, modW, powW, cmpOp, eqW, gtW, ltW, leW, geW, isNonW, W.isNon, bifn, lenW, absW, intW, max2W, min2W, tupleW, listW, allI, datOk, W.depth, W.depths, W.dat, W.dats, W.frz, W.frzs, W.fz, W.fzs, D.w, D.ws, pyEq, pyEqs, getIx, setIx, ixn, augOp, tyAny, tyB, truth, meth, recv, recvL, recvS, start, take, setAll, mulOk, ibeq, SZv, log2_nat, fixed, rng_two, rng_one, rng_three, rng_four, rng_five, rng_six, wipe, outsFrom, fin, mkExc, frzs_strs, frzs_ints, fzs_strs, fzs_ints, seqWalk, Itm.w, szW, Itm.cnt, Itm.chr, Itm.dep, Itm.rf, Itm.wid]⟩
    | prt kd ms is =>
      simp only [Itm.dep] at hd
      have hgs := goods_iff.mp hg.2.2
      let acc : Nat → List W := fun i => [.int ((1 + Itm.cnts (is.take i) : Nat) : Int), .int ((Itm.chrs (is.take i) : Nat) : Int), .int (d + (Itm.deps (is.take i) : Nat)), .int ((Itm.rfs (is.take i) : Nat) : Int), .int ((max is.length (Itm.wids (is.take i)) : Nat) : Int)]
      obtain ⟨σ', e, o, hσ⟩ := for_ind (fx := [0, 1]) (tg := .name 3) (wp := [3, 4, 5, 6]) (b := fun σ => exec P.xs (cl P (k + n + 1) [0, 1]) (sizes_2 x) σ) (is.map fun u => .one u.w)
        (fun i σ => ∃ o, σ = [some (Itm.prt kd ms is).w, some (.int d), some (.lst o (acc i)), none, none, none, none, none])
        (fun i it σ ex ⟨o, hσ⟩ => by
          subst hσ
          rw [List.getElem?_map] at ex
          cases hu : is[i]? with
          | none => rw [hu] at ex; cases ex
          | some u =>
          rw [hu] at ex
          cases ex
          have hm : u ∈ is := List.mem_of_getElem? hu
          have h1 := deps_mem hm
          obtain ⟨o2, e1⟩ := ih k u (d + 1) (by omega) (hgs u hm)
          unfold szW at e1
          have c1 : Itm.cnts (is.take (i + 1)) = Itm.cnts (is.take i) + u.cnt := by rw [take_snoc hu, cnts_app]
          have c2 : Itm.chrs (is.take (i + 1)) = Itm.chrs (is.take i) + u.chr := by rw [take_snoc hu, chrs_sum, chrs_sum, sum_app]
          have c3 : Itm.rfs (is.take (i + 1)) = Itm.rfs (is.take i) + u.rf := by rw [take_snoc hu, rfs_sum, rfs_sum, sum_app]
          have c4 : Itm.deps (is.take (i + 1)) = max (Itm.deps (is.take i)) u.dep := by
            rw [take_snoc hu]
            exact Nat.le_antisymm (deps_le.mpr fun x hx => by
              rcases List.mem_append.mp hx with hx | hx
              · have := deps_mem hx; omega
              · rw [List.mem_singleton.mp hx]; omega) (Nat.max_le.mpr ⟨deps_le.mpr fun x hx => deps_mem (List.mem_append_left _ hx), deps_mem (List.mem_append_right _ (List.mem_singleton.mpr rfl))⟩)
          have c5 : Itm.wids (is.take (i + 1)) = max (Itm.wids (is.take i)) u.wid := by
            rw [take_snoc hu]
            have wm : ∀ {a : List Itm} {x : Itm}, x ∈ a → x.wid ≤ Itm.wids a := fun h => wids_le.mp (Nat.le_refl _) _ h
            exact Nat.le_antisymm (wids_le.mpr fun x hx => by
              rcases List.mem_append.mp hx with hx | hx
              · have := wm hx; omega
              · rw [List.mem_singleton.mp hx]; omega) (Nat.max_le.mpr ⟨wids_le.mpr fun x hx => wm (List.mem_append_left _ hx), wm (List.mem_append_right _ (List.mem_singleton.mpr rfl))⟩)
          refine ⟨[some (Itm.prt kd ms is).w, some (.int d), some (.lst o (acc i)), some u.w, none, none, none, none], by simp [PV.take], ?_⟩
          have v3 : (d + (Itm.deps (is.take (i + 1)) : Nat) : Int) = if d + (Itm.deps (is.take i) : Nat) < d + 1 - 1 + (u.dep : Nat) then d + 1 - 1 + (u.dep : Nat) else d + (Itm.deps (is.take i) : Nat) := by rw [c4]; split <;> omega
          have v5 : ((max is.length (Itm.wids (is.take (i + 1))) : Nat) : Int) = if ((max is.length (Itm.wids (is.take i)) : Nat) : Int) < (u.wid : Nat) then ((u.wid : Nat) : Int) else ((max is.length (Itm.wids (is.take i)) : Nat) : Int) := by rw [c5]; split <;> omega
          have v1 : ((1 + Itm.cnts (is.take (i + 1)) : Nat) : Int) = ((1 + Itm.cnts (is.take i) : Nat) : Int) + (u.cnt : Nat) := by rw [c1]; omega
          have v2 : ((Itm.chrs (is.take (i + 1)) : Nat) : Int) = ((Itm.chrs (is.take i) : Nat) : Int) + (u.chr : Nat) := by rw [c2]; omega
          have v4 : ((Itm.rfs (is.take (i + 1)) : Nat) : Int) = ((Itm.rfs (is.take i) : Nat) : Int) + (u.rf : Nat) := by rw [c3]; omega
          show ∃ σ2, _ ∧ ∃ o, PV.wipe σ2 [3, 4, 5, 6] = [some (Itm.prt kd ms is).w, some (.int d), some (.lst o [.int ((1 + Itm.cnts (is.take (i + 1)) : Nat) : Int), .int ((Itm.chrs (is.take (i + 1)) : Nat) : Int), .int (d + (Itm.deps (is.take (i + 1)) : Nat)), .int ((Itm.rfs (is.take (i + 1)) : Nat) : Int), .int ((max is.length (Itm.wids (is.take (i + 1))) : Nat) : Int)]), none, none, none, none, none]
          rw [v1, v2, v3, v4, v5]
          show ∃ σ2, (exec P.xs (cl P (k + n + 1) [0, 1]) (sizes_2 x) [some (Itm.prt kd ms is).w, some (.int d), some (.lst o [.int ((1 + Itm.cnts (is.take i) : Nat) : Int), .int ((Itm.chrs (is.take i) : Nat) : Int), .int (d + (Itm.deps (is.take i) : Nat)), .int ((Itm.rfs (is.take i) : Nat) : Int), .int ((max is.length (Itm.wids (is.take i)) : Nat) : Int)]), some u.w, none, none, none, none] = _ ∨ _) ∧ _
          generalize ((1 + Itm.cnts (is.take i) : Nat) : Int) = x1
          generalize ((Itm.chrs (is.take i) : Nat) : Int) = x2
          generalize (d + (Itm.deps (is.take i) : Nat) : Int) = x3
          generalize ((Itm.rfs (is.take i) : Nat) : Int) = x4
          generalize ((max is.length (Itm.wids (is.take i)) : Nat) : Int) = x5
          generalize (Itm.prt kd ms is).w = wt at *
          generalize hx : d + 1 - 1 + ((u.dep : Nat) : Int) = y3 at *
          have e5 := fun z5 => pk_ev rfl (sum5 (x := x) (f := callF P (k + n + 1)) (gg := genOf P (callF P (k + n + 1))) (z0 := some wt) (z1 := some (.int d)) (z3 := some u.w) (z5 := z5) (o1 := o) (o2 := o2) (a := x1) (b := x2) (c := x3) (d := x4) (e := x5) (a' := u.cnt) (b' := u.chr) (c' := y3) (d' := u.rf) (e' := u.wid))
          have e5' := fun z5 => (sum5 (x := x) (f := callF P (k + n + 1)) (gg := genOf P (callF P (k + n + 1))) (z0 := some wt) (z1 := some (.int d)) (z3 := some u.w) (z5 := z5) (o1 := o) (o2 := o2) (a := x1) (b := x2) (c := x3) (d := x4) (e := x5) (a' := u.cnt) (b' := u.chr) (c' := y3) (d' := u.rf) (e' := u.wid))
          refine ⟨[some wt, some (.int d), some (.lst false [.int (x1 + u.cnt), .int (x2 + u.chr), .int (if x3 < y3 then y3 else x3), .int (x4 + u.rf), .int (if x5 < (u.wid : Nat) then ((u.wid : Nat) : Int) else x5)]), some u.w, some (.lst o2 [.int u.cnt, .int u.chr, .int y3, .int u.rf, .int u.wid]), some (.lst false [.int (x1 + u.cnt), .int (x2 + u.chr), .int (if x3 < y3 then y3 else x3), .int (x4 + u.rf), .int (if x5 < (u.wid : Nat) then ((u.wid : Nat) : Int) else x5)]), none, none], .inl ?_, false, rfl⟩
          simp [sizes_2, exec, ev, evT, evs, evPs, evo, evC, evI, pk_var, pk_mov, pk_cst, pk_fnv, pk_bin, pk_cmp, pk_ch2, pk_neg, pk_not, pk_and, pk_or, pk_ife, pk_tup, pk_lst, pk_ix, pk_sl, pk_call, pk_blt, pk_mut, pk_meth, pk_isin, pk_isx, pk_xfld, M.bind, M.pure, M.opt, M.fail, M.get, M.gets, PV.P.get, onE, okSet, doCall, doMut, mutW, lend, back, binOp, addW, subW, mulW, fdivW, modW, powW, cmpOp, eqW, gtW, ltW, leW, geW, isNonW, W.isNon, bifn, lenW, absW, intW, max2W, min2W, tupleW, listW, allI, datOk, W.depth, W.depths, W.dat, W.dats, W.frz, W.frzs, W.fz, W.fzs, D.w, D.ws, pyEq, pyEqs, getIx, setIx, ixn, augOp, tyAny, tyB, truth, meth, recv, recvL, recvS, start, take, setAll, mulOk, ibeq, SZv, log2_nat, fixed, rng_two, rng_one, rng_three, rng_four, rng_five, rng_six, wipe, outsFrom, fin, mkExc, frzs_strs, frzs_ints, fzs_strs, fzs_ints, seqWalk, e1, e5'])
        [some (Itm.prt kd ms is).w, some (.int d), some (.lst true (acc 0)), none, none, none, none, none] ⟨true, rfl⟩
      subst hσ
      rw [List.length_map] at e
      have ef : exec P.xs (cl P (k + n + 1) [0, 1]) (sizes_3 x) [some (Itm.prt kd ms is).w, some (.int d), some (.lst true (acc 0)), none, none, none, none, none] = _ := for_of (σ1 := [some (Itm.prt kd ms is).w, some (.int d), some (.lst true (acc 0)), none, none, none, none, none]) (xs := is.map fun u => .one u.w) (by rw [show (is.map fun u => Item.one u.w) = (Itm.ws is).map Item.one by rw [ws_map, List.map_map]; rfl]; simp [exec, ev, evT, evs, evPs, evo, evC, evI, pk_var, pk_mov, pk_cst, pk_fnv, pk_bin, pk_cmp, pk_ch2, pk_neg, pk_not, pk_and, pk_or, pk_ife, pk_tup, pk_lst, pk_ix, pk_sl, pk_call, pk_blt, pk_mut, pk_meth, pk_isin, pk_isx, pk_xfld, M.bind, M.pure, M.opt, M.fail, M.get, M.gets, PV.P.get, onE, okSet, doCall, doMut, mutW, lend, back, binOp, addW, subW, mulW, fdivW, modW, powW, cmpOp, eqW, gtW, ltW, leW, geW, isNonW, W.isNon, bifn, lenW, absW, intW, max2W, min2W, tupleW, listW, allI, datOk, W.depth, W.depths, W.dat, W.dats, W.frz, W.frzs, W.fz, W.fzs, D.w, D.ws, pyEq, pyEqs, getIx, setIx, ixn, augOp, tyAny, tyB, truth, meth, recv, recvL, recvS, start, take, setAll, mulOk, ibeq, SZv, log2_nat, fixed, rng_two, rng_one, rng_three, rng_four, rng_five, rng_six, wipe, outsFrom, fin, mkExc, frzs_strs, frzs_ints, fzs_strs, fzs_ints, seqWalk, Itm.w]) e
      refine ⟨o, ?_⟩
      rw [call_eq hf rfl]
      have ha0 : acc 0 = [.int 1, .int 0, .int d, .int 0, .int is.length] := by simp [acc, Itm.cnts, Itm.chrs, Itm.deps, Itm.rfs, Itm.wids]
      have han : acc is.length = [.int ((1 + Itm.cnts is : Nat) : Int), .int ((Itm.chrs is : Nat) : Int), .int (d + (Itm.deps is : Nat)), .int ((Itm.rfs is : Nat) : Int), .int ((max is.length (Itm.wids is) : Nat) : Int)] := by simp [acc]
      rw [han, ha0] at ef
      have hs : szW o (.prt kd ms is) d = .lst o [.int ((1 + Itm.cnts is : Nat) : Int), .int ((Itm.chrs is : Nat) : Int), .int (d + (Itm.deps is : Nat)), .int ((Itm.rfs is : Nat) : Int), .int ((max is.length (Itm.wids is) : Nat) : Int)] := by
        unfold szW
        rw [show (Itm.prt kd ms is).dep = 1 + Itm.deps is from rfl, show d - 1 + ((1 + Itm.deps is : Nat) : Int) = d + (Itm.deps is : Nat) by omega]
        rfl
      rw [hs]
      simp only [Itm.w] at ef ⊢
      simp [sizesFn, exec, ev, evT, evs, evPs, evo, evC, evI, pk_var, pk_mov, pk_cst, pk_fnv, pk_bin, pk_cmp, pk_ch2, pk_neg, pk_not, pk_and, pk_or, pk_ife, pk_tup, pk_lst, pk_ix, pk_sl, pk_call, pk_blt, pk_mut, pk_meth, pk_isin, pk_isx, pk_xfld, M.bind, M.pure, M.opt, M.fail, M.get, M.gets, PV.P.get, onE, okSet, doCall, doMut, mutW, lend, back, binOp, addW, subW, mulW, fdivW, modW, powW, cmpOp, eqW, gtW, ltW, leW, geW, isNonW, W.isNon, bifn, lenW, absW, intW, max2W, min2W, tupleW, listW, allI, datOk, W.depth, W.depths, W.dat, W.dats, W.frz, W.frzs, W.fz, W.fzs, D.w, D.ws, pyEq, pyEqs, getIx, setIx, ixn, augOp, tyAny, tyB, truth, meth, recv, recvL, recvS, start, take, setAll, mulOk, ibeq, SZv, log2_nat, fixed, rng_two, rng_one, rng_three, rng_four, rng_five, rng_six, wipe, outsFrom, fin, mkExc, frzs_strs, frzs_ints, fzs_strs, fzs_ints, seqWalk, ws_len, ef]
theorem fits0 {t : Itm} : fits 0 t ↔ t.wid ≤ 12 ∧ t.dep ≤ 6 := by unfold fits; omega
theorem lt_ok {t : Itm} (hs : P.fns[x.sizes]? = some (sizesFn x)) (hf : P.fns[x.lt]? = some (lt_Fn x)) (hg : t.good) (hd : t.dep ≤ 30) : callF P (k + 32) x.lt [t.w] = some (.ok (.bl (decide (wb t))) [t.w]) := by
  obtain ⟨o, e1⟩ := sizes_ok hs t.dep (k + (30 - t.dep)) t 1 (Nat.le_refl _) hg
  rw [show k + (30 - t.dep) + t.dep + 1 = k + 31 by omega] at e1
  unfold szW at e1
  rw [show (1 : Int) - 1 + (t.dep : Int) = (t.dep : Int) by omega] at e1
  have ec : ∀ o2, ev (cl P (k + 31) [0]) (lt_2 x) [some t.w, some (.lst o [.int t.cnt, .int t.chr, .int t.dep, .int t.rf, .int t.wid]), some (.lst o2 [.int 60, .int 400, .int 6, .int 3, .int 12]), none, none] =
      some (.ok (.lst true (([0, 1, 2, 3, 4] : List Int).filter (fun j => decide (([60, 400, 6, 3, 12] : List Int)[j.toNat]! < ([(t.cnt : Int), t.chr, t.dep, t.rf, t.wid] : List Int)[j.toNat]!) ) |>.map W.int)) [some t.w, some (.lst o [.int t.cnt, .int t.chr, .int t.dep, .int t.rf, .int t.wid]), some (.lst o2 [.int 60, .int 400, .int 6, .int 3, .int 12]), none, none]) := fun o2 => by
    refine comp_of (xs := ([0, 1, 2, 3, 4] : List Int).map fun j => .one (.int j)) (σ1 := [some t.w, some (.lst o [.int t.cnt, .int t.chr, .int t.dep, .int t.rf, .int t.wid]), some (.lst o2 [.int 60, .int 400, .int 6, .int 3, .int 12]), none, none]) (by simp [exec, ev, evT, evs, evPs, evo, evC, evI, pk_var, pk_mov, pk_cst, pk_fnv, pk_bin, pk_cmp, pk_ch2, pk_neg, pk_not, pk_and, pk_or, pk_ife, pk_tup, pk_lst, pk_ix, pk_sl, pk_call, pk_blt, pk_mut, pk_meth, pk_isin, pk_isx, pk_xfld, M.bind, M.pure, M.opt, M.fail, M.get, M.gets, PV.P.get, onE, okSet, doCall, doMut, mutW, lend, back, binOp, addW, subW, mulW, fdivW, modW, powW, cmpOp, eqW, gtW, ltW, leW, geW, isNonW, W.isNon, bifn, lenW, absW, intW, max2W, min2W, tupleW, listW, allI, datOk, W.depth, W.depths, W.dat, W.dats, W.frz, W.frzs, W.fz, W.fzs, D.w, D.ws, pyEq, pyEqs, getIx, setIx, ixn, augOp, tyAny, tyB, truth, meth, recv, recvL, recvS, start, take, setAll, mulOk, ibeq, SZv, log2_nat, fixed, rng_two, rng_one, rng_three, rng_four, rng_five, rng_six, wipe, outsFrom, fin, mkExc, frzs_strs, frzs_ints, fzs_strs, fzs_ints, seqWalk, rng5]) ?_
    refine comp_pure (fun j : Int => .one (.int j)) _ W.int _ [0, 1, 2, 3, 4] [] (by simp) fun j hj => ?_
    refine ⟨[some t.w, some (.lst o [.int t.cnt, .int t.chr, .int t.dep, .int t.rf, .int t.wid]), some (.lst o2 [.int 60, .int 400, .int 6, .int 3, .int 12]), none, some (.int j)], by simp [PV.take, PV.wipe], [some t.w, some (.lst o [.int t.cnt, .int t.chr, .int t.dep, .int t.rf, .int t.wid]), some (.lst o2 [.int 60, .int 400, .int 6, .int 3, .int 12]), none, some (.int j)], ?_, fun _ => rfl, fun _ => ⟨[some t.w, some (.lst o [.int t.cnt, .int t.chr, .int t.dep, .int t.rf, .int t.wid]), some (.lst o2 [.int 60, .int 400, .int 6, .int 3, .int 12]), none, some (.int j)], by simp [lt_0, exec, ev, evT, evs, evPs, evo, evC, evI, pk_var, pk_mov, pk_cst, pk_fnv, pk_bin, pk_cmp, pk_ch2, pk_neg, pk_not, pk_and, pk_or, pk_ife, pk_tup, pk_lst, pk_ix, pk_sl, pk_call, pk_blt, pk_mut, pk_meth, pk_isin, pk_isx, pk_xfld, M.bind, M.pure, M.opt, M.fail, M.get, M.gets, PV.P.get, onE, okSet, doCall, doMut, mutW, lend, back, binOp, addW, subW, mulW, fdivW, modW, powW, cmpOp, eqW, gtW, ltW, leW, geW, isNonW, W.isNon, bifn, lenW, absW, intW, max2W, min2W, tupleW, listW, allI, datOk, W.depth, W.depths, W.dat, W.dats, W.frz, W.frzs, W.fz, W.fzs, D.w, D.ws, pyEq, pyEqs, getIx, setIx, ixn, augOp, tyAny, tyB, truth, meth, recv, recvL, recvS, start, take, setAll, mulOk, ibeq, SZv, log2_nat, fixed, rng_two, rng_one, rng_three, rng_four, rng_five, rng_six, wipe, outsFrom, fin, mkExc, frzs_strs, frzs_ints, fzs_strs, fzs_ints, seqWalk], rfl⟩⟩
    simp only [List.mem_cons, List.not_mem_nil, or_false] at hj
    rcases hj with rfl | rfl | rfl | rfl | rfl <;> simp [lt_1, exec, ev, evT, evs, evPs, evo, evC, evI, pk_var, pk_mov, pk_cst, pk_fnv, pk_bin, pk_cmp, pk_ch2, pk_neg, pk_not, pk_and, pk_or, pk_ife, pk_tup, pk_lst, pk_ix, pk_sl, pk_call, pk_blt, pk_mut, pk_meth, pk_isin, pk_isx, pk_xfld, M.bind, M.pure, M.opt, M.fail, M.get, M.gets, PV.P.get, onE, okSet, doCall, doMut, mutW, lend, back, binOp, addW, subW, mulW, fdivW, modW, powW, cmpOp, eqW, gtW, ltW, leW, geW, isNonW, W.isNon, bifn, lenW, absW, intW, max2W, min2W, tupleW, listW, allI, datOk, W.depth, W.depths, W.dat, W.dats, W.frz, W.frzs, W.fz, W.fzs, D.w, D.ws, pyEq, pyEqs, getIx, setIx, ixn, augOp, tyAny, tyB, truth, meth, recv, recvL, recvS, start, take, setAll, mulOk, ibeq, SZv, log2_nat, fixed, rng_two, rng_one, rng_three, rng_four, rng_five, rng_six, wipe, outsFrom, fin, mkExc, frzs_strs, frzs_ints, fzs_strs, fzs_ints, seqWalk]
  have ep := fun o2 => ec o2
  have hd2 : decide (wb t) = decide ((([0, 1, 2, 3, 4] : List Int).filter (fun j => decide (([60, 400, 6, 3, 12] : List Int)[j.toNat]! < ([(t.cnt : Int), t.chr, t.dep, t.rf, t.wid] : List Int)[j.toNat]!))).length = 0) := by
    refine decide_eq_decide.mpr ?_
    rw [List.length_eq_zero_iff, List.filter_eq_nil_iff]
    unfold wb
    rw [fits0]
    simp
    omega
  rw [hd2]
  generalize (([0, 1, 2, 3, 4] : List Int).filter (fun j => decide (([60, 400, 6, 3, 12] : List Int)[j.toNat]! < ([(t.cnt : Int), t.chr, t.dep, t.rf, t.wid] : List Int)[j.toNat]!))) = l at *
  have hz : ((l.length : Int) = 0) ↔ l.length = 0 := by omega
  have e2 := fun o2 => pk_ev rfl (ec o2)
  rw [call_eq hf rfl]
  simp [lt_Fn, exec, ev, evT, evs, evPs, evo, evC, evI, pk_var, pk_mov, pk_cst, pk_fnv, pk_bin, pk_cmp, pk_ch2, pk_neg, pk_not, pk_and, pk_or, pk_ife, pk_tup, pk_lst, pk_ix, pk_sl, pk_call, pk_blt, pk_mut, pk_meth, pk_isin, pk_isx, pk_xfld, M.bind, M.pure, M.opt, M.fail, M.get, M.gets, PV.P.get, onE, okSet, doCall, doMut, mutW, lend, back, binOp, addW, subW, mulW, fdivW, modW, powW, cmpOp, eqW, gtW, ltW, leW, geW, isNonW, W.isNon, bifn, lenW, absW, intW, max2W, min2W, tupleW, listW, allI, datOk, W.depth, W.depths, W.dat, W.dats, W.frz, W.frzs, W.fz, W.fzs, D.w, D.ws, pyEq, pyEqs, getIx, setIx, ixn, augOp, tyAny, tyB, truth, meth, recv, recvL, recvS, start, take, setAll, mulOk, ibeq, SZv, log2_nat, fixed, rng_two, rng_one, rng_three, rng_four, rng_five, rng_six, wipe, outsFrom, fin, mkExc, frzs_strs, frzs_ints, fzs_strs, fzs_ints, seqWalk, e1, e2, hz]
end
end PV

/-! V13: documents at the edges of the bounds, as some laws draw them. -/
namespace PV
def wrapped_0 (x : Iy) : S := 
  (.set 2 (.tup (.cons (.call x.name (.cons (.var 0) (.cons (.var 1) .nil))) (.cons (.tup .nil) (.cons (.tup (.cons (.var 2) .nil)) .nil)))))
def wrapped_1 (x : Iy) : S := (.for (.name 4) (.rng1 (.var 3)) (wrapped_0 x) [4])
def wrappedFn (x : Iy) : Fn := ⟨5, 4, [2],
  (.seq (wrapped_1 x)
  (.ret (.some (.mov 2))))⟩
def leafFn (x : Iy) : Fn := ⟨2, 2, [],
  (.seq (.ife (.cmp .eq (.call x.take (.cons (.var 0) (.cons (.cst (.int 3)) .nil))) (.cst (.int 0)))
    (.ret (.some (.tup (.cons (.cst (.str ['#'])) (.cons (.call x.name (.cons (.var 0) (.cons (.var 1) .nil))) .nil)))))
    .skip)
  (.ret (.some (.call x.prose (.cons (.var 0) (.cons (.cst (.int 1)) .nil))))))⟩
def full_row_0 (x : Iy) : E := (.call x.leaf (.cons (.var 0) (.cons (.var 1) .nil)))
def full_row_1 (x : Iy) : E := (.comp (full_row_0 x) (.name 6) (.rng1 (.bin .add (.cst (.int 12)) (.var 2))) .none [5, 6])
def full_rowFn (x : Iy) : Fn := ⟨7, 3, [],
  (.seq (.set 3 (.blt .tuple (.cons (full_row_1 x) .nil)))
  (.seq (.set 4 (.tup (.cons (.call x.name (.cons (.var 0) (.cons (.var 1) .nil))) (.cons (.call x.marks (.cons (.var 0) (.cons (.var 1) .nil))) (.cons (.var 3) .nil)))))
  (.ret (.some (.call x.wrapped (.cons (.var 0) (.cons (.var 1) (.cons (.var 4) (.cons (.call x.take (.cons (.var 0) (.cons (.cst (.int 5)) .nil))) .nil)))))))))⟩
def full_count_0 (x : Iy) : E := (.call x.leaf (.cons (.var 0) (.cons (.var 1) .nil)))
def full_count_1 (x : Iy) : E := (.comp (full_count_0 x) (.name 9) (.rng1 (.var 6)) .none [8, 9])
def full_count_2 (x : Iy) : S := 
  (.seq (.set 6 (.bin .sub (.cst (.int 12)) (.bin .mul (.bin .sub (.cst (.int 6)) (.var 2)) (.blt .int (.cons (.cmp .eq (.var 5) (.var 3)) .nil)))))
  (.seq (.set 7 (.blt .tuple (.cons (full_count_1 x) .nil)))
  (.expr (.mut .append 4 (.cons (.tup (.cons (.call x.name (.cons (.var 0) (.cons (.var 1) .nil))) (.cons (.tup .nil) (.cons (.var 7) .nil)))) .nil)))))
def full_count_3 (x : Iy) : S := (.for (.name 5) (.rng1 (.cst (.int 5))) (full_count_2 x) [5, 6, 7, 8])
def full_countFn (x : Iy) : Fn := ⟨10, 3, [],
  (.seq (.set 3 (.call x.take (.cons (.var 0) (.cons (.cst (.int 5)) .nil))))
  (.seq (.set 4 (.lst .nil))
  (.seq (full_count_3 x)
  (.ret (.some (.tup (.cons (.call x.name (.cons (.var 0) (.cons (.var 1) .nil))) (.cons (.tup .nil) (.cons (.blt .tuple (.cons (.var 4) .nil)) .nil)))))))))⟩
def full_prose_0 (x : Iy) : S := 
  (.seq (.set 8 (.var 5))
  (.seq (.ife (.or (.cmp .eq (.var 7) (.var 3)) (.cmp .eq (.var 4) (.cst (.int 0))))
    (.set 8 (.call x.prose (.cons (.var 0) (.cons (.bin .sub (.cst (.int 60)) (.bin .mul (.bin .sub (.cst (.int 20)) (.var 2)) (.blt .int (.cons (.cmp .eq (.var 7) (.var 3)) .nil)))) .nil))))
    .skip)
  (.expr (.mut .append 6 (.cons (.call x.wrapped (.cons (.var 0) (.cons (.var 1) (.cons (.var 8) (.cons (.call x.take (.cons (.var 0) (.cons (.cst (.int 3)) .nil))) .nil))))) .nil)))))
def full_prose_1 (x : Iy) : S := (.for (.name 7) (.rng1 (.cst (.int 7))) (full_prose_0 x) [7, 8])
def full_proseFn (x : Iy) : Fn := ⟨9, 3, [],
  (.seq (.set 3 (.call x.take (.cons (.var 0) (.cons (.cst (.int 7)) .nil))))
  (.seq (.set 4 (.call x.take (.cons (.var 0) (.cons (.cst (.int 2)) .nil))))
  (.seq (.set 5 (.call x.prose (.cons (.var 0) (.cons (.cst (.int 60)) .nil))))
  (.seq (.set 6 (.lst .nil))
  (.seq (full_prose_1 x)
  (.ret (.some (.tup (.cons (.call x.name (.cons (.var 0) (.cons (.var 1) .nil))) (.cons (.tup .nil) (.cons (.blt .tuple (.cons (.var 6) .nil)) .nil)))))))))))⟩
def full_depth_0 (x : Iy) : S := 
  (.seq (.set 5 (.tup (.cons (.var 3) .nil)))
  (.seq (.ife (.cmp .eq (.call x.take (.cons (.var 0) (.cons (.cst (.int 2)) .nil))) (.cst (.int 0)))
    (.set 5 (.tup (.cons (.call x.leaf (.cons (.var 0) (.cons (.var 1) .nil))) (.cons (.var 3) .nil))))
    .skip)
  (.set 3 (.tup (.cons (.call x.name (.cons (.var 0) (.cons (.var 1) .nil))) (.cons (.tup .nil) (.cons (.var 5) .nil)))))))
def full_depth_1 (x : Iy) : S := (.for (.name 4) (.rng1 (.bin .add (.cst (.int 5)) (.var 2))) (full_depth_0 x) [4, 5])
def full_depthFn (x : Iy) : Fn := ⟨6, 3, [],
  (.seq (.set 3 (.tup (.cons (.call x.name (.cons (.var 0) (.cons (.var 1) .nil))) (.cons (.call x.marks (.cons (.var 0) (.cons (.var 1) .nil))) (.cons (.tup .nil) .nil)))))
  (.seq (.ife (.cmp .eq (.call x.take (.cons (.var 0) (.cons (.cst (.int 2)) .nil))) (.cst (.int 0)))
    (.set 3 (.tup (.cons (.ix (.var 3) (.cst (.int 0))) (.cons (.ix (.var 3) (.cst (.int 1))) (.cons (.tup (.cons (.call x.leaf (.cons (.var 0) (.cons (.var 1) .nil))) .nil)) .nil)))))
    .skip)
  (.seq (full_depth_1 x)
  (.ret (.some (.mov 3))))))⟩
def full_refs_0 (x : Iy) : S := 
  (.seq (.set 5 (.call x.name (.cons (.var 0) (.cons (.var 1) .nil))))
  (.seq (.expr (.mut .append 3 (.cons (.call x.wrapped (.cons (.var 0) (.cons (.var 1) (.cons (.tup (.cons (.cst (.str ['@'])) (.cons (.var 5) .nil))) (.cons (.call x.take (.cons (.var 0) (.cons (.cst (.int 3)) .nil))) .nil))))) .nil)))
  (.expr (.mut .append 3 (.cons (.call x.leaf (.cons (.var 0) (.cons (.var 1) .nil))) .nil)))))
def full_refs_1 (x : Iy) : S := (.for (.name 4) (.rng1 (.bin .add (.cst (.int 3)) (.var 2))) (full_refs_0 x) [4, 5])
def full_refsFn (x : Iy) : Fn := ⟨6, 3, [],
  (.seq (.set 3 (.lst .nil))
  (.seq (full_refs_1 x)
  (.ret (.some (.tup (.cons (.call x.name (.cons (.var 0) (.cons (.var 1) .nil))) (.cons (.tup .nil) (.cons (.blt .tuple (.cons (.var 3) .nil)) .nil))))))))⟩

/-- the pool and the names, as far as they are known -/
structure DS (N L : Nat) (p : W) (nms : List (List Char)) : Prop where
  pool : Pool N p
  nm : ∀ s ∈ nms, isNm s
  len : nms.length ≤ L
theorem DS.mono {N L N' L' : Nat} {p : W} {nms : List (List Char)} (h : DS N L p nms) (h1 : N ≤ N') (h2 : L ≤ L') : DS N' L' p nms := ⟨h.pool.mono h1, h.nm, by have := h.len; omega⟩
section
variable {P : Prog} {k : Nat} {x : Iy} {p : W} {nms : List (List Char)} {N L : Nat}
theorem take_d {many : Int} (F : Fns P x.toIx) (h : DS N L p nms) (hN : N < 1000000000000) (h0 : 0 < many) (h1 : many < 18446744073709551616) :
    ∃ r p', 0 ≤ r ∧ r < many ∧ DS (N + 1) L p' nms ∧ callF P (k + 1) x.take [p, .int many] = some (.ok (.int r) [p', .int many]) := by
  obtain ⟨r, p', a, b, q, e⟩ := take_ok (k := k) F.take h.pool hN h0 h1
  exact ⟨r, p', a, b, ⟨q, h.nm, h.len⟩, e⟩
theorem name_d (F : Fns P x.toIx) (h : DS N L p nms) (hN : N < 800000000000) (hL : L ≤ 9000000) :
    ∃ (s : List Char) (p' : W), isNm s ∧ DS (N + 30) (L + 1) p' (nms ++ [s]) ∧ callF P (k + 3) x.name [p, nmW nms] = some (.ok (.str s) [p', nmW (nms ++ [s])]) := by
  obtain ⟨s, p', hs, q, e⟩ := name_ok (k := k) F.take F.letters F.name h.pool hN h.nm (by have := h.len; omega)
  exact ⟨s, p', hs, ⟨q, nm_add h.nm hs, by have := h.len; simp; omega⟩, e⟩
theorem marks_d (F : Fns P x.toIx) (h : DS N L p nms) (hN : N < 700000000000) (hL : L ≤ 9000000) :
    ∃ (ms : List (List Char)) (p' : W) (nms' : List (List Char)), isMs ms ∧ DS (N + 100) (L + 3) p' nms' ∧ callF P (k + 4) x.marks [p, nmW nms] = some (.ok (.tup (ms.map W.str)) [p', nmW nms']) := by
  obtain ⟨ms, new, p', g, l, m, q, e⟩ := marks_ok (k := k) F.take F.letters F.name F.marks h.pool hN h.nm (by have := h.len; omega)
  exact ⟨ms, p', nms ++ new, g, ⟨q, fun z hz => (List.mem_append.mp hz).elim (h.nm z) (m z), by have := h.len; simp; omega⟩, e⟩
theorem prose_d {many : Int} (F : Fns P x.toIx) (h : DS N L p nms) (hN : N < 900000000000) (h0 : 0 ≤ many) (h1 : many ≤ 1000) :
    ∃ (s : List Char) (p' : W), s.length = many.toNat ∧ (∀ c ∈ s, c ∈ signs) ∧ DS (N + many.toNat) L p' nms ∧ callF P (k + 2) x.prose [p, .int many] = some (.ok (.str s) [p', .int many]) := by
  obtain ⟨s, p', l, c, q, e⟩ := prose_ok (k := k) F.take F.prose h.pool hN h0 h1
  exact ⟨s, p', l, c, ⟨q, h.nm, h.len⟩, e⟩
theorem DS.z (h : DS N L p nms) : p.frz = false := h.pool.frz
/-- a leaf: a label or a text of one sign -/
theorem leaf_ok (F : Fns P x.toIx) (hf : P.fns[x.leaf]? = some (leafFn x)) (h : DS N L p nms) (hN : N < 1000000000) (hL : L ≤ 9000000) :
    ∃ (t : Itm) (p' : W) (nms' : List (List Char)), t.good ∧ t.dep = 0 ∧ t.cnt = 1 ∧ DS (N + 31) (L + 1) p' nms' ∧ callF P (k + 4) x.leaf [p, nmW nms] = some (.ok t.w [p', nmW nms']) := by
  obtain ⟨v, p1, a1, b1, h1, e1⟩ := take_d (k := k + 2) (many := 3) F h (by omega) (by omega) (by omega)
  have z0 := h.z
  have z1 := h1.z
  by_cases hv : v = 0
  · obtain ⟨s, p2, hs, h2, e2⟩ := name_d (k := k) F h1 (by omega) hL
    refine ⟨.lab s, p2, nms ++ [s], hs, rfl, rfl, h2.mono (by omega) (by omega), ?_⟩
    subst hv
    rw [call_eq hf rfl]
    unfold nmW at *
    simp at e2
    simp [leafFn, exec, ev, evT, evs, evPs, evo, evC, evI, pk_var, pk_mov, pk_cst, pk_fnv, pk_bin, pk_cmp, pk_ch2, pk_neg, pk_not, pk_and, pk_or, pk_ife, pk_tup, pk_lst, pk_ix, pk_sl, pk_call, pk_blt, pk_mut, pk_meth, pk_isin, pk_isx, pk_xfld, M.bind, M.pure, M.opt, M.fail, M.get, M.gets, PV.P.get, onE, okSet, doCall, doMut, mutW, lend, back, binOp, addW, subW, mulW, fdivW, modW, powW, cmpOp, eqW, gtW, ltW, leW, geW, isNonW, W.isNon, bifn, lenW, absW, intW, max2W, min2W, tupleW, listW, allI, datOk, W.depth, W.depths, W.dat, W.dats, W.frz, W.frzs, W.fz, W.fzs, D.w, D.ws, pyEq, pyEqs, getIx, setIx, ixn, augOp, tyAny, tyB, truth, meth, recv, recvL, recvS, start, take, setAll, mulOk, ibeq, SZv, log2_nat, fixed, rng_two, rng_one, rng_three, rng_four, rng_five, rng_six, wipe, outsFrom, fin, mkExc, frzs_strs, frzs_ints, fzs_strs, fzs_ints, seqWalk, z0, z1, e1, e2, Itm.w]
  · obtain ⟨s, p2, l, c, h2, e2⟩ := prose_d (k := k + 1) (many := 1) F h1 (by omega) (by omega) (by omega)
    refine ⟨.txt s, p2, nms, ⟨by omega, by omega, c⟩, rfl, rfl, h2.mono (by omega) (by omega), ?_⟩
    rw [call_eq hf rfl]
    simp [leafFn, nmW, exec, ev, evT, evs, evPs, evo, evC, evI, pk_var, pk_mov, pk_cst, pk_fnv, pk_bin, pk_cmp, pk_ch2, pk_neg, pk_not, pk_and, pk_or, pk_ife, pk_tup, pk_lst, pk_ix, pk_sl, pk_call, pk_blt, pk_mut, pk_meth, pk_isin, pk_isx, pk_xfld, M.bind, M.pure, M.opt, M.fail, M.get, M.gets, PV.P.get, onE, okSet, doCall, doMut, mutW, lend, back, binOp, addW, subW, mulW, fdivW, modW, powW, cmpOp, eqW, gtW, ltW, leW, geW, isNonW, W.isNon, bifn, lenW, absW, intW, max2W, min2W, tupleW, listW, allI, datOk, W.depth, W.depths, W.dat, W.dats, W.frz, W.frzs, W.fz, W.fzs, D.w, D.ws, pyEq, pyEqs, getIx, setIx, ixn, augOp, tyAny, tyB, truth, meth, recv, recvL, recvS, start, take, setAll, mulOk, ibeq, SZv, log2_nat, fixed, rng_two, rng_one, rng_three, rng_four, rng_five, rng_six, wipe, outsFrom, fin, mkExc, frzs_strs, frzs_ints, fzs_strs, fzs_ints, seqWalk, z0, z1, e1, e2, hv, Itm.w]
/-- parts around an item -/
theorem wrapped_ok {t : Itm} {many : Int} (F : Fns P x.toIx) (hf : P.fns[x.wrapped]? = some (wrappedFn x)) (h : DS N L p nms) (hN : N < 1000000000) (hL : L ≤ 8000000) (ht : t.good) (h0 : 0 ≤ many) (h1 : many ≤ 100) :
    ∃ (t' : Itm) (p' : W) (nms' : List (List Char)), t'.good ∧ t'.dep = t.dep + many.toNat ∧ t'.cnt = t.cnt + many.toNat ∧ (t.isPrt → t'.isPrt) ∧ DS (N + 30 * many.toNat) (L + many.toNat) p' nms' ∧
      callF P (k + 4) x.wrapped [p, nmW nms, t.w, .int many] = some (.ok t'.w [p', nmW nms', t.w, .int many]) := by
  obtain ⟨σ', e, t', p', nms', rfl, q1, q2, q3, q4, q5⟩ := for_ind (fx := [0, 1, 3]) (tg := .name 4) (wp := [4]) (b := fun σ => exec P.xs (cl P (k + 3) [0, 1, 3]) (wrapped_0 x) σ) (rngItems 0 many.toNat 1)
    (fun i σ => ∃ (t' : Itm) (p' : W) (nms' : List (List Char)), σ = [some p', some (nmW nms'), some t'.w, some (.int many), none] ∧ t'.good ∧ t'.dep = t.dep + i ∧ t'.cnt = t.cnt + i ∧ (t.isPrt → t'.isPrt) ∧ DS (N + 30 * i) (L + i) p' nms')
    (fun i it σ ei ⟨t', p', nms', e0, q1, q2, q3, q4, q5⟩ => by
      obtain ⟨hi, rfl⟩ := rng_at ei
      subst e0
      obtain ⟨s, p2, hs, h2, e2⟩ := name_d (k := k) F q5 (by omega) (by omega)
      have z0 := q5.z
      refine ⟨[some p', some (nmW nms'), some t'.w, some (.int many), some (.int (0 + (i : Int) * 1))], by simp [PV.take], [some p2, some (nmW (nms' ++ [s])), some (Itm.prt s [] [t']).w, some (.int many), some (.int (0 + (i : Int) * 1))], .inl ?_, .prt s [] [t'], p2, nms' ++ [s], by simp [PV.wipe], ⟨hs, ⟨Nat.zero_le _, fun _ h => (by cases h), List.Pairwise.nil⟩, q1, trivial⟩, ?_, ?_, fun _ => trivial, h2.mono (by omega) (by omega)⟩
      · unfold nmW at *
        simp at e2
        simp [wrapped_0, exec, ev, evT, evs, evPs, evo, evC, evI, pk_var, pk_mov, pk_cst, pk_fnv, pk_bin, pk_cmp, pk_ch2, pk_neg, pk_not, pk_and, pk_or, pk_ife, pk_tup, pk_lst, pk_ix, pk_sl, pk_call, pk_blt, pk_mut, pk_meth, pk_isin, pk_isx, pk_xfld, M.bind, M.pure, M.opt, M.fail, M.get, M.gets, PV.P.get, onE, okSet, doCall, doMut, mutW, lend, back, binOp, addW, subW, mulW, fdivW, modW, powW, cmpOp, eqW, gtW, ltW, leW, geW, isNonW, W.isNon, bifn, lenW, absW, intW, max2W, min2W, tupleW, listW, allI, datOk, W.depth, W.depths, W.dat, W.dats, W.frz, W.frzs, W.fz, W.fzs, D.w, D.ws, pyEq, pyEqs, getIx, setIx, ixn, augOp, tyAny, tyB, truth, meth, recv, recvL, recvS, start, take, setAll, mulOk, ibeq, SZv, log2_nat, fixed, rng_two, rng_one, rng_three, rng_four, rng_five, rng_six, wipe, outsFrom, fin, mkExc, frzs_strs, frzs_ints, fzs_strs, fzs_ints, seqWalk, z0, e2, Itm.w, Itm.ws]
      · simp [Itm.dep, Itm.deps, q2]; omega
      · simp [Itm.cnt, Itm.cnts, q3]; omega)
    [some p, some (nmW nms), some t.w, some (.int many), none] ⟨t, p, nms, rfl, ht, by simp, by simp, id, by simpa using h⟩
  rw [rng_n] at q2 q3 q5
  have ef : exec P.xs (cl P (k + 3) [0, 1, 3]) (wrapped_1 x) [some p, some (nmW nms), some t.w, some (.int many), none] = some (.ok (.nx [some p', some (nmW nms'), some t'.w, some (.int many), none])) :=
    for_of (σ1 := [some p, some (nmW nms), some t.w, some (.int many), none]) (xs := rngItems 0 many.toNat 1) (by simp [exec, ev, evT, evs, evPs, evo, evC, evI, pk_var, pk_mov, pk_cst, pk_fnv, pk_bin, pk_cmp, pk_ch2, pk_neg, pk_not, pk_and, pk_or, pk_ife, pk_tup, pk_lst, pk_ix, pk_sl, pk_call, pk_blt, pk_mut, pk_meth, pk_isin, pk_isx, pk_xfld, M.bind, M.pure, M.opt, M.fail, M.get, M.gets, PV.P.get, onE, okSet, doCall, doMut, mutW, lend, back, binOp, addW, subW, mulW, fdivW, modW, powW, cmpOp, eqW, gtW, ltW, leW, geW, isNonW, W.isNon, bifn, lenW, absW, intW, max2W, min2W, tupleW, listW, allI, datOk, W.depth, W.depths, W.dat, W.dats, W.frz, W.frzs, W.fz, W.fzs, D.w, D.ws, pyEq, pyEqs, getIx, setIx, ixn, augOp, tyAny, tyB, truth, meth, recv, recvL, recvS, start, take, setAll, mulOk, ibeq, SZv, log2_nat, fixed, rng_two, rng_one, rng_three, rng_four, rng_five, rng_six, wipe, outsFrom, fin, mkExc, frzs_strs, frzs_ints, fzs_strs, fzs_ints, seqWalk, rng0 h0 (by omega)]) e
  refine ⟨t', p', nms', q1, q2, q3, q4, q5, ?_⟩
  have hfx : fixed 4 [2] = [0, 1, 3] := by decide
  rw [call_eq hf rfl]
  simp only [wrappedFn, hfx]
  simp [exec, ev, evT, evs, evPs, evo, evC, evI, pk_var, pk_mov, pk_cst, pk_fnv, pk_bin, pk_cmp, pk_ch2, pk_neg, pk_not, pk_and, pk_or, pk_ife, pk_tup, pk_lst, pk_ix, pk_sl, pk_call, pk_blt, pk_mut, pk_meth, pk_isin, pk_isx, pk_xfld, M.bind, M.pure, M.opt, M.fail, M.get, M.gets, PV.P.get, onE, okSet, doCall, doMut, mutW, lend, back, binOp, addW, subW, mulW, fdivW, modW, powW, cmpOp, eqW, gtW, ltW, leW, geW, isNonW, W.isNon, bifn, lenW, absW, intW, max2W, min2W, tupleW, listW, allI, datOk, W.depth, W.depths, W.dat, W.dats, W.frz, W.frzs, W.fz, W.fzs, D.w, D.ws, pyEq, pyEqs, getIx, setIx, ixn, augOp, tyAny, tyB, truth, meth, recv, recvL, recvS, start, take, setAll, mulOk, ibeq, SZv, log2_nat, rng_two, rng_one, rng_three, rng_four, rng_five, rng_six, wipe, outsFrom, fin, mkExc, frzs_strs, frzs_ints, fzs_strs, fzs_ints, seqWalk, ef]
/-- leaves in a comprehension -/
theorem leaves_ok {n j : Nat} {wp : List Nat} {fx : List Nat} {rest : PV.St} (F : Fns P x.toIx) (hf : P.fns[x.leaf]? = some (leafFn x)) (h : DS N L p nms) (hN : N < 900000000) (hL : L ≤ 8000000) (hn : n ≤ 100000) (hj : 2 ≤ j ∧ j < rest.length + 2) (hx : fx.contains j = false)
    (hw : ∀ a b, PV.wipe (a :: b :: rest) wp = a :: b :: rest) (hw2 : ∀ a b v, PV.wipe ((a :: b :: rest).set j v) wp = a :: b :: rest) :
    ∃ (ts : List Itm) (p' : W) (nms' : List (List Char)), ts.length = n ∧ (∀ t ∈ ts, t.good ∧ t.dep = 0 ∧ t.cnt = 1) ∧ DS (N + 31 * n) (L + n) p' nms' ∧
      compL fx (.name j) wp (evC (cl P (k + 4) fx) .none) (ev (cl P (k + 4) fx) (.call x.leaf (.cons (.var 0) (.cons (.var 1) .nil)))) (rngItems 0 n 1) [] (some p :: some (nmW nms) :: rest) = some (.ok (Itm.ws ts) (some p' :: some (nmW nms') :: rest)) := by
  obtain ⟨acc, σ', e, ts, p', nms', q0, q1, q2, q3, q4⟩ := comp_ind (fx := fx) (tg := .name j) (wp := wp) (c := evC (cl P (k + 4) fx) .none) (e := ev (cl P (k + 4) fx) (.call x.leaf (.cons (.var 0) (.cons (.var 1) .nil)))) (rngItems 0 n 1)
    (fun i acc σ => ∃ (ts : List Itm) (p' : W) (nms' : List (List Char)), σ = some p' :: some (nmW nms') :: rest ∧ acc = Itm.ws ts ∧ ts.length = i ∧ (∀ t ∈ ts, t.good ∧ t.dep = 0 ∧ t.cnt = 1) ∧ DS (N + 31 * i) (L + i) p' nms')
    (fun i it acc σ ei ⟨ts, p', nms', e0, e1, q1, q2, q3⟩ => by
      obtain ⟨hi, rfl⟩ := rng_at ei
      subst e0 e1
      obtain ⟨t, p2, nms2, g1, g2, g3, h2, e2⟩ := leaf_ok (k := k) F hf q3 (by omega) (by omega)
      have z0 := q3.z
      have hj2 : j < (some p' :: some (nmW nms') :: rest).length := by simp; omega
      obtain ⟨m, rfl⟩ : ∃ m, j = m + 2 := ⟨j - 2, by omega⟩
      refine ⟨(some p' :: some (nmW nms') :: rest).set (m + 2) (some (.int (0 + (i : Int) * 1))), by simp only [PV.take, hw]; rw [if_pos ⟨hj2, hx⟩], .inr ⟨_, t.w, (some p2 :: some (nmW nms2) :: rest).set (m + 2) (some (.int (0 + (i : Int) * 1))), by simp [evC, M.pure]; rfl, ?_, by rw [SZv, ws_len]; omega, ts ++ [t], p2, nms2, hw2 _ _ _, ?_, by simp [q1], fun u hu => ?_, h2.mono (by omega) (by omega)⟩⟩
      · unfold nmW at *
        simp [exec, ev, evT, evs, evPs, evo, evC, evI, pk_var, pk_mov, pk_cst, pk_fnv, pk_bin, pk_cmp, pk_ch2, pk_neg, pk_not, pk_and, pk_or, pk_ife, pk_tup, pk_lst, pk_ix, pk_sl, pk_call, pk_blt, pk_mut, pk_meth, pk_isin, pk_isx, pk_xfld, M.bind, M.pure, M.opt, M.fail, M.get, M.gets, PV.P.get, onE, okSet, doCall, doMut, mutW, lend, back, binOp, addW, subW, mulW, fdivW, modW, powW, cmpOp, eqW, gtW, ltW, leW, geW, isNonW, W.isNon, bifn, lenW, absW, intW, max2W, min2W, tupleW, listW, allI, datOk, W.depth, W.depths, W.dat, W.dats, W.frz, W.frzs, W.fz, W.fzs, D.w, D.ws, pyEq, pyEqs, getIx, setIx, ixn, augOp, tyAny, tyB, truth, meth, recv, recvL, recvS, start, take, setAll, mulOk, ibeq, SZv, log2_nat, fixed, rng_two, rng_one, rng_three, rng_four, rng_five, rng_six, wipe, outsFrom, fin, mkExc, frzs_strs, frzs_ints, fzs_strs, fzs_ints, seqWalk, z0, e2]
      · rw [ws_app]; rfl
      · rcases List.mem_append.mp hu with hu | hu
        · exact q2 u hu
        · rw [List.mem_singleton.mp hu]; exact ⟨g1, g2, g3⟩) [] (some p :: some (nmW nms) :: rest) ⟨[], p, nms, rfl, rfl, rfl, fun _ h => (by cases h), by simpa using h⟩
  rw [rng_n] at q2 q4
  subst q0 q1
  exact ⟨ts, p', nms', q2, q3, q4, e⟩
theorem deps0 {ts : List Itm} (h : ∀ t ∈ ts, t.good ∧ t.dep = 0 ∧ t.cnt = 1) : Itm.deps ts = 0 := Nat.le_zero.mp (deps_le.mpr fun t ht => by rw [(h t ht).2.1]; exact Nat.le_refl _)
theorem cnts1 : ∀ {ts : List Itm}, (∀ t ∈ ts, t.good ∧ t.dep = 0 ∧ t.cnt = 1) → Itm.cnts ts = ts.length
  | [], _ => rfl
  | t :: ts, h => by
    rw [Itm.cnts, cnts1 fun u hu => h u (List.mem_cons_of_mem _ hu), (h t List.mem_cons_self).2.2, List.length_cons]; omega
theorem goods1 {ts : List Itm} (h : ∀ t ∈ ts, t.good ∧ t.dep = 0 ∧ t.cnt = 1) : Itm.goods ts := goods_iff.mpr fun t ht => (h t ht).1
theorem ms0 : isMs [] := ⟨Nat.zero_le _, fun _ h => (by cases h), List.Pairwise.nil⟩
/-- what a drawn edge is like -/
structure Edg (t : Itm) : Prop where
  prt : t.isPrt
  good : t.good
  dep : t.dep ≤ 20
  cnt : t.cnt ≤ 251
theorem row_ok {s : Int} (F : Fns P x.toIx) (hl : P.fns[x.leaf]? = some (leafFn x)) (hwr : P.fns[x.wrapped]? = some (wrappedFn x)) (hf : P.fns[x.full_row]? = some (full_rowFn x)) (h : DS N L p nms) (hN : N < 800000000) (hL : L ≤ 7000000) (h0 : -1 ≤ s) (h1 : s ≤ 2) :
    ∃ (t : Itm) (p' : W) (nms' : List (List Char)), Edg t ∧ DS (N + 10000) (L + 1000) p' nms' ∧ callF P (k + 5) x.full_row [p, nmW nms, .int s] = some (.ok t.w [p', nmW nms', .int s]) := by
  obtain ⟨ts, p1, nms1, l1, l2, d1, e1⟩ := leaves_ok (k := k) (n := (12 + s).toNat) (j := 6) (wp := [5, 6]) (fx := [0, 1, 2]) (rest := [some (.int s), none, none, none, none]) F hl h (by omega) (by omega) (by omega) (by simp) (by decide) (fun _ _ => rfl) (fun _ _ _ => rfl)
  obtain ⟨kd, p2, hk, d2, e2⟩ := name_d (k := k + 1) F d1 (by omega) (by omega)
  obtain ⟨ms, p3, nms3, hm, d3, e3⟩ := marks_d (k := k) F d2 (by omega) (by omega)
  obtain ⟨v, p4, a4, b4, d4, e4⟩ := take_d (k := k + 3) (many := 5) F d3 (by omega) (by omega) (by omega)
  obtain ⟨t, p5, nms5, g1, g2, g3, g4, d5, e5⟩ := wrapped_ok (k := k) (t := .prt kd ms ts) (many := v) F hwr d4 (by omega) (by omega) ⟨hk, hm, goods1 l2⟩ (by omega) (by omega)
  have z1 := d1.z
  have z2 := d2.z
  have z3 := d3.z
  have z4 := d4.z
  have ec : ev (cl P (k + 4) [0, 1, 2]) (full_row_1 x) [some p, some (nmW nms), some (.int s), none, none, none, none] = some (.ok (.lst true (Itm.ws ts)) [some p1, some (nmW nms1), some (.int s), none, none, none, none]) :=
    comp_of (σ1 := [some p, some (nmW nms), some (.int s), none, none, none, none]) (xs := rngItems 0 (12 + s).toNat 1) (by simp [exec, ev, evT, evs, evPs, evo, evC, evI, pk_var, pk_mov, pk_cst, pk_fnv, pk_bin, pk_cmp, pk_ch2, pk_neg, pk_not, pk_and, pk_or, pk_ife, pk_tup, pk_lst, pk_ix, pk_sl, pk_call, pk_blt, pk_mut, pk_meth, pk_isin, pk_isx, pk_xfld, M.bind, M.pure, M.opt, M.fail, M.get, M.gets, PV.P.get, onE, okSet, doCall, doMut, mutW, lend, back, binOp, addW, subW, mulW, fdivW, modW, powW, cmpOp, eqW, gtW, ltW, leW, geW, isNonW, W.isNon, bifn, lenW, absW, intW, max2W, min2W, tupleW, listW, allI, datOk, W.depth, W.depths, W.dat, W.dats, W.frz, W.frzs, W.fz, W.fzs, D.w, D.ws, pyEq, pyEqs, getIx, setIx, ixn, augOp, tyAny, tyB, truth, meth, recv, recvL, recvS, start, take, setAll, mulOk, ibeq, SZv, log2_nat, fixed, rng_two, rng_one, rng_three, rng_four, rng_five, rng_six, wipe, outsFrom, fin, mkExc, frzs_strs, frzs_ints, fzs_strs, fzs_ints, seqWalk, rng0 (j := 12 + s) (by omega) (by omega)]) e1
  have ep := pk_ev rfl ec
  have hdep : (Itm.prt kd ms ts).dep = 1 := by simp [Itm.dep, deps0 l2]
  have hcnt : (Itm.prt kd ms ts).cnt = 1 + ts.length := by simp [Itm.cnt, cnts1 l2]
  refine ⟨t, p5, nms5, ⟨g4 trivial, g1, by omega, by omega⟩, d5.mono (by omega) (by omega), ?_⟩
  rw [call_eq hf rfl]
  unfold nmW at *
  simp [Itm.w] at e2 e3 e5
  simp [full_rowFn, exec, ev, evT, evs, evPs, evo, evC, evI, pk_var, pk_mov, pk_cst, pk_fnv, pk_bin, pk_cmp, pk_ch2, pk_neg, pk_not, pk_and, pk_or, pk_ife, pk_tup, pk_lst, pk_ix, pk_sl, pk_call, pk_blt, pk_mut, pk_meth, pk_isin, pk_isx, pk_xfld, M.bind, M.pure, M.opt, M.fail, M.get, M.gets, PV.P.get, onE, okSet, doCall, doMut, mutW, lend, back, binOp, addW, subW, mulW, fdivW, modW, powW, cmpOp, eqW, gtW, ltW, leW, geW, isNonW, W.isNon, bifn, lenW, absW, intW, max2W, min2W, tupleW, listW, allI, datOk, W.depth, W.depths, W.dat, W.dats, W.frz, W.frzs, W.fz, W.fzs, D.w, D.ws, pyEq, pyEqs, getIx, setIx, ixn, augOp, tyAny, tyB, truth, meth, recv, recvL, recvS, start, take, setAll, mulOk, ibeq, SZv, log2_nat, fixed, rng_two, rng_one, rng_three, rng_four, rng_five, rng_six, wipe, outsFrom, fin, mkExc, frzs_strs, frzs_ints, fzs_strs, fzs_ints, seqWalk, ep, e2, e3, e4, e5, z1, z2, z3, z4]
theorem cnts_max {c : Nat} : ∀ {ts : List Itm}, (∀ t ∈ ts, t.cnt ≤ c) → Itm.cnts ts ≤ ts.length * c
  | [], _ => Nat.zero_le _
  | t :: ts, h => by
    have h1 := h t List.mem_cons_self
    have h2 := cnts_max (ts := ts) fun u hu => h u (List.mem_cons_of_mem _ hu)
    rw [Itm.cnts, List.length_cons, Nat.add_mul]
    omega
theorem cnts_len : ∀ {ts : List Itm}, ts.length ≤ Itm.cnts ts
  | [] => Nat.le_refl _
  | t :: ts => by
    have h1 := cnt_pos (t := t)
    have h2 := cnts_len (ts := ts)
    rw [Itm.cnts, List.length_cons]
    omega
/-- what a row of drawn items is like -/
def Rws (d c : Nat) (ts : List Itm) : Prop := ∀ t ∈ ts, t.good ∧ t.dep ≤ d ∧ t.cnt ≤ c
theorem Rws.snoc {d c : Nat} {ts : List Itm} {t : Itm} (h : Rws d c ts) (h1 : t.good) (h2 : t.dep ≤ d) (h3 : t.cnt ≤ c) : Rws d c (ts ++ [t]) := fun u hu => by
  rcases List.mem_append.mp hu with hu | hu
  · exact h u hu
  · rw [List.mem_singleton.mp hu]; exact ⟨h1, h2, h3⟩
theorem Rws.edg {d c : Nat} {ts : List Itm} {kd : List Char} {ms : List (List Char)} (h : Rws d c ts) (hk : isNm kd) (hm : isMs ms) (hd : d ≤ 19) (hc : ts.length * c ≤ 250) : Edg (.prt kd ms ts) := by
  have h1 : Itm.deps ts ≤ d := deps_le.mpr fun t ht => (h t ht).2.1
  have h2 := cnts_max fun t ht => (h t ht).2.2
  refine ⟨trivial, ⟨hk, hm, goods_iff.mpr fun t ht => (h t ht).1⟩, ?_, ?_⟩
  · show 1 + Itm.deps ts ≤ 20; omega
  · show 1 + Itm.cnts ts ≤ 251; omega
theorem Rws.nil {d c : Nat} : Rws d c [] := fun _ h => (by cases h)
theorem count_ok {s : Int} (F : Fns P x.toIx) (hl : P.fns[x.leaf]? = some (leafFn x)) (hf : P.fns[x.full_count]? = some (full_countFn x)) (h : DS N L p nms) (hN : N < 800000000) (hL : L ≤ 7000000) (h0 : -1 ≤ s) (h1 : s ≤ 2) :
    ∃ (t : Itm) (p' : W) (nms' : List (List Char)), Edg t ∧ DS (N + 10000) (L + 1000) p' nms' ∧ callF P (k + 5) x.full_count [p, nmW nms, .int s] = some (.ok t.w [p', nmW nms', .int s]) := by
  obtain ⟨odd, p1, a1, b1, d1, e1⟩ := take_d (k := k + 3) (many := 5) F h (by omega) (by omega) (by omega)
  obtain ⟨σ', e, rows, p2, nms2, rfl, q1, q2, d2⟩ := for_ind (fx := [0, 1, 2]) (tg := .name 5) (wp := [5, 6, 7, 8]) (b := fun σ => exec P.xs (cl P (k + 4) [0, 1, 2]) (full_count_2 x) σ) (rngItems 0 5 1)
    (fun i σ => ∃ (rows : List Itm) (p' : W) (nms' : List (List Char)), σ = [some p', some (nmW nms'), some (.int s), some (.int odd), some (.lst true (Itm.ws rows)), none, none, none, none, none] ∧ rows.length = i ∧ Rws 1 13 rows ∧ DS (N + 1 + 1000 * i) (L + 100 * i) p' nms')
    (fun i it σ ei ⟨rows, p', nms', e0, q1, q2, q3⟩ => by
      obtain ⟨hi, rfl⟩ := rng_at ei
      subst e0
      generalize hmm : (12 : Int) - (6 - s) * (if (0 + (i : Int) * 1) = odd then 1 else 0) = many
      have hm : 0 ≤ many ∧ many ≤ 12 := by rw [← hmm]; split <;> omega
      obtain ⟨ts, p3, nms3, l1, l2, d3, e3⟩ := leaves_ok (k := k) (n := many.toNat) (j := 9) (wp := [8, 9]) (fx := [0, 1, 2]) (rest := [some (.int s), some (.int odd), some (.lst true (Itm.ws rows)), some (.int (0 + (i : Int) * 1)), some (.int many), none, none, none]) F hl q3 (by omega) (by omega) (by omega) (by simp) (by decide) (fun _ _ => rfl) (fun _ _ _ => rfl)
      obtain ⟨kd, p4, hk, d4, e4⟩ := name_d (k := k + 1) F d3 (by omega) (by omega)
      have z3 := d3.z
      have z4 := d4.z
      have ec : ev (cl P (k + 4) [0, 1, 2]) (full_count_1 x) [some p', some (nmW nms'), some (.int s), some (.int odd), some (.lst true (Itm.ws rows)), some (.int (0 + (i : Int) * 1)), some (.int many), none, none, none] = some (.ok (.lst true (Itm.ws ts)) [some p3, some (nmW nms3), some (.int s), some (.int odd), some (.lst true (Itm.ws rows)), some (.int (0 + (i : Int) * 1)), some (.int many), none, none, none]) :=
        comp_of (σ1 := [some p', some (nmW nms'), some (.int s), some (.int odd), some (.lst true (Itm.ws rows)), some (.int (0 + (i : Int) * 1)), some (.int many), none, none, none]) (xs := rngItems 0 many.toNat 1) (by simp [exec, ev, evT, evs, evPs, evo, evC, evI, pk_var, pk_mov, pk_cst, pk_fnv, pk_bin, pk_cmp, pk_ch2, pk_neg, pk_not, pk_and, pk_or, pk_ife, pk_tup, pk_lst, pk_ix, pk_sl, pk_call, pk_blt, pk_mut, pk_meth, pk_isin, pk_isx, pk_xfld, M.bind, M.pure, M.opt, M.fail, M.get, M.gets, PV.P.get, onE, okSet, doCall, doMut, mutW, lend, back, binOp, addW, subW, mulW, fdivW, modW, powW, cmpOp, eqW, gtW, ltW, leW, geW, isNonW, W.isNon, bifn, lenW, absW, intW, max2W, min2W, tupleW, listW, allI, datOk, W.depth, W.depths, W.dat, W.dats, W.frz, W.frzs, W.fz, W.fzs, D.w, D.ws, pyEq, pyEqs, getIx, setIx, ixn, augOp, tyAny, tyB, truth, meth, recv, recvL, recvS, start, take, setAll, mulOk, ibeq, SZv, log2_nat, fixed, rng_two, rng_one, rng_three, rng_four, rng_five, rng_six, wipe, outsFrom, fin, mkExc, frzs_strs, frzs_ints, fzs_strs, fzs_ints, seqWalk, rng0 (j := many) (by omega) (by omega)]) e3
      have ep := pk_ev rfl ec
      refine ⟨[some p', some (nmW nms'), some (.int s), some (.int odd), some (.lst true (Itm.ws rows)), some (.int (0 + (i : Int) * 1)), none, none, none, none], by simp [PV.take], [some p4, some (nmW (nms3 ++ [kd])), some (.int s), some (.int odd), some (.lst true (Itm.ws (rows ++ [.prt kd [] ts]))), some (.int (0 + (i : Int) * 1)), some (.int many), some (.tup (Itm.ws ts)), none, none], .inl ?_, rows ++ [.prt kd [] ts], p4, nms3 ++ [kd], by simp [PV.wipe], by simp [q1], q2.snoc (t := .prt kd [] ts) ⟨hk, ms0, goods1 l2⟩ ?_ ?_, d4.mono (by omega) (by omega)⟩
      · have m1 : (6 - s).natAbs < 18446744073709551616 := by omega
        have hr : rows.length < 16777216 := by omega
        unfold nmW at *
        simp at e4
        rw [ws_app]
        by_cases hio : (i : Int) = odd
        · simp [hio] at hmm ep
          simp [full_count_2, exec, ev, evT, evs, evPs, evo, evC, evI, pk_var, pk_mov, pk_cst, pk_fnv, pk_bin, pk_cmp, pk_ch2, pk_neg, pk_not, pk_and, pk_or, pk_ife, pk_tup, pk_lst, pk_ix, pk_sl, pk_call, pk_blt, pk_mut, pk_meth, pk_isin, pk_isx, pk_xfld, M.bind, M.pure, M.opt, M.fail, M.get, M.gets, PV.P.get, onE, okSet, doCall, doMut, mutW, lend, back, binOp, addW, subW, mulW, fdivW, modW, powW, cmpOp, eqW, gtW, ltW, leW, geW, isNonW, W.isNon, bifn, lenW, absW, intW, max2W, min2W, tupleW, listW, allI, datOk, W.depth, W.depths, W.dat, W.dats, W.frz, W.frzs, W.fz, W.fzs, D.w, D.ws, pyEq, pyEqs, getIx, setIx, ixn, augOp, tyAny, tyB, truth, meth, recv, recvL, recvS, start, take, setAll, mulOk, ibeq, SZv, log2_nat, fixed, rng_two, rng_one, rng_three, rng_four, rng_five, rng_six, wipe, outsFrom, fin, mkExc, frzs_strs, frzs_ints, fzs_strs, fzs_ints, seqWalk, z3, z4, ep, e4, m1, hio, hmm, Itm.ws, Itm.w, ws_len, hr]
        · simp [hio] at hmm ep
          simp [full_count_2, exec, ev, evT, evs, evPs, evo, evC, evI, pk_var, pk_mov, pk_cst, pk_fnv, pk_bin, pk_cmp, pk_ch2, pk_neg, pk_not, pk_and, pk_or, pk_ife, pk_tup, pk_lst, pk_ix, pk_sl, pk_call, pk_blt, pk_mut, pk_meth, pk_isin, pk_isx, pk_xfld, M.bind, M.pure, M.opt, M.fail, M.get, M.gets, PV.P.get, onE, okSet, doCall, doMut, mutW, lend, back, binOp, addW, subW, mulW, fdivW, modW, powW, cmpOp, eqW, gtW, ltW, leW, geW, isNonW, W.isNon, bifn, lenW, absW, intW, max2W, min2W, tupleW, listW, allI, datOk, W.depth, W.depths, W.dat, W.dats, W.frz, W.frzs, W.fz, W.fzs, D.w, D.ws, pyEq, pyEqs, getIx, setIx, ixn, augOp, tyAny, tyB, truth, meth, recv, recvL, recvS, start, take, setAll, mulOk, ibeq, SZv, log2_nat, fixed, rng_two, rng_one, rng_three, rng_four, rng_five, rng_six, wipe, outsFrom, fin, mkExc, frzs_strs, frzs_ints, fzs_strs, fzs_ints, seqWalk, z3, z4, ep, e4, m1, hio, hmm, Itm.ws, Itm.w, ws_len, hr]
      · show 1 + Itm.deps ts ≤ 1; rw [deps0 l2]; omega
      · show 1 + Itm.cnts ts ≤ 13; rw [cnts1 l2]; omega)
    [some p1, some (nmW nms), some (.int s), some (.int odd), some (.lst true []), none, none, none, none, none] ⟨[], p1, nms, rfl, rfl, .nil, by simpa using d1⟩
  rw [rng_n] at q1 d2
  obtain ⟨kd, p3, hk, d3, e3⟩ := name_d (k := k + 1) F d2 (by omega) (by omega)
  have z0 := h.z
  have z1 := d1.z
  have z2 := d2.z
  have z3 := d3.z
  have hr := rng0i (n := 5) (by omega)
  have ef : exec P.xs (cl P (k + 4) [0, 1, 2]) (full_count_3 x) [some p1, some (nmW nms), some (.int s), some (.int odd), some (.lst true []), none, none, none, none, none] = _ :=
    for_of (σ1 := [some p1, some (nmW nms), some (.int s), some (.int odd), some (.lst true []), none, none, none, none, none]) (xs := rngItems 0 5 1) (by simp at hr; simp [exec, ev, evT, evs, evPs, evo, evC, evI, pk_var, pk_mov, pk_cst, pk_fnv, pk_bin, pk_cmp, pk_ch2, pk_neg, pk_not, pk_and, pk_or, pk_ife, pk_tup, pk_lst, pk_ix, pk_sl, pk_call, pk_blt, pk_mut, pk_meth, pk_isin, pk_isx, pk_xfld, M.bind, M.pure, M.opt, M.fail, M.get, M.gets, PV.P.get, onE, okSet, doCall, doMut, mutW, lend, back, binOp, addW, subW, mulW, fdivW, modW, powW, cmpOp, eqW, gtW, ltW, leW, geW, isNonW, W.isNon, bifn, lenW, absW, intW, max2W, min2W, tupleW, listW, allI, datOk, W.depth, W.depths, W.dat, W.dats, W.frz, W.frzs, W.fz, W.fzs, D.w, D.ws, pyEq, pyEqs, getIx, setIx, ixn, augOp, tyAny, tyB, truth, meth, recv, recvL, recvS, start, take, setAll, mulOk, ibeq, SZv, log2_nat, fixed, rng_two, rng_one, rng_three, rng_four, rng_five, rng_six, wipe, outsFrom, fin, mkExc, frzs_strs, frzs_ints, fzs_strs, fzs_ints, seqWalk, hr]) e
  refine ⟨.prt kd [] rows, p3, nms2 ++ [kd], q2.edg hk ms0 (by omega) (by omega), d3.mono (by omega) (by omega), ?_⟩
  rw [call_eq hf rfl]
  unfold nmW at *
  simp at e3
  simp [full_countFn, exec, ev, evT, evs, evPs, evo, evC, evI, pk_var, pk_mov, pk_cst, pk_fnv, pk_bin, pk_cmp, pk_ch2, pk_neg, pk_not, pk_and, pk_or, pk_ife, pk_tup, pk_lst, pk_ix, pk_sl, pk_call, pk_blt, pk_mut, pk_meth, pk_isin, pk_isx, pk_xfld, M.bind, M.pure, M.opt, M.fail, M.get, M.gets, PV.P.get, onE, okSet, doCall, doMut, mutW, lend, back, binOp, addW, subW, mulW, fdivW, modW, powW, cmpOp, eqW, gtW, ltW, leW, geW, isNonW, W.isNon, bifn, lenW, absW, intW, max2W, min2W, tupleW, listW, allI, datOk, W.depth, W.depths, W.dat, W.dats, W.frz, W.frzs, W.fz, W.fzs, D.w, D.ws, pyEq, pyEqs, getIx, setIx, ixn, augOp, tyAny, tyB, truth, meth, recv, recvL, recvS, start, take, setAll, mulOk, ibeq, SZv, log2_nat, fixed, rng_two, rng_one, rng_three, rng_four, rng_five, rng_six, wipe, outsFrom, fin, mkExc, frzs_strs, frzs_ints, fzs_strs, fzs_ints, seqWalk, z0, z1, z2, z3, e1, ef, e3, Itm.w]
theorem prose7_ok {s : Int} (F : Fns P x.toIx) (hwr : P.fns[x.wrapped]? = some (wrappedFn x)) (hf : P.fns[x.full_prose]? = some (full_proseFn x)) (h : DS N L p nms) (hN : N < 800000000) (hL : L ≤ 7000000) (h0 : -1 ≤ s) (h1 : s ≤ 2) :
    ∃ (t : Itm) (p' : W) (nms' : List (List Char)), Edg t ∧ DS (N + 10000) (L + 1000) p' nms' ∧ callF P (k + 5) x.full_prose [p, nmW nms, .int s] = some (.ok t.w [p', nmW nms', .int s]) := by
  obtain ⟨odd, p1, a1, b1, d1, e1⟩ := take_d (k := k + 3) (many := 7) F h (by omega) (by omega) (by omega)
  obtain ⟨twins, p2, a2, b2, d2, e2⟩ := take_d (k := k + 3) (many := 2) F d1 (by omega) (by omega) (by omega)
  obtain ⟨same, p3, l3, c3, d3, e3⟩ := prose_d (k := k + 2) (many := 60) F d2 (by omega) (by omega) (by omega)
  obtain ⟨σ', e, rows, p4, nms4, rfl, q1, q2, d4⟩ := for_ind (fx := [0, 1, 2]) (tg := .name 7) (wp := [7, 8]) (b := fun σ => exec P.xs (cl P (k + 4) [0, 1, 2]) (full_prose_0 x) σ) (rngItems 0 7 1)
    (fun i σ => ∃ (rows : List Itm) (p' : W) (nms' : List (List Char)), σ = [some p', some (nmW nms'), some (.int s), some (.int odd), some (.int twins), some (.str same), some (.lst true (Itm.ws rows)), none, none] ∧ rows.length = i ∧ Rws 2 3 rows ∧ DS (N + 100 + 1000 * i) (L + 100 * i) p' nms')
    (fun i it σ ei ⟨rows, p', nms', e0, q1, q2, q3⟩ => by
      obtain ⟨hi, rfl⟩ := rng_at ei
      subst e0
      have z0 := q3.z
      have hr : rows.length < 16777216 := by omega
      generalize hmm : (60 : Int) - (20 - s) * (if (i : Int) = odd then 1 else 0) = many
      have hm : 1 ≤ many ∧ many ≤ 60 := by rw [← hmm]; split <;> omega
      have m1 : (20 - s).natAbs < 18446744073709551616 := by omega
      by_cases hc : (i : Int) = odd ∨ twins = 0
      · obtain ⟨t, p5, l5, c5, d5, e5⟩ := prose_d (k := k + 2) (many := many) F q3 (by omega) (by omega) (by omega)
        obtain ⟨v, p6, a6, b6, d6, e6⟩ := take_d (k := k + 3) (many := 3) F d5 (by omega) (by omega) (by omega)
        obtain ⟨u, p7, nms7, g1, g2, g3, g4, d7, e7⟩ := wrapped_ok (k := k) (t := .txt t) (many := v) F hwr d6 (by omega) (by omega) ⟨by omega, by omega, c5⟩ (by omega) (by omega)
        have z5 := d5.z
        have z6 := d6.z
        refine ⟨[some p', some (nmW nms'), some (.int s), some (.int odd), some (.int twins), some (.str same), some (.lst true (Itm.ws rows)), some (.int (0 + (i : Int) * 1)), none], by simp [PV.take], [some p7, some (nmW nms7), some (.int s), some (.int odd), some (.int twins), some (.str same), some (.lst true (Itm.ws (rows ++ [u]))), some (.int (0 + (i : Int) * 1)), some (.str t)], .inl ?_, rows ++ [u], p7, nms7, by simp [PV.wipe], by simp [q1], q2.snoc g1 ?_ ?_, d7.mono (by omega) (by omega)⟩
        · unfold nmW at *
          simp [Itm.w] at e7
          rw [ws_app]
          by_cases hio : (i : Int) = odd
          · simp [hio] at hmm
            simp [full_prose_0, exec, ev, evT, evs, evPs, evo, evC, evI, pk_var, pk_mov, pk_cst, pk_fnv, pk_bin, pk_cmp, pk_ch2, pk_neg, pk_not, pk_and, pk_or, pk_ife, pk_tup, pk_lst, pk_ix, pk_sl, pk_call, pk_blt, pk_mut, pk_meth, pk_isin, pk_isx, pk_xfld, M.bind, M.pure, M.opt, M.fail, M.get, M.gets, PV.P.get, onE, okSet, doCall, doMut, mutW, lend, back, binOp, addW, subW, mulW, fdivW, modW, powW, cmpOp, eqW, gtW, ltW, leW, geW, isNonW, W.isNon, bifn, lenW, absW, intW, max2W, min2W, tupleW, listW, allI, datOk, W.depth, W.depths, W.dat, W.dats, W.frz, W.frzs, W.fz, W.fzs, D.w, D.ws, pyEq, pyEqs, getIx, setIx, ixn, augOp, tyAny, tyB, truth, meth, recv, recvL, recvS, start, take, setAll, mulOk, ibeq, SZv, log2_nat, fixed, rng_two, rng_one, rng_three, rng_four, rng_five, rng_six, wipe, outsFrom, fin, mkExc, frzs_strs, frzs_ints, fzs_strs, fzs_ints, seqWalk, z0, z5, z6, e5, e6, e7, m1, hio, hmm, Itm.ws, ws_len, hr]
          · have ht : twins = 0 := hc.resolve_left hio
            subst ht
            simp [hio] at hmm
            subst hmm
            simp [full_prose_0, exec, ev, evT, evs, evPs, evo, evC, evI, pk_var, pk_mov, pk_cst, pk_fnv, pk_bin, pk_cmp, pk_ch2, pk_neg, pk_not, pk_and, pk_or, pk_ife, pk_tup, pk_lst, pk_ix, pk_sl, pk_call, pk_blt, pk_mut, pk_meth, pk_isin, pk_isx, pk_xfld, M.bind, M.pure, M.opt, M.fail, M.get, M.gets, PV.P.get, onE, okSet, doCall, doMut, mutW, lend, back, binOp, addW, subW, mulW, fdivW, modW, powW, cmpOp, eqW, gtW, ltW, leW, geW, isNonW, W.isNon, bifn, lenW, absW, intW, max2W, min2W, tupleW, listW, allI, datOk, W.depth, W.depths, W.dat, W.dats, W.frz, W.frzs, W.fz, W.fzs, D.w, D.ws, pyEq, pyEqs, getIx, setIx, ixn, augOp, tyAny, tyB, truth, meth, recv, recvL, recvS, start, take, setAll, mulOk, ibeq, SZv, log2_nat, fixed, rng_two, rng_one, rng_three, rng_four, rng_five, rng_six, wipe, outsFrom, fin, mkExc, frzs_strs, frzs_ints, fzs_strs, fzs_ints, seqWalk, z0, z5, z6, e5, e6, e7, m1, hio, Itm.ws, ws_len, hr]
        · rw [g2]; simp [Itm.dep]; omega
        · rw [g3]; simp [Itm.cnt]; omega
      · obtain ⟨v, p6, a6, b6, d6, e6⟩ := take_d (k := k + 3) (many := 3) F q3 (by omega) (by omega) (by omega)
        obtain ⟨u, p7, nms7, g1, g2, g3, g4, d7, e7⟩ := wrapped_ok (k := k) (t := .txt same) (many := v) F hwr d6 (by omega) (by omega) ⟨by omega, by omega, c3⟩ (by omega) (by omega)
        have z6 := d6.z
        refine ⟨[some p', some (nmW nms'), some (.int s), some (.int odd), some (.int twins), some (.str same), some (.lst true (Itm.ws rows)), some (.int (0 + (i : Int) * 1)), none], by simp [PV.take], [some p7, some (nmW nms7), some (.int s), some (.int odd), some (.int twins), some (.str same), some (.lst true (Itm.ws (rows ++ [u]))), some (.int (0 + (i : Int) * 1)), some (.str same)], .inl ?_, rows ++ [u], p7, nms7, by simp [PV.wipe], by simp [q1], q2.snoc g1 ?_ ?_, d7.mono (by omega) (by omega)⟩
        · unfold nmW at *
          simp [Itm.w] at e7
          rw [ws_app]
          have h1 : ¬ ((i : Int) = odd) := fun z => hc (.inl z)
          have h2 : ¬ (twins = 0) := fun z => hc (.inr z)
          simp [full_prose_0, exec, ev, evT, evs, evPs, evo, evC, evI, pk_var, pk_mov, pk_cst, pk_fnv, pk_bin, pk_cmp, pk_ch2, pk_neg, pk_not, pk_and, pk_or, pk_ife, pk_tup, pk_lst, pk_ix, pk_sl, pk_call, pk_blt, pk_mut, pk_meth, pk_isin, pk_isx, pk_xfld, M.bind, M.pure, M.opt, M.fail, M.get, M.gets, PV.P.get, onE, okSet, doCall, doMut, mutW, lend, back, binOp, addW, subW, mulW, fdivW, modW, powW, cmpOp, eqW, gtW, ltW, leW, geW, isNonW, W.isNon, bifn, lenW, absW, intW, max2W, min2W, tupleW, listW, allI, datOk, W.depth, W.depths, W.dat, W.dats, W.frz, W.frzs, W.fz, W.fzs, D.w, D.ws, pyEq, pyEqs, getIx, setIx, ixn, augOp, tyAny, tyB, truth, meth, recv, recvL, recvS, start, take, setAll, mulOk, ibeq, SZv, log2_nat, fixed, rng_two, rng_one, rng_three, rng_four, rng_five, rng_six, wipe, outsFrom, fin, mkExc, frzs_strs, frzs_ints, fzs_strs, fzs_ints, seqWalk, z0, z6, e6, e7, h1, h2, Itm.ws, ws_len, hr]
        · rw [g2]; simp [Itm.dep]; omega
        · rw [g3]; simp [Itm.cnt]; omega)
    [some p3, some (nmW nms), some (.int s), some (.int odd), some (.int twins), some (.str same), some (.lst true []), none, none] ⟨[], p3, nms, rfl, rfl, .nil, d3.mono (by omega) (by omega)⟩
  rw [rng_n] at q1 d4
  obtain ⟨kd, p5, hk, d5, e5⟩ := name_d (k := k + 1) F d4 (by omega) (by omega)
  have z0 := h.z
  have z1 := d1.z
  have z2 := d2.z
  have z3 := d3.z
  have z4 := d4.z
  have hr := rng0i (n := 7) (by omega)
  have ef : exec P.xs (cl P (k + 4) [0, 1, 2]) (full_prose_1 x) [some p3, some (nmW nms), some (.int s), some (.int odd), some (.int twins), some (.str same), some (.lst true []), none, none] = _ :=
    for_of (σ1 := [some p3, some (nmW nms), some (.int s), some (.int odd), some (.int twins), some (.str same), some (.lst true []), none, none]) (xs := rngItems 0 7 1) (by simp at hr; simp [exec, ev, evT, evs, evPs, evo, evC, evI, pk_var, pk_mov, pk_cst, pk_fnv, pk_bin, pk_cmp, pk_ch2, pk_neg, pk_not, pk_and, pk_or, pk_ife, pk_tup, pk_lst, pk_ix, pk_sl, pk_call, pk_blt, pk_mut, pk_meth, pk_isin, pk_isx, pk_xfld, M.bind, M.pure, M.opt, M.fail, M.get, M.gets, PV.P.get, onE, okSet, doCall, doMut, mutW, lend, back, binOp, addW, subW, mulW, fdivW, modW, powW, cmpOp, eqW, gtW, ltW, leW, geW, isNonW, W.isNon, bifn, lenW, absW, intW, max2W, min2W, tupleW, listW, allI, datOk, W.depth, W.depths, W.dat, W.dats, W.frz, W.frzs, W.fz, W.fzs, D.w, D.ws, pyEq, pyEqs, getIx, setIx, ixn, augOp, tyAny, tyB, truth, meth, recv, recvL, recvS, start, take, setAll, mulOk, ibeq, SZv, log2_nat, fixed, rng_two, rng_one, rng_three, rng_four, rng_five, rng_six, wipe, outsFrom, fin, mkExc, frzs_strs, frzs_ints, fzs_strs, fzs_ints, seqWalk, hr]) e
  refine ⟨.prt kd [] rows, p5, nms4 ++ [kd], q2.edg hk ms0 (by omega) (by omega), d5.mono (by omega) (by omega), ?_⟩
  rw [call_eq hf rfl]
  unfold nmW at *
  simp at e5
  simp [full_proseFn, exec, ev, evT, evs, evPs, evo, evC, evI, pk_var, pk_mov, pk_cst, pk_fnv, pk_bin, pk_cmp, pk_ch2, pk_neg, pk_not, pk_and, pk_or, pk_ife, pk_tup, pk_lst, pk_ix, pk_sl, pk_call, pk_blt, pk_mut, pk_meth, pk_isin, pk_isx, pk_xfld, M.bind, M.pure, M.opt, M.fail, M.get, M.gets, PV.P.get, onE, okSet, doCall, doMut, mutW, lend, back, binOp, addW, subW, mulW, fdivW, modW, powW, cmpOp, eqW, gtW, ltW, leW, geW, isNonW, W.isNon, bifn, lenW, absW, intW, max2W, min2W, tupleW, listW, allI, datOk, W.depth, W.depths, W.dat, W.dats, W.frz, W.frzs, W.fz, W.fzs, D.w, D.ws, pyEq, pyEqs, getIx, setIx, ixn, augOp, tyAny, tyB, truth, meth, recv, recvL, recvS, start, take, setAll, mulOk, ibeq, SZv, log2_nat, fixed, rng_two, rng_one, rng_three, rng_four, rng_five, rng_six, wipe, outsFrom, fin, mkExc, frzs_strs, frzs_ints, fzs_strs, fzs_ints, seqWalk, z0, z1, z2, z3, z4, e1, e2, e3, ef, e5, Itm.w]
theorem depth_ok {s : Int} (F : Fns P x.toIx) (hl : P.fns[x.leaf]? = some (leafFn x)) (hf : P.fns[x.full_depth]? = some (full_depthFn x)) (h : DS N L p nms) (hN : N < 800000000) (hL : L ≤ 7000000) (h0 : -1 ≤ s) (h1 : s ≤ 2) :
    ∃ (t : Itm) (p' : W) (nms' : List (List Char)), Edg t ∧ DS (N + 10000) (L + 1000) p' nms' ∧ callF P (k + 5) x.full_depth [p, nmW nms, .int s] = some (.ok t.w [p', nmW nms', .int s]) := by
  obtain ⟨kd, p1, hk, d1, e1⟩ := name_d (k := k + 1) F h (by omega) (by omega)
  obtain ⟨ms, p2, nms2, hm, d2, e2⟩ := marks_d (k := k) F d1 (by omega) (by omega)
  obtain ⟨v, p3, a3, b3, d3, e3⟩ := take_d (k := k + 3) (many := 2) F d2 (by omega) (by omega) (by omega)
  obtain ⟨lf, p4, nms4, g1, g2, g3, d4, e4⟩ := leaf_ok (k := k) F hl d3 (by omega) (by omega)
  have z0 := h.z
  have z1 := d1.z
  have z2 := d2.z
  have z3 := d3.z
  have hst : ∃ (t0 : Itm) (p5 : W) (nms5 : List (List Char)), t0.isPrt ∧ t0.good ∧ t0.dep = 1 ∧ t0.cnt ≤ 2 ∧ DS (N + 200) (L + 10) p5 nms5 ∧ (v = 0 → p5 = p4 ∧ nms5 = nms4 ∧ t0 = .prt kd ms [lf]) ∧ (v ≠ 0 → p5 = p3 ∧ nms5 = nms2 ∧ t0 = .prt kd ms []) := by
    by_cases hv : v = 0
    · exact ⟨.prt kd ms [lf], p4, nms4, trivial, ⟨hk, hm, g1, trivial⟩, by simp [Itm.dep, Itm.deps, g2], by simp [Itm.cnt, Itm.cnts, g3], d4.mono (by omega) (by omega), fun _ => ⟨rfl, rfl, rfl⟩, fun z => absurd hv z⟩
    · exact ⟨.prt kd ms [], p3, nms2, trivial, ⟨hk, hm, trivial⟩, by simp [Itm.dep, Itm.deps], by simp [Itm.cnt, Itm.cnts], d3.mono (by omega) (by omega), fun z => absurd z hv, fun _ => ⟨rfl, rfl, rfl⟩⟩
  obtain ⟨t0, p5, nms5, t1, t2, t3, t4, d5, c1, c2⟩ := hst
  obtain ⟨σ', e, t, p6, nms6, rfl, q0, q1, q2, q3, d6⟩ := for_ind (fx := [0, 1, 2]) (tg := .name 4) (wp := [4, 5]) (b := fun σ => exec P.xs (cl P (k + 4) [0, 1, 2]) (full_depth_0 x) σ) (rngItems 0 (5 + s).toNat 1)
    (fun i σ => ∃ (t : Itm) (p' : W) (nms' : List (List Char)), σ = [some p', some (nmW nms'), some (.int s), some t.w, none, none] ∧ t.isPrt ∧ t.good ∧ t.dep = 1 + i ∧ t.cnt ≤ 2 + 2 * i ∧ DS (N + 200 + 200 * i) (L + 10 + 10 * i) p' nms')
    (fun i it σ ei ⟨t, p', nms', e0, q0, q1, q2, q3, q4⟩ => by
      obtain ⟨hi, rfl⟩ := rng_at ei
      subst e0
      obtain ⟨w, p7, a7, b7, d7, e7⟩ := take_d (k := k + 3) (many := 2) F q4 (by omega) (by omega) (by omega)
      have y0 := q4.z
      have y7 := d7.z
      by_cases hw : w = 0
      · obtain ⟨lf, p8, nms8, g1, g2, g3, d8, e8⟩ := leaf_ok (k := k) F hl d7 (by omega) (by omega)
        obtain ⟨kd, p9, hk, d9, e9⟩ := name_d (k := k + 1) F d8 (by omega) (by omega)
        have y8 := d8.z
        refine ⟨[some p', some (nmW nms'), some (.int s), some t.w, some (.int (0 + (i : Int) * 1)), none], by simp [PV.take], [some p9, some (nmW (nms8 ++ [kd])), some (.int s), some (Itm.prt kd [] [lf, t]).w, some (.int (0 + (i : Int) * 1)), some (.tup [lf.w, t.w])], .inl ?_, .prt kd [] [lf, t], p9, nms8 ++ [kd], by simp [PV.wipe], trivial, ⟨hk, ms0, g1, q1, trivial⟩, ?_, ?_, d9.mono (by omega) (by omega)⟩
        · subst hw
          unfold nmW at *
          simp at e9
          simp [full_depth_0, exec, ev, evT, evs, evPs, evo, evC, evI, pk_var, pk_mov, pk_cst, pk_fnv, pk_bin, pk_cmp, pk_ch2, pk_neg, pk_not, pk_and, pk_or, pk_ife, pk_tup, pk_lst, pk_ix, pk_sl, pk_call, pk_blt, pk_mut, pk_meth, pk_isin, pk_isx, pk_xfld, M.bind, M.pure, M.opt, M.fail, M.get, M.gets, PV.P.get, onE, okSet, doCall, doMut, mutW, lend, back, binOp, addW, subW, mulW, fdivW, modW, powW, cmpOp, eqW, gtW, ltW, leW, geW, isNonW, W.isNon, bifn, lenW, absW, intW, max2W, min2W, tupleW, listW, allI, datOk, W.depth, W.depths, W.dat, W.dats, W.frz, W.frzs, W.fz, W.fzs, D.w, D.ws, pyEq, pyEqs, getIx, setIx, ixn, augOp, tyAny, tyB, truth, meth, recv, recvL, recvS, start, take, setAll, mulOk, ibeq, SZv, log2_nat, fixed, rng_two, rng_one, rng_three, rng_four, rng_five, rng_six, wipe, outsFrom, fin, mkExc, frzs_strs, frzs_ints, fzs_strs, fzs_ints, seqWalk, y0, y7, y8, e7, e8, e9, Itm.w, Itm.ws]
        · simp [Itm.dep, Itm.deps, g2, q2]; omega
        · simp [Itm.cnt, Itm.cnts, g3]; omega
      · obtain ⟨kd, p9, hk, d9, e9⟩ := name_d (k := k + 1) F d7 (by omega) (by omega)
        refine ⟨[some p', some (nmW nms'), some (.int s), some t.w, some (.int (0 + (i : Int) * 1)), none], by simp [PV.take], [some p9, some (nmW (nms' ++ [kd])), some (.int s), some (Itm.prt kd [] [t]).w, some (.int (0 + (i : Int) * 1)), some (.tup [t.w])], .inl ?_, .prt kd [] [t], p9, nms' ++ [kd], by simp [PV.wipe], trivial, ⟨hk, ms0, q1, trivial⟩, ?_, ?_, d9.mono (by omega) (by omega)⟩
        · unfold nmW at *
          simp at e9
          simp [full_depth_0, exec, ev, evT, evs, evPs, evo, evC, evI, pk_var, pk_mov, pk_cst, pk_fnv, pk_bin, pk_cmp, pk_ch2, pk_neg, pk_not, pk_and, pk_or, pk_ife, pk_tup, pk_lst, pk_ix, pk_sl, pk_call, pk_blt, pk_mut, pk_meth, pk_isin, pk_isx, pk_xfld, M.bind, M.pure, M.opt, M.fail, M.get, M.gets, PV.P.get, onE, okSet, doCall, doMut, mutW, lend, back, binOp, addW, subW, mulW, fdivW, modW, powW, cmpOp, eqW, gtW, ltW, leW, geW, isNonW, W.isNon, bifn, lenW, absW, intW, max2W, min2W, tupleW, listW, allI, datOk, W.depth, W.depths, W.dat, W.dats, W.frz, W.frzs, W.fz, W.fzs, D.w, D.ws, pyEq, pyEqs, getIx, setIx, ixn, augOp, tyAny, tyB, truth, meth, recv, recvL, recvS, start, take, setAll, mulOk, ibeq, SZv, log2_nat, fixed, rng_two, rng_one, rng_three, rng_four, rng_five, rng_six, wipe, outsFrom, fin, mkExc, frzs_strs, frzs_ints, fzs_strs, fzs_ints, seqWalk, y0, y7, e7, e9, hw, Itm.w, Itm.ws]
        · simp [Itm.dep, Itm.deps, q2]; omega
        · simp [Itm.cnt, Itm.cnts]; omega)
    [some p5, some (nmW nms5), some (.int s), some t0.w, none, none] ⟨t0, p5, nms5, rfl, t1, t2, t3, by omega, by simpa using d5⟩
  rw [rng_n] at q2 q3 d6
  have ef : exec P.xs (cl P (k + 4) [0, 1, 2]) (full_depth_1 x) [some p5, some (nmW nms5), some (.int s), some t0.w, none, none] = _ :=
    for_of (σ1 := [some p5, some (nmW nms5), some (.int s), some t0.w, none, none]) (xs := rngItems 0 (5 + s).toNat 1) (by simp [exec, ev, evT, evs, evPs, evo, evC, evI, pk_var, pk_mov, pk_cst, pk_fnv, pk_bin, pk_cmp, pk_ch2, pk_neg, pk_not, pk_and, pk_or, pk_ife, pk_tup, pk_lst, pk_ix, pk_sl, pk_call, pk_blt, pk_mut, pk_meth, pk_isin, pk_isx, pk_xfld, M.bind, M.pure, M.opt, M.fail, M.get, M.gets, PV.P.get, onE, okSet, doCall, doMut, mutW, lend, back, binOp, addW, subW, mulW, fdivW, modW, powW, cmpOp, eqW, gtW, ltW, leW, geW, isNonW, W.isNon, bifn, lenW, absW, intW, max2W, min2W, tupleW, listW, allI, datOk, W.depth, W.depths, W.dat, W.dats, W.frz, W.frzs, W.fz, W.fzs, D.w, D.ws, pyEq, pyEqs, getIx, setIx, ixn, augOp, tyAny, tyB, truth, meth, recv, recvL, recvS, start, take, setAll, mulOk, ibeq, SZv, log2_nat, fixed, rng_two, rng_one, rng_three, rng_four, rng_five, rng_six, wipe, outsFrom, fin, mkExc, frzs_strs, frzs_ints, fzs_strs, fzs_ints, seqWalk, rng0 (j := 5 + s) (by omega) (by omega)]) e
  refine ⟨t, p6, nms6, ⟨q0, q1, by omega, by omega⟩, d6.mono (by omega) (by omega), ?_⟩
  rw [call_eq hf rfl]
  unfold nmW at *
  simp at e2 e1
  by_cases hv : v = 0
  · obtain ⟨rfl, rfl, rfl⟩ := c1 hv
    subst hv
    simp [Itm.w, Itm.ws] at ef
    simp [full_depthFn, exec, ev, evT, evs, evPs, evo, evC, evI, pk_var, pk_mov, pk_cst, pk_fnv, pk_bin, pk_cmp, pk_ch2, pk_neg, pk_not, pk_and, pk_or, pk_ife, pk_tup, pk_lst, pk_ix, pk_sl, pk_call, pk_blt, pk_mut, pk_meth, pk_isin, pk_isx, pk_xfld, M.bind, M.pure, M.opt, M.fail, M.get, M.gets, PV.P.get, onE, okSet, doCall, doMut, mutW, lend, back, binOp, addW, subW, mulW, fdivW, modW, powW, cmpOp, eqW, gtW, ltW, leW, geW, isNonW, W.isNon, bifn, lenW, absW, intW, max2W, min2W, tupleW, listW, allI, datOk, W.depth, W.depths, W.dat, W.dats, W.frz, W.frzs, W.fz, W.fzs, D.w, D.ws, pyEq, pyEqs, getIx, setIx, ixn, augOp, tyAny, tyB, truth, meth, recv, recvL, recvS, start, take, setAll, mulOk, ibeq, SZv, log2_nat, fixed, rng_two, rng_one, rng_three, rng_four, rng_five, rng_six, wipe, outsFrom, fin, mkExc, frzs_strs, frzs_ints, fzs_strs, fzs_ints, seqWalk, z0, z1, z2, z3, e1, e2, e3, e4, ef]
  · obtain ⟨rfl, rfl, rfl⟩ := c2 hv
    simp [Itm.w, Itm.ws] at ef
    simp [full_depthFn, exec, ev, evT, evs, evPs, evo, evC, evI, pk_var, pk_mov, pk_cst, pk_fnv, pk_bin, pk_cmp, pk_ch2, pk_neg, pk_not, pk_and, pk_or, pk_ife, pk_tup, pk_lst, pk_ix, pk_sl, pk_call, pk_blt, pk_mut, pk_meth, pk_isin, pk_isx, pk_xfld, M.bind, M.pure, M.opt, M.fail, M.get, M.gets, PV.P.get, onE, okSet, doCall, doMut, mutW, lend, back, binOp, addW, subW, mulW, fdivW, modW, powW, cmpOp, eqW, gtW, ltW, leW, geW, isNonW, W.isNon, bifn, lenW, absW, intW, max2W, min2W, tupleW, listW, allI, datOk, W.depth, W.depths, W.dat, W.dats, W.frz, W.frzs, W.fz, W.fzs, D.w, D.ws, pyEq, pyEqs, getIx, setIx, ixn, augOp, tyAny, tyB, truth, meth, recv, recvL, recvS, start, take, setAll, mulOk, ibeq, SZv, log2_nat, fixed, rng_two, rng_one, rng_three, rng_four, rng_five, rng_six, wipe, outsFrom, fin, mkExc, frzs_strs, frzs_ints, fzs_strs, fzs_ints, seqWalk, z0, z1, z2, z3, e1, e2, e3, hv, ef]
theorem refs_ok {s : Int} (F : Fns P x.toIx) (hl : P.fns[x.leaf]? = some (leafFn x)) (hwr : P.fns[x.wrapped]? = some (wrappedFn x)) (hf : P.fns[x.full_refs]? = some (full_refsFn x)) (h : DS N L p nms) (hN : N < 800000000) (hL : L ≤ 7000000) (h0 : -1 ≤ s) (h1 : s ≤ 2) :
    ∃ (t : Itm) (p' : W) (nms' : List (List Char)), Edg t ∧ DS (N + 10000) (L + 1000) p' nms' ∧ callF P (k + 5) x.full_refs [p, nmW nms, .int s] = some (.ok t.w [p', nmW nms', .int s]) := by
  obtain ⟨σ', e, rows, p4, nms4, rfl, q1, q2, d4⟩ := for_ind (fx := [0, 1, 2]) (tg := .name 4) (wp := [4, 5]) (b := fun σ => exec P.xs (cl P (k + 4) [0, 1, 2]) (full_refs_0 x) σ) (rngItems 0 (3 + s).toNat 1)
    (fun i σ => ∃ (rows : List Itm) (p' : W) (nms' : List (List Char)), σ = [some p', some (nmW nms'), some (.int s), some (.lst true (Itm.ws rows)), none, none] ∧ rows.length = 2 * i ∧ Rws 2 3 rows ∧ DS (N + 1000 * i) (L + 100 * i) p' nms')
    (fun i it σ ei ⟨rows, p', nms', e0, q1, q2, q3⟩ => by
      obtain ⟨hi, rfl⟩ := rng_at ei
      subst e0
      obtain ⟨nm, p5, hn, d5, e5⟩ := name_d (k := k + 1) F q3 (by omega) (by omega)
      obtain ⟨v, p6, a6, b6, d6, e6⟩ := take_d (k := k + 3) (many := 3) F d5 (by omega) (by omega) (by omega)
      obtain ⟨u, p7, nms7, g1, g2, g3, g4, d7, e7⟩ := wrapped_ok (k := k) (t := .ref nm) (many := v) F hwr d6 (by omega) (by omega) hn (by omega) (by omega)
      obtain ⟨lf, p8, nms8, f1, f2, f3, d8, e8⟩ := leaf_ok (k := k) F hl d7 (by omega) (by omega)
      have z0 := q3.z
      have z5 := d5.z
      have z6 := d6.z
      have z7 := d7.z
      have hr : rows.length < 16777216 := by omega
      have hr2 : rows.length + 1 < 16777216 := by omega
      refine ⟨[some p', some (nmW nms'), some (.int s), some (.lst true (Itm.ws rows)), some (.int (0 + (i : Int) * 1)), none], by simp [PV.take], [some p8, some (nmW nms8), some (.int s), some (.lst true (Itm.ws (rows ++ [u] ++ [lf]))), some (.int (0 + (i : Int) * 1)), some (.str nm)], .inl ?_, rows ++ [u] ++ [lf], p8, nms8, by simp [PV.wipe], by simp [q1]; omega, (q2.snoc g1 ?_ ?_).snoc f1 (by omega) (by omega), d8.mono (by omega) (by omega)⟩
      · unfold nmW at *
        simp [Itm.w] at e5 e7
        rw [ws_app, ws_app]
        simp [full_refs_0, exec, ev, evT, evs, evPs, evo, evC, evI, pk_var, pk_mov, pk_cst, pk_fnv, pk_bin, pk_cmp, pk_ch2, pk_neg, pk_not, pk_and, pk_or, pk_ife, pk_tup, pk_lst, pk_ix, pk_sl, pk_call, pk_blt, pk_mut, pk_meth, pk_isin, pk_isx, pk_xfld, M.bind, M.pure, M.opt, M.fail, M.get, M.gets, PV.P.get, onE, okSet, doCall, doMut, mutW, lend, back, binOp, addW, subW, mulW, fdivW, modW, powW, cmpOp, eqW, gtW, ltW, leW, geW, isNonW, W.isNon, bifn, lenW, absW, intW, max2W, min2W, tupleW, listW, allI, datOk, W.depth, W.depths, W.dat, W.dats, W.frz, W.frzs, W.fz, W.fzs, D.w, D.ws, pyEq, pyEqs, getIx, setIx, ixn, augOp, tyAny, tyB, truth, meth, recv, recvL, recvS, start, take, setAll, mulOk, ibeq, SZv, log2_nat, fixed, rng_two, rng_one, rng_three, rng_four, rng_five, rng_six, wipe, outsFrom, fin, mkExc, frzs_strs, frzs_ints, fzs_strs, fzs_ints, seqWalk, z0, z5, z6, z7, e5, e6, e7, e8, Itm.ws, ws_len, hr, hr2]
      · rw [g2]; simp [Itm.dep]; omega
      · rw [g3]; simp [Itm.cnt]; omega)
    [some p, some (nmW nms), some (.int s), some (.lst true []), none, none] ⟨[], p, nms, rfl, rfl, .nil, h.mono (by omega) (by omega)⟩
  rw [rng_n] at q1 d4
  obtain ⟨kd, p5, hk, d5, e5⟩ := name_d (k := k + 1) F d4 (by omega) (by omega)
  have z0 := h.z
  have z4 := d4.z
  have ef : exec P.xs (cl P (k + 4) [0, 1, 2]) (full_refs_1 x) [some p, some (nmW nms), some (.int s), some (.lst true []), none, none] = _ :=
    for_of (σ1 := [some p, some (nmW nms), some (.int s), some (.lst true []), none, none]) (xs := rngItems 0 (3 + s).toNat 1) (by simp [exec, ev, evT, evs, evPs, evo, evC, evI, pk_var, pk_mov, pk_cst, pk_fnv, pk_bin, pk_cmp, pk_ch2, pk_neg, pk_not, pk_and, pk_or, pk_ife, pk_tup, pk_lst, pk_ix, pk_sl, pk_call, pk_blt, pk_mut, pk_meth, pk_isin, pk_isx, pk_xfld, M.bind, M.pure, M.opt, M.fail, M.get, M.gets, PV.P.get, onE, okSet, doCall, doMut, mutW, lend, back, binOp, addW, subW, mulW, fdivW, modW, powW, cmpOp, eqW, gtW, ltW, leW, geW, isNonW, W.isNon, bifn, lenW, absW, intW, max2W, min2W, tupleW, listW, allI, datOk, W.depth, W.depths, W.dat, W.dats, W.frz, W.frzs, W.fz, W.fzs, D.w, D.ws, pyEq, pyEqs, getIx, setIx, ixn, augOp, tyAny, tyB, truth, meth, recv, recvL, recvS, start, take, setAll, mulOk, ibeq, SZv, log2_nat, fixed, rng_two, rng_one, rng_three, rng_four, rng_five, rng_six, wipe, outsFrom, fin, mkExc, frzs_strs, frzs_ints, fzs_strs, fzs_ints, seqWalk, rng0 (j := 3 + s) (by omega) (by omega)]) e
  refine ⟨.prt kd [] rows, p5, nms4 ++ [kd], q2.edg hk ms0 (by omega) (by omega), d5.mono (by omega) (by omega), ?_⟩
  rw [call_eq hf rfl]
  unfold nmW at *
  simp at e5
  simp [full_refsFn, exec, ev, evT, evs, evPs, evo, evC, evI, pk_var, pk_mov, pk_cst, pk_fnv, pk_bin, pk_cmp, pk_ch2, pk_neg, pk_not, pk_and, pk_or, pk_ife, pk_tup, pk_lst, pk_ix, pk_sl, pk_call, pk_blt, pk_mut, pk_meth, pk_isin, pk_isx, pk_xfld, M.bind, M.pure, M.opt, M.fail, M.get, M.gets, PV.P.get, onE, okSet, doCall, doMut, mutW, lend, back, binOp, addW, subW, mulW, fdivW, modW, powW, cmpOp, eqW, gtW, ltW, leW, geW, isNonW, W.isNon, bifn, lenW, absW, intW, max2W, min2W, tupleW, listW, allI, datOk, W.depth, W.depths, W.dat, W.dats, W.frz, W.frzs, W.fz, W.fzs, D.w, D.ws, pyEq, pyEqs, getIx, setIx, ixn, augOp, tyAny, tyB, truth, meth, recv, recvL, recvS, start, take, setAll, mulOk, ibeq, SZv, log2_nat, fixed, rng_two, rng_one, rng_three, rng_four, rng_five, rng_six, wipe, outsFrom, fin, mkExc, frzs_strs, frzs_ints, fzs_strs, fzs_ints, seqWalk, z0, z4, ef, e5, Itm.w]
/-- the small and the large drawn part -/
theorem part_s (F : Fns P x.toIx) (h : DS N L p nms) (hN : N ≤ 1000000) (hL : L ≤ 100000) :
    ∃ (t : Itm) (p' : W) (nms' : List (List Char)) (b' : W), Tree t ∧ DS (N + 100000) (L + 3000) p' nms' ∧ callF P (k + 49) x.part [p, nmW nms, bud 59 400 3 6 12, .int 1] = some (.ok t.w [p', nmW nms', b', .int 1]) := by
  have hl := h.len
  obtain ⟨t, p', nms', b0', b1', b2', N', i0, i1, i2, i3, i4, i5, i6, i7, i8, i9, i10, i11, e⟩ := part_all (k := k + 34) (b3 := 6) F 5 1 (by omega) (by omega) p nms 59 400 3 12 N h.pool (by omega) h.nm (by omega) (by omega) (by omega) (by omega) (by omega) (by omega) (by omega)
  have u0 := i11.b0
  have u2 := i11.n
  have u3 := i11.m
  exact ⟨t, p', nms', _, ⟨i0, i1, .inl ⟨by omega, by omega, by omega, by omega, by omega⟩⟩, ⟨i7.mono (by omega), i8, by omega⟩, e⟩
theorem part_l (F : Fns P x.toIx) (h : DS N L p nms) (hN : N ≤ 1000000) (hL : L ≤ 100000) :
    ∃ (t : Itm) (p' : W) (nms' : List (List Char)) (b' : W), Tree t ∧ DS (N + 100000) (L + 3000) p' nms' ∧ callF P (k + 49) x.part [p, nmW nms, bud 250 2000 40 20 40, .int 1] = some (.ok t.w [p', nmW nms', b', .int 1]) := by
  have hl := h.len
  obtain ⟨t, p', nms', b0', b1', b2', N', i0, i1, i2, i3, i4, i5, i6, i7, i8, i9, i10, i11, e⟩ := part_all (k := k + 6) (b3 := 20) F 19 1 (by omega) (by omega) p nms 250 2000 40 40 N h.pool (by omega) h.nm (by omega) (by omega) (by omega) (by omega) (by omega) (by omega) (by omega)
  have u0 := i11.b0
  have u2 := i11.n
  have u3 := i11.m
  exact ⟨t, p', nms', _, ⟨i0, i1, .inr ⟨by omega, by omega, by omega, by omega, by omega⟩⟩, ⟨i7.mono (by omega), i8, by omega⟩, e⟩
theorem Tree.edg {t : Itm} (h : Tree t) : Edg t := ⟨h.prt, h.good, h.dep, h.cnt⟩
end
mutual
theorem pth_le : ∀ (t : Itm) (q : List Int), ∀ r ∈ t.pth q, r.2.cnt ≤ t.cnt ∧ r.2.dep ≤ t.dep
  | .txt s, q, r, hr => by simp [Itm.pth] at hr; rw [hr]; exact ⟨Nat.le_refl _, Nat.le_refl _⟩
  | .ref s, q, r, hr => by simp [Itm.pth] at hr; rw [hr]; exact ⟨Nat.le_refl _, Nat.le_refl _⟩
  | .lab s, q, r, hr => by simp [Itm.pth] at hr; rw [hr]; exact ⟨Nat.le_refl _, Nat.le_refl _⟩
  | .prt k ms is, q, r, hr => by
    rw [Itm.pth] at hr
    rcases List.mem_cons.mp hr with rfl | hr
    · exact ⟨Nat.le_refl _, Nat.le_refl _⟩
    · have := pths_le is q 0 r hr
      have e1 : (Itm.prt k ms is).cnt = 1 + Itm.cnts is := rfl
      have e2 : (Itm.prt k ms is).dep = 1 + Itm.deps is := rfl
      omega
theorem pths_le : ∀ (ts : List Itm) (q : List Int) (i : Nat), ∀ r ∈ Itm.pths q i ts, r.2.cnt ≤ Itm.cnts ts ∧ r.2.dep ≤ Itm.deps ts
  | [], q, i, r, hr => by cases hr
  | t :: ts, q, i, r, hr => by
    rw [Itm.pths] at hr
    simp only [Itm.cnts, Itm.deps]
    rcases List.mem_append.mp hr with hr | hr
    · have := pth_le t _ r hr
      omega
    · have := pths_le ts q (i + 1) r hr
      omega
end
end PV

namespace LW
open PySem PV
/-! ### the defs of the text -/
def top (i : Nat) : Stmt := PySem.Challenge.pw_pagestyles_k04_bounds_at_the_edge.main.body.getD i (.Pass ⟨0, 0, 0, 0⟩)
def XS : List XCls := []
def xs : List Str := []
def Hd : List (Str × List Nat) := []
def G : List (Str × Gv) := [(Str.ofString "isinstance", Gv.bltn), (Str.ofString "tuple", Gv.bltn), (Str.ofString "len", Gv.bltn), (Str.ofString "is_part", Gv.fn 0), (Str.ofString "range", Gv.bltn), (Str.ofString "walk", Gv.gen 1), (Str.ofString "str", Gv.bltn), (Str.ofString "MOST_ITEMS_OF_A_PART", Gv.cst (.int 12)), (Str.ofString "MOST_DEPTH", Gv.cst (.int 6)), (Str.ofString "MOST_ITEMS", Gv.cst (.int 60)), (Str.ofString "MOST_CHARACTERS", Gv.cst (.int 400)), (Str.ofString "MOST_REFERENCES", Gv.cst (.int 3)), (Str.ofString "abs", Gv.bltn), (Str.ofString "int", Gv.bltn), (Str.ofString "_law_take", Gv.fn 4), (Str.ofString "_law_letters", Gv.fn 5), (Str.ofString "_law_name", Gv.fn 6), (Str.ofString "max", Gv.bltn), (Str.ofString "min", Gv.bltn), (Str.ofString "_law_prose", Gv.fn 8), (Str.ofString "_law_part", Gv.fn 11), (Str.ofString "_law_text", Gv.fn 9), (Str.ofString "_law_marks", Gv.fn 7), (Str.ofString "_law_item", Gv.fn 10), (Str.ofString "_law_wrapped", Gv.fn 12), (Str.ofString "_law_leaf", Gv.fn 13), (Str.ofString "_law_full_row", Gv.fn 14), (Str.ofString "_law_full_count", Gv.fn 15), (Str.ofString "_law_full_prose", Gv.fn 16), (Str.ofString "_law_full_depth", Gv.fn 17), (Str.ofString "_law_full_refs", Gv.fn 18), (Str.ofString "_law_paths", Gv.fn 20), (Str.ofString "_law_sizes", Gv.fn 21), (Str.ofString "within_bounds", Gv.fn 2), (Str.ofString "bool", Gv.bltn), (Str.ofString "_law_let", Gv.fn 22), (Str.ofString "_law_pool", Gv.fn 3), (Str.ofString "_law_edge", Gv.fn 19), (Str.ofString "_law_told", Gv.fn 23)]
/-! 0: is_part ["item"] -/
def d0 : DefT := ⟨"is_part", top 6, ["item"], ["item"], [], []⟩
def f0 : Fn := ⟨1, 1, [],
  (.ret (.some (.and (.isin (.var 0) [.tuple]) (.cmp .eq (.blt .len (.cons (.var 0) .nil)) (.cst (.int 3))))))⟩
/-! 1: walk ["root", "waiting", "path", "item", "at"] -/
def d1 : DefT := ⟨"walk", top 7, ["root", "waiting", "path", "item", "at"], ["root"], [], [(15, [4]), (11, [2, 3, 4])]⟩
def b1_0 : S := 
  (.setT [2, 3] (.mut .pop 1 .nil))
def b1_1 : S := 
  (.expr (.mut .append 1 (.cons (.tup (.cons (.bin .add (.var 2) (.tup (.cons (.var 4) .nil))) (.cons (.ix (.ix (.var 3) (.cst (.int 2))) (.var 4)) .nil))) .nil)))
def b1_2 : S := (.for (.name 4) (.rng3 (.bin .sub (.blt .len (.cons (.ix (.var 3) (.cst (.int 2))) .nil)) (.cst (.int 1))) (.neg (.cst (.int 1))) (.neg (.cst (.int 1)))) b1_1 [4])
def b1_3 : S := 
  (.ife (.call 0 (.cons (.var 3) .nil))
    b1_2
    .skip)
def gn1 : Gn := ⟨5, 1, (.set 1 (.lst (.cons (.tup (.cons (.tup .nil) (.cons (.var 0) .nil))) .nil))), (.var 1), b1_0, (.tup (.cons (.var 2) (.cons (.var 3) .nil))), b1_3, [2, 3, 4]⟩
def f1 : Fn := deadFn
/-! 2: within_bounds ["root", "items", "characters", "references", "path", "item"] -/
def d2 : DefT := ⟨"within_bounds", top 8, ["root", "items", "characters", "references", "path", "item"], ["root"], [], [(21, [4, 5])]⟩
def b2_0 : S := 
  (.seq (.aug 1 .add (.cst (.int 1)))
  (.ife (.isin (.var 5) [.str])
    (.aug 2 .add (.blt .len (.cons (.var 5) .nil)))
    (.ife (.call 0 (.cons (.var 5) .nil))
      (.ife (.or (.cmp .gt (.blt .len (.cons (.ix (.var 5) (.cst (.int 2))) .nil)) (.cst (.int 12))) (.cmp .ge (.blt .len (.cons (.var 4) .nil)) (.cst (.int 6))))
        (.ret (.some (.cst (.bl false))))
        .skip)
      (.ife (.cmp .eq (.ix (.var 5) (.cst (.int 0))) (.cst (.str ['@'])))
        (.aug 3 .add (.cst (.int 1)))
        .skip))))
def b2_1 : S := (.forG (.tup [4, 5]) 1 (.cons (.var 0) .nil) b2_0 [4, 5])
def f2 : Fn := ⟨6, 1, [],
  (.seq (.set 1 (.cst (.int 0)))
  (.seq (.set 2 (.cst (.int 0)))
  (.seq (.set 3 (.cst (.int 0)))
  (.seq b2_1
  (.ret (.some (.and (.cmp .le (.var 1) (.cst (.int 60))) (.and (.cmp .le (.var 2) (.cst (.int 400))) (.cmp .le (.var 3) (.cst (.int 3)))))))))))⟩
/-! 3: _law_pool ["script", "at", "cell"] -/
def d3 : DefT := ⟨"_law_pool", top 10, ["script", "at", "cell"], ["script", "at"], [], []⟩
def f3 : Fn := ⟨3, 2, [],
  (.seq (.set 2 (.cst (.int 0)))
  (.seq (.ife (.cmp .lt (.var 1) (.blt .len (.cons (.var 0) .nil)))
    (.set 2 (.blt .abs (.cons (.blt .int (.cons (.ix (.var 0) (.var 1)) .nil)) .nil)))
    .skip)
  (.ret (.some (.lst (.cons (.var 2) (.cons (.cst (.int 0)) (.cons (.blt .int (.cons (.cmp .ge (.var 2) (.bin .pow (.cst (.int 10)) (.cst (.int 18)))) .nil)) (.cons (.bin .mod (.blt .int (.cons (.bin .add (.var 2) (.bin .mul (.var 1) (.cst (.int 7919)))) .nil)) (.cst (.int 2147483647))) (.cons (.cst (.int 3)) .nil))))))))))⟩
/-! 4: _law_take ["pool", "many", "got", "one", "two"] -/
def d4 : DefT := ⟨"_law_take", top 11, ["pool", "many", "got", "one", "two"], ["pool", "many"], [], []⟩
def f4 : Fn := ⟨5, 2, [],
  (.seq (.setI 0 (.cst (.int 1)) (.bin .add (.ix (.var 0) (.cst (.int 1))) (.cst (.int 1))))
  (.seq (.ife (.cmp .eq (.ix (.var 0) (.cst (.int 2))) (.cst (.int 1)))
    (.seq (.set 2 (.bin .mod (.blt .int (.cons (.ix (.var 0) (.cst (.int 0))) .nil)) (.var 1)))
    (.seq (.setI 0 (.cst (.int 0)) (.bin .fdiv (.ix (.var 0) (.cst (.int 0))) (.var 1)))
    (.ret (.some (.mov 2)))))
    .skip)
  (.seq (.set 3 (.bin .mod (.blt .int (.cons (.bin .add (.bin .add (.bin .mul (.ix (.var 0) (.cst (.int 3))) (.cst (.int 48271))) (.bin .mul (.ix (.var 0) (.cst (.int 1))) (.cst (.int 69621)))) (.cst (.int 11))) .nil)) (.cst (.int 2147483647))))
  (.seq (.set 4 (.bin .mod (.blt .int (.cons (.bin .add (.bin .add (.bin .mul (.var 3) (.cst (.int 16807))) (.bin .fdiv (.var 3) (.cst (.int 65536)))) (.bin .mul (.bin .mul (.ix (.var 0) (.cst (.int 1))) (.ix (.var 0) (.cst (.int 1)))) (.cst (.int 40692)))) .nil)) (.cst (.int 2147483399))))
  (.ret (.some (.bin .mod (.blt .int (.cons (.bin .fdiv (.var 4) (.bin .add (.ix (.var 0) (.cst (.int 1))) (.cst (.int 6)))) .nil)) (.var 1))))))))⟩
/-! 5: _law_letters ["pool", "many", "abc", ".0", "k"] -/
def d5 : DefT := ⟨"_law_letters", top 12, ["pool", "many", "abc", ".0", "k"], ["pool", "many"], [], []⟩
def b5_0 : E := (.ix (.var 2) (.call 4 (.cons (.var 0) (.cons (.cst (.int 26)) .nil))))
def b5_1 : E := (.comp b5_0 (.name 4) (.rng1 (.var 1)) .none [3, 4])
def f5 : Fn := ⟨5, 2, [],
  (.seq (.set 2 (.cst (.str ['a', 'b', 'c', 'd', 'e', 'f', 'g', 'h', 'i', 'j', 'k', 'l', 'm', 'n', 'o', 'p', 'q', 'r', 's', 't', 'u', 'v', 'w', 'x',
 'y', 'z'])))
  (.ret (.some (.meth .join (.cst (.str [])) (.cons b5_1 .nil)))))⟩
/-! 6: _law_name ["pool", "names", "sort", "name", "at"] -/
def d6 : DefT := ⟨"_law_name", top 13, ["pool", "names", "sort", "name", "at"], ["pool", "names"], [], []⟩
def f6 : Fn := ⟨5, 2, [],
  (.seq (.set 2 (.call 4 (.cons (.var 0) (.cons (.cst (.int 5)) .nil))))
  (.seq (.set 3 (.cst (.str [])))
  (.seq (.ife (.and (.cmp .gt (.var 2) (.cst (.int 0))) (.cmp .gt (.blt .len (.cons (.var 1) .nil)) (.cst (.int 0))))
    (.set 3 (.ix (.var 1) (.call 4 (.cons (.var 0) (.cons (.blt .len (.cons (.var 1) .nil)) .nil)))))
    .skip)
  (.seq (.ife (.and (.cmp .eq (.var 2) (.cst (.int 1))) (.cmp .gt (.blt .len (.cons (.var 3) .nil)) (.cst (.int 0))))
    (.seq (.set 4 (.call 4 (.cons (.var 0) (.cons (.blt .len (.cons (.var 3) .nil)) .nil))))
    (.set 3 (.bin .add (.bin .add (.sl (.var 3) .none (.some (.var 4))) (.call 5 (.cons (.var 0) (.cons (.cst (.int 1)) .nil)))) (.sl (.var 3) (.some (.bin .add (.var 4) (.cst (.int 1)))) .none))))
    .skip)
  (.seq (.ife (.and (.cmp .eq (.var 2) (.cst (.int 2))) (.ch2 .lt .lt (.cst (.int 0)) (.blt .len (.cons (.var 3) .nil)) (.cst (.int 8))))
    (.set 3 (.bin .add (.var 3) (.call 5 (.cons (.var 0) (.cons (.cst (.int 1)) .nil)))))
    .skip)
  (.seq (.ife (.cmp .eq (.var 3) (.cst (.str [])))
    (.set 3 (.call 5 (.cons (.var 0) (.cons (.bin .add (.cst (.int 1)) (.call 4 (.cons (.var 0) (.cons (.cst (.int 8)) .nil)))) .nil))))
    .skip)
  (.seq (.expr (.mut .append 1 (.cons (.var 3) .nil)))
  (.ret (.some (.mov 3))))))))))⟩
/-! 7: _law_marks ["pool", "names", "marks", "k", "name", "less", ".0", "mark"] -/
def d7 : DefT := ⟨"_law_marks", top 14, ["pool", "names", "marks", "k", "name", "less", ".0", "mark"], ["pool", "names"], [], [(65, [3, 4, 5, 6])]⟩
def b7_0 : E := (.var 7)
def b7_1 : Eo := (.some (.cmp .lt (.var 7) (.var 4)))
def b7_2 : E := (.comp b7_0 (.name 7) (.seq (.var 2)) b7_1 [6, 7])
def b7_3 : E := (.var 7)
def b7_4 : Eo := (.some (.cmp .gt (.var 7) (.var 4)))
def b7_5 : E := (.comp b7_3 (.name 7) (.seq (.var 2)) b7_4 [6, 7])
def b7_6 : S := 
  (.seq (.set 4 (.call 6 (.cons (.var 0) (.cons (.var 1) .nil))))
  (.seq (.set 5 b7_2)
  (.set 2 (.bin .add (.bin .add (.var 5) (.lst (.cons (.var 4) .nil))) b7_5))))
def b7_7 : S := (.for (.name 3) (.rng1 (.call 4 (.cons (.var 0) (.cons (.cst (.int 4)) .nil)))) b7_6 [3, 4, 5, 6])
def f7 : Fn := ⟨8, 2, [],
  (.seq (.set 2 (.lst .nil))
  (.seq b7_7
  (.ret (.some (.blt .tuple (.cons (.var 2) .nil))))))⟩
/-! 8: _law_prose ["pool", "many", "signs", ".0", "k"] -/
def d8 : DefT := ⟨"_law_prose", top 15, ["pool", "many", "signs", ".0", "k"], ["pool", "many"], [], []⟩
def b8_0 : E := (.ix (.var 2) (.blt .max2 (.cons (.cst (.int 0)) (.cons (.bin .sub (.call 4 (.cons (.var 0) (.cons (.cst (.int 93)) .nil))) (.cst (.int 20))) .nil))))
def b8_1 : E := (.comp b8_0 (.name 4) (.rng1 (.var 1)) .none [3, 4])
def f8 : Fn := ⟨5, 2, [],
  (.seq (.set 2 (.cst (.str [' ', 'a', 'b', 'c', 'd', 'e', 'f', 'g', 'h', 'i', 'j', 'k', 'l', 'm', 'n', 'o', 'p', 'q', 'r', 's', 't', 'u', 'v', 'w',
 'x', 'y', 'z', 'A', 'B', 'C', 'D', 'E', 'F', 'G', 'H', 'I', 'J', 'K', 'L', 'M', 'N', 'O', 'P', 'Q', 'R', 'S', 'T', 'U',
 'V', 'W', 'X', 'Y', 'Z', '0', '1', '2', '3', '4', '5', '6', '7', '8', '9', '.', ',', ';', ':', '!', '?', '\'', '(',
 ')', '|'])))
  (.ret (.some (.meth .join (.cst (.str [])) (.cons b8_1 .nil)))))⟩
/-! 9: _law_text ["pool", "budget", "many"] -/
def d9 : DefT := ⟨"_law_text", top 16, ["pool", "budget", "many"], ["pool", "budget"], [], []⟩
def f9 : Fn := ⟨3, 2, [],
  (.seq (.set 2 (.ix (.lst (.cons (.cst (.int 4)) (.cons (.cst (.int 4)) (.cons (.cst (.int 9)) (.cons (.cst (.int 60)) .nil))))) (.call 4 (.cons (.var 0) (.cons (.cst (.int 4)) .nil)))))
  (.seq (.set 2 (.bin .add (.cst (.int 1)) (.call 4 (.cons (.var 0) (.cons (.blt .min2 (.cons (.blt .int (.cons (.var 2) .nil)) (.cons (.ix (.var 1) (.cst (.int 1))) .nil))) .nil)))))
  (.seq (.setI 1 (.cst (.int 1)) (.bin .sub (.ix (.var 1) (.cst (.int 1))) (.var 2)))
  (.ret (.some (.call 8 (.cons (.var 0) (.cons (.var 2) .nil))))))))⟩
/-! 10: _law_item ["pool", "names", "budget", "depth", "sort"] -/
def d10 : DefT := ⟨"_law_item", top 17, ["pool", "names", "budget", "depth", "sort"], ["pool", "names", "budget", "depth"], [], []⟩
def f10 : Fn := ⟨5, 4, [],
  (.seq (.set 4 (.call 4 (.cons (.var 0) (.cons (.cst (.int 8)) .nil))))
  (.seq (.ife (.and (.cmp .lt (.var 4) (.cst (.int 3))) (.cmp .le (.var 3) (.ix (.var 2) (.cst (.int 3)))))
    (.ret (.some (.call 11 (.cons (.var 0) (.cons (.var 1) (.cons (.var 2) (.cons (.var 3) .nil)))))))
    .skip)
  (.seq (.ife (.and (.cmp .eq (.var 4) (.cst (.int 3))) (.cmp .gt (.ix (.var 2) (.cst (.int 2))) (.cst (.int 0))))
    (.seq (.setI 2 (.cst (.int 2)) (.bin .sub (.ix (.var 2) (.cst (.int 2))) (.cst (.int 1))))
    (.ret (.some (.tup (.cons (.cst (.str ['@'])) (.cons (.call 6 (.cons (.var 0) (.cons (.var 1) .nil))) .nil))))))
    .skip)
  (.seq (.ife (.and (.cmp .gt (.var 4) (.cst (.int 4))) (.cmp .gt (.ix (.var 2) (.cst (.int 1))) (.cst (.int 0))))
    (.ret (.some (.call 9 (.cons (.var 0) (.cons (.var 2) .nil)))))
    .skip)
  (.ret (.some (.tup (.cons (.cst (.str ['#'])) (.cons (.call 6 (.cons (.var 0) (.cons (.var 1) .nil))) .nil)))))))))⟩
/-! 11: _law_part ["pool", "names", "budget", "depth", "kind", "marks", "many", "items", "k"] -/
def d11 : DefT := ⟨"_law_part", top 18, ["pool", "names", "budget", "depth", "kind", "marks", "many", "items", "k"], ["pool", "names", "budget", "depth"], [], [(97, [8])]⟩
def b11_0 : S := 
  (.expr (.mut .append 7 (.cons (.call 10 (.cons (.var 0) (.cons (.var 1) (.cons (.var 2) (.cons (.bin .add (.var 3) (.cst (.int 1))) .nil))))) .nil)))
def b11_1 : S := (.for (.name 8) (.rng1 (.var 6)) b11_0 [8])
def f11 : Fn := ⟨9, 4, [],
  (.seq (.set 4 (.call 6 (.cons (.var 0) (.cons (.var 1) .nil))))
  (.seq (.set 5 (.call 7 (.cons (.var 0) (.cons (.var 1) .nil))))
  (.seq (.set 6 (.call 4 (.cons (.var 0) (.cons (.cst (.int 5)) .nil))))
  (.seq (.ife (.cmp .eq (.var 6) (.cst (.int 4)))
    (.set 6 (.call 4 (.cons (.var 0) (.cons (.bin .add (.ix (.var 2) (.cst (.int 4))) (.cst (.int 1))) .nil))))
    .skip)
  (.seq (.set 6 (.blt .min2 (.cons (.blt .int (.cons (.var 6) .nil)) (.cons (.ix (.var 2) (.cst (.int 0))) .nil))))
  (.seq (.setI 2 (.cst (.int 0)) (.bin .sub (.ix (.var 2) (.cst (.int 0))) (.var 6)))
  (.seq (.set 7 (.lst .nil))
  (.seq b11_1
  (.seq (.ife (.and (.cmp .gt (.var 6) (.cst (.int 1))) (.and (.cmp .eq (.ix (.var 0) (.cst (.int 2))) (.cst (.int 0))) (.cmp .eq (.bin .mod (.blt .len (.cons (.var 1) .nil)) (.cst (.int 3))) (.cst (.int 1)))))
    (.ife (.or (.cmp .eq (.ix (.ix (.var 7) (.cst (.int 0))) (.cst (.int 0))) (.cst (.str ['#']))) (.cmp .eq (.sl (.ix (.var 7) (.cst (.int 0))) (.some (.cst (.int 2))) .none) (.tup (.cons (.tup .nil) .nil))))
      (.setI 7 (.bin .sub (.var 6) (.cst (.int 1))) (.ix (.var 7) (.cst (.int 0))))
      .skip)
    .skip)
  (.ret (.some (.tup (.cons (.var 4) (.cons (.var 5) (.cons (.blt .tuple (.cons (.var 7) .nil)) .nil)))))))))))))))⟩
/-! 12: _law_wrapped ["pool", "names", "item", "many", "turn"] -/
def d12 : DefT := ⟨"_law_wrapped", top 19, ["pool", "names", "item", "many", "turn"], ["pool", "names", "item", "many"], [2], [(104, [4])]⟩
def b12_0 : S := 
  (.set 2 (.tup (.cons (.call 6 (.cons (.var 0) (.cons (.var 1) .nil))) (.cons (.tup .nil) (.cons (.tup (.cons (.var 2) .nil)) .nil)))))
def b12_1 : S := (.for (.name 4) (.rng1 (.var 3)) b12_0 [4])
def f12 : Fn := ⟨5, 4, [2],
  (.seq b12_1
  (.ret (.some (.mov 2))))⟩
/-! 13: _law_leaf ["pool", "names"] -/
def d13 : DefT := ⟨"_law_leaf", top 20, ["pool", "names"], ["pool", "names"], [], []⟩
def f13 : Fn := ⟨2, 2, [],
  (.seq (.ife (.cmp .eq (.call 4 (.cons (.var 0) (.cons (.cst (.int 3)) .nil))) (.cst (.int 0)))
    (.ret (.some (.tup (.cons (.cst (.str ['#'])) (.cons (.call 6 (.cons (.var 0) (.cons (.var 1) .nil))) .nil)))))
    .skip)
  (.ret (.some (.call 8 (.cons (.var 0) (.cons (.cst (.int 1)) .nil))))))⟩
/-! 14: _law_full_row ["pool", "names", "shift", "row", "part", ".0", "k"] -/
def d14 : DefT := ⟨"_law_full_row", top 21, ["pool", "names", "shift", "row", "part", ".0", "k"], ["pool", "names", "shift"], [], []⟩
def b14_0 : E := (.call 13 (.cons (.var 0) (.cons (.var 1) .nil)))
def b14_1 : E := (.comp b14_0 (.name 6) (.rng1 (.bin .add (.cst (.int 12)) (.var 2))) .none [5, 6])
def f14 : Fn := ⟨7, 3, [],
  (.seq (.set 3 (.blt .tuple (.cons b14_1 .nil)))
  (.seq (.set 4 (.tup (.cons (.call 6 (.cons (.var 0) (.cons (.var 1) .nil))) (.cons (.call 7 (.cons (.var 0) (.cons (.var 1) .nil))) (.cons (.var 3) .nil)))))
  (.ret (.some (.call 12 (.cons (.var 0) (.cons (.var 1) (.cons (.var 4) (.cons (.call 4 (.cons (.var 0) (.cons (.cst (.int 5)) .nil))) .nil)))))))))⟩
/-! 15: _law_full_count ["pool", "names", "shift", "odd", "rows", "k", "many", "row", ".0", "j"] -/
def d15 : DefT := ⟨"_law_full_count", top 22, ["pool", "names", "shift", "odd", "rows", "k", "many", "row", ".0", "j"], ["pool", "names", "shift"], [], [(118, [5, 6, 7, 8])]⟩
def b15_0 : E := (.call 13 (.cons (.var 0) (.cons (.var 1) .nil)))
def b15_1 : E := (.comp b15_0 (.name 9) (.rng1 (.var 6)) .none [8, 9])
def b15_2 : S := 
  (.seq (.set 6 (.bin .sub (.cst (.int 12)) (.bin .mul (.bin .sub (.cst (.int 6)) (.var 2)) (.blt .int (.cons (.cmp .eq (.var 5) (.var 3)) .nil)))))
  (.seq (.set 7 (.blt .tuple (.cons b15_1 .nil)))
  (.expr (.mut .append 4 (.cons (.tup (.cons (.call 6 (.cons (.var 0) (.cons (.var 1) .nil))) (.cons (.tup .nil) (.cons (.var 7) .nil)))) .nil)))))
def b15_3 : S := (.for (.name 5) (.rng1 (.cst (.int 5))) b15_2 [5, 6, 7, 8])
def f15 : Fn := ⟨10, 3, [],
  (.seq (.set 3 (.call 4 (.cons (.var 0) (.cons (.cst (.int 5)) .nil))))
  (.seq (.set 4 (.lst .nil))
  (.seq b15_3
  (.ret (.some (.tup (.cons (.call 6 (.cons (.var 0) (.cons (.var 1) .nil))) (.cons (.tup .nil) (.cons (.blt .tuple (.cons (.var 4) .nil)) .nil)))))))))⟩
/-! 16: _law_full_prose ["pool", "names", "shift", "odd", "twins", "same", "rows", "k", "text"] -/
def d16 : DefT := ⟨"_law_full_prose", top 23, ["pool", "names", "shift", "odd", "twins", "same", "rows", "k", "text"], ["pool", "names", "shift"], [], [(128, [7, 8])]⟩
def b16_0 : S := 
  (.seq (.set 8 (.var 5))
  (.seq (.ife (.or (.cmp .eq (.var 7) (.var 3)) (.cmp .eq (.var 4) (.cst (.int 0))))
    (.set 8 (.call 8 (.cons (.var 0) (.cons (.bin .sub (.cst (.int 60)) (.bin .mul (.bin .sub (.cst (.int 20)) (.var 2)) (.blt .int (.cons (.cmp .eq (.var 7) (.var 3)) .nil)))) .nil))))
    .skip)
  (.expr (.mut .append 6 (.cons (.call 12 (.cons (.var 0) (.cons (.var 1) (.cons (.var 8) (.cons (.call 4 (.cons (.var 0) (.cons (.cst (.int 3)) .nil))) .nil))))) .nil)))))
def b16_1 : S := (.for (.name 7) (.rng1 (.cst (.int 7))) b16_0 [7, 8])
def f16 : Fn := ⟨9, 3, [],
  (.seq (.set 3 (.call 4 (.cons (.var 0) (.cons (.cst (.int 7)) .nil))))
  (.seq (.set 4 (.call 4 (.cons (.var 0) (.cons (.cst (.int 2)) .nil))))
  (.seq (.set 5 (.call 8 (.cons (.var 0) (.cons (.cst (.int 60)) .nil))))
  (.seq (.set 6 (.lst .nil))
  (.seq b16_1
  (.ret (.some (.tup (.cons (.call 6 (.cons (.var 0) (.cons (.var 1) .nil))) (.cons (.tup .nil) (.cons (.blt .tuple (.cons (.var 6) .nil)) .nil)))))))))))⟩
/-! 17: _law_full_depth ["pool", "names", "shift", "item", "turn", "row"] -/
def d17 : DefT := ⟨"_law_full_depth", top 24, ["pool", "names", "shift", "item", "turn", "row"], ["pool", "names", "shift"], [], [(138, [4, 5])]⟩
def b17_0 : S := 
  (.seq (.set 5 (.tup (.cons (.var 3) .nil)))
  (.seq (.ife (.cmp .eq (.call 4 (.cons (.var 0) (.cons (.cst (.int 2)) .nil))) (.cst (.int 0)))
    (.set 5 (.tup (.cons (.call 13 (.cons (.var 0) (.cons (.var 1) .nil))) (.cons (.var 3) .nil))))
    .skip)
  (.set 3 (.tup (.cons (.call 6 (.cons (.var 0) (.cons (.var 1) .nil))) (.cons (.tup .nil) (.cons (.var 5) .nil)))))))
def b17_1 : S := (.for (.name 4) (.rng1 (.bin .add (.cst (.int 5)) (.var 2))) b17_0 [4, 5])
def f17 : Fn := ⟨6, 3, [],
  (.seq (.set 3 (.tup (.cons (.call 6 (.cons (.var 0) (.cons (.var 1) .nil))) (.cons (.call 7 (.cons (.var 0) (.cons (.var 1) .nil))) (.cons (.tup .nil) .nil)))))
  (.seq (.ife (.cmp .eq (.call 4 (.cons (.var 0) (.cons (.cst (.int 2)) .nil))) (.cst (.int 0)))
    (.set 3 (.tup (.cons (.ix (.var 3) (.cst (.int 0))) (.cons (.ix (.var 3) (.cst (.int 1))) (.cons (.tup (.cons (.call 13 (.cons (.var 0) (.cons (.var 1) .nil))) .nil)) .nil)))))
    .skip)
  (.seq b17_1
  (.ret (.some (.mov 3))))))⟩
/-! 18: _law_full_refs ["pool", "names", "shift", "rows", "k", "name"] -/
def d18 : DefT := ⟨"_law_full_refs", top 25, ["pool", "names", "shift", "rows", "k", "name"], ["pool", "names", "shift"], [], [(146, [4, 5])]⟩
def b18_0 : S := 
  (.seq (.set 5 (.call 6 (.cons (.var 0) (.cons (.var 1) .nil))))
  (.seq (.expr (.mut .append 3 (.cons (.call 12 (.cons (.var 0) (.cons (.var 1) (.cons (.tup (.cons (.cst (.str ['@'])) (.cons (.var 5) .nil))) (.cons (.call 4 (.cons (.var 0) (.cons (.cst (.int 3)) .nil))) .nil))))) .nil)))
  (.expr (.mut .append 3 (.cons (.call 13 (.cons (.var 0) (.cons (.var 1) .nil))) .nil)))))
def b18_1 : S := (.for (.name 4) (.rng1 (.bin .add (.cst (.int 3)) (.var 2))) b18_0 [4, 5])
def f18 : Fn := ⟨6, 3, [],
  (.seq (.set 3 (.lst .nil))
  (.seq b18_1
  (.ret (.some (.tup (.cons (.call 6 (.cons (.var 0) (.cons (.var 1) .nil))) (.cons (.tup .nil) (.cons (.blt .tuple (.cons (.var 3) .nil)) .nil))))))))⟩
/-! 19: _law_edge ["pool", "sort", "shift"] -/
def d19 : DefT := ⟨"_law_edge", top 26, ["pool", "sort", "shift"], ["pool", "sort", "shift"], [], []⟩
def f19 : Fn := ⟨3, 3, [],
  (.seq (.ife (.cmp .eq (.var 1) (.cst (.int 0)))
    (.ret (.some (.call 14 (.cons (.var 0) (.cons (.lst .nil) (.cons (.var 2) .nil))))))
    .skip)
  (.seq (.ife (.cmp .eq (.var 1) (.cst (.int 1)))
    (.ret (.some (.call 15 (.cons (.var 0) (.cons (.lst .nil) (.cons (.var 2) .nil))))))
    .skip)
  (.seq (.ife (.cmp .eq (.var 1) (.cst (.int 2)))
    (.ret (.some (.call 16 (.cons (.var 0) (.cons (.lst .nil) (.cons (.var 2) .nil))))))
    .skip)
  (.seq (.ife (.cmp .eq (.var 1) (.cst (.int 3)))
    (.ret (.some (.call 17 (.cons (.var 0) (.cons (.lst .nil) (.cons (.var 2) .nil))))))
    .skip)
  (.ret (.some (.call 18 (.cons (.var 0) (.cons (.lst .nil) (.cons (.var 2) .nil))))))))))⟩
/-! 20: _law_paths ["item", "path", "rows", "k"] -/
def d20 : DefT := ⟨"_law_paths", top 27, ["item", "path", "rows", "k"], ["item", "path"], [], [(164, [3])]⟩
def b20_0 : S := 
  (.expr (.mut .extend 2 (.cons (.call 20 (.cons (.ix (.ix (.var 0) (.cst (.int 2))) (.var 3)) (.cons (.bin .add (.var 1) (.tup (.cons (.var 3) .nil))) .nil))) .nil)))
def b20_1 : S := (.for (.name 3) (.rng1 (.blt .len (.cons (.ix (.var 0) (.cst (.int 2))) .nil))) b20_0 [3])
def f20 : Fn := ⟨4, 2, [],
  (.seq (.set 2 (.lst (.cons (.tup (.cons (.var 1) (.cons (.var 0) .nil))) .nil)))
  (.seq (.ife (.and (.isin (.var 0) [.tuple]) (.cmp .eq (.blt .len (.cons (.var 0) .nil)) (.cst (.int 3))))
    b20_1
    .skip)
  (.ret (.some (.mov 2)))))⟩
/-! 21: _law_sizes ["item", "depth", "sizes", "one", "more", "total", ".0", "k"] -/
def d21 : DefT := ⟨"_law_sizes", top 28, ["item", "depth", "sizes", "one", "more", "total", ".0", "k"], ["item", "depth"], [], [(173, [3, 4, 5, 6])]⟩
def b21_0 : E := (.bin .add (.ix (.var 2) (.var 7)) (.ix (.var 4) (.var 7)))
def b21_1 : E := (.comp b21_0 (.name 7) (.rng1 (.cst (.int 5))) .none [6, 7])
def b21_2 : S := 
  (.seq (.set 4 (.call 21 (.cons (.var 3) (.cons (.bin .add (.var 1) (.cst (.int 1))) .nil))))
  (.seq (.set 5 b21_1)
  (.seq (.setI 5 (.cst (.int 2)) (.blt .max2 (.cons (.blt .int (.cons (.ix (.var 2) (.cst (.int 2))) .nil)) (.cons (.ix (.var 4) (.cst (.int 2))) .nil))))
  (.seq (.setI 5 (.cst (.int 4)) (.blt .max2 (.cons (.blt .int (.cons (.ix (.var 2) (.cst (.int 4))) .nil)) (.cons (.ix (.var 4) (.cst (.int 4))) .nil))))
  (.set 2 (.var 5))))))
def b21_3 : S := (.for (.name 3) (.seq (.ix (.var 0) (.cst (.int 2)))) b21_2 [3, 4, 5, 6])
def f21 : Fn := ⟨8, 2, [],
  (.seq (.ife (.isin (.var 0) [.str])
    (.ret (.some (.lst (.cons (.cst (.int 1)) (.cons (.blt .len (.cons (.var 0) .nil)) (.cons (.bin .sub (.var 1) (.cst (.int 1))) (.cons (.cst (.int 0)) (.cons (.cst (.int 0)) .nil))))))))
    .skip)
  (.seq (.ife (.cmp .eq (.blt .len (.cons (.var 0) .nil)) (.cst (.int 2)))
    (.ret (.some (.lst (.cons (.cst (.int 1)) (.cons (.cst (.int 0)) (.cons (.bin .sub (.var 1) (.cst (.int 1))) (.cons (.blt .int (.cons (.cmp .eq (.ix (.var 0) (.cst (.int 0))) (.cst (.str ['@']))) .nil)) (.cons (.cst (.int 0)) .nil))))))))
    .skip)
  (.seq (.set 2 (.lst (.cons (.cst (.int 1)) (.cons (.cst (.int 0)) (.cons (.var 1) (.cons (.cst (.int 0)) (.cons (.blt .len (.cons (.ix (.var 0) (.cst (.int 2))) .nil)) .nil)))))))
  (.seq b21_3
  (.ret (.some (.mov 2)))))))⟩
/-! 22: _law_let ["root", "sizes", "bounds", ".0", "k"] -/
def d22 : DefT := ⟨"_law_let", top 29, ["root", "sizes", "bounds", ".0", "k"], ["root"], [], []⟩
def b22_0 : E := (.var 4)
def b22_1 : Eo := (.some (.cmp .gt (.ix (.var 1) (.var 4)) (.ix (.var 2) (.var 4))))
def b22_2 : E := (.comp b22_0 (.name 4) (.rng1 (.cst (.int 5))) b22_1 [3, 4])
def f22 : Fn := ⟨5, 1, [],
  (.seq (.set 1 (.call 21 (.cons (.var 0) (.cons (.cst (.int 1)) .nil))))
  (.seq (.set 2 (.lst (.cons (.cst (.int 60)) (.cons (.cst (.int 400)) (.cons (.cst (.int 6)) (.cons (.cst (.int 3)) (.cons (.cst (.int 12)) .nil)))))))
  (.ret (.some (.cmp .eq (.blt .len (.cons b22_2 .nil)) (.cst (.int 0)))))))⟩
/-! 23: _law_told ["root", "row", "told"] -/
def d23 : DefT := ⟨"_law_told", top 30, ["root", "row", "told"], ["root"], [], [(185, [1, 2])]⟩
def b23_0 : S := 
  (.ife (.and (.isin (.ix (.var 1) (.cst (.int 1))) [.tuple]) (.cmp .eq (.blt .len (.cons (.ix (.var 1) (.cst (.int 1))) .nil)) (.cst (.int 3))))
    (.seq (.set 2 (.call 2 (.cons (.ix (.var 1) (.cst (.int 1))) .nil)))
    (.ife (.or (.not (.isin (.var 2) [.bool])) (.cmp .ne (.var 2) (.call 22 (.cons (.ix (.var 1) (.cst (.int 1))) .nil))))
      (.ret (.some (.cst (.bl false))))
      .skip))
    .skip)
def b23_1 : S := (.for (.name 1) (.seq (.call 20 (.cons (.var 0) (.cons (.tup .nil) .nil)))) b23_0 [1, 2])
def f23 : Fn := ⟨3, 1, [],
  (.seq b23_1
  (.ret (.some (.cst (.bl true)))))⟩
/-! 24: law ["script", "pool", "way", "root", "shift", "sort", "edge"] -/
def d24 : DefT := ⟨"law", top 31, ["script", "pool", "way", "root", "shift", "sort", "edge"], ["script"], [], [(204, [4, 6]), (203, [4, 5, 6])]⟩
def b24_0 : S := 
  (.seq (.set 6 (.call 19 (.cons (.call 3 (.cons (.var 0) (.cons (.bin .add (.cst (.int 1)) (.var 5)) .nil))) (.cons (.var 5) (.cons (.var 4) .nil)))))
  (.ife (.not (.call 23 (.cons (.var 6) .nil)))
    (.ret (.some (.cst (.bl false))))
    .skip))
def b24_1 : S := (.for (.name 4) (.rng1 (.cst (.int 2))) b24_0 [4, 6])
def b24_2 : S := 
  b24_1
def b24_3 : S := (.for (.name 5) (.rng1 (.cst (.int 5))) b24_2 [4, 5, 6])
def f24 : Fn := ⟨7, 1, [],
  (.seq (.set 1 (.call 3 (.cons (.var 0) (.cons (.cst (.int 0)) .nil))))
  (.seq (.set 2 (.call 4 (.cons (.var 1) (.cons (.cst (.int 8)) .nil))))
  (.seq (.ife (.cmp .eq (.var 2) (.cst (.int 3)))
    (.set 3 (.call 11 (.cons (.var 1) (.cons (.lst .nil) (.cons (.lst (.cons (.cst (.int 250)) (.cons (.cst (.int 2000)) (.cons (.cst (.int 40)) (.cons (.cst (.int 20)) (.cons (.cst (.int 40)) .nil)))))) (.cons (.cst (.int 1)) .nil))))))
    (.ife (.or (.cmp .eq (.var 2) (.cst (.int 5))) (.cmp .eq (.var 2) (.cst (.int 1))))
      (.set 3 (.call 11 (.cons (.var 1) (.cons (.lst .nil) (.cons (.lst (.cons (.cst (.int 59)) (.cons (.cst (.int 400)) (.cons (.cst (.int 3)) (.cons (.cst (.int 6)) (.cons (.cst (.int 12)) .nil)))))) (.cons (.cst (.int 1)) .nil))))))
      (.seq (.set 4 (.bin .sub (.call 4 (.cons (.var 1) (.cons (.cst (.int 4)) .nil))) (.cst (.int 1))))
      (.set 3 (.call 19 (.cons (.var 1) (.cons (.call 4 (.cons (.var 1) (.cons (.cst (.int 5)) .nil))) (.cons (.var 4) .nil))))))))
  (.seq (.ife (.not (.call 23 (.cons (.var 3) .nil)))
    (.ret (.some (.cst (.bl false))))
    .skip)
  (.seq b24_3
  (.ret (.some (.cst (.bl true)))))))))⟩
def ds : List DefT := [d0, d1, d2, d3, d4, d5, d6, d7, d8, d9, d10, d11, d12, d13, d14, d15, d16, d17, d18, d19, d20, d21, d22, d23, d24]
def fs : List Fn := [f0, f1, f2, f3, f4, f5, f6, f7, f8, f9, f10, f11, f12, f13, f14, f15, f16, f17, f18, f19, f20, f21, f22, f23, f24]
def gs : List (Nat × Gn) := [(1, gn1)]
theorem ok0 : DefOk G Hd XS d0 f0 := ⟨⟨rfl, rfl, rfl, by decide +kernel, rfl, by decide +kernel, by decide +kernel⟩, rfl, rfl, rfl, body_of (c := 30) (by decide +kernel)⟩
theorem bd0 : BindOk d0.x d0.st d0.ps := fun _ _ _ _ _ _ us hl => match us, hl with | [_], _ => rfl
theorem ok1 : GnOk G Hd XS d1 gn1 ∧ f1 = deadFn := ⟨⟨⟨rfl, rfl, rfl, by decide +kernel, rfl, by decide +kernel, by decide +kernel⟩, by decide +kernel, rfl, rfl, rfl, gn_of (c := 30) (t := ⟨gn1.p, gn1.c, gn1.a, gn1.e, gn1.b⟩) (by decide +kernel)⟩, rfl⟩
theorem bd1 : BindOk d1.x d1.st d1.ps := fun _ _ _ _ _ _ us hl => match us, hl with | [_], _ => rfl
theorem ok2 : DefOk G Hd XS d2 f2 := ⟨⟨rfl, rfl, rfl, by decide +kernel, rfl, by decide +kernel, by decide +kernel⟩, rfl, rfl, rfl, body_of (c := 30) (by decide +kernel)⟩
theorem bd2 : BindOk d2.x d2.st d2.ps := fun _ _ _ _ _ _ us hl => match us, hl with | [_], _ => rfl
theorem ok3 : DefOk G Hd XS d3 f3 := ⟨⟨rfl, rfl, rfl, by decide +kernel, rfl, by decide +kernel, by decide +kernel⟩, rfl, rfl, rfl, body_of (c := 30) (by decide +kernel)⟩
theorem bd3 : BindOk d3.x d3.st d3.ps := fun _ _ _ _ _ _ us hl => match us, hl with | [_, _], _ => rfl
theorem ok4 : DefOk G Hd XS d4 f4 := ⟨⟨rfl, rfl, rfl, by decide +kernel, rfl, by decide +kernel, by decide +kernel⟩, rfl, rfl, rfl, body_of (c := 30) (by decide +kernel)⟩
theorem bd4 : BindOk d4.x d4.st d4.ps := fun _ _ _ _ _ _ us hl => match us, hl with | [_, _], _ => rfl
theorem ok5 : DefOk G Hd XS d5 f5 := ⟨⟨rfl, rfl, rfl, by decide +kernel, rfl, by decide +kernel, by decide +kernel⟩, rfl, rfl, rfl, body_of (c := 30) (by decide +kernel)⟩
theorem bd5 : BindOk d5.x d5.st d5.ps := fun _ _ _ _ _ _ us hl => match us, hl with | [_, _], _ => rfl
theorem ok6 : DefOk G Hd XS d6 f6 := ⟨⟨rfl, rfl, rfl, by decide +kernel, rfl, by decide +kernel, by decide +kernel⟩, rfl, rfl, rfl, body_of (c := 30) (by decide +kernel)⟩
theorem bd6 : BindOk d6.x d6.st d6.ps := fun _ _ _ _ _ _ us hl => match us, hl with | [_, _], _ => rfl
theorem ok7 : DefOk G Hd XS d7 f7 := ⟨⟨rfl, rfl, rfl, by decide +kernel, rfl, by decide +kernel, by decide +kernel⟩, rfl, rfl, rfl, body_of (c := 30) (by decide +kernel)⟩
theorem bd7 : BindOk d7.x d7.st d7.ps := fun _ _ _ _ _ _ us hl => match us, hl with | [_, _], _ => rfl
theorem ok8 : DefOk G Hd XS d8 f8 := ⟨⟨rfl, rfl, rfl, by decide +kernel, rfl, by decide +kernel, by decide +kernel⟩, rfl, rfl, rfl, body_of (c := 30) (by decide +kernel)⟩
theorem bd8 : BindOk d8.x d8.st d8.ps := fun _ _ _ _ _ _ us hl => match us, hl with | [_, _], _ => rfl
theorem ok9 : DefOk G Hd XS d9 f9 := ⟨⟨rfl, rfl, rfl, by decide +kernel, rfl, by decide +kernel, by decide +kernel⟩, rfl, rfl, rfl, body_of (c := 30) (by decide +kernel)⟩
theorem bd9 : BindOk d9.x d9.st d9.ps := fun _ _ _ _ _ _ us hl => match us, hl with | [_, _], _ => rfl
theorem ok10 : DefOk G Hd XS d10 f10 := ⟨⟨rfl, rfl, rfl, by decide +kernel, rfl, by decide +kernel, by decide +kernel⟩, rfl, rfl, rfl, body_of (c := 30) (by decide +kernel)⟩
theorem bd10 : BindOk d10.x d10.st d10.ps := fun _ _ _ _ _ _ us hl => match us, hl with | [_, _, _, _], _ => rfl
theorem ok11 : DefOk G Hd XS d11 f11 := ⟨⟨rfl, rfl, rfl, by decide +kernel, rfl, by decide +kernel, by decide +kernel⟩, rfl, rfl, rfl, body_of (c := 30) (by decide +kernel)⟩
theorem bd11 : BindOk d11.x d11.st d11.ps := fun _ _ _ _ _ _ us hl => match us, hl with | [_, _, _, _], _ => rfl
theorem ok12 : DefOk G Hd XS d12 f12 := ⟨⟨rfl, rfl, rfl, by decide +kernel, rfl, by decide +kernel, by decide +kernel⟩, rfl, rfl, rfl, body_of (c := 30) (by decide +kernel)⟩
theorem bd12 : BindOk d12.x d12.st d12.ps := fun _ _ _ _ _ _ us hl => match us, hl with | [_, _, _, _], _ => rfl
theorem ok13 : DefOk G Hd XS d13 f13 := ⟨⟨rfl, rfl, rfl, by decide +kernel, rfl, by decide +kernel, by decide +kernel⟩, rfl, rfl, rfl, body_of (c := 30) (by decide +kernel)⟩
theorem bd13 : BindOk d13.x d13.st d13.ps := fun _ _ _ _ _ _ us hl => match us, hl with | [_, _], _ => rfl
theorem ok14 : DefOk G Hd XS d14 f14 := ⟨⟨rfl, rfl, rfl, by decide +kernel, rfl, by decide +kernel, by decide +kernel⟩, rfl, rfl, rfl, body_of (c := 30) (by decide +kernel)⟩
theorem bd14 : BindOk d14.x d14.st d14.ps := fun _ _ _ _ _ _ us hl => match us, hl with | [_, _, _], _ => rfl
theorem ok15 : DefOk G Hd XS d15 f15 := ⟨⟨rfl, rfl, rfl, by decide +kernel, rfl, by decide +kernel, by decide +kernel⟩, rfl, rfl, rfl, body_of (c := 30) (by decide +kernel)⟩
theorem bd15 : BindOk d15.x d15.st d15.ps := fun _ _ _ _ _ _ us hl => match us, hl with | [_, _, _], _ => rfl
theorem ok16 : DefOk G Hd XS d16 f16 := ⟨⟨rfl, rfl, rfl, by decide +kernel, rfl, by decide +kernel, by decide +kernel⟩, rfl, rfl, rfl, body_of (c := 30) (by decide +kernel)⟩
theorem bd16 : BindOk d16.x d16.st d16.ps := fun _ _ _ _ _ _ us hl => match us, hl with | [_, _, _], _ => rfl
theorem ok17 : DefOk G Hd XS d17 f17 := ⟨⟨rfl, rfl, rfl, by decide +kernel, rfl, by decide +kernel, by decide +kernel⟩, rfl, rfl, rfl, body_of (c := 30) (by decide +kernel)⟩
theorem bd17 : BindOk d17.x d17.st d17.ps := fun _ _ _ _ _ _ us hl => match us, hl with | [_, _, _], _ => rfl
theorem ok18 : DefOk G Hd XS d18 f18 := ⟨⟨rfl, rfl, rfl, by decide +kernel, rfl, by decide +kernel, by decide +kernel⟩, rfl, rfl, rfl, body_of (c := 30) (by decide +kernel)⟩
theorem bd18 : BindOk d18.x d18.st d18.ps := fun _ _ _ _ _ _ us hl => match us, hl with | [_, _, _], _ => rfl
theorem ok19 : DefOk G Hd XS d19 f19 := ⟨⟨rfl, rfl, rfl, by decide +kernel, rfl, by decide +kernel, by decide +kernel⟩, rfl, rfl, rfl, body_of (c := 30) (by decide +kernel)⟩
theorem bd19 : BindOk d19.x d19.st d19.ps := fun _ _ _ _ _ _ us hl => match us, hl with | [_, _, _], _ => rfl
theorem ok20 : DefOk G Hd XS d20 f20 := ⟨⟨rfl, rfl, rfl, by decide +kernel, rfl, by decide +kernel, by decide +kernel⟩, rfl, rfl, rfl, body_of (c := 30) (by decide +kernel)⟩
theorem bd20 : BindOk d20.x d20.st d20.ps := fun _ _ _ _ _ _ us hl => match us, hl with | [_, _], _ => rfl
theorem ok21 : DefOk G Hd XS d21 f21 := ⟨⟨rfl, rfl, rfl, by decide +kernel, rfl, by decide +kernel, by decide +kernel⟩, rfl, rfl, rfl, body_of (c := 30) (by decide +kernel)⟩
theorem bd21 : BindOk d21.x d21.st d21.ps := fun _ _ _ _ _ _ us hl => match us, hl with | [_, _], _ => rfl
theorem ok22 : DefOk G Hd XS d22 f22 := ⟨⟨rfl, rfl, rfl, by decide +kernel, rfl, by decide +kernel, by decide +kernel⟩, rfl, rfl, rfl, body_of (c := 30) (by decide +kernel)⟩
theorem bd22 : BindOk d22.x d22.st d22.ps := fun _ _ _ _ _ _ us hl => match us, hl with | [_], _ => rfl
theorem ok23 : DefOk G Hd XS d23 f23 := ⟨⟨rfl, rfl, rfl, by decide +kernel, rfl, by decide +kernel, by decide +kernel⟩, rfl, rfl, rfl, body_of (c := 30) (by decide +kernel)⟩
theorem bd23 : BindOk d23.x d23.st d23.ps := fun _ _ _ _ _ _ us hl => match us, hl with | [_], _ => rfl
theorem ok24 : DefOk G Hd XS d24 f24 := ⟨⟨rfl, rfl, rfl, by decide +kernel, rfl, by decide +kernel, by decide +kernel⟩, rfl, rfl, rfl, body_of (c := 30) (by decide +kernel)⟩
theorem bd24 : BindOk d24.x d24.st d24.ps := fun _ _ _ _ _ _ us hl => match us, hl with | [_], _ => rfl
theorem oks : DefsOk G Hd XS gs 0 ds fs := ⟨ok0, ok1, ok2, ok3, ok4, ok5, ok6, ok7, ok8, ok9, ok10, ok11, ok12, ok13, ok14, ok15, ok16, ok17, ok18, ok19, ok20, ok21, ok22, ok23, ok24, trivial⟩
theorem bds : BindsOk ds := ⟨bd0, bd1, bd2, bd3, bd4, bd5, bd6, bd7, bd8, bd9, bd10, bd11, bd12, bd13, bd14, bd15, bd16, bd17, bd18, bd19, bd20, bd21, bd22, bd23, bd24, trivial⟩
end LW

namespace LW
open PV
def PP : Prog := ⟨fs, XS, gs⟩
def ix : Iy := { item := 10, letters := 5, marks := 7, name := 6, part := 11, paths := 20, prose := 8, same := 0, take := 4, text := 9, tree := 0, full_row := 14, full_count := 15, full_prose := 16, full_depth := 17, full_refs := 18, leaf := 13, lt := 22, sizes := 21, wrapped := 12 }
theorem FF : Fns PP ix.toIx := ⟨rfl, rfl, rfl, rfl, rfl, rfl, rfl, rfl⟩
section
variable {k : Nat}
theorem told_ok {t : Itm} (h : Edg t) : callF PP (k + 34) 23 [t.w] = some (.ok (.bl true) [t.w]) := by
  have e2 := paths_ok (P := PP) (x := ix.toIx) rfl 20 t [] (k + 12) h.dep (by have := h.cnt; omega) (by simp)
  obtain ⟨σ', e, hσ⟩ := for_ind (fx := [0]) (tg := .name 1) (wp := [1, 2]) (b := fun σ => exec PP.xs (cl PP (k + 33) [0]) b23_0 σ) ((t.pth []).map fun r => .one (rowW r))
    (fun _ σ => σ = [some t.w, none, none])
    (fun i it σ ex hσ => by
      subst hσ
      rw [List.getElem?_map] at ex
      cases hr : (t.pth [])[i]? with
      | none => rw [hr] at ex; cases ex
      | some r =>
      rw [hr] at ex
      cases ex
      have hm : r ∈ t.pth [] := List.mem_of_getElem? hr
      have hg := pth_good t [] h.good r hm
      have hl := pth_le t [] r hm
      have hc := h.cnt
      have hd := h.dep
      obtain ⟨q, u⟩ := r
      dsimp only at hg hl
      refine ⟨[some t.w, some (rowW (q, u)), none], by simp [PV.take], ?_⟩
      have e3 := within_ok (P := PP) (k := k + 31) (ip := 0) (iw := 1) (ib := 2) rfl rfl rfl (t := u) hg (by omega) (by omega)
      have e4 := lt_ok (P := PP) (k := k + 1) (x := ix) rfl rfl (t := u) hg (by omega)
      cases u with
      | txt s => exact ⟨[some t.w, some (rowW (q, .txt s)), none], .inl (by simp [b23_0, exec, ev, evT, evs, evPs, evo, evC, evI, pk_var, pk_mov, pk_cst, pk_fnv, pk_bin, pk_cmp, pk_ch2, pk_neg, pk_not, pk_and, pk_or, pk_ife, pk_tup, pk_lst, pk_ix, pk_sl, pk_call, pk_callv, pk_fdx, pk_appAt, fdxW, takeAt, putAt, inAt, appAtW, List.lookup, pk_blt, pk_mut, pk_meth, pk_isin, pk_isx, pk_xfld, M.bind, M.pure, M.opt, M.fail, M.get, M.gets, PV.P.get, onE, okSet, doCall, doMut, mutW, lend, back, binOp, addW, subW, mulW, fdivW, modW, powW, cmpOp, eqW, gtW, ltW, leW, geW, isNonW, W.isNon, bifn, lenW, absW, intW, max2W, min2W, tupleW, listW, allI, datOk, W.depth, W.depths, W.dat, W.dats, W.frz, W.frzs, W.fz, W.fzs, D.w, D.ws, pyEq, pyEqs, getIx, setIx, ixn, augOp, tyAny, tyB, truth, meth, recv, recvL, recvS, start, take, setAll, mulOk, ibeq, SZv, log2_nat, fixed, rng_two, rng_one, rng_three, rng_four, rng_five, rng_six, wipe, outsFrom, fin, mkExc, frzs_strs, frzs_ints, fzs_strs, fzs_ints, seqWalk, rowW, Itm.w]), by simp [PV.wipe]⟩
      | ref s => exact ⟨[some t.w, some (rowW (q, .ref s)), none], .inl (by simp [b23_0, exec, ev, evT, evs, evPs, evo, evC, evI, pk_var, pk_mov, pk_cst, pk_fnv, pk_bin, pk_cmp, pk_ch2, pk_neg, pk_not, pk_and, pk_or, pk_ife, pk_tup, pk_lst, pk_ix, pk_sl, pk_call, pk_callv, pk_fdx, pk_appAt, fdxW, takeAt, putAt, inAt, appAtW, List.lookup, pk_blt, pk_mut, pk_meth, pk_isin, pk_isx, pk_xfld, M.bind, M.pure, M.opt, M.fail, M.get, M.gets, PV.P.get, onE, okSet, doCall, doMut, mutW, lend, back, binOp, addW, subW, mulW, fdivW, modW, powW, cmpOp, eqW, gtW, ltW, leW, geW, isNonW, W.isNon, bifn, lenW, absW, intW, max2W, min2W, tupleW, listW, allI, datOk, W.depth, W.depths, W.dat, W.dats, W.frz, W.frzs, W.fz, W.fzs, D.w, D.ws, pyEq, pyEqs, getIx, setIx, ixn, augOp, tyAny, tyB, truth, meth, recv, recvL, recvS, start, take, setAll, mulOk, ibeq, SZv, log2_nat, fixed, rng_two, rng_one, rng_three, rng_four, rng_five, rng_six, wipe, outsFrom, fin, mkExc, frzs_strs, frzs_ints, fzs_strs, fzs_ints, seqWalk, rowW, Itm.w]), by simp [PV.wipe]⟩
      | lab s => exact ⟨[some t.w, some (rowW (q, .lab s)), none], .inl (by simp [b23_0, exec, ev, evT, evs, evPs, evo, evC, evI, pk_var, pk_mov, pk_cst, pk_fnv, pk_bin, pk_cmp, pk_ch2, pk_neg, pk_not, pk_and, pk_or, pk_ife, pk_tup, pk_lst, pk_ix, pk_sl, pk_call, pk_callv, pk_fdx, pk_appAt, fdxW, takeAt, putAt, inAt, appAtW, List.lookup, pk_blt, pk_mut, pk_meth, pk_isin, pk_isx, pk_xfld, M.bind, M.pure, M.opt, M.fail, M.get, M.gets, PV.P.get, onE, okSet, doCall, doMut, mutW, lend, back, binOp, addW, subW, mulW, fdivW, modW, powW, cmpOp, eqW, gtW, ltW, leW, geW, isNonW, W.isNon, bifn, lenW, absW, intW, max2W, min2W, tupleW, listW, allI, datOk, W.depth, W.depths, W.dat, W.dats, W.frz, W.frzs, W.fz, W.fzs, D.w, D.ws, pyEq, pyEqs, getIx, setIx, ixn, augOp, tyAny, tyB, truth, meth, recv, recvL, recvS, start, take, setAll, mulOk, ibeq, SZv, log2_nat, fixed, rng_two, rng_one, rng_three, rng_four, rng_five, rng_six, wipe, outsFrom, fin, mkExc, frzs_strs, frzs_ints, fzs_strs, fzs_ints, seqWalk, rowW, Itm.w]), by simp [PV.wipe]⟩
      | prt kd ms is =>
        refine ⟨[some t.w, some (rowW (q, .prt kd ms is)), some (.bl (decide (wb (.prt kd ms is))))], .inl ?_, by simp [PV.wipe]⟩
        generalize decide (wb (.prt kd ms is)) = b at *
        simp [ix, Itm.w] at e3 e4
        simp [b23_0, exec, ev, evT, evs, evPs, evo, evC, evI, pk_var, pk_mov, pk_cst, pk_fnv, pk_bin, pk_cmp, pk_ch2, pk_neg, pk_not, pk_and, pk_or, pk_ife, pk_tup, pk_lst, pk_ix, pk_sl, pk_call, pk_callv, pk_fdx, pk_appAt, fdxW, takeAt, putAt, inAt, appAtW, List.lookup, pk_blt, pk_mut, pk_meth, pk_isin, pk_isx, pk_xfld, M.bind, M.pure, M.opt, M.fail, M.get, M.gets, PV.P.get, onE, okSet, doCall, doMut, mutW, lend, back, binOp, addW, subW, mulW, fdivW, modW, powW, cmpOp, eqW, gtW, ltW, leW, geW, isNonW, W.isNon, bifn, lenW, absW, intW, max2W, min2W, tupleW, listW, allI, datOk, W.depth, W.depths, W.dat, W.dats, W.frz, W.frzs, W.fz, W.fzs, D.w, D.ws, pyEq, pyEqs, getIx, setIx, ixn, augOp, tyAny, tyB, truth, meth, recv, recvL, recvS, start, take, setAll, mulOk, ibeq, SZv, log2_nat, fixed, rng_two, rng_one, rng_three, rng_four, rng_five, rng_six, wipe, outsFrom, fin, mkExc, frzs_strs, frzs_ints, fzs_strs, fzs_ints, seqWalk, rowW, Itm.w, e3, e4])
    [some t.w, none, none] rfl
  subst hσ
  have ef : exec PP.xs (cl PP (k + 33) [0]) b23_1 [some t.w, none, none] = _ := for_of (σ1 := [some t.w, none, none]) (xs := (t.pth []).map fun r => .one (rowW r)) (by
    simp [ix] at e2
    simp [exec, ev, evT, evs, evPs, evo, evC, evI, pk_var, pk_mov, pk_cst, pk_fnv, pk_bin, pk_cmp, pk_ch2, pk_neg, pk_not, pk_and, pk_or, pk_ife, pk_tup, pk_lst, pk_ix, pk_sl, pk_call, pk_callv, pk_fdx, pk_appAt, fdxW, takeAt, putAt, inAt, appAtW, List.lookup, pk_blt, pk_mut, pk_meth, pk_isin, pk_isx, pk_xfld, M.bind, M.pure, M.opt, M.fail, M.get, M.gets, PV.P.get, onE, okSet, doCall, doMut, mutW, lend, back, binOp, addW, subW, mulW, fdivW, modW, powW, cmpOp, eqW, gtW, ltW, leW, geW, isNonW, W.isNon, bifn, lenW, absW, intW, max2W, min2W, tupleW, listW, allI, datOk, W.depth, W.depths, W.dat, W.dats, W.frz, W.frzs, W.fz, W.fzs, D.w, D.ws, pyEq, pyEqs, getIx, setIx, ixn, augOp, tyAny, tyB, truth, meth, recv, recvL, recvS, start, take, setAll, mulOk, ibeq, SZv, log2_nat, fixed, rng_two, rng_one, rng_three, rng_four, rng_five, rng_six, wipe, outsFrom, fin, mkExc, frzs_strs, frzs_ints, fzs_strs, fzs_ints, seqWalk, e2, fzs_frz _ rows_frz, rows_frz, List.map_map, Function.comp_def]) e
  rw [call_eq (fn := f23) rfl rfl]
  simp [f23, exec, ev, evT, evs, evPs, evo, evC, evI, pk_var, pk_mov, pk_cst, pk_fnv, pk_bin, pk_cmp, pk_ch2, pk_neg, pk_not, pk_and, pk_or, pk_ife, pk_tup, pk_lst, pk_ix, pk_sl, pk_call, pk_callv, pk_fdx, pk_appAt, fdxW, takeAt, putAt, inAt, appAtW, List.lookup, pk_blt, pk_mut, pk_meth, pk_isin, pk_isx, pk_xfld, M.bind, M.pure, M.opt, M.fail, M.get, M.gets, PV.P.get, onE, okSet, doCall, doMut, mutW, lend, back, binOp, addW, subW, mulW, fdivW, modW, powW, cmpOp, eqW, gtW, ltW, leW, geW, isNonW, W.isNon, bifn, lenW, absW, intW, max2W, min2W, tupleW, listW, allI, datOk, W.depth, W.depths, W.dat, W.dats, W.frz, W.frzs, W.fz, W.fzs, D.w, D.ws, pyEq, pyEqs, getIx, setIx, ixn, augOp, tyAny, tyB, truth, meth, recv, recvL, recvS, start, take, setAll, mulOk, ibeq, SZv, log2_nat, fixed, rng_two, rng_one, rng_three, rng_four, rng_five, rng_six, wipe, outsFrom, fin, mkExc, frzs_strs, frzs_ints, fzs_strs, fzs_ints, seqWalk, ef]
theorem edge_ok {p : W} {N : Nat} {q s : Int} (h : Pool N p) (hN : N ≤ 1000000) (h0 : 0 ≤ q) (h1 : q ≤ 4) (s0 : -1 ≤ s) (s1 : s ≤ 2) :
    ∃ (t : Itm) (p' : W), Edg t ∧ Pool (N + 10000) p' ∧ callF PP (k + 6) 19 [p, .int q, .int s] = some (.ok t.w [p', .int q, .int s]) := by
  have d : DS N 0 p [] := ⟨h, fun _ h => (by cases h), Nat.le_refl _⟩
  have z := h.frz
  rcases (by omega : q = 0 ∨ q = 1 ∨ q = 2 ∨ q = 3 ∨ q = 4) with rfl | rfl | rfl | rfl | rfl
  · obtain ⟨t, p', nms', g, d', e⟩ := row_ok (x := ix) (k := k) FF rfl rfl rfl d (by omega) (by omega) s0 s1
    refine ⟨t, p', g, d'.pool, ?_⟩
    simp [ix, nmW] at e
    rw [call_eq (fn := f19) rfl rfl]
    simp [f19, exec, ev, evT, evs, evPs, evo, evC, evI, pk_var, pk_mov, pk_cst, pk_fnv, pk_bin, pk_cmp, pk_ch2, pk_neg, pk_not, pk_and, pk_or, pk_ife, pk_tup, pk_lst, pk_ix, pk_sl, pk_call, pk_callv, pk_fdx, pk_appAt, fdxW, takeAt, putAt, inAt, appAtW, List.lookup, pk_blt, pk_mut, pk_meth, pk_isin, pk_isx, pk_xfld, M.bind, M.pure, M.opt, M.fail, M.get, M.gets, PV.P.get, onE, okSet, doCall, doMut, mutW, lend, back, binOp, addW, subW, mulW, fdivW, modW, powW, cmpOp, eqW, gtW, ltW, leW, geW, isNonW, W.isNon, bifn, lenW, absW, intW, max2W, min2W, tupleW, listW, allI, datOk, W.depth, W.depths, W.dat, W.dats, W.frz, W.frzs, W.fz, W.fzs, D.w, D.ws, pyEq, pyEqs, getIx, setIx, ixn, augOp, tyAny, tyB, truth, meth, recv, recvL, recvS, start, take, setAll, mulOk, ibeq, SZv, log2_nat, fixed, rng_two, rng_one, rng_three, rng_four, rng_five, rng_six, wipe, outsFrom, fin, mkExc, frzs_strs, frzs_ints, fzs_strs, fzs_ints, seqWalk, z, e]
  · obtain ⟨t, p', nms', g, d', e⟩ := count_ok (x := ix) (k := k) FF rfl rfl d (by omega) (by omega) s0 s1
    refine ⟨t, p', g, d'.pool, ?_⟩
    simp [ix, nmW] at e
    rw [call_eq (fn := f19) rfl rfl]
    simp [f19, exec, ev, evT, evs, evPs, evo, evC, evI, pk_var, pk_mov, pk_cst, pk_fnv, pk_bin, pk_cmp, pk_ch2, pk_neg, pk_not, pk_and, pk_or, pk_ife, pk_tup, pk_lst, pk_ix, pk_sl, pk_call, pk_callv, pk_fdx, pk_appAt, fdxW, takeAt, putAt, inAt, appAtW, List.lookup, pk_blt, pk_mut, pk_meth, pk_isin, pk_isx, pk_xfld, M.bind, M.pure, M.opt, M.fail, M.get, M.gets, PV.P.get, onE, okSet, doCall, doMut, mutW, lend, back, binOp, addW, subW, mulW, fdivW, modW, powW, cmpOp, eqW, gtW, ltW, leW, geW, isNonW, W.isNon, bifn, lenW, absW, intW, max2W, min2W, tupleW, listW, allI, datOk, W.depth, W.depths, W.dat, W.dats, W.frz, W.frzs, W.fz, W.fzs, D.w, D.ws, pyEq, pyEqs, getIx, setIx, ixn, augOp, tyAny, tyB, truth, meth, recv, recvL, recvS, start, take, setAll, mulOk, ibeq, SZv, log2_nat, fixed, rng_two, rng_one, rng_three, rng_four, rng_five, rng_six, wipe, outsFrom, fin, mkExc, frzs_strs, frzs_ints, fzs_strs, fzs_ints, seqWalk, z, e]
  · obtain ⟨t, p', nms', g, d', e⟩ := prose7_ok (x := ix) (k := k) FF rfl rfl d (by omega) (by omega) s0 s1
    refine ⟨t, p', g, d'.pool, ?_⟩
    simp [ix, nmW] at e
    rw [call_eq (fn := f19) rfl rfl]
    simp [f19, exec, ev, evT, evs, evPs, evo, evC, evI, pk_var, pk_mov, pk_cst, pk_fnv, pk_bin, pk_cmp, pk_ch2, pk_neg, pk_not, pk_and, pk_or, pk_ife, pk_tup, pk_lst, pk_ix, pk_sl, pk_call, pk_callv, pk_fdx, pk_appAt, fdxW, takeAt, putAt, inAt, appAtW, List.lookup, pk_blt, pk_mut, pk_meth, pk_isin, pk_isx, pk_xfld, M.bind, M.pure, M.opt, M.fail, M.get, M.gets, PV.P.get, onE, okSet, doCall, doMut, mutW, lend, back, binOp, addW, subW, mulW, fdivW, modW, powW, cmpOp, eqW, gtW, ltW, leW, geW, isNonW, W.isNon, bifn, lenW, absW, intW, max2W, min2W, tupleW, listW, allI, datOk, W.depth, W.depths, W.dat, W.dats, W.frz, W.frzs, W.fz, W.fzs, D.w, D.ws, pyEq, pyEqs, getIx, setIx, ixn, augOp, tyAny, tyB, truth, meth, recv, recvL, recvS, start, take, setAll, mulOk, ibeq, SZv, log2_nat, fixed, rng_two, rng_one, rng_three, rng_four, rng_five, rng_six, wipe, outsFrom, fin, mkExc, frzs_strs, frzs_ints, fzs_strs, fzs_ints, seqWalk, z, e]
  · obtain ⟨t, p', nms', g, d', e⟩ := depth_ok (x := ix) (k := k) FF rfl rfl d (by omega) (by omega) s0 s1
    refine ⟨t, p', g, d'.pool, ?_⟩
    simp [ix, nmW] at e
    rw [call_eq (fn := f19) rfl rfl]
    simp [f19, exec, ev, evT, evs, evPs, evo, evC, evI, pk_var, pk_mov, pk_cst, pk_fnv, pk_bin, pk_cmp, pk_ch2, pk_neg, pk_not, pk_and, pk_or, pk_ife, pk_tup, pk_lst, pk_ix, pk_sl, pk_call, pk_callv, pk_fdx, pk_appAt, fdxW, takeAt, putAt, inAt, appAtW, List.lookup, pk_blt, pk_mut, pk_meth, pk_isin, pk_isx, pk_xfld, M.bind, M.pure, M.opt, M.fail, M.get, M.gets, PV.P.get, onE, okSet, doCall, doMut, mutW, lend, back, binOp, addW, subW, mulW, fdivW, modW, powW, cmpOp, eqW, gtW, ltW, leW, geW, isNonW, W.isNon, bifn, lenW, absW, intW, max2W, min2W, tupleW, listW, allI, datOk, W.depth, W.depths, W.dat, W.dats, W.frz, W.frzs, W.fz, W.fzs, D.w, D.ws, pyEq, pyEqs, getIx, setIx, ixn, augOp, tyAny, tyB, truth, meth, recv, recvL, recvS, start, take, setAll, mulOk, ibeq, SZv, log2_nat, fixed, rng_two, rng_one, rng_three, rng_four, rng_five, rng_six, wipe, outsFrom, fin, mkExc, frzs_strs, frzs_ints, fzs_strs, fzs_ints, seqWalk, z, e]
  · obtain ⟨t, p', nms', g, d', e⟩ := refs_ok (x := ix) (k := k) FF rfl rfl rfl d (by omega) (by omega) s0 s1
    refine ⟨t, p', g, d'.pool, ?_⟩
    simp [ix, nmW] at e
    rw [call_eq (fn := f19) rfl rfl]
    simp [f19, exec, ev, evT, evs, evPs, evo, evC, evI, pk_var, pk_mov, pk_cst, pk_fnv, pk_bin, pk_cmp, pk_ch2, pk_neg, pk_not, pk_and, pk_or, pk_ife, pk_tup, pk_lst, pk_ix, pk_sl, pk_call, pk_callv, pk_fdx, pk_appAt, fdxW, takeAt, putAt, inAt, appAtW, List.lookup, pk_blt, pk_mut, pk_meth, pk_isin, pk_isx, pk_xfld, M.bind, M.pure, M.opt, M.fail, M.get, M.gets, PV.P.get, onE, okSet, doCall, doMut, mutW, lend, back, binOp, addW, subW, mulW, fdivW, modW, powW, cmpOp, eqW, gtW, ltW, leW, geW, isNonW, W.isNon, bifn, lenW, absW, intW, max2W, min2W, tupleW, listW, allI, datOk, W.depth, W.depths, W.dat, W.dats, W.frz, W.frzs, W.fz, W.fzs, D.w, D.ws, pyEq, pyEqs, getIx, setIx, ixn, augOp, tyAny, tyB, truth, meth, recv, recvL, recvS, start, take, setAll, mulOk, ibeq, SZv, log2_nat, fixed, rng_two, rng_one, rng_three, rng_four, rng_five, rng_six, wipe, outsFrom, fin, mkExc, frzs_strs, frzs_ints, fzs_strs, fzs_ints, seqWalk, z, e]
theorem loops_ok {ns : List Int} {z1 z2 z3 z4 : Option W} : ∃ σ', exec PP.xs (cl PP 55 [0]) b24_3 [some (.ro ns), z1, z2, z3, z4, none, none] = some (.ok (.nx σ')) ∧ ∃ z4 z5 z6, σ' = [some (.ro ns), z1, z2, z3, z4, z5, z6] := by
  obtain ⟨σ', e, hσ⟩ := for_ind (fx := [0]) (tg := .name 5) (wp := [4, 5, 6]) (b := fun σ => exec PP.xs (cl PP 55 [0]) b24_2 σ) (rngItems 0 5 1)
    (fun i σ => ∃ z4 z5 z6, σ = [some (.ro ns), z1, z2, z3, z4, z5, z6])
    (fun i it σ ei ⟨z4, z5, z6, e⟩ => by
      obtain ⟨hi, rfl⟩ := rng_at ei
      subst e
      refine ⟨[some (.ro ns), z1, z2, z3, z4, some (.int (0 + (i : Int) * 1)), z6], by simp [PV.take], ?_⟩
      obtain ⟨σ', e, z4', z6', hσ⟩ := for_ind (fx := [0]) (tg := .name 4) (wp := [4, 6]) (b := fun σ => exec PP.xs (cl PP 55 [0]) b24_0 σ) (rngItems 0 2 1)
        (fun j σ => ∃ z4 z6, σ = [some (.ro ns), z1, z2, z3, z4, some (.int (0 + (i : Int) * 1)), z6])
        (fun j it σ ej ⟨z4, z6, e⟩ => by
          obtain ⟨hj, rfl⟩ := rng_at ej
          subst e
          obtain ⟨p0, q0, e0⟩ := pool_ok (P := PP) (k := 54) (i := 3) (ns := ns) (at_ := 1 + (i : Int)) (t := 3) rfl (by omega)
          obtain ⟨t, p1, g, q1, e1⟩ := edge_ok (k := 49) (q := (i : Int)) (s := (j : Int)) q0 (by omega) (by omega) (by omega) (by omega) (by omega)
          have e2 := told_ok (k := 21) g
          have z := q0.frz
          refine ⟨[some (.ro ns), z1, z2, z3, some (.int (0 + (j : Int) * 1)), some (.int (0 + (i : Int) * 1)), z6], by simp [PV.take], [some (.ro ns), z1, z2, z3, some (.int (0 + (j : Int) * 1)), some (.int (0 + (i : Int) * 1)), some t.w], .inl ?_, by simp [PV.wipe]⟩
          simp [b24_0, exec, ev, evT, evs, evPs, evo, evC, evI, pk_var, pk_mov, pk_cst, pk_fnv, pk_bin, pk_cmp, pk_ch2, pk_neg, pk_not, pk_and, pk_or, pk_ife, pk_tup, pk_lst, pk_ix, pk_sl, pk_call, pk_callv, pk_fdx, pk_appAt, fdxW, takeAt, putAt, inAt, appAtW, List.lookup, pk_blt, pk_mut, pk_meth, pk_isin, pk_isx, pk_xfld, M.bind, M.pure, M.opt, M.fail, M.get, M.gets, PV.P.get, onE, okSet, doCall, doMut, mutW, lend, back, binOp, addW, subW, mulW, fdivW, modW, powW, cmpOp, eqW, gtW, ltW, leW, geW, isNonW, W.isNon, bifn, lenW, absW, intW, max2W, min2W, tupleW, listW, allI, datOk, W.depth, W.depths, W.dat, W.dats, W.frz, W.frzs, W.fz, W.fzs, D.w, D.ws, pyEq, pyEqs, getIx, setIx, ixn, augOp, tyAny, tyB, truth, meth, recv, recvL, recvS, start, take, setAll, mulOk, ibeq, SZv, log2_nat, fixed, rng_two, rng_one, rng_three, rng_four, rng_five, rng_six, wipe, outsFrom, fin, mkExc, frzs_strs, frzs_ints, fzs_strs, fzs_ints, seqWalk, e0, e1, e2])
        [some (.ro ns), z1, z2, z3, z4, some (.int (0 + (i : Int) * 1)), z6] ⟨z4, z6, rfl⟩
      subst hσ
      have hr := rng0i (n := 2) (by omega)
      refine ⟨[some (.ro ns), z1, z2, z3, z4', some (.int (0 + (i : Int) * 1)), z6'], .inl ?_, by simp [PV.wipe]⟩
      exact for_of (σ1 := [some (.ro ns), z1, z2, z3, z4, some (.int (0 + (i : Int) * 1)), z6]) (xs := rngItems 0 2 1) (by simp at hr; simp [exec, ev, evT, evs, evPs, evo, evC, evI, pk_var, pk_mov, pk_cst, pk_fnv, pk_bin, pk_cmp, pk_ch2, pk_neg, pk_not, pk_and, pk_or, pk_ife, pk_tup, pk_lst, pk_ix, pk_sl, pk_call, pk_callv, pk_fdx, pk_appAt, fdxW, takeAt, putAt, inAt, appAtW, List.lookup, pk_blt, pk_mut, pk_meth, pk_isin, pk_isx, pk_xfld, M.bind, M.pure, M.opt, M.fail, M.get, M.gets, PV.P.get, onE, okSet, doCall, doMut, mutW, lend, back, binOp, addW, subW, mulW, fdivW, modW, powW, cmpOp, eqW, gtW, ltW, leW, geW, isNonW, W.isNon, bifn, lenW, absW, intW, max2W, min2W, tupleW, listW, allI, datOk, W.depth, W.depths, W.dat, W.dats, W.frz, W.frzs, W.fz, W.fzs, D.w, D.ws, pyEq, pyEqs, getIx, setIx, ixn, augOp, tyAny, tyB, truth, meth, recv, recvL, recvS, start, take, setAll, mulOk, ibeq, SZv, log2_nat, fixed, rng_two, rng_one, rng_three, rng_four, rng_five, rng_six, wipe, outsFrom, fin, mkExc, frzs_strs, frzs_ints, fzs_strs, fzs_ints, seqWalk, hr]) e)
    [some (.ro ns), z1, z2, z3, z4, none, none] ⟨z4, none, none, rfl⟩
  have hr := rng0i (n := 5) (by omega)
  exact ⟨σ', for_of (σ1 := [some (.ro ns), z1, z2, z3, z4, none, none]) (xs := rngItems 0 5 1) (by simp at hr; simp [exec, ev, evT, evs, evPs, evo, evC, evI, pk_var, pk_mov, pk_cst, pk_fnv, pk_bin, pk_cmp, pk_ch2, pk_neg, pk_not, pk_and, pk_or, pk_ife, pk_tup, pk_lst, pk_ix, pk_sl, pk_call, pk_callv, pk_fdx, pk_appAt, fdxW, takeAt, putAt, inAt, appAtW, List.lookup, pk_blt, pk_mut, pk_meth, pk_isin, pk_isx, pk_xfld, M.bind, M.pure, M.opt, M.fail, M.get, M.gets, PV.P.get, onE, okSet, doCall, doMut, mutW, lend, back, binOp, addW, subW, mulW, fdivW, modW, powW, cmpOp, eqW, gtW, ltW, leW, geW, isNonW, W.isNon, bifn, lenW, absW, intW, max2W, min2W, tupleW, listW, allI, datOk, W.depth, W.depths, W.dat, W.dats, W.frz, W.frzs, W.fz, W.fzs, D.w, D.ws, pyEq, pyEqs, getIx, setIx, ixn, augOp, tyAny, tyB, truth, meth, recv, recvL, recvS, start, take, setAll, mulOk, ibeq, SZv, log2_nat, fixed, rng_two, rng_one, rng_three, rng_four, rng_five, rng_six, wipe, outsFrom, fin, mkExc, frzs_strs, frzs_ints, fzs_strs, fzs_ints, seqWalk, hr]) e, hσ⟩
end
def kk : Nat := 56
theorem law_ok : LawE ⟨fs, XS, gs⟩ kk 24 := fun ns _ => by
  show ∃ us, callF PP 56 24 [.ro ns] = some (.ok (.bl true) us)
  obtain ⟨p0, q0, e0⟩ := pool_ok (P := PP) (k := 54) (i := 3) (ns := ns) (at_ := 0) (t := 3) rfl (by omega)
  obtain ⟨v, p1, a1, b1, q1, e1⟩ := take_ok (P := PP) (k := 54) (i := 4) (many := 8) rfl q0 (by omega) (by omega) (by omega)
  have z0 := q0.frz
  have z1 := q1.frz
  have d1 : DS 1 0 p1 [] := ⟨q1, fun _ h => (by cases h), Nat.le_refl _⟩
  have ec : callF PP 56 24 [.ro ns] = _ := call_eq (fn := f24) rfl rfl
  refine ⟨[.ro ns], ?_⟩
  rw [ec]
  simp at e0
  by_cases h3 : v = 3
  · obtain ⟨t, p2, nms', b', T, d2, e2⟩ := part_l (x := ix) (k := 6) FF d1 (by omega) (by omega)
    have e3 := told_ok (k := 21) T.edg
    obtain ⟨σ', ef, z4, z5, z6, rfl⟩ := loops_ok (ns := ns) (z1 := some p2) (z2 := some (.int v)) (z3 := some t.w) (z4 := none)
    unfold bud nmW at e2
    simp [ix] at e2
    subst h3
    simp [f24, exec, ev, evT, evs, evPs, evo, evC, evI, pk_var, pk_mov, pk_cst, pk_fnv, pk_bin, pk_cmp, pk_ch2, pk_neg, pk_not, pk_and, pk_or, pk_ife, pk_tup, pk_lst, pk_ix, pk_sl, pk_call, pk_callv, pk_fdx, pk_appAt, fdxW, takeAt, putAt, inAt, appAtW, List.lookup, pk_blt, pk_mut, pk_meth, pk_isin, pk_isx, pk_xfld, M.bind, M.pure, M.opt, M.fail, M.get, M.gets, PV.P.get, onE, okSet, doCall, doMut, mutW, lend, back, binOp, addW, subW, mulW, fdivW, modW, powW, cmpOp, eqW, gtW, ltW, leW, geW, isNonW, W.isNon, bifn, lenW, absW, intW, max2W, min2W, tupleW, listW, allI, datOk, W.depth, W.depths, W.dat, W.dats, W.frz, W.frzs, W.fz, W.fzs, D.w, D.ws, pyEq, pyEqs, getIx, setIx, ixn, augOp, tyAny, tyB, truth, meth, recv, recvL, recvS, start, take, setAll, mulOk, ibeq, SZv, log2_nat, fixed, rng_two, rng_one, rng_three, rng_four, rng_five, rng_six, wipe, outsFrom, fin, mkExc, frzs_strs, frzs_ints, fzs_strs, fzs_ints, seqWalk, e0, e1, e2, e3, z0, z1, ef]
  · by_cases h5 : v = 5 ∨ v = 1
    · obtain ⟨t, p2, nms', b', T, d2, e2⟩ := part_s (x := ix) (k := 6) FF d1 (by omega) (by omega)
      have e3 := told_ok (k := 21) T.edg
      obtain ⟨σ', ef, z4, z5, z6, rfl⟩ := loops_ok (ns := ns) (z1 := some p2) (z2 := some (.int v)) (z3 := some t.w) (z4 := none)
      unfold bud nmW at e2
      simp [ix] at e2
      rcases h5 with rfl | rfl
      · simp [f24, exec, ev, evT, evs, evPs, evo, evC, evI, pk_var, pk_mov, pk_cst, pk_fnv, pk_bin, pk_cmp, pk_ch2, pk_neg, pk_not, pk_and, pk_or, pk_ife, pk_tup, pk_lst, pk_ix, pk_sl, pk_call, pk_callv, pk_fdx, pk_appAt, fdxW, takeAt, putAt, inAt, appAtW, List.lookup, pk_blt, pk_mut, pk_meth, pk_isin, pk_isx, pk_xfld, M.bind, M.pure, M.opt, M.fail, M.get, M.gets, PV.P.get, onE, okSet, doCall, doMut, mutW, lend, back, binOp, addW, subW, mulW, fdivW, modW, powW, cmpOp, eqW, gtW, ltW, leW, geW, isNonW, W.isNon, bifn, lenW, absW, intW, max2W, min2W, tupleW, listW, allI, datOk, W.depth, W.depths, W.dat, W.dats, W.frz, W.frzs, W.fz, W.fzs, D.w, D.ws, pyEq, pyEqs, getIx, setIx, ixn, augOp, tyAny, tyB, truth, meth, recv, recvL, recvS, start, take, setAll, mulOk, ibeq, SZv, log2_nat, fixed, rng_two, rng_one, rng_three, rng_four, rng_five, rng_six, wipe, outsFrom, fin, mkExc, frzs_strs, frzs_ints, fzs_strs, fzs_ints, seqWalk, e0, e1, e2, e3, z0, z1, ef]
      · simp [f24, exec, ev, evT, evs, evPs, evo, evC, evI, pk_var, pk_mov, pk_cst, pk_fnv, pk_bin, pk_cmp, pk_ch2, pk_neg, pk_not, pk_and, pk_or, pk_ife, pk_tup, pk_lst, pk_ix, pk_sl, pk_call, pk_callv, pk_fdx, pk_appAt, fdxW, takeAt, putAt, inAt, appAtW, List.lookup, pk_blt, pk_mut, pk_meth, pk_isin, pk_isx, pk_xfld, M.bind, M.pure, M.opt, M.fail, M.get, M.gets, PV.P.get, onE, okSet, doCall, doMut, mutW, lend, back, binOp, addW, subW, mulW, fdivW, modW, powW, cmpOp, eqW, gtW, ltW, leW, geW, isNonW, W.isNon, bifn, lenW, absW, intW, max2W, min2W, tupleW, listW, allI, datOk, W.depth, W.depths, W.dat, W.dats, W.frz, W.frzs, W.fz, W.fzs, D.w, D.ws, pyEq, pyEqs, getIx, setIx, ixn, augOp, tyAny, tyB, truth, meth, recv, recvL, recvS, start, take, setAll, mulOk, ibeq, SZv, log2_nat, fixed, rng_two, rng_one, rng_three, rng_four, rng_five, rng_six, wipe, outsFrom, fin, mkExc, frzs_strs, frzs_ints, fzs_strs, fzs_ints, seqWalk, e0, e1, e2, e3, z0, z1, ef]
    · obtain ⟨s, p2, a2, b2, q2, e2⟩ := take_ok (P := PP) (k := 54) (i := 4) (many := 4) rfl q1 (by omega) (by omega) (by omega)
      obtain ⟨q, p3, a3, b3, q3, e3⟩ := take_ok (P := PP) (k := 54) (i := 4) (many := 5) rfl q2 (by omega) (by omega) (by omega)
      obtain ⟨t, p4, g, q4, e4⟩ := edge_ok (k := 49) (q := q) (s := s - 1) q3 (by omega) (by omega) (by omega) (by omega) (by omega)
      have e5 := told_ok (k := 21) g
      have z2 := q2.frz
      have z3 := q3.frz
      obtain ⟨σ', ef, z4, z5, z6, rfl⟩ := loops_ok (ns := ns) (z1 := some p4) (z2 := some (.int v)) (z3 := some t.w) (z4 := some (.int (s - 1)))
      have h5a : ¬ v = 5 := fun z => h5 (.inl z)
      have h5b : ¬ v = 1 := fun z => h5 (.inr z)
      simp [f24, exec, ev, evT, evs, evPs, evo, evC, evI, pk_var, pk_mov, pk_cst, pk_fnv, pk_bin, pk_cmp, pk_ch2, pk_neg, pk_not, pk_and, pk_or, pk_ife, pk_tup, pk_lst, pk_ix, pk_sl, pk_call, pk_callv, pk_fdx, pk_appAt, fdxW, takeAt, putAt, inAt, appAtW, List.lookup, pk_blt, pk_mut, pk_meth, pk_isin, pk_isx, pk_xfld, M.bind, M.pure, M.opt, M.fail, M.get, M.gets, PV.P.get, onE, okSet, doCall, doMut, mutW, lend, back, binOp, addW, subW, mulW, fdivW, modW, powW, cmpOp, eqW, gtW, ltW, leW, geW, isNonW, W.isNon, bifn, lenW, absW, intW, max2W, min2W, tupleW, listW, allI, datOk, W.depth, W.depths, W.dat, W.dats, W.frz, W.frzs, W.fz, W.fzs, D.w, D.ws, pyEq, pyEqs, getIx, setIx, ixn, augOp, tyAny, tyB, truth, meth, recv, recvL, recvS, start, take, setAll, mulOk, ibeq, SZv, log2_nat, fixed, rng_two, rng_one, rng_three, rng_four, rng_five, rng_six, wipe, outsFrom, fin, mkExc, frzs_strs, frzs_ints, fzs_strs, fzs_ints, seqWalk, e0, e1, h3, h5a, h5b, e2, e3, e4, e5, z0, z1, z2, z3, ef]
end LW

namespace LW
open PySem PV
theorem top_mk {Pm : Params} {K : PySem.W.Frag} (a0 : DefAt K d0.x d0.st) (a1 : DefAt K d1.x d1.st) (a2 : DefAt K d2.x d2.st) (a3 : DefAt K d3.x d3.st) (a4 : DefAt K d4.x d4.st) (a5 : DefAt K d5.x d5.st) (a6 : DefAt K d6.x d6.st) (a7 : DefAt K d7.x d7.st) (a8 : DefAt K d8.x d8.st) (a9 : DefAt K d9.x d9.st) (a10 : DefAt K d10.x d10.st) (a11 : DefAt K d11.x d11.st) (a12 : DefAt K d12.x d12.st) (a13 : DefAt K d13.x d13.st) (a14 : DefAt K d14.x d14.st) (a15 : DefAt K d15.x d15.st) (a16 : DefAt K d16.x d16.st) (a17 : DefAt K d17.x d17.st) (a18 : DefAt K d18.x d18.st) (a19 : DefAt K d19.x d19.st) (a20 : DefAt K d20.x d20.st) (a21 : DefAt K d21.x d21.st) (a22 : DefAt K d22.x d22.st) (a23 : DefAt K d23.x d23.st) (a24 : DefAt K d24.x d24.st) (z0 : PySem.W.nsIn K mainGlobals "isinstance" = some none) (z1 : PySem.W.nsIn K mainGlobals "tuple" = some none) (z2 : PySem.W.nsIn K mainGlobals "len" = some none) (z4 : PySem.W.nsIn K mainGlobals "range" = some none) (z6 : PySem.W.nsIn K mainGlobals "str" = some none) (z7 : GlobAt Pm K ds xs "MOST_ITEMS_OF_A_PART" (.cst (.int 12))) (z8 : GlobAt Pm K ds xs "MOST_DEPTH" (.cst (.int 6))) (z9 : GlobAt Pm K ds xs "MOST_ITEMS" (.cst (.int 60))) (z10 : GlobAt Pm K ds xs "MOST_CHARACTERS" (.cst (.int 400))) (z11 : GlobAt Pm K ds xs "MOST_REFERENCES" (.cst (.int 3))) (z12 : PySem.W.nsIn K mainGlobals "abs" = some none) (z13 : PySem.W.nsIn K mainGlobals "int" = some none) (z17 : PySem.W.nsIn K mainGlobals "max" = some none) (z18 : PySem.W.nsIn K mainGlobals "min" = some none) (z34 : PySem.W.nsIn K mainGlobals "bool" = some none) : TopAt Pm K ds xs G Hd := by
  exact ⟨⟨a0, a1, a2, a3, a4, a5, a6, a7, a8, a9, a10, a11, a12, a13, a14, a15, a16, a17, a18, a19, a20, a21, a22, a23, a24, trivial⟩, ⟨z0, z1, z2, rfl, z4, rfl, z6, z7, z8, z9, z10, z11, z12, z13, rfl, rfl, rfl, z17, z18, rfl, rfl, rfl, rfl, rfl, rfl, rfl, rfl, rfl, rfl, rfl, rfl, rfl, rfl, rfl, z34, rfl, rfl, rfl, rfl, trivial⟩, trivial, trivial⟩
end LW

open PySem PySem.W PyProof.Rows
set_option maxRecDepth 100000 in
set_option maxHeartbeats 0 in
theorem PySem.Challenge.cw_pagestyles_k04_bounds_at_the_edge_holds : PySem.Challenge.rw_pagestyles_k04_bounds_at_the_edge.Holds := by
  w_on; o_law; k_head; (case hw => w_witness2)
  k_fill
  refine PV.walk (l := PySem.Challenge.rw_pagestyles_k04_bounds_at_the_edge) (ds := LW.ds) (xs := LW.xs) (G := LW.G) (Hd := LW.Hd) (fs := LW.fs) (XS := LW.XS) (gs := LW.gs) (k := LW.kk) (i := 24) (dl := LW.d24) rfl rfl ⟨rfl, by decide, by decide⟩ LW.oks LW.bds rfl rfl rfl LW.law_ok (fun w h Y => PySem.W.kIn_of Y) ?T
  case T =>
    intro w
    refine' LW.top_mk ?a0 ?a1 ?a2 ?a3 ?a4 ?a5 ?a6 ?a7 ?a8 ?a9 ?a10 ?a11 ?a12 ?a13 ?a14 ?a15 ?a16 ?a17 ?a18 ?a19 ?a20 ?a21 ?a22 ?a23 ?a24 ?z0 ?z1 ?z2 ?z4 ?z6 ?z7 ?z8 ?z9 ?z10 ?z11 ?z12 ?z13 ?z17 ?z18 ?z34
    (case a0 => refine' PV.at_mk (x := "is_part") (st := LW.top 6) ?a ?l ?c ?k; (case a => k_is); (case l => k_is); (case c => k_is); (case k => k_is))
    (case a1 => refine' PV.at_mk (x := "walk") (st := LW.top 7) ?a ?l ?c ?k; (case a => k_is); (case l => k_is); (case c => k_is); (case k => k_is))
    (case a2 => refine' PV.at_mk (x := "within_bounds") (st := LW.top 8) ?a ?l ?c ?k; (case a => k_is); (case l => k_is); (case c => k_is); (case k => k_is))
    (case a3 => refine' PV.at_mk (x := "_law_pool") (st := LW.top 10) ?a ?l ?c ?k; (case a => k_is); (case l => k_is); (case c => k_is); (case k => k_is))
    (case a4 => refine' PV.at_mk (x := "_law_take") (st := LW.top 11) ?a ?l ?c ?k; (case a => k_is); (case l => k_is); (case c => k_is); (case k => k_is))
    (case a5 => refine' PV.at_mk (x := "_law_letters") (st := LW.top 12) ?a ?l ?c ?k; (case a => k_is); (case l => k_is); (case c => k_is); (case k => k_is))
    (case a6 => refine' PV.at_mk (x := "_law_name") (st := LW.top 13) ?a ?l ?c ?k; (case a => k_is); (case l => k_is); (case c => k_is); (case k => k_is))
    (case a7 => refine' PV.at_mk (x := "_law_marks") (st := LW.top 14) ?a ?l ?c ?k; (case a => k_is); (case l => k_is); (case c => k_is); (case k => k_is))
    (case a8 => refine' PV.at_mk (x := "_law_prose") (st := LW.top 15) ?a ?l ?c ?k; (case a => k_is); (case l => k_is); (case c => k_is); (case k => k_is))
    (case a9 => refine' PV.at_mk (x := "_law_text") (st := LW.top 16) ?a ?l ?c ?k; (case a => k_is); (case l => k_is); (case c => k_is); (case k => k_is))
    (case a10 => refine' PV.at_mk (x := "_law_item") (st := LW.top 17) ?a ?l ?c ?k; (case a => k_is); (case l => k_is); (case c => k_is); (case k => k_is))
    (case a11 => refine' PV.at_mk (x := "_law_part") (st := LW.top 18) ?a ?l ?c ?k; (case a => k_is); (case l => k_is); (case c => k_is); (case k => k_is))
    (case a12 => refine' PV.at_mk (x := "_law_wrapped") (st := LW.top 19) ?a ?l ?c ?k; (case a => k_is); (case l => k_is); (case c => k_is); (case k => k_is))
    (case a13 => refine' PV.at_mk (x := "_law_leaf") (st := LW.top 20) ?a ?l ?c ?k; (case a => k_is); (case l => k_is); (case c => k_is); (case k => k_is))
    (case a14 => refine' PV.at_mk (x := "_law_full_row") (st := LW.top 21) ?a ?l ?c ?k; (case a => k_is); (case l => k_is); (case c => k_is); (case k => k_is))
    (case a15 => refine' PV.at_mk (x := "_law_full_count") (st := LW.top 22) ?a ?l ?c ?k; (case a => k_is); (case l => k_is); (case c => k_is); (case k => k_is))
    (case a16 => refine' PV.at_mk (x := "_law_full_prose") (st := LW.top 23) ?a ?l ?c ?k; (case a => k_is); (case l => k_is); (case c => k_is); (case k => k_is))
    (case a17 => refine' PV.at_mk (x := "_law_full_depth") (st := LW.top 24) ?a ?l ?c ?k; (case a => k_is); (case l => k_is); (case c => k_is); (case k => k_is))
    (case a18 => refine' PV.at_mk (x := "_law_full_refs") (st := LW.top 25) ?a ?l ?c ?k; (case a => k_is); (case l => k_is); (case c => k_is); (case k => k_is))
    (case a19 => refine' PV.at_mk (x := "_law_edge") (st := LW.top 26) ?a ?l ?c ?k; (case a => k_is); (case l => k_is); (case c => k_is); (case k => k_is))
    (case a20 => refine' PV.at_mk (x := "_law_paths") (st := LW.top 27) ?a ?l ?c ?k; (case a => k_is); (case l => k_is); (case c => k_is); (case k => k_is))
    (case a21 => refine' PV.at_mk (x := "_law_sizes") (st := LW.top 28) ?a ?l ?c ?k; (case a => k_is); (case l => k_is); (case c => k_is); (case k => k_is))
    (case a22 => refine' PV.at_mk (x := "_law_let") (st := LW.top 29) ?a ?l ?c ?k; (case a => k_is); (case l => k_is); (case c => k_is); (case k => k_is))
    (case a23 => refine' PV.at_mk (x := "_law_told") (st := LW.top 30) ?a ?l ?c ?k; (case a => k_is); (case l => k_is); (case c => k_is); (case k => k_is))
    (case a24 => refine' PV.at_mk (x := "law") (st := LW.top 31) ?a ?l ?c ?k; (case a => k_is); (case l => k_is); (case c => k_is); (case k => k_is))
    (case z0 => k_is)
    (case z1 => k_is)
    (case z2 => k_is)
    (case z4 => k_is)
    (case z6 => k_is)
    (case z7 => refine' PV.glob_int ?q7; (case q7 => k_is))
    (case z8 => refine' PV.glob_int ?q8; (case q8 => k_is))
    (case z9 => refine' PV.glob_int ?q9; (case q9 => k_is))
    (case z10 => refine' PV.glob_int ?q10; (case q10 => k_is))
    (case z11 => refine' PV.glob_int ?q11; (case q11 => k_is))
    (case z12 => k_is)
    (case z13 => k_is)
    (case z17 => k_is)
    (case z18 => k_is)
    (case z34 => k_is)
