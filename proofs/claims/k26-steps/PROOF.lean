import PyProof.Rows.All
import Wide.All
import OpenK.AllK
import Wide.FinOn
import HandS.ForMost
import HandS.ForExc
import HandS.TupAny
import HandS.Deep
import HandS.IsInst
import HandS.Wide
import HandS.Walk
import HandS.SortInts
import HandS.Flow
import HandS.ExcOwn
import HandS.ExcIs
import HandS.RaiseMore
import HandS.Small
import HandS.WordsExc
import HandS.Zip
import HandS.Ends
import PySem.Challenge.RW_pagestyles_k26_whole_steps_of_strokes
set_option Elab.async false
set_option linter.all false
set_option maxRecDepth 100000
/-! DI1: a small evaluator of our own over pure data: values D, W, objects O, terms E, S; ev, exec, calls. Plain Lean, no program in sight. -/
namespace DI

/-! ### data -/
inductive D where
  | non | bl (b : Bool) | int (i : Int) | str (s : List Char) | tup (xs : List D)
  deriving Repr, Inhabited

mutual
def D.beq : D → D → Bool
  | .non, .non => true
  | .bl a, .bl b => a == b
  | .int a, .int b => a == b
  | .str a, .str b => a == b
  | .tup a, .tup b => D.beqs a b
  | _, _ => false
def D.beqs : List D → List D → Bool
  | [], [] => true
  | a :: as, b :: bs => D.beq a b && D.beqs as bs
  | _, _ => false
end
mutual
theorem D.beq_iff : ∀ a b : D, D.beq a b = true ↔ a = b
  | .non, b => by cases b <;> simp [D.beq]
  | .bl a, b => by cases b <;> simp [D.beq]
  | .int a, b => by cases b <;> simp [D.beq]
  | .str a, b => by cases b <;> simp [D.beq]
  | .tup a, b => by
    cases b with
    | tup b => simp only [D.beq, D.tup.injEq]; exact D.beqs_iff a b
    | _ => simp [D.beq]
theorem D.beqs_iff : ∀ a b : List D, D.beqs a b = true ↔ a = b
  | [], b => by cases b <;> simp [D.beqs]
  | a :: as, b => by
    cases b with
    | nil => simp [D.beqs]
    | cons b bs => simp only [D.beqs, Bool.and_eq_true, List.cons.injEq]; rw [D.beq_iff a b, D.beqs_iff as bs]
end
instance : DecidableEq D := fun a b => if h : D.beq a b = true then isTrue ((D.beq_iff a b).mp h) else isFalse fun e => h ((D.beq_iff a b).mpr e)

-- Python's == on data (True == 1)
mutual
def pyEq : D → D → Bool
  | .non, .non => true
  | .bl a, .bl b => a == b
  | .bl a, .int j => (if a then 1 else 0) == j
  | .int i, .bl b => i == (if b then 1 else 0)
  | .int a, .int b => a == b
  | .str a, .str b => a == b
  | .tup a, .tup b => pyEqs a b
  | _, _ => false
def pyEqs : List D → List D → Bool
  | [], [] => true
  | a :: as, b :: bs => pyEq a b && pyEqs as bs
  | _, _ => false
end
mutual
def D.depth : D → Nat
  | .tup xs => D.depths xs + 1
  | _ => 0
def D.depths : List D → Nat
  | [] => 0
  | x :: xs => max (D.depth x) (D.depths xs)
end

/-- a value: data, an object of the heap, the script, a def -/
inductive W where
  | d (x : D) | r (n : Nat) | ro (xs : List Int) | fn (i : Nat)
  deriving DecidableEq, Repr, Inhabited
inductive O where
  | lst (xs : List W)
  | dic (kvs : List (D × W))
  | ins (c : Nat) (fs : List (String × W))
  deriving DecidableEq, Repr, Inhabited
abbrev H := List O
abbrev St := List (Option W)
structure Exc where
  c : Nat
  fs : List (String × D)
  deriving DecidableEq, Repr, Inhabited
inductive R (α : Type) where
  | ok (a : α) (h : H)
  | ex (x : Exc) (h : H)
  deriving Repr
abbrev M (α : Type) := H → Option (R α)
def M.pure {α : Type} (a : α) : M α := fun h => some (.ok a h)
def M.bind {α β : Type} (m : M α) (f : α → M β) : M β := fun h => match m h with
  | none => none
  | some (.ex x h') => some (.ex x h')
  | some (.ok a h') => f a h'
def M.fail {α : Type} : M α := fun _ => none
/-- what is read off the heap, which stays -/
def M.ask {α : Type} (f : H → Option α) : M α := fun h => match f h with
  | none => none
  | some a => some (.ok a h)
def M.opt {α : Type} (o : Option α) : M α := fun h => match o with
  | none => none
  | some a => some (.ok a h)
instance : Monad M where
  pure := M.pure
  bind := M.bind

@[irreducible] def SZ : Nat := 16777216
@[irreducible] def FUEL : Nat := 18446744073709551616

/-! ### terms -/
inductive BOp where
  | add | sub | mul | fdiv | mod | pow
  deriving DecidableEq, Repr
inductive COp where
  | eq | ne | lt | le | gt | ge | is | isn | inn | nin
  deriving DecidableEq, Repr
inductive Ty where
  | int | bool | str | tuple | list | dict | cls (i : Nat) | valueError
  deriving DecidableEq, Repr
/-- built-in functions -/
inductive BI where
  | len | abs | int | max2 | min2 | tuple | list | sum | maxL | minL | any | all | sorted
  deriving DecidableEq, Repr
/-- methods of built-in types -/
inductive MI where
  | append | extend | pop | reverse | clearL | join
  deriving DecidableEq, Repr
inductive T where
  | name (i : Nat)
  | tup (is : List Nat)
  deriving DecidableEq, Repr

mutual
inductive E where
  | var (i : Nat)
  | cst (d : D)
  | fnv (i : Nat)
  | bin (o : BOp) (a b : E)
  | cmp (o : COp) (a b : E)
  | ch2 (o p : COp) (a b c : E)
  | neg (a : E)
  | not (a : E)
  | and (a b : E)
  | or (a b : E)
  | ife (c a b : E)
  | tup (es : Es)
  | lst (es : Es)
  | ix (a b : E)
  | sl (a : E) (lo hi : Eo)
  | call (f : Nat) (es : Es)
  | blt (b : BI) (es : Es)
  | meth (m : MI) (o : E) (es : Es)
  | isin (a : E) (ts : List Ty)
  | isx (cs : List Nat)
  | xfld (f : String)
  | comp (elt : E) (tg : T) (it : It) (c : Eo) (wp : List Nat)
  deriving DecidableEq
inductive Es where
  | nil
  | cons (e : E) (es : Es)
  deriving DecidableEq
inductive Eo where
  | none
  | some (e : E)
  deriving DecidableEq
/-- what a for walks -/
inductive It where
  | seq (e : E)
  | rng1 (a : E)
  | rng2 (a b : E)
  | rng3 (a b c : E)
  | enm (e : E)
  | zip (a b : E)
  deriving DecidableEq
end
inductive S where
  | skip
  | expr (e : E)
  | set (i : Nat) (e : E)
  | setT (is : List Nat) (e : E)
  | setI (o i e : E)
  | par (i j : Nat) (a b : E)
  | aug (i : Nat) (o : BOp) (e : E)
  | seq (a b : S)
  | ife (c : E) (a b : S)
  | whl (c : E) (b : S)
  | for (tg : T) (it : It) (b : S)
  | ret (e : Eo)
  | brk | cnt
  | raise (c : Nat) (es : Es)
  | try1 (b : S) (cs : List Nat) (x : Option Nat) (s : S)
  deriving DecidableEq

/-! ### operations on values -/
def W.asD : W → Option D
  | .d x => some x
  | _ => none
/-- all are data -/
def allD : List W → Option (List D)
  | [] => some []
  | .d x :: r => match allD r with
    | none => none
    | some xs => some (x :: xs)
  | _ :: _ => none
def mulOk (i j : Int) : Bool := decide (i.natAbs < 18446744073709551616) || decide (j.natAbs < 18446744073709551616)
def addW (x y : W) : M W := fun h => match x, y with
  | .d (.int i), .d (.int j) => some (.ok (.d (.int (i + j))) h)
  | .d (.str a), .d (.str b) => if a.length + b.length ≤ SZ then some (.ok (.d (.str (a ++ b))) h) else none
  | .d (.tup a), .d (.tup b) => if a.length + b.length ≤ SZ then some (.ok (.d (.tup (a ++ b))) h) else none
  | .r m, .r n => match h[m]?, h[n]? with
    | some (.lst a), some (.lst b) => if a.length + b.length ≤ SZ then some (.ok (.r h.length) (h ++ [.lst (a ++ b)])) else none
    | _, _ => none
  | _, _ => none
def subW (x y : W) : M W := fun h => match x, y with
  | .d (.int i), .d (.int j) => some (.ok (.d (.int (i - j))) h)
  | _, _ => none
def mulW (x y : W) : M W := fun h => match x, y with
  | .d (.int i), .d (.int j) => if mulOk i j = true then some (.ok (.d (.int (i * j))) h) else none
  | .r m, .d (.int k) => match h[m]? with
    | some (.lst a) => if -9223372036854775808 ≤ k ∧ k < 9223372036854775808 ∧ a.length * k.toNat ≤ SZ then some (.ok (.r h.length) (h ++ [.lst (List.replicate k.toNat a).flatten])) else none
    | _ => none
  | _, _ => none
def fdivW (x y : W) : M W := fun h => match x, y with
  | .d (.int i), .d (.int j) => if 0 < j ∧ j.natAbs.log2 < 9000 then some (.ok (.d (.int (i / j))) h) else none
  | _, _ => none
def modW (x y : W) : M W := fun h => match x, y with
  | .d (.int i), .d (.int j) => if 0 < j then some (.ok (.d (.int (i % j))) h) else none
  | _, _ => none
def powW (x y : W) : M W := fun h => match x, y with
  | .d (.int i), .d (.int j) => if 0 ≤ j ∧ j ≤ 1000000 ∧ i.natAbs < 18446744073709551616 then some (.ok (.d (.int (i ^ j.toNat))) h) else none
  | _, _ => none
def binOp : BOp → W → W → M W
  | .add => addW
  | .sub => subW
  | .mul => mulW
  | .fdiv => fdivW
  | .mod => modW
  | .pow => powW

/-- the order of code points -/
def ltS (a b : List Char) : Bool := decide (a.map Char.toNat < b.map Char.toNat)
/-- tuples of ints -/
def allI : List D → Option (List Int)
  | [] => some []
  | .int i :: r => match allI r with
    | none => none
    | some xs => some (i :: xs)
  | _ :: _ => none
def ltT : List Int → List Int → Bool
  | [], [] => false
  | [], _ :: _ => true
  | _ :: _, [] => false
  | x :: xs, y :: ys => if x = y then ltT xs ys else decide (x < y)
def ltD : D → D → Option Bool
  | .int i, .int j => some (decide (i < j))
  | .str a, .str b => some (ltS a b)
  | .tup a, .tup b => match allI a, allI b with
    | some x, some y => some (ltT x y)
    | _, _ => none
  | _, _ => none
/-- is it that data, for an == of a list or of data -/
def eqOk (x y : D) : Bool := decide (x.depth ≤ 60) && decide (y.depth ≤ 60)
/-- a list of data read as data (tagged), for == -/
def eqW (x y : W) (h : H) : Option Bool := match x, y with
  | .d x, .d y => if eqOk x y = true then some (pyEq x y) else none
  | .r m, .r n => match h[m]?, h[n]? with
    | some (.lst a), some (.lst b) => match allD a, allD b with
      | some a, some b => if eqOk (.tup a) (.tup b) = true then some (pyEqs a b) else none
      | _, _ => none
    | _, _ => none
  | _, _ => none
/-- no tuple -/
def D.flat : D → Bool
  | .tup _ => false
  | _ => true
def inW (x y : W) (h : H) : Option Bool := match x, y with
  | .d (.str [c]), .d (.str b) => some (decide (c ∈ b))
  | .d x, .d (.tup b) => if x.flat = true ∧ b.all D.flat = true then some (b.any fun z => pyEq z x) else none
  | .d x, .r n => match h[n]? with
    | some (.lst b) => match allD b with
      | some b => if eqOk x (.tup b) = true then some (b.any fun z => pyEq z x) else none
      | none => none
    | _ => none
  | _, _ => none
def ltW (x y : W) : Option Bool := match x, y with
  | .d x, .d y => ltD x y
  | _, _ => none
def gtW (x y : W) : Option Bool := match x, y with
  | .d (.int i), .d (.int j) => some (decide (j < i))
  | .d (.str a), .d (.str b) => some (ltS b a)
  | _, _ => none
def leW (x y : W) : Option Bool := match x, y with
  | .d (.int i), .d (.int j) => some (decide (i ≤ j))
  | .d (.str a), .d (.str b) => some (!ltS b a)
  | _, _ => none
def geW (x y : W) : Option Bool := match x, y with
  | .d (.int i), .d (.int j) => some (decide (j ≤ i))
  | .d (.str a), .d (.str b) => some (!ltS a b)
  | _, _ => none
def isNonW (x y : W) : Option Bool := match y with
  | .d .non => some (decide (x = .d .non))
  | _ => none
def cmpOp (o : COp) (x y : W) (h : H) : Option Bool := match o with
  | .eq => eqW x y h
  | .ne => (eqW x y h).map (!·)
  | .lt => ltW x y
  | .gt => gtW x y
  | .le => leW x y
  | .ge => geW x y
  | .is => isNonW x y
  | .isn => (isNonW x y).map (!·)
  | .inn => inW x y h
  | .nin => (inW x y h).map (!·)

def truth (x : W) (h : H) : Option Bool := match x with
  | .d .non => some false
  | .d (.bl b) => some b
  | .d (.int i) => some (decide (i ≠ 0))
  | .d (.str s) => if s.length ≤ SZ then some (!s.isEmpty) else none
  | .d (.tup xs) => some (!xs.isEmpty)
  | .r n => match h[n]? with
    | some (.lst xs) => some (!xs.isEmpty)
    | some (.dic kvs) => some (!kvs.isEmpty)
    | _ => none
  | .ro xs => some (!xs.isEmpty)
  | _ => none

/-- the place of an index among n -/
def ixn (n : Nat) (i : Int) : Option Nat := if 0 ≤ i then (if i < n then some i.toNat else none) else if 0 ≤ i + n then some (i + n).toNat else none
def getIx (x y : W) (h : H) : Option W := match x, y with
  | .d (.tup xs), .d (.int i) => (ixn xs.length i).bind fun k => xs[k]?.map W.d
  | .d (.str s), .d (.int i) => if s.length ≤ SZ then (ixn s.length i).bind fun k => s[k]?.map fun c => W.d (.str [c]) else none
  | .r n, .d (.int i) => match h[n]? with
    | some (.lst xs) => (ixn xs.length i).bind fun k => xs[k]?
    | _ => none
  | .ro xs, .d (.int i) => (ixn xs.length i).bind fun k => xs[k]?.map fun v => W.d (.int v)
  | _, _ => none
/-- a slice's bound as a place -/
def slIx (n d : Nat) : Option Int → Nat
  | none => d
  | some v => if v < 0 then (v + (n : Int)).toNat else min v.toNat n
def cut {α : Type} (xs : List α) (lo hi : Option Int) : List α := (xs.drop (slIx xs.length 0 lo)).take (slIx xs.length xs.length hi - slIx xs.length 0 lo)
def slice (x : W) (lo hi : Option Int) : M W := fun h => match x with
  | .d (.tup xs) => some (.ok (.d (.tup (cut xs lo hi))) h)
  | .d (.str s) => if s.length ≤ SZ then some (.ok (.d (.str (cut s lo hi))) h) else none
  | .r n => match h[n]? with
    | some (.lst xs) => some (.ok (.r h.length) (h ++ [.lst (cut xs lo hi)]))
    | _ => none
  | _ => none

def tyB (t : Ty) (x : W) (h : H) : Option Bool := match x with
  | .d .non => match t with
    | .cls _ => none
    | _ => some false
  | .d (.bl _) => match t with
    | .bool => some true
    | .int => some true
    | .cls _ => none
    | _ => some false
  | .d (.int _) => match t with
    | .int => some true
    | .cls _ => none
    | _ => some false
  | .d (.str _) => match t with
    | .str => some true
    | .cls _ => none
    | _ => some false
  | .d (.tup _) => match t with
    | .tuple => some true
    | .cls _ => none
    | _ => some false
  | .r n => match h[n]? with
    | some (.lst _) => match t with
      | .list => some true
      | .cls _ => none
      | _ => some false
    | some (.dic _) => match t with
      | .dict => some true
      | .cls _ => none
      | _ => some false
    | _ => none
  | _ => none
def tyAny : List Ty → W → H → Option Bool
  | [], _, _ => some false
  | t :: ts, x, h => match tyB t x h with
    | none => none
    | some true => some true
    | some false => tyAny ts x h

def sumI : List W → Option Int
  | [] => some 0
  | .d (.int i) :: r => (sumI r).map (i + ·)
  | _ :: _ => none
def allInts : List W → Option (List Int)
  | [] => some []
  | .d (.int i) :: r => match allInts r with
    | none => none
    | some xs => some (i :: xs)
  | _ :: _ => none
def allBools : List W → Option (List Bool)
  | [] => some []
  | .d (.bl i) :: r => match allBools r with
    | none => none
    | some xs => some (i :: xs)
  | _ :: _ => none
def allStrs : List W → Option (List (List Char))
  | [] => some []
  | .d (.str i) :: r => match allStrs r with
    | none => none
    | some xs => some (i :: xs)
  | _ :: _ => none
/-- insertion sort of ints -/
def insI (x : Int) : List Int → List Int
  | [] => [x]
  | y :: r => if x ≤ y then x :: y :: r else y :: insI x r
def sortI : List Int → List Int
  | [] => []
  | x :: r => insI x (sortI r)
def maxI : Int → List Int → Int
  | m, [] => m
  | m, x :: r => maxI (if x > m then x else m) r
def minI : Int → List Int → Int
  | m, [] => m
  | m, x :: r => minI (if x < m then x else m) r

def lenW (ws : List W) : M W := fun h => match ws with
  | [.d (.str s)] => if s.length ≤ SZ then some (.ok (.d (.int s.length)) h) else none
  | [.d (.tup xs)] => some (.ok (.d (.int xs.length)) h)
  | [.ro xs] => some (.ok (.d (.int xs.length)) h)
  | [.r n] => match h[n]? with
    | some (.lst xs) => some (.ok (.d (.int xs.length)) h)
    | _ => none
  | _ => none
def absW (ws : List W) : M W := fun h => match ws with
  | [.d (.int i)] => some (.ok (.d (.int (if i < 0 then -i else i))) h)
  | _ => none
def intW (ws : List W) : M W := fun h => match ws with
  | [.d (.int i)] => some (.ok (.d (.int i)) h)
  | [.d (.bl b)] => some (.ok (.d (.int (if b then 1 else 0))) h)
  | _ => none
def max2W (ws : List W) : M W := fun h => match ws with
  | [.d (.int i), .d (.int j)] => some (.ok (.d (.int (if j > i then j else i))) h)
  | _ => none
def min2W (ws : List W) : M W := fun h => match ws with
  | [.d (.int i), .d (.int j)] => some (.ok (.d (.int (if j < i then j else i))) h)
  | _ => none
def tupleW (ws : List W) : M W := fun h => match ws with
  | [.d (.tup xs)] => some (.ok (.d (.tup xs)) h)
  | [.r n] => match h[n]? with
    | some (.lst xs) => match allD xs with
      | some ds => some (.ok (.d (.tup ds)) h)
      | none => none
    | _ => none
  | _ => none
def listW (ws : List W) : M W := fun h => match ws with
  | [.d (.tup xs)] => some (.ok (.r h.length) (h ++ [.lst (xs.map W.d)]))
  | [.r n] => match h[n]? with
    | some (.lst xs) => some (.ok (.r h.length) (h ++ [.lst xs]))
    | _ => none
  | [.ro xs] => some (.ok (.r h.length) (h ++ [.lst (xs.map fun v => W.d (.int v))]))
  | _ => none
/-- the ints of a list of ours -/
def intsOf (w : W) (h : H) : Option (List Int) := match w with
  | .r n => match h[n]? with
    | some (.lst xs) => allInts xs
    | _ => none
  | .ro xs => some xs
  | _ => none
def boolsOf (w : W) (h : H) : Option (List Bool) := match w with
  | .r n => match h[n]? with
    | some (.lst xs) => allBools xs
    | _ => none
  | _ => none
def sumW (ws : List W) : M W := fun h => match ws with
  | [w] => match intsOf w h with
    | some is => some (.ok (.d (.int is.sum)) h)
    | none => none
  | _ => none
def maxLW (ws : List W) : M W := fun h => match ws with
  | [w] => match intsOf w h with
    | some (i :: is) => some (.ok (.d (.int (maxI i is))) h)
    | _ => none
  | _ => none
def minLW (ws : List W) : M W := fun h => match ws with
  | [w] => match intsOf w h with
    | some (i :: is) => some (.ok (.d (.int (minI i is))) h)
    | _ => none
  | _ => none
def anyW (ws : List W) : M W := fun h => match ws with
  | [w] => match boolsOf w h with
    | some bs => some (.ok (.d (.bl (bs.any id))) h)
    | none => none
  | _ => none
def allW (ws : List W) : M W := fun h => match ws with
  | [w] => match boolsOf w h with
    | some bs => some (.ok (.d (.bl (bs.all id))) h)
    | none => none
  | _ => none
def sortedW (ws : List W) : M W := fun h => match ws with
  | [w] => match intsOf w h with
    | some is => some (.ok (.r h.length) (h ++ [.lst ((sortI is).map fun v => W.d (.int v))]))
    | none => none
  | _ => none
def bifn : BI → List W → M W
  | .len => lenW
  | .abs => absW
  | .int => intW
  | .max2 => max2W
  | .min2 => min2W
  | .tuple => tupleW
  | .list => listW
  | .sum => sumW
  | .maxL => maxLW
  | .minL => minLW
  | .any => anyW
  | .all => allW
  | .sorted => sortedW

def joinC (s : List Char) : List (List Char) → List Char
  | [] => []
  | [x] => x
  | x :: y :: r => x ++ s ++ joinC s (y :: r)
def appendW (o : W) (ws : List W) : M W := fun h => match o, ws with
  | .r n, [y] => match h[n]? with
    | some (.lst xs) => if xs.length < SZ then some (.ok (.d .non) (h.set n (.lst (xs ++ [y])))) else none
    | _ => none
  | _, _ => none
def extendW (o : W) (ws : List W) : M W := fun h => match o, ws with
  | .r n, [.r m] => match h[n]?, h[m]? with
    | some (.lst xs), some (.lst ys) => if xs.length + ys.length ≤ SZ then some (.ok (.d .non) (h.set n (.lst (xs ++ ys)))) else none
    | _, _ => none
  | _, _ => none
def popW (o : W) (ws : List W) : M W := fun h => match o, ws with
  | .r n, [] => match h[n]? with
    | some (.lst xs) => match xs[xs.length - 1]? with
      | some y => some (.ok y (h.set n (.lst xs.dropLast)))
      | none => none
    | _ => none
  | _, _ => none
def reverseW (o : W) (ws : List W) : M W := fun h => match o, ws with
  | .r n, [] => match h[n]? with
    | some (.lst xs) => some (.ok (.d .non) (h.set n (.lst xs.reverse)))
    | _ => none
  | _, _ => none
def clearW (o : W) (ws : List W) : M W := fun h => match o, ws with
  | .r n, [] => match h[n]? with
    | some (.lst _) => some (.ok (.d .non) (h.set n (.lst [])))
    | _ => none
  | _, _ => none
def joinW (o : W) (ws : List W) : M W := fun h => match o, ws with
  | .d (.str s), [.r n] => match h[n]? with
    | some (.lst xs) => match allStrs xs with
      | some ys => if (ys.map (·.length)).sum + ys.length * s.length ≤ SZ then some (.ok (.d (.str (joinC s ys))) h) else none
      | none => none
    | _ => none
  | _, _ => none
/-- what a method is asked of -/
def recvS : W → Option Unit
  | .d (.str _) => some ()
  | _ => none
def isLst : Option O → Option Unit
  | some (.lst _) => some ()
  | _ => none
def recvL (x : W) (h : H) : Option Unit := match x with
  | .r n => isLst h[n]?
  | _ => none
def recv (m : MI) (x : W) (h : H) : Option Unit := match m with
  | .join => recvS x
  | _ => recvL x h
def meth : MI → W → List W → M W
  | .append => appendW
  | .extend => extendW
  | .pop => popW
  | .reverse => reverseW
  | .clearL => clearW
  | .join => joinW

/-! ### loops -/
inductive Fl where
  | nx (σ : St) | bk (σ : St) | ct (σ : St) | rt (w : W)
  deriving Repr
/-- one item of a walk: a value, or the parts of a tuple that is made for the turn -/
inductive Item where
  | one (w : W) | many (ws : List W)
  deriving Repr
def setAll : List Nat → List W → St → Option St
  | [], [], σ => some σ
  | i :: is, w :: ws, σ => if i < σ.length then setAll is ws (σ.set i (some w)) else none
  | _, _, _ => none
/-- a target takes an item -/
def take (tg : T) (x : Item) (σ : St) : Option St := match tg, x with
  | .name i, .one w => if i < σ.length then some (σ.set i (some w)) else none
  | .tup is, .one (.d (.tup ds)) => setAll is (ds.map W.d) σ
  | .tup is, .many ws => setAll is ws σ
  | _, _ => none
/-- what the walk leans on stays: lists by their places -/
def still (gs : List (Nat × List W)) (h : H) : Bool := gs.all fun p => decide (h[p.1]? = some (.lst p.2))
/-- how a statement ends -/
inductive Out where
  | ok (f : Fl) (h : H)
  | ex (x : Exc) (σ : St) (h : H)
  deriving Repr
/-- an expression, then more -/
def onE {α : Type} (σ : St) (m : M α) (k : α → H → Option Out) (h : H) : Option Out := match m h with
  | none => none
  | some (.ex x h') => some (.ex x σ h')
  | some (.ok a h') => k a h'
def forL (gs : List (Nat × List W)) (tg : T) (b : St → H → Option Out) : List Item → St → H → Option Out
  | [], σ, h => if still gs h = true then some (.ok (.nx σ) h) else none
  | x :: xs, σ, h => if still gs h = true then match take tg x σ with
      | none => none
      | some σ1 => match b σ1 h with
        | some (.ok (.nx σ2) h2) => forL gs tg b xs σ2 h2
        | some (.ok (.ct σ2) h2) => forL gs tg b xs σ2 h2
        | some (.ok (.bk σ2) h2) => some (.ok (.nx σ2) h2)
        | some (.ok (.rt w) h2) => some (.ok (.rt w) h2)
        | some (.ex x σ2 h2) => some (.ex x σ2 h2)
        | none => none
    else none
def whlL (c : St → M Bool) (b : St → H → Option Out) : Nat → St → H → Option Out
  | 0, _, _ => none
  | n + 1, σ, h => onE σ (c σ) (fun k h1 => match k with
    | true => match b σ h1 with
      | some (.ok (.nx σ2) h2) => whlL c b n σ2 h2
      | some (.ok (.ct σ2) h2) => whlL c b n σ2 h2
      | some (.ok (.bk σ2) h2) => some (.ok (.nx σ2) h2)
      | some (.ok (.rt w) h2) => some (.ok (.rt w) h2)
      | some (.ex x σ2 h2) => some (.ex x σ2 h2)
      | none => none
    | false => some (.ok (.nx σ) h1)) h
/-- a comprehension's turns: D is the new list's place, σ0 the slots with the block's own ones wiped; nothing is raised within -/
def compL (gs : List (Nat × List W)) (tg : T) (σ0 : St) (c : St → M Bool) (e : St → M W) (D : Nat) : List Item → M Unit
  | [] => fun h => if still gs h = true then some (.ok () h) else none
  | x :: xs => fun h => if still gs h = true then match take tg x σ0 with
      | none => none
      | some σ1 => match c σ1 h with
        | some (.ok true h1) => match e σ1 h1 with
          | some (.ok w h2) => match h2[D]? with
            | some (.lst acc) => if acc.length < SZ then compL gs tg σ0 c e D xs (h2.set D (.lst (acc ++ [w]))) else none
            | _ => none
          | _ => none
        | some (.ok false h1) => compL gs tg σ0 c e D xs h1
        | _ => none
    else none
def wipe (σ : St) : List Nat → St
  | [] => σ
  | v :: vs => (wipe σ vs).set v none

/-- what a walk hands out: the items, and the lists that must stand still -/
structure Walk where
  items : List Item
  gs : List (Nat × List W)
def seqWalk (w : W) (h : H) : Option Walk := match w with
  | .d (.tup ds) => some ⟨ds.map fun x => .one (.d x), []⟩
  | .d (.str s) => some ⟨s.map fun c => .one (.d (.str [c])), []⟩
  | .r n => match h[n]? with
    | some (.lst xs) => some ⟨xs.map Item.one, [(n, xs)]⟩
    | _ => none
  | .ro xs => some ⟨xs.map fun v => .one (.d (.int v)), []⟩
  | _ => none
def rngItems (lo : Int) (n : Nat) (c : Int) : List Item := (List.range n).map fun (i : Nat) => .one (.d (.int (lo + (i : Int) * c)))
def big : Int := 4611686018427387904
def rngWalk (i j : Int) : Option Walk := if -big ≤ i ∧ i < big ∧ -big ≤ j ∧ j < big then some ⟨rngItems i (j - i).toNat 1, []⟩ else none
/-- downwards by ones -/
def rngWalk3 (i j c : Int) : Option Walk := if -big ≤ i ∧ i < big ∧ -big ≤ j ∧ j < big ∧ c = -1 then some ⟨rngItems i (i - j).toNat (-1), []⟩ else none
def enumFrom (k : Nat) : List W → List Item
  | [] => []
  | x :: r => .many [.d (.int k), x] :: enumFrom (k + 1) r
def enmWalk (w : W) (h : H) : Option Walk := match w with
  | .r n => match h[n]? with
    | some (.lst xs) => some ⟨enumFrom 0 xs, [(n, xs)]⟩
    | _ => none
  | _ => none
def zipItems : List W → List W → List Item
  | x :: xs, y :: ys => .many [x, y] :: zipItems xs ys
  | _, _ => []
def zipWalk (v w : W) (h : H) : Option Walk := match v, w with
  | .r m, .r n => match h[m]?, h[n]? with
    | some (.lst xs), some (.lst ys) => some ⟨zipItems xs ys, [(m, xs), (n, ys)]⟩
    | _, _ => none
  | _, _ => none

/-! ### the evaluator. C: how a def is called -/
structure Calls where
  f : Nat → List W → M W
  /-- the exception that an except suite holds -/
  x : Option Exc
/-- a bool in value's place -/
def isBl : W → Option Bool
  | .d (.bl b) => some b
  | _ => none

mutual
def ev (C : Calls) (σ : St) : E → M W
  | .var i => fun h => match σ[i]? with
    | some (some w) => some (.ok w h)
    | _ => none
  | .cst d => fun h => some (.ok (.d d) h)
  | .fnv i => fun h => some (.ok (.fn i) h)
  | .bin o a b => (ev C σ a).bind fun x => (ev C σ b).bind fun y => binOp o x y
  | .cmp o a b => (ev C σ a).bind fun x => (ev C σ b).bind fun y => M.ask fun h => (cmpOp o x y h).map fun k => W.d (.bl k)
  | .ch2 o p a b c => (ev C σ a).bind fun x => (ev C σ b).bind fun y => (M.ask (cmpOp o x y)).bind fun k =>
      match k with
      | true => (ev C σ c).bind fun z => M.ask fun h => (cmpOp p y z h).map fun k => W.d (.bl k)
      | false => M.pure (.d (.bl false))
  | .neg a => (ev C σ a).bind fun x => match x with
      | .d (.int i) => M.pure (.d (.int (-i)))
      | _ => M.fail
  | .not a => (ev C σ a).bind fun x => M.ask fun h => (truth x h).map fun k => W.d (.bl (!k))
  | .and a b => (ev C σ a).bind fun x => match x with
      | .d (.bl true) => ev C σ b
      | .d (.bl false) => M.pure (.d (.bl false))
      | _ => M.fail
  | .or a b => (ev C σ a).bind fun x => match x with
      | .d (.bl false) => ev C σ b
      | .d (.bl true) => M.pure (.d (.bl true))
      | _ => M.fail
  | .ife c a b => (evT C σ c).bind fun k => match k with
      | true => ev C σ a
      | false => ev C σ b
  | .tup es => (evs C σ es).bind fun ws => M.opt (match allD ws with
      | some ds => if ds.length ≤ SZ then some (W.d (.tup ds)) else none
      | none => none)
  | .lst es => (evs C σ es).bind fun ws => fun h => if ws.length ≤ SZ then some (.ok (.r h.length) (h ++ [.lst ws])) else none
  | .ix a b => (ev C σ a).bind fun x => (ev C σ b).bind fun y => M.ask (getIx x y)
  | .sl a lo hi => (ev C σ a).bind fun x => (evo C σ lo).bind fun l => (evo C σ hi).bind fun u => slice x l u
  | .call f es => (evs C σ es).bind fun ws => C.f f ws
  | .blt b es => (evs C σ es).bind fun ws => bifn b ws
  | .meth m o es => (ev C σ o).bind fun x => (M.ask (recv m x)).bind fun _ => (evs C σ es).bind fun ws => meth m x ws
  | .isin a ts => (ev C σ a).bind fun x => M.ask fun h => (tyAny ts x h).map fun k => W.d (.bl k)
  | .isx cs => M.opt (C.x.map fun x => W.d (.bl (cs.contains x.c)))
  | .xfld f => M.opt (C.x.bind fun x => (x.fs.lookup f).map W.d)
  | .comp e tg it c wp => (evI C σ it).bind fun w => fun h => match compL w.gs tg (wipe σ wp) (fun σ1 => evC C σ1 c) (fun σ1 => ev C σ1 e) h.length w.items (h ++ [.lst []]) with
      | some (.ok _ h2) => some (.ok (.r h.length) h2)
      | _ => none
/-- as a test -/
def evT (C : Calls) (σ : St) : E → M Bool
  | .and a b => (evT C σ a).bind fun k => match k with
      | true => evT C σ b
      | false => M.pure false
  | .or a b => (evT C σ a).bind fun k => match k with
      | true => M.pure true
      | false => evT C σ b
  | .not a => (evT C σ a).bind fun k => M.pure (!k)
  | .cmp o a b => (ev C σ a).bind fun x => (ev C σ b).bind fun y => M.ask (cmpOp o x y)
  | .ch2 o p a b c => (ev C σ a).bind fun x => (ev C σ b).bind fun y => (M.ask (cmpOp o x y)).bind fun k =>
      match k with
      | true => (ev C σ c).bind fun z => M.ask (cmpOp p y z)
      | false => M.pure false
  | .isin a ts => (ev C σ a).bind fun x => M.ask (tyAny ts x)
  | .isx cs => M.opt (C.x.map fun x => cs.contains x.c)
  | .var i => M.bind (fun h => match σ[i]? with
    | some (some w) => some (.ok w h)
    | _ => none) fun w => M.ask (truth w)
  | .call f es => ((evs C σ es).bind fun ws => C.f f ws).bind fun w => M.ask (truth w)
  | .blt b es => ((evs C σ es).bind fun ws => bifn b ws).bind fun w => M.ask (truth w)
  | .meth m o es => ((ev C σ o).bind fun x => (M.ask (recv m x)).bind fun _ => (evs C σ es).bind fun ws => meth m x ws).bind fun w => M.ask (truth w)
  | .ix a b => ((ev C σ a).bind fun x => (ev C σ b).bind fun y => M.ask (getIx x y)).bind fun w => M.ask (truth w)
  | .cst d => M.bind (fun h => some (.ok (.d d) h)) fun w => M.ask (truth w)
  | _ => M.fail
def evs (C : Calls) (σ : St) : Es → M (List W)
  | .nil => M.pure []
  | .cons e es => (ev C σ e).bind fun x => (evs C σ es).bind fun xs => M.pure (x :: xs)
/-- a slice's part -/
def evo (C : Calls) (σ : St) : Eo → M (Option Int)
  | .none => M.pure none
  | .some e => (ev C σ e).bind fun x => match x with
      | .d (.int i) => M.pure (some i)
      | _ => M.fail
/-- a comprehension's test -/
def evC (C : Calls) (σ : St) : Eo → M Bool
  | .none => M.pure true
  | .some e => evT C σ e
def evI (C : Calls) (σ : St) : It → M Walk
  | .seq e => (ev C σ e).bind fun x => M.ask (seqWalk x)
  | .rng1 a => (ev C σ a).bind fun x => match x with
      | .d (.int j) => M.opt (rngWalk 0 j)
      | _ => M.fail
  | .rng2 a b => (ev C σ a).bind fun x => (ev C σ b).bind fun y => match x, y with
      | .d (.int i), .d (.int j) => M.opt (rngWalk i j)
      | _, _ => M.fail
  | .rng3 a b c => (ev C σ a).bind fun x => (ev C σ b).bind fun y => (ev C σ c).bind fun z => match x, y, z with
      | .d (.int i), .d (.int j), .d (.int k) => M.opt (rngWalk3 i j k)
      | _, _, _ => M.fail
  | .enm e => (ev C σ e).bind fun x => M.ask (enmWalk x)
  | .zip a b => (ev C σ a).bind fun x => (ev C σ b).bind fun y => M.ask (zipWalk x y)
end

/-- a class of exceptions: has it fields by position, by name -/
structure XCls where
  fields : List String
/-- the exception that «raise C(..)» makes -/
def mkExc (X : List XCls) (c : Nat) (ws : List W) : Option Exc := match X[c]? with
  | none => none
  | some k => match allD ws with
    | none => none
    | some ds => if ws.length ≤ SZ then (if k.fields.isEmpty then some ⟨c, []⟩ else if ds.length = k.fields.length then some ⟨c, k.fields.zip ds⟩ else none) else none

def setIx (x y v : W) (h : H) : Option H := match x, y with
  | .r n, .d (.int i) => match h[n]? with
    | some (.lst xs) => (ixn xs.length i).map fun k => h.set n (.lst (xs.set k v))
    | _ => none
  | _, _ => none
/-- x op= y, of ints and texts -/
def augOp (o : BOp) (x y : W) : M W := fun h => match o, x, y with
  | .add, .d (.int i), .d (.int j) => some (.ok (.d (.int (i + j))) h)
  | .add, .d (.str a), .d (.str b) => if a.length + b.length ≤ SZ then some (.ok (.d (.str (a ++ b))) h) else none
  | .sub, .d (.int i), .d (.int j) => some (.ok (.d (.int (i - j))) h)
  | .mul, .d (.int i), .d (.int j) => if mulOk i j = true then some (.ok (.d (.int (i * j))) h) else none
  | _, _, _ => none
def exec (X : List XCls) (C : Calls) : S → St → H → Option Out
  | .skip, σ, h => some (.ok (.nx σ) h)
  | .expr e, σ, h => onE σ (ev C σ e) (fun _ h1 => some (.ok (.nx σ) h1)) h
  | .set i e, σ, h => onE σ (ev C σ e) (fun w h1 => if i < σ.length then some (.ok (.nx (σ.set i (some w))) h1) else none) h
  | .setT is e, σ, h => onE σ (ev C σ e) (fun w h1 => match take (.tup is) (.one w) σ with
    | some σ1 => some (.ok (.nx σ1) h1)
    | none => none) h
  | .par i j a b, σ, h => onE σ (ev C σ a) (fun v h1 => onE σ (ev C σ b) (fun w h2 => if i < σ.length ∧ j < σ.length then some (.ok (.nx ((σ.set i (some v)).set j (some w))) h2) else none) h1) h
  | .setI o i e, σ, h => onE σ (ev C σ e) (fun v h1 => onE σ (ev C σ o) (fun x h2 => onE σ (ev C σ i) (fun y h3 => match setIx x y v h3 with
    | some h4 => some (.ok (.nx σ) h4)
    | none => none) h2) h1) h
  | .aug i o e, σ, h => match σ[i]? with
    | some (some x) => onE σ (ev C σ e) (fun y h1 => onE σ (augOp o x y) (fun w h2 => some (.ok (.nx (σ.set i (some w))) h2)) h1) h
    | _ => none
  | .seq a b, σ, h => match exec X C a σ h with
    | some (.ok (.nx σ1) h1) => exec X C b σ1 h1
    | r => r
  | .ife c a b, σ, h => onE σ (evT C σ c) (fun k h1 => match k with
    | true => exec X C a σ h1
    | false => exec X C b σ h1) h
  | .whl c b, σ, h => whlL (fun σ => evT C σ c) (fun σ h => exec X C b σ h) FUEL σ h
  | .for tg it b, σ, h => onE σ (evI C σ it) (fun w h1 => forL w.gs tg (fun σ h => exec X C b σ h) w.items σ h1) h
  | .ret .none, _, h => some (.ok (.rt (.d .non)) h)
  | .ret (.some e), σ, h => onE σ (ev C σ e) (fun w h1 => some (.ok (.rt w) h1)) h
  | .brk, σ, h => some (.ok (.bk σ) h)
  | .cnt, σ, h => some (.ok (.ct σ) h)
  | .raise c es, σ, h => onE σ (evs C σ es) (fun ws h1 => match mkExc X c ws with
    | some x => some (.ex x σ h1)
    | none => none) h
  | .try1 b cs x s, σ, h => match exec X C b σ h with
    | some (.ex e σ1 h1) => if cs.contains e.c = true then (match x with
        | none => match exec X { C with x := some e } s σ1 h1 with
          | some (.ok f h2) => some (.ok f h2)
          | _ => none
        | some i => match exec X { C with x := some e } s (σ1.set i none) h1 with
          | some (.ok (.nx σ2) h2) => some (.ok (.nx (σ2.set i none)) h2)
          | some (.ok (.bk σ2) h2) => some (.ok (.bk (σ2.set i none)) h2)
          | some (.ok (.ct σ2) h2) => some (.ok (.ct (σ2.set i none)) h2)
          | some (.ok (.rt w) h2) => some (.ok (.rt w) h2)
          | _ => none)
      else some (.ex e σ1 h1)
    | r => r

/-! ### defs, calls, what is thrown away behind a call -/
structure Fn where
  n : Nat           -- slots
  ps : Nat          -- parameters
  body : S
structure Prog where
  fns : List Fn
  xs : List XCls

def W.below (n : Nat) : W → Bool
  | .r m => decide (m < n)
  | _ => true
def O.below (n : Nat) : O → Bool
  | .lst xs => xs.all (W.below n)
  | .dic kvs => kvs.all fun p => p.2.below n
  | .ins _ fs => fs.all fun p => p.2.below n
/-- the objects behind place n that nobody sees any more go -/
def gc (n : Nat) (w : W) (h : H) : W × H :=
  if (h.take n).all (O.below n) = true then
    match w with
    | .r m => if m < n then (w, h.take n) else match h[m]? with
      | some o => if o.below n = true then (.r n, h.take n ++ [o]) else (w, h)
      | none => (w, h)
    | _ => (w, h.take n)
  else (w, h)
def gcx (n : Nat) (h : H) : H := if (h.take n).all (O.below n) = true then h.take n else h
def start (n : Nat) (ws : List W) : St := ws.map some ++ List.replicate (n - ws.length) none

def callF (P : Prog) : Nat → Nat → List W → M W
  | 0, _, _ => fun _ => none
  | k + 1, f, ws => fun h => match P.fns[f]? with
    | none => none
    | some fn => if ws.length = fn.ps then match exec P.xs ⟨callF P k, none⟩ fn.body (start fn.n ws) h with
        | some (.ok (.nx _) h') => some (.ok (gc h.length (.d .non) h').1 (gc h.length (.d .non) h').2)
        | some (.ok (.rt w) h') => some (.ok (gc h.length w h').1 (gc h.length w h').2)
        | some (.ex x _ h') => some (.ex x (gcx h.length h'))
        | _ => none
      else none
abbrev call (P : Prog) (k : Nat) : Calls := ⟨callF P k, none⟩
end DI

/-! DI2a: how the data of DI1 stand in the hand layer's abstract heap. -/
namespace DI
open PySem L2

/-! ### the relation -/
/-- what the relation leans on: the written part, where the defs stand, the slot of the exception at hand -/
structure Y where
  K : PySem.W.Frag
  fa : Nat → Option Addr
  hot : Option (Nat × V)

def strV (s : List Char) : Str := ⟨(s.map Char.toNat).toArray⟩
/-- a tuple that stays -/
def TupAt (K : PySem.W.Frag) (Hh : Hp) (a : Addr) (xs : List V) : Prop :=
  Hh a = some (.tup xs) ∨ ∃ (o : Obj) (its : Array Value) (n : Nat), K.lookup a = some o ∧ o.cls = .type "tuple" ∧ o.data = .seq its n ∧ its.size ≤ sizeLine ∧ Vals xs its.toList
theorem TupAt.sq {K : PySem.W.Frag} {Hh : Hp} {a : Addr} {xs : List V} (h : TupAt K Hh a xs) : SqT K Hh a xs := by
  rcases h with h | h
  · exact .inl (.inl h)
  · exact .inr h
/-- a list that is only read -/
def RoAt (K : PySem.W.Frag) (Hh : Hp) (a : Addr) (xs : List V) : Prop :=
  (∃ o, Hh a = some (.frz o (.lst xs))) ∨
    ∃ (o : Obj) (its : Array Value) (n : Nat), K.lookup a = some o ∧ o.cls = .type "list" ∧ o.dict = none ∧ o.data = .seq its n ∧ its.size ≤ sizeLine ∧ Vals xs its.toList
theorem RoAt.sq {K : PySem.W.Frag} {Hh : Hp} {a : Addr} {xs : List V} (h : RoAt K Hh a xs) : SqL K Hh a xs := by
  rcases h with h | h
  · exact .inl (.inr h)
  · exact .inr h
/-- what stands for good -/
structure Ext (Hh H' : Hp) : Prop where
  tup : ∀ a xs, Hh a = some (.tup xs) → H' a = some (.tup xs)
  frz : ∀ a o u, Hh a = some (.frz o u) → H' a = some (.frz o u)
theorem Ext.refl {Hh : Hp} : Ext Hh Hh := ⟨fun _ _ h => h, fun _ _ _ h => h⟩
theorem Ext.trans {H1 H2 H3 : Hp} (a : Ext H1 H2) (b : Ext H2 H3) : Ext H1 H3 := ⟨fun x xs h => b.tup x xs (a.tup x xs h), fun x o u h => b.frz x o u (a.frz x o u h)⟩
theorem Ext.new {Hh : Hp} {p : Addr} {o : HO} (h : Hh p = none) : Ext Hh (upd Hh p o) :=
  ⟨fun a xs e => by rw [upd_ne (ne_of_none e h)]; exact e, fun a ob u e => by rw [upd_ne (ne_of_none e h)]; exact e⟩
theorem TupAt.ext {K : PySem.W.Frag} {Hh H' : Hp} {a : Addr} {xs : List V} (h : TupAt K Hh a xs) (e : Ext Hh H') : TupAt K H' a xs := by
  rcases h with h | h
  · exact .inl (e.tup a xs h)
  · exact .inr h
theorem RoAt.ext {K : PySem.W.Frag} {Hh H' : Hp} {a : Addr} {xs : List V} (h : RoAt K Hh a xs) (e : Ext Hh H') : RoAt K H' a xs := by
  rcases h with ⟨o, h⟩ | h
  · exact .inl ⟨o, e.frz a o _ h⟩
  · exact .inr h

mutual
def RD (K : PySem.W.Frag) (Hh : Hp) : D → V → Prop
  | .non, v => v = .non
  | .bl b, v => v = .bl b
  | .int i, v => v = .int i
  | .str s, v => v = .str (strV s)
  | .tup ds, v => ∃ a vs, v = .ref a ∧ TupAt K Hh a vs ∧ RDs K Hh ds vs
def RDs (K : PySem.W.Frag) (Hh : Hp) : List D → List V → Prop
  | [], vs => vs = []
  | d :: ds, vs => ∃ v r, vs = v :: r ∧ RD K Hh d v ∧ RDs K Hh ds r
end
mutual
theorem RD.ext {K : PySem.W.Frag} {Hh H' : Hp} (e : Ext Hh H') : ∀ (d : D) (v : V), RD K Hh d v → RD K H' d v
  | .non, v, h => by simpa only [RD] using h
  | .bl b, v, h => by simpa only [RD] using h
  | .int i, v, h => by simpa only [RD] using h
  | .str s, v, h => by simpa only [RD] using h
  | .tup ds, v, h => by
    simp only [RD] at h ⊢
    obtain ⟨a, vs, rfl, ht, hr⟩ := h
    exact ⟨a, vs, rfl, ht.ext e, RDs.ext e ds vs hr⟩
theorem RDs.ext {K : PySem.W.Frag} {Hh H' : Hp} (e : Ext Hh H') : ∀ (ds : List D) (vs : List V), RDs K Hh ds vs → RDs K H' ds vs
  | [], vs, h => by simpa only [RDs] using h
  | d :: ds, vs, h => by
    simp only [RDs] at h ⊢
    obtain ⟨v, r, rfl, h1, h2⟩ := h
    exact ⟨v, r, rfl, RD.ext e d v h1, RDs.ext e ds r h2⟩
end

def RW (y : Y) (ρ : List Addr) (Hh : Hp) : W → V → Prop
  | .d x, v => RD y.K Hh x v
  | .r n, v => ∃ a, ρ[n]? = some a ∧ v = .ref a
  | .ro xs, v => ∃ a, v = .ref a ∧ RoAt y.K Hh a (xs.map V.int)
  | .fn i, v => ∃ a, y.fa i = some a ∧ v = .ref a
/-- pairwise -/
def Pw {α β : Type} (R : α → β → Prop) : List α → List β → Prop
  | [], vs => vs = []
  | d :: ds, vs => ∃ v r, vs = v :: r ∧ R d v ∧ Pw R ds r
theorem Pw.mono {α β : Type} {R R' : α → β → Prop} (h : ∀ a b, R a b → R' a b) : ∀ {xs : List α} {ys : List β}, Pw R xs ys → Pw R' xs ys
  | [], _, e => e
  | _ :: _, _, ⟨v, r, e, h1, h2⟩ => ⟨v, r, e, h _ _ h1, Pw.mono h h2⟩
theorem Pw.length {α β : Type} {R : α → β → Prop} : ∀ {xs : List α} {ys : List β}, Pw R xs ys → xs.length = ys.length
  | [], _, e => by cases e; rfl
  | _ :: xs, _, ⟨v, r, e, h1, h2⟩ => by cases e; simp [Pw.length h2]
theorem Pw.get {α β : Type} {R : α → β → Prop} : ∀ {xs : List α} {ys : List β} {i : Nat} {x : α}, Pw R xs ys → xs[i]? = some x → ∃ y, ys[i]? = some y ∧ R x y
  | [], _, i, x, e, h => by simp at h
  | a :: xs, _, 0, x, ⟨v, r, e, h1, h2⟩, h => by cases e; simp at h; subst h; exact ⟨v, rfl, h1⟩
  | a :: xs, _, i + 1, x, ⟨v, r, e, h1, h2⟩, h => by
    cases e
    obtain ⟨y, q, z⟩ := Pw.get (i := i) (x := x) h2 (by simpa using h)
    exact ⟨y, by simpa using q, z⟩
theorem Pw.append {α β : Type} {R : α → β → Prop} : ∀ {xs xs' : List α} {ys ys' : List β}, Pw R xs ys → Pw R xs' ys' → Pw R (xs ++ xs') (ys ++ ys')
  | [], _, _, _, e, h => by cases e; exact h
  | _ :: _, _, _, _, ⟨v, r, e, h1, h2⟩, h => by cases e; exact ⟨v, _, rfl, h1, Pw.append h2 h⟩
theorem Pw.set {α β : Type} {R : α → β → Prop} {x : α} {y : β} (r0 : R x y) : ∀ {xs : List α} {ys : List β} (i : Nat), Pw R xs ys → Pw R (xs.set i x) (ys.set i y)
  | [], _, _, e => by cases e; rfl
  | _ :: _, _, 0, ⟨v, r, e, h1, h2⟩ => by cases e; exact ⟨y, r, rfl, r0, h2⟩
  | _ :: _, _, i + 1, ⟨v, r, e, h1, h2⟩ => by cases e; exact ⟨v, _, rfl, h1, Pw.set r0 i h2⟩
theorem Pw.take {α β : Type} {R : α → β → Prop} : ∀ {xs : List α} {ys : List β} (n : Nat), Pw R xs ys → Pw R (xs.take n) (ys.take n)
  | _, _, 0, _ => rfl
  | [], _, _ + 1, e => by cases e; rfl
  | _ :: _, _, n + 1, ⟨v, r, e, h1, h2⟩ => by cases e; exact ⟨v, _, rfl, h1, Pw.take n h2⟩
theorem Pw.drop {α β : Type} {R : α → β → Prop} : ∀ {xs : List α} {ys : List β} (n : Nat), Pw R xs ys → Pw R (xs.drop n) (ys.drop n)
  | _, _, 0, h => h
  | [], _, _ + 1, e => by cases e; rfl
  | _ :: _, _, n + 1, ⟨v, r, e, h1, h2⟩ => by cases e; exact Pw.drop n h2
theorem Pw.map_left {α β γ : Type} {R : α → β → Prop} {f : γ → α} : ∀ {xs : List γ} {ys : List β}, Pw (fun a b => R (f a) b) xs ys → Pw R (xs.map f) ys
  | [], _, e => e
  | _ :: _, _, ⟨v, r, e, h1, h2⟩ => ⟨v, r, e, h1, Pw.map_left h2⟩
theorem Pw.of_map_left {α β γ : Type} {R : α → β → Prop} {f : γ → α} : ∀ {xs : List γ} {ys : List β}, Pw R (xs.map f) ys → Pw (fun a b => R (f a) b) xs ys
  | [], _, e => e
  | _ :: _, _, ⟨v, r, e, h1, h2⟩ => ⟨v, r, e, h1, Pw.of_map_left h2⟩
theorem Pw.reverse {α β : Type} {R : α → β → Prop} : ∀ {xs : List α} {ys : List β}, Pw R xs ys → Pw R xs.reverse ys.reverse
  | [], _, e => by cases e; rfl
  | _ :: xs, _, ⟨v, r, e, h1, h2⟩ => by
    cases e
    rw [List.reverse_cons, List.reverse_cons]
    exact (Pw.reverse h2).append ⟨v, [], rfl, h1, rfl⟩
theorem pw_rds {K : PySem.W.Frag} {Hh : Hp} : ∀ {ds : List D} {vs : List V}, RDs K Hh ds vs → Pw (RD K Hh) ds vs
  | [], _, h => by simp only [RDs] at h; exact h
  | d :: ds, _, h => by
    simp only [RDs] at h
    obtain ⟨v, r, e, h1, h2⟩ := h
    exact ⟨v, r, e, h1, pw_rds h2⟩
theorem rds_pw {K : PySem.W.Frag} {Hh : Hp} : ∀ {ds : List D} {vs : List V}, Pw (RD K Hh) ds vs → RDs K Hh ds vs
  | [], _, h => by simp only [RDs]; exact h
  | d :: ds, _, ⟨v, r, e, h1, h2⟩ => by
    simp only [RDs]
    exact ⟨v, r, e, h1, rds_pw h2⟩
/-- a dict's key -/
def RK : D → Key → Prop
  | .int i, k => k = .inl i
  | .str s, k => k = .inr (strV s)
  | _, _ => False
def RO (y : Y) (ρ : List Addr) (Hh : Hp) : O → Addr → Prop
  | .lst xs, a => ∃ vs, Hh a = some (.lst vs) ∧ Pw (RW y ρ Hh) xs vs
  | .dic kvs, a => ∃ ps, Hh a = some (.dK ps) ∧ Pw (fun (p : D × W) (q : Key × V) => RK p.1 q.1 ∧ RW y ρ Hh p.2 q.2) kvs ps
  | .ins _ _, _ => False
/-- the heap -/
structure RH (y : Y) (ρ : List Addr) (Hh : Hp) (h : H) : Prop where
  len : ρ.length = h.length
  nd : ρ.Nodup
  at_ : ∀ (i : Nat) (a : Addr) (o : O), ρ[i]? = some a → h[i]? = some o → RO y ρ Hh o a
/-- the slots -/
structure RS (y : Y) (ρ : List Addr) (Hh : Hp) (σ : St) (τ : L2.St) : Prop where
  len : σ.length = τ.length
  at_ : ∀ (i : Nat) (w : W), σ[i]? = some (some w) → ∃ v, τ[i]? = some (some v) ∧ RW y ρ Hh w v
  hot : ∀ (i : Nat) (v : V), y.hot = some (i, v) → τ[i]? = some (some v)
/-- the slot is not the exception's -/
def Cold (y : Y) (i : Nat) : Prop := ∀ v, y.hot ≠ some (i, v)
/-- a later state: more places, what stays stays -/
structure Nxt (ρ : List Addr) (Hh : Hp) (ρ' : List Addr) (H' : Hp) : Prop where
  pre : ∃ t, ρ' = ρ ++ t
  ext : Ext Hh H'
theorem Nxt.refl {ρ : List Addr} {Hh : Hp} : Nxt ρ Hh ρ Hh := ⟨⟨[], by simp⟩, .refl⟩
theorem Nxt.trans {ρ ρ1 ρ2 : List Addr} {Hh H1 H2 : Hp} (a : Nxt ρ Hh ρ1 H1) (b : Nxt ρ1 H1 ρ2 H2) : Nxt ρ Hh ρ2 H2 := by
  obtain ⟨⟨t, rfl⟩, e⟩ := a
  obtain ⟨⟨t', rfl⟩, e'⟩ := b
  exact ⟨⟨t ++ t', by simp⟩, e.trans e'⟩
theorem Nxt.at_ {ρ ρ' : List Addr} {Hh H' : Hp} (n : Nxt ρ Hh ρ' H') {i : Nat} {a : Addr} (h : ρ[i]? = some a) : ρ'[i]? = some a := by
  obtain ⟨⟨t, rfl⟩, _⟩ := n
  rw [List.getElem?_append_left (List.getElem?_eq_some_iff.mp h).1]
  exact h
theorem RW.nxt {y : Y} {ρ ρ' : List Addr} {Hh H' : Hp} (n : Nxt ρ Hh ρ' H') : ∀ {w : W} {v : V}, RW y ρ Hh w v → RW y ρ' H' w v
  | .d x, v, h => RD.ext n.ext x v h
  | .r k, v, ⟨a, h, e⟩ => ⟨a, n.at_ h, e⟩
  | .ro xs, v, ⟨a, e, h⟩ => ⟨a, e, h.ext n.ext⟩
  | .fn i, v, h => h
theorem RWs.nxt {y : Y} {ρ ρ' : List Addr} {Hh H' : Hp} (n : Nxt ρ Hh ρ' H') {ws : List W} {vs : List V} (h : Pw (RW y ρ Hh) ws vs) : Pw (RW y ρ' H') ws vs := h.mono fun _ _ => RW.nxt n
theorem RS.nxt {y : Y} {ρ ρ' : List Addr} {Hh H' : Hp} {σ : St} {τ : L2.St} (n : Nxt ρ Hh ρ' H') (h : RS y ρ Hh σ τ) : RS y ρ' H' σ τ :=
  ⟨h.len, fun i w e => let ⟨v, a, b⟩ := h.at_ i w e; ⟨v, a, b.nxt n⟩, h.hot⟩
theorem RS.set {y : Y} {ρ : List Addr} {Hh : Hp} {σ : St} {τ : L2.St} (h : RS y ρ Hh σ τ) {i : Nat} {w : W} {v : V} (hc : Cold y i) (r : RW y ρ Hh w v) : RS y ρ Hh (σ.set i (some w)) (τ.set i (some v)) := by
  refine ⟨by rw [List.length_set, List.length_set, h.len], fun j u e => ?_, fun j u e => by
    have hj : i ≠ j := fun z => hc u (by rw [z]; exact e)
    rw [List.getElem?_set_ne hj]
    exact h.hot j u e⟩
  by_cases hj : i = j
  · subst hj
    by_cases hi : i < σ.length
    · rw [List.getElem?_set_self hi] at e
      cases e
      exact ⟨v, by rw [List.getElem?_set_self (by rw [← h.len]; exact hi)], r⟩
    · rw [List.getElem?_eq_none (by rw [List.length_set]; omega)] at e
      cases e
  · rw [List.getElem?_set_ne hj] at e
    obtain ⟨v', a, b⟩ := h.at_ j u e
    exact ⟨v', by rw [List.getElem?_set_ne hj]; exact a, b⟩
theorem RS.forget {y : Y} {ρ : List Addr} {Hh : Hp} {σ : St} {τ : L2.St} (h : RS y ρ Hh σ τ) (i : Nat) (hc : Cold y i) : RS y ρ Hh (σ.set i none) (τ.set i none) := by
  refine ⟨by rw [List.length_set, List.length_set, h.len], fun j u e => ?_, fun j u e => by
    have hj : i ≠ j := fun z => hc u (by rw [z]; exact e)
    rw [List.getElem?_set_ne hj]
    exact h.hot j u e⟩
  by_cases hj : i = j
  · subst hj
    by_cases hi : i < σ.length
    · rw [List.getElem?_set_self hi] at e
      cases e
    · rw [List.getElem?_eq_none (by rw [List.length_set]; omega)] at e
      cases e
  · rw [List.getElem?_set_ne hj] at e
    obtain ⟨v', a, b⟩ := h.at_ j u e
    exact ⟨v', by rw [List.getElem?_set_ne hj]; exact a, b⟩
theorem RS.wipe {y : Y} {ρ : List Addr} {Hh : Hp} {σ : St} {τ : L2.St} (h : RS y ρ Hh σ τ) (hc : y.hot = none) : ∀ vs : List Nat, RS y ρ Hh (wipe σ vs) (L2.wipe τ vs)
  | [] => h
  | v :: vs => (RS.wipe h hc vs).forget v fun _ e => by rw [hc] at e; cases e

section
variable {y : Y} {ρ ρ' : List Addr} {Hh H' : Hp} {h : H} {n : Nat} {a p : Addr} {o : O} {u : HO}
theorem RH.lt (r : RH y ρ Hh h) (e : ρ[n]? = some a) : n < h.length := by
  rw [← r.len]
  exact (List.getElem?_eq_some_iff.mp e).1
theorem RH.obj (r : RH y ρ Hh h) (e : h[n]? = some o) : ∃ a, ρ[n]? = some a ∧ RO y ρ Hh o a := by
  have hl : n < ρ.length := by
    rw [r.len]
    exact (List.getElem?_eq_some_iff.mp e).1
  exact ⟨ρ[n], List.getElem?_eq_getElem hl, r.at_ n _ o (List.getElem?_eq_getElem hl) e⟩
/-- what a tracked object of ours is -/
theorem RO.mut : ∀ {o : O}, RO y ρ Hh o a → ∃ u, Hh a = some u ∧ (∀ xs, u ≠ .tup xs) ∧ ∀ ob v, u ≠ .frz ob v
  | .lst xs, ⟨vs, e, _⟩ => ⟨_, e, (by intro _ z; cases z), (by intro _ _ z; cases z)⟩
  | .dic kvs, ⟨vs, e, _⟩ => ⟨_, e, (by intro _ z; cases z), (by intro _ _ z; cases z)⟩
  | .ins _ _, z => z.elim
theorem RH.got (r : RH y ρ Hh h) (e : ρ[n]? = some a) : ∃ u, Hh a = some u ∧ (∀ xs, u ≠ .tup xs) ∧ ∀ ob v, u ≠ .frz ob v := by
  have hl := r.lt e
  exact (r.at_ n a _ e (List.getElem?_eq_getElem hl)).mut
theorem RH.fresh (r : RH y ρ Hh h) (hp : Hh p = none) : p ∉ ρ := fun hm => by
  obtain ⟨i, hi, e⟩ := List.getElem_of_mem hm
  obtain ⟨u, hu, _⟩ := r.got (n := i) (a := p) (by rw [List.getElem?_eq_getElem hi, e])
  rw [hp] at hu
  cases hu
theorem RH.upd_ext (r : RH y ρ Hh h) (e : ρ[n]? = some a) : Ext Hh (upd Hh a u) := by
  obtain ⟨v, hv, h1, h2⟩ := r.got e
  refine ⟨fun b xs q => ?_, fun b ob w q => ?_⟩
  · rw [upd_ne fun z => ?_]
    · exact q
    · subst z
      rw [hv] at q
      exact h1 xs (Option.some.inj q)
  · rw [upd_ne fun z => ?_]
    · exact q
    · subst z
      rw [hv] at q
      exact h2 ob w (Option.some.inj q)
theorem RO.nxt (nx : Nxt ρ Hh ρ' H') (k : ∀ u, Hh a = some u → H' a = some u) : ∀ {o : O}, RO y ρ Hh o a → RO y ρ' H' o a
  | .lst xs, ⟨vs, e, r⟩ => ⟨vs, k _ e, RWs.nxt nx r⟩
  | .dic kvs, ⟨ps, e, r⟩ => ⟨ps, k _ e, r.mono fun _ _ z => ⟨z.1, z.2.nxt nx⟩⟩
  | .ins _ _, z => z.elim
/-- a new object that is none of ours (a tuple) -/
theorem RH.other (r : RH y ρ Hh h) (hp : Hh p = none) : RH y ρ (upd Hh p u) h ∧ Nxt ρ Hh ρ (upd Hh p u) := by
  have nx : Nxt ρ Hh ρ (upd Hh p u) := ⟨⟨[], by simp⟩, .new hp⟩
  refine ⟨⟨r.len, r.nd, fun i b o e1 e2 => ?_⟩, nx⟩
  have ne : b ≠ p := fun z => r.fresh hp (z ▸ List.mem_of_getElem? e1)
  exact (r.at_ i b o e1 e2).nxt nx fun v q => by rw [upd_ne ne]; exact q
/-- a new object of ours -/
theorem RH.push (r : RH y ρ Hh h) (hp : Hh p = none) (new : RO y (ρ ++ [p]) (upd Hh p u) o p) : RH y (ρ ++ [p]) (upd Hh p u) (h ++ [o]) ∧ Nxt ρ Hh (ρ ++ [p]) (upd Hh p u) := by
  have nx : Nxt ρ Hh (ρ ++ [p]) (upd Hh p u) := ⟨⟨[p], rfl⟩, .new hp⟩
  have hn := r.fresh hp
  refine ⟨⟨by simp [r.len], ?_, fun i b o' e1 e2 => ?_⟩, nx⟩
  · rw [List.nodup_append]
    exact ⟨r.nd, by simp, fun x hx z hz => by simp at hz; rintro rfl; exact hn (hz ▸ hx)⟩
  · by_cases hi : i < ρ.length
    · rw [List.getElem?_append_left hi] at e1
      rw [List.getElem?_append_left (by rw [← r.len]; exact hi)] at e2
      have ne : b ≠ p := fun z => hn (z ▸ List.mem_of_getElem? e1)
      exact (r.at_ i b o' e1 e2).nxt nx fun v q => by rw [upd_ne ne]; exact q
    · rw [List.getElem?_append_right (by omega)] at e1
      rw [List.getElem?_append_right (by have := r.len; omega)] at e2
      have hi0 : i - ρ.length = 0 := by
        by_cases z : i - ρ.length = 0
        · exact z
        · rw [List.getElem?_eq_none (by simp; omega)] at e1
          cases e1
      have hh0 : i - h.length = 0 := by rw [← r.len]; exact hi0
      rw [hi0] at e1
      rw [hh0] at e2
      simp at e1 e2
      subst e1 e2
      exact new
/-- an object of ours is changed -/
theorem RH.put (r : RH y ρ Hh h) (e : ρ[n]? = some a) (new : RO y ρ (upd Hh a u) o a) : RH y ρ (upd Hh a u) (h.set n o) ∧ Nxt ρ Hh ρ (upd Hh a u) := by
  have nx : Nxt ρ Hh ρ (upd Hh a u) := ⟨⟨[], by simp⟩, r.upd_ext e⟩
  refine ⟨⟨by simp [r.len], r.nd, fun i b o' e1 e2 => ?_⟩, nx⟩
  by_cases hi : n = i
  · subst hi
    rw [e] at e1
    cases e1
    rw [List.getElem?_set_self (r.lt e)] at e2
    cases e2
    exact new
  · rw [List.getElem?_set_ne hi] at e2
    have ne : b ≠ a := fun z => by
      subst z
      have h1 := (List.getElem?_eq_some_iff.mp e)
      have h2 := (List.getElem?_eq_some_iff.mp e1)
      exact hi ((List.getElem_inj r.nd).mp (h1.2.trans h2.2.symm))
    exact (r.at_ i b o' e1 e2).nxt nx fun v q => by rw [upd_ne ne]; exact q
theorem RH.list (r : RH y ρ Hh h) {xs : List W} (e : h[n]? = some (.lst xs)) : ∃ a vs, ρ[n]? = some a ∧ Hh a = some (.lst vs) ∧ Pw (RW y ρ Hh) xs vs := by
  obtain ⟨a, e1, vs, e2, e3⟩ := r.obj e
  exact ⟨a, vs, e1, e2, e3⟩
end

/-! ### what an evaluation is to reach -/
/-- exceptions, as the code around wishes them -/
abbrev XG := Exc → List Addr → Hp → Prop
def Go {α β : Type} (y : Y) (ρ : List Addr) (Hh : Hp) (RA : List Addr → Hp → α → β → Prop) (XX : Exc → Hp → Prop) (r : Option (R α)) (Q : β → Hp → Prop) : Prop :=
  match r with
  | none => False
  | some (.ok a h') => ∀ ρ' H' v, Nxt ρ Hh ρ' H' → RH y ρ' H' h' → RA ρ' H' a v → Q v H'
  | some (.ex x h') => ∀ ρ' H', Nxt ρ Hh ρ' H' → RH y ρ' H' h' → XX x H'
theorem Go.mono {α β : Type} {y : Y} {ρ ρ1 : List Addr} {Hh H1 : Hp} {RA : List Addr → Hp → α → β → Prop} {XX : Exc → Hp → Prop} {r : Option (R α)} {Q : β → Hp → Prop} (n : Nxt ρ Hh ρ1 H1) (g : Go y ρ Hh RA XX r Q) : Go y ρ1 H1 RA XX r Q := by
  cases r with
  | none => exact g
  | some r =>
    cases r with
    | ok a h' => exact fun ρ' H' v n' => g ρ' H' v (n.trans n')
    | ex x h' => exact fun ρ' H' n' => g ρ' H' (n.trans n')
theorem Go.imp {α β : Type} {y : Y} {ρ : List Addr} {Hh : Hp} {RA : List Addr → Hp → α → β → Prop} {XX : Exc → Hp → Prop} {r : Option (R α)} {Q Q' : β → Hp → Prop} (g : Go y ρ Hh RA XX r Q) (k : ∀ v H', Q v H' → Q' v H') : Go y ρ Hh RA XX r Q' := by
  cases r with
  | none => exact g
  | some r =>
    cases r with
    | ok a h' => exact fun ρ' H' v n' a b => k _ _ (g ρ' H' v n' a b)
    | ex x h' => exact g
/-- first the one, then the other -/
theorem Go.seq {α β γ δ : Type} {y : Y} {ρ : List Addr} {Hh : Hp} {RA : List Addr → Hp → α → γ → Prop} {RB : List Addr → Hp → β → δ → Prop} {XX : Exc → Hp → Prop} {m : M α} {f : α → M β} {h : H} {Q : δ → Hp → Prop}
    (g : Go y ρ Hh RB XX ((m.bind f) h) Q) : Go y ρ Hh RA XX (m h) (fun v H1 => ∃ ρ1 w1 h1, Nxt ρ Hh ρ1 H1 ∧ RH y ρ1 H1 h1 ∧ RA ρ1 H1 w1 v ∧ Go y ρ1 H1 RB XX (f w1 h1) Q) := by
  unfold M.bind at g
  cases e : m h with
  | none => rw [e] at g; exact g
  | some r =>
    cases r with
    | ex x h' => rw [e] at g; exact g
    | ok a h' =>
      rw [e] at g
      exact fun ρ' H' v n' rh ra => ⟨ρ', a, h', n', rh, ra, Go.mono (RA := RB) n' g⟩
theorem Go.pure {α β : Type} {y : Y} {ρ : List Addr} {Hh : Hp} {RA : List Addr → Hp → α → β → Prop} {XX : Exc → Hp → Prop} {a : α} {h : H} {Q : β → Hp → Prop} {v : β} (g : Go y ρ Hh RA XX ((M.pure a) h) Q) (rh : RH y ρ Hh h) (ra : RA ρ Hh a v) : Q v Hh :=
  g ρ Hh v .refl rh ra
theorem Go.ask {α β : Type} {y : Y} {ρ : List Addr} {Hh : Hp} {RA : List Addr → Hp → α → β → Prop} {XX : Exc → Hp → Prop} {f : H → Option α} {h : H} {Q : β → Hp → Prop} (g : Go y ρ Hh RA XX ((M.ask f) h) Q) (rh : RH y ρ Hh h) :
    ∃ a, f h = some a ∧ ∀ v, RA ρ Hh a v → Q v Hh := by
  unfold M.ask at g
  cases e : f h with
  | none => rw [e] at g; exact g.elim
  | some a =>
    rw [e] at g
    exact ⟨a, rfl, fun v ra => g ρ Hh v .refl rh ra⟩
theorem Go.opt {α β : Type} {y : Y} {ρ : List Addr} {Hh : Hp} {RA : List Addr → Hp → α → β → Prop} {XX : Exc → Hp → Prop} {o : Option α} {h : H} {Q : β → Hp → Prop} (g : Go y ρ Hh RA XX ((M.opt o) h) Q) (rh : RH y ρ Hh h) :
    ∃ a, o = some a ∧ ∀ v, RA ρ Hh a v → Q v Hh := by
  unfold M.opt at g
  cases e : o with
  | none => rw [e] at g; exact g.elim
  | some a =>
    rw [e] at g
    exact ⟨a, rfl, fun v ra => g ρ Hh v .refl rh ra⟩
end DI

/-! DI2b: the operations on values: what DI1 says is what the hand layer's rules give. -/
namespace DI
open PySem L2

theorem sz_eq : SZ = sizeLine := by
  rw [sizeLine_eq]
  unfold SZ
  rfl
theorem strV_len (s : List Char) : (strV s).length = s.length := by simp [strV, Str.length]
theorem strV_tl (s : List Char) : (strV s).cps.toList = s.map Char.toNat := by simp [strV]
theorem strV_app (a b : List Char) : strV a ++ strV b = strV (a ++ b) := by
  apply TL.ext_tl
  rw [TL.tl_append]
  simp [TL.tl, strV]
theorem char_inj {a b : Char} (h : a.toNat = b.toNat) : a = b := by
  apply Char.ext
  have : a.val.toNat = b.val.toNat := h
  exact UInt32.toNat_inj.mp this
theorem strV_inj {a b : List Char} (h : strV a = strV b) : a = b := by
  have e : (strV a).cps.toList = (strV b).cps.toList := by rw [h]
  rw [strV_tl, strV_tl] at e
  exact (List.map_inj_right (fun x y => char_inj)).mp e
theorem strV_beq (a b : List Char) : decide (strV a = strV b) = (a == b) := by
  by_cases h : a = b
  · subst h; simp
  · rw [decide_eq_false fun e => h (strV_inj e)]
    exact (beq_eq_false_iff_ne.mpr h).symm

/-! ### data as PyData -/
mutual
def D.py : D → PyData
  | .non => .none
  | .bl b => .bool b
  | .int i => .int i
  | .str s => .str (strV s)
  | .tup xs => .tuple (D.pys xs)
def D.pys : List D → List PyData
  | [] => []
  | x :: xs => D.py x :: D.pys xs
end
mutual
theorem D.py_eqv : ∀ a b : D, PyData.eqv a.py b.py = pyEq a b
  | .non, b => by cases b <;> simp [D.py, PyData.eqv, pyEq]
  | .bl a, b => by cases b <;> simp [D.py, PyData.eqv, pyEq]
  | .int a, b => by cases b <;> simp [D.py, PyData.eqv, pyEq]
  | .str a, b => by
    cases b with
    | str b =>
      simp only [D.py, PyData.eqv, pyEq]
      rw [← strV_beq]
      exact Bool.beq_eq_decide_eq _ _
    | _ => simp [D.py, PyData.eqv, pyEq]
  | .tup a, b => by
    cases b with
    | tup b => simp only [D.py, PyData.eqv, pyEq]; exact D.pys_eqv a b
    | _ => simp [D.py, PyData.eqv, pyEq]
theorem D.pys_eqv : ∀ a b : List D, PyData.eqvAll (D.pys a) (D.pys b) = pyEqs a b
  | [], b => by cases b <;> simp [D.pys, PyData.eqvAll, pyEqs]
  | a :: as, b => by
    cases b with
    | nil => simp [D.pys, PyData.eqvAll, pyEqs]
    | cons b bs => simp only [D.pys, PyData.eqvAll, pyEqs]; rw [D.py_eqv a b, D.pys_eqv as bs]
end
theorem char_lt (c : Char) : c.toNat < 1114112 := by
  have h := c.valid
  have : c.val.toNat = c.toNat := rfl
  simp only [UInt32.isValidChar, Nat.isValidChar] at h
  omega
theorem strOk_strV (s : List Char) : PyData.strOk (strV s) = true := by
  unfold PyData.strOk strV
  simp only [List.all_toArray, List.all_map, List.all_eq_true]
  intro c _
  simp only [Function.comp, decide_eq_true_eq]
  exact char_lt c
mutual
theorem D.py_lay : ∀ a : D, a.py.canLay0 = true
  | .non => by simp [D.py, PyData.canLay0]
  | .bl a => by simp [D.py, PyData.canLay0]
  | .int a => by simp [D.py, PyData.canLay0]
  | .str a => by simp [D.py, PyData.canLay0, strOk_strV]
  | .tup a => by simp only [D.py, PyData.canLay0]; exact D.pys_lay a
theorem D.pys_lay : ∀ a : List D, PyData.canLayAll0 (D.pys a) = true
  | [] => by simp [D.pys, PyData.canLayAll0]
  | a :: as => by simp only [D.pys, PyData.canLayAll0]; rw [D.py_lay a, D.pys_lay as]; rfl
end
mutual
theorem D.py_depth : ∀ a : D, a.py.depth = a.depth
  | .non => by simp [D.py, PyData.depth, D.depth]
  | .bl a => by simp [D.py, PyData.depth, D.depth]
  | .int a => by simp [D.py, PyData.depth, D.depth]
  | .str a => by simp [D.py, PyData.depth, D.depth]
  | .tup a => by simp only [D.py, PyData.depth, D.depth]; rw [D.pys_depth a]
theorem D.pys_depth : ∀ a : List D, PyData.depthAll (D.pys a) = D.depths a
  | [] => by simp [D.pys, PyData.depthAll, D.depths]
  | a :: as => by simp only [D.pys, PyData.depthAll, D.depths]; rw [D.py_depth a, D.pys_depth as]
end
theorem D.shaped {x : D} (h : x.depth ≤ 64) : SeqAt.shaped x.py = true := by
  unfold SeqAt.shaped
  rw [D.py_lay, D.py_depth]
  simpa using h
mutual
theorem dp_of {K : PySem.W.Frag} {Hh : Hp} : ∀ (d : D) (v : V), RD K Hh d v → Dp K Hh v d.py
  | .non, v, h => by simp only [RD] at h; subst h; simp only [D.py]; exact .non
  | .bl b, v, h => by simp only [RD] at h; subst h; simp only [D.py]; exact .bl b
  | .int b, v, h => by simp only [RD] at h; subst h; simp only [D.py]; exact .int b
  | .str b, v, h => by simp only [RD] at h; subst h; simp only [D.py]; exact .str _
  | .tup ds, v, h => by
    simp only [RD] at h
    obtain ⟨a, vs, rfl, ht, hr⟩ := h
    simp only [D.py]
    exact .tup ht.sq (dps_of ds vs hr)
theorem dps_of {K : PySem.W.Frag} {Hh : Hp} : ∀ (ds : List D) (vs : List V), RDs K Hh ds vs → DpAll K Hh vs (D.pys ds)
  | [], vs, h => by simp only [RDs] at h; subst h; simp only [D.pys]; exact .nil
  | d :: ds, vs, h => by
    simp only [RDs] at h
    obtain ⟨v, r, rfl, h1, h2⟩ := h
    simp only [D.pys]
    exact .cons (dp_of d v h1) (dps_of ds r h2)
end

/-! ### lists of values -/
theorem allD_map : ∀ {ws : List W} {ds : List D}, allD ws = some ds → ws = ds.map W.d
  | [], ds, h => by simp [allD] at h; subst h; rfl
  | .d x :: r, ds, h => by
    simp only [allD] at h
    cases e : allD r with
    | none => rw [e] at h; cases h
    | some xs =>
      rw [e] at h
      cases h
      rw [allD_map e]; rfl
  | .r _ :: _, _, h => by simp [allD] at h
  | .ro _ :: _, _, h => by simp [allD] at h
  | .fn _ :: _, _, h => by simp [allD] at h
theorem allD_of (ds : List D) : allD (ds.map W.d) = some ds := by
  induction ds with
  | nil => rfl
  | cons d ds ih => simp only [List.map_cons, allD, ih]
theorem allInts_map : ∀ {ws : List W} {ns : List Int}, allInts ws = some ns → ws = ns.map fun i => W.d (.int i)
  | [], ns, h => by simp [allInts] at h; subst h; rfl
  | .d (.int i) :: r, ns, h => by
    simp only [allInts] at h
    cases e : allInts r with
    | none => rw [e] at h; cases h
    | some xs => rw [e] at h; cases h; rw [allInts_map e]; rfl
  | .d .non :: _, _, h => by simp [allInts] at h
  | .d (.bl _) :: _, _, h => by simp [allInts] at h
  | .d (.str _) :: _, _, h => by simp [allInts] at h
  | .d (.tup _) :: _, _, h => by simp [allInts] at h
  | .r _ :: _, _, h => by simp [allInts] at h
  | .ro _ :: _, _, h => by simp [allInts] at h
  | .fn _ :: _, _, h => by simp [allInts] at h
theorem allInts_of (ns : List Int) : allInts (ns.map fun i => W.d (.int i)) = some ns := by
  induction ns with
  | nil => rfl
  | cons d ds ih => simp only [List.map_cons, allInts, ih]
theorem allBools_map : ∀ {ws : List W} {ns : List Bool}, allBools ws = some ns → ws = ns.map fun i => W.d (.bl i)
  | [], ns, h => by simp [allBools] at h; subst h; rfl
  | .d (.bl i) :: r, ns, h => by
    simp only [allBools] at h
    cases e : allBools r with
    | none => rw [e] at h; cases h
    | some xs => rw [e] at h; cases h; rw [allBools_map e]; rfl
  | .d .non :: _, _, h => by simp [allBools] at h
  | .d (.int _) :: _, _, h => by simp [allBools] at h
  | .d (.str _) :: _, _, h => by simp [allBools] at h
  | .d (.tup _) :: _, _, h => by simp [allBools] at h
  | .r _ :: _, _, h => by simp [allBools] at h
  | .ro _ :: _, _, h => by simp [allBools] at h
  | .fn _ :: _, _, h => by simp [allBools] at h
theorem allBools_of (ns : List Bool) : allBools (ns.map fun i => W.d (.bl i)) = some ns := by
  induction ns with
  | nil => rfl
  | cons d ds ih => simp only [List.map_cons, allBools, ih]
theorem allStrs_map : ∀ {ws : List W} {ns : List (List Char)}, allStrs ws = some ns → ws = ns.map fun i => W.d (.str i)
  | [], ns, h => by simp [allStrs] at h; subst h; rfl
  | .d (.str i) :: r, ns, h => by
    simp only [allStrs] at h
    cases e : allStrs r with
    | none => rw [e] at h; cases h
    | some xs => rw [e] at h; cases h; rw [allStrs_map e]; rfl
  | .d .non :: _, _, h => by simp [allStrs] at h
  | .d (.int _) :: _, _, h => by simp [allStrs] at h
  | .d (.bl _) :: _, _, h => by simp [allStrs] at h
  | .d (.tup _) :: _, _, h => by simp [allStrs] at h
  | .r _ :: _, _, h => by simp [allStrs] at h
  | .ro _ :: _, _, h => by simp [allStrs] at h
  | .fn _ :: _, _, h => by simp [allStrs] at h
theorem allStrs_of (ns : List (List Char)) : allStrs (ns.map fun i => W.d (.str i)) = some ns := by
  induction ns with
  | nil => rfl
  | cons d ds ih => simp only [List.map_cons, allStrs, ih]

section
variable {y : Y} {ρ : List Addr} {Hh : Hp}
theorem rds_of_pw {ds : List D} {vs : List V} (h : Pw (RW y ρ Hh) (ds.map W.d) vs) : RDs y.K Hh ds vs := rds_pw (Pw.of_map_left (f := W.d) h)
theorem pw_of_rds {ds : List D} {vs : List V} (h : RDs y.K Hh ds vs) : Pw (RW y ρ Hh) (ds.map W.d) vs := Pw.map_left (f := W.d) (pw_rds h)
theorem pw_ints : ∀ {ns : List Int} {vs : List V}, Pw (RW y ρ Hh) (ns.map fun i => W.d (.int i)) vs → vs = ns.map V.int
  | [], vs, h => h
  | n :: ns, vs, h => by
    obtain ⟨v, r, e, h1, h2⟩ := h
    subst e
    simp only [RW, RD] at h1
    rw [h1, pw_ints h2]; rfl
theorem ints_pw : ∀ {ns : List Int}, Pw (RW y ρ Hh) (ns.map fun i => W.d (.int i)) (ns.map V.int)
  | [] => rfl
  | n :: ns => ⟨_, _, rfl, by simp only [RW, RD], ints_pw⟩
theorem pw_bools : ∀ {ns : List Bool} {vs : List V}, Pw (RW y ρ Hh) (ns.map fun i => W.d (.bl i)) vs → vs = ns.map V.bl
  | [], vs, h => h
  | n :: ns, vs, h => by
    obtain ⟨v, r, e, h1, h2⟩ := h
    subst e
    simp only [RW, RD] at h1
    rw [h1, pw_bools h2]; rfl
theorem pw_strs : ∀ {ns : List (List Char)} {vs : List V}, Pw (RW y ρ Hh) (ns.map fun i => W.d (.str i)) vs → vs = (ns.map strV).map V.str
  | [], vs, h => h
  | n :: ns, vs, h => by
    obtain ⟨v, r, e, h1, h2⟩ := h
    subst e
    simp only [RW, RD] at h1
    rw [h1, pw_strs h2]; rfl
end

/-! ### + - * // % ** -/
section
variable {X : Cx} {y : Y} {XX : Exc → Hp → Prop}
def rBin (y : Y) (XX : Exc → Hp → Prop) (o : BOp) : R2 := fun v u Hh Q => ∃ ρ w1 w2 h, RH y ρ Hh h ∧ RW y ρ Hh w1 v ∧ RW y ρ Hh w2 u ∧ Go y ρ Hh (RW y) XX (binOp o w1 w2 h) Q
theorem mulOk_ok {i j : Int} (h : mulOk i j = true) : CMul i j := by
  unfold mulOk at h
  simp only [Bool.or_eq_true, decide_eq_true_eq] at h
  unfold CMul
  omega
theorem bin_add (hK : y.K = X.K) : OpR X (binaryOp .Add) (rBin y XX .add) := by
  intro pins s τ Hh v u v' u' Q I rv ru ⟨ρ, w1, w2, h, rh, r1, r2, g⟩
  change Go y ρ Hh (RW y) XX (addW w1 w2 h) Q at g
  unfold addW at g
  split at g
  case h_1 i j =>
    simp only [RW, RD] at r1 r2
    exact op_add pins s τ Hh v u v' u' Q I rv ru ⟨i, j, r1, r2, g ρ Hh _ .refl rh (by simp only [RW, RD])⟩
  case h_2 a b =>
    simp only [RW, RD] at r1 r2
    split at g
    · refine op_add_str pins s τ Hh v u v' u' Q I rv ru ⟨_, _, r1, r2, ?_, g ρ Hh _ .refl rh ?_⟩
      · rw [strV_len, strV_len, ← sz_eq]; assumption
      · simp only [RW, RD]; rw [strV_app]
    · exact g.elim
  case h_3 a b =>
    simp only [RW, RD] at r1 r2
    obtain ⟨pa, va, rfl, ta, ra⟩ := r1
    obtain ⟨pb, vb, rfl, tb, rb⟩ := r2
    split at g
    case isFalse => exact g.elim
    case isTrue hz =>
      have la := (pw_rds ra).length
      have lb := (pw_rds rb).length
      refine op_catA pins s τ Hh _ _ v' u' Q I rv ru ⟨pa, pb, va, vb, rfl, rfl, hK ▸ ta.sq, hK ▸ tb.sq, by rw [← la, ← lb, ← sz_eq]; exact hz, fun e => ?_, fun _ e => ?_, fun _ _ p hp => ?_⟩
      · subst e
        have : a = [] := List.length_eq_zero_iff.mp (by simpa using la)
        subst this
        exact g ρ Hh _ .refl rh (by simp only [RW, RD, List.nil_append]; exact ⟨pb, vb, rfl, tb, rb⟩)
      · subst e
        have : b = [] := List.length_eq_zero_iff.mp (by simpa using lb)
        subst this
        exact g ρ Hh _ .refl rh (by simp only [RW, RD, List.append_nil]; exact ⟨pa, va, rfl, ta, ra⟩)
      · obtain ⟨rh', n⟩ := rh.other (u := .tup (va ++ vb)) hp
        refine g ρ _ _ n rh' ?_
        simp only [RW, RD]
        exact ⟨p, va ++ vb, rfl, .inl upd_same, rds_pw ((pw_rds (RDs.ext n.ext _ _ ra)).append (pw_rds (RDs.ext n.ext _ _ rb)))⟩
  case h_4 m n =>
    split at g
    case h_2 => exact g.elim
    case h_1 a b ea eb =>
      split at g
      case isFalse => exact g.elim
      case isTrue hz =>
        obtain ⟨pa, va, e1, e2, e3⟩ := rh.list ea
        obtain ⟨pb, vb, f1, f2, f3⟩ := rh.list eb
        obtain ⟨pa', q1, rfl⟩ := r1
        obtain ⟨pb', q2, rfl⟩ := r2
        rw [e1] at q1; cases q1
        rw [f1] at q2; cases q2
        refine op_cat pins s τ Hh _ _ v' u' Q I rv ru ⟨pa, pb, va, vb, rfl, rfl, e2, f2, by rw [← e3.length, ← f3.length, ← sz_eq]; exact hz, fun p hp => ?_⟩
        have nx : Nxt ρ Hh (ρ ++ [p]) (upd Hh p (.lst (va ++ vb))) := ⟨⟨[p], rfl⟩, .new hp⟩
        obtain ⟨rh', n'⟩ := rh.push (o := .lst (a ++ b)) (u := .lst (va ++ vb)) hp ⟨va ++ vb, upd_same, (RWs.nxt nx e3).append (RWs.nxt nx f3)⟩
        exact g _ _ _ n' rh' ⟨p, by rw [← rh.len, List.getElem?_append_right (Nat.le_refl _)]; simp, rfl⟩
  all_goals first | exact g.elim | (simp_all; done)
theorem bin_sub : OpR X (binaryOp .Sub) (rBin y XX .sub) := by
  intro pins s τ Hh v u v' u' Q I rv ru ⟨ρ, w1, w2, h, rh, r1, r2, g⟩
  change Go y ρ Hh (RW y) XX (subW w1 w2 h) Q at g
  unfold subW at g
  split at g
  case h_1 i j =>
    simp only [RW, RD] at r1 r2
    exact op_sub pins s τ Hh v u v' u' Q I rv ru ⟨i, j, r1, r2, g ρ Hh _ .refl rh (by simp only [RW, RD])⟩
  all_goals first | exact g.elim | (simp_all; done)
theorem bin_mul : OpR X (binaryOp .Mult) (rBin y XX .mul) := by
  intro pins s τ Hh v u v' u' Q I rv ru ⟨ρ, w1, w2, h, rh, r1, r2, g⟩
  change Go y ρ Hh (RW y) XX (mulW w1 w2 h) Q at g
  unfold mulW at g
  split at g
  case h_1 i j =>
    simp only [RW, RD] at r1 r2
    split at g
    case isFalse => exact g.elim
    case isTrue hm =>
      exact op_mul pins s τ Hh v u v' u' Q I rv ru ⟨i, j, r1, r2, mulOk_ok hm, g ρ Hh _ .refl rh (by simp only [RW, RD])⟩
  case h_2 m k =>
    split at g
    case h_2 => exact g.elim
    case h_1 a ea =>
      split at g
      case isFalse => exact g.elim
      case isTrue hz =>
        obtain ⟨pa, va, e1, e2, e3⟩ := rh.list ea
        obtain ⟨pa', q1, rfl⟩ := r1
        rw [e1] at q1; cases q1
        simp only [RW, RD] at r2
        subst r2
        refine op_rep pins s τ Hh _ _ v' u' Q I rv ru ⟨pa, k, va, rfl, rfl, e2, by omega, by omega, by rw [← e3.length, ← sz_eq]; exact hz.2.2, fun p hp => ?_⟩
        have nx : Nxt ρ Hh (ρ ++ [p]) (upd Hh p (.lst (List.replicate k.toNat va).flatten)) := ⟨⟨[p], rfl⟩, .new hp⟩
        have rep : ∀ n : Nat, Pw (RW y (ρ ++ [p]) (upd Hh p (.lst (List.replicate k.toNat va).flatten))) (List.replicate n a).flatten (List.replicate n va).flatten := fun n => by
          induction n with
          | zero => rfl
          | succ n ih => rw [List.replicate_succ, List.replicate_succ, List.flatten_cons, List.flatten_cons]; exact (RWs.nxt nx e3).append ih
        obtain ⟨rh', n'⟩ := rh.push (o := .lst (List.replicate k.toNat a).flatten) (u := .lst (List.replicate k.toNat va).flatten) hp ⟨_, upd_same, rep _⟩
        exact g _ _ _ n' rh' ⟨p, by rw [← rh.len, List.getElem?_append_right (Nat.le_refl _)]; simp, rfl⟩
  all_goals first | exact g.elim | (simp_all; done)
theorem bin_fdiv : OpR X (binaryOp .FloorDiv) (rBin y XX .fdiv) := by
  intro pins s τ Hh v u v' u' Q I rv ru ⟨ρ, w1, w2, h, rh, r1, r2, g⟩
  change Go y ρ Hh (RW y) XX (fdivW w1 w2 h) Q at g
  unfold fdivW at g
  split at g
  case h_1 i j =>
    simp only [RW, RD] at r1 r2
    split at g
    case isFalse => exact g.elim
    case isTrue hm =>
      exact op_fdivW pins s τ Hh v u v' u' Q I rv ru ⟨i, j, r1, r2, hm, g ρ Hh _ .refl rh (by simp only [RW, RD])⟩
  all_goals first | exact g.elim | (simp_all; done)
theorem bin_mod : OpR X (binaryOp .Mod) (rBin y XX .mod) := by
  intro pins s τ Hh v u v' u' Q I rv ru ⟨ρ, w1, w2, h, rh, r1, r2, g⟩
  change Go y ρ Hh (RW y) XX (modW w1 w2 h) Q at g
  unfold modW at g
  split at g
  case h_1 i j =>
    simp only [RW, RD] at r1 r2
    split at g
    case isFalse => exact g.elim
    case isTrue hm =>
      exact op_mod pins s τ Hh v u v' u' Q I rv ru ⟨i, j, r1, r2, hm, g ρ Hh _ .refl rh (by simp only [RW, RD])⟩
  all_goals first | exact g.elim | (simp_all; done)
theorem bin_pow : OpR X (binaryOp .Pow) (rBin y XX .pow) := by
  intro pins s τ Hh v u v' u' Q I rv ru ⟨ρ, w1, w2, h, rh, r1, r2, g⟩
  change Go y ρ Hh (RW y) XX (powW w1 w2 h) Q at g
  unfold powW at g
  split at g
  case h_1 i j =>
    simp only [RW, RD] at r1 r2
    split at g
    case isFalse => exact g.elim
    case isTrue hm =>
      exact op_pow pins s τ Hh v u v' u' Q I rv ru ⟨i, j, r1, r2, ⟨hm.1, hm.2.1, by omega⟩, g ρ Hh _ .refl rh (by simp only [RW, RD])⟩
  all_goals first | exact g.elim | (simp_all; done)
end

/-! ### comparisons -/
def rCmp (y : Y) (o : COp) : R2 := fun v u Hh Q => ∃ ρ w1 w2 h k, RH y ρ Hh h ∧ RW y ρ Hh w1 v ∧ RW y ρ Hh w2 u ∧ cmpOp o w1 w2 h = some k ∧ Q (.bl k) Hh
section
variable {X : Cx} {y : Y}
theorem eqOk_iff {a b : D} : eqOk a b = true ↔ a.depth ≤ 60 ∧ b.depth ≤ 60 := by
  unfold eqOk
  simp only [Bool.and_eq_true, decide_eq_true_eq]
/-- values of which == is known -/
theorem eqW_dp {ρ : List Addr} {Hh : Hp} {h : H} {w1 w2 : W} {v u : V} {k : Bool} (rh : RH y ρ Hh h) (r1 : RW y ρ Hh w1 v) (r2 : RW y ρ Hh w2 u) (e : eqW w1 w2 h = some k) :
    ∃ d e, Dp y.K Hh v d ∧ Dp y.K Hh u e ∧ SeqAt.shaped d = true ∧ SeqAt.shaped e = true ∧ PyData.eqv d e = k := by
  unfold eqW at e
  split at e
  case h_1 a b =>
    split at e
    case isFalse => cases e
    case isTrue hz =>
      have hz := eqOk_iff.mp hz
      simp only [RW] at r1 r2
      refine ⟨_, _, dp_of _ _ r1, dp_of _ _ r2, D.shaped (by omega), D.shaped (by omega), ?_⟩
      rw [D.py_eqv]
      exact Option.some.inj e
  case h_2 m n =>
    split at e
    case h_2 => cases e
    case h_1 a b ea eb =>
      split at e
      case h_2 => cases e
      case h_1 da db fa fb =>
        split at e
        case isFalse => cases e
        case isTrue hz =>
          have hz := eqOk_iff.mp hz
          simp only [D.depth] at hz
          obtain ⟨pa, va, e1, e2, e3⟩ := rh.list ea
          obtain ⟨pb, vb, f1, f2, f3⟩ := rh.list eb
          obtain ⟨pa', q1, rfl⟩ := r1
          obtain ⟨pb', q2, rfl⟩ := r2
          rw [e1] at q1; cases q1
          rw [f1] at q2; cases q2
          rw [allD_map fa] at e3
          rw [allD_map fb] at f3
          have sh : ∀ ds : List D, D.depths ds + 1 ≤ 60 → SeqAt.shaped (.list (D.pys ds)) = true := fun ds hd => by
            unfold SeqAt.shaped
            simp only [PyData.canLay0, PyData.depth, D.pys_lay, D.pys_depth, Bool.true_and, decide_eq_true_eq]
            omega
          refine ⟨.list (D.pys da), .list (D.pys db), .lst (SqL.of e2) (dps_of _ _ (rds_of_pw e3)), .lst (SqL.of f2) (dps_of _ _ (rds_of_pw f3)), sh _ hz.1, sh _ hz.2, ?_⟩
          simp only [PyData.eqv]
          rw [D.pys_eqv]
          exact Option.some.inj e
  all_goals cases e
theorem cmp_eq (hK : y.K = X.K) (hu : X.A.units + 64 < cLine) : OpR X (compareOp .Eq) (rCmp y .eq) := by
  intro pins s τ Hh v u v' u' Q I rv ru ⟨ρ, w1, w2, h, k, rh, r1, r2, e, q⟩
  obtain ⟨d, e', h1, h2, h3, h4, h5⟩ := eqW_dp rh r1 r2 e
  exact op_eqD hu pins s τ Hh v u v' u' Q I rv ru ⟨d, e', hK ▸ h1, hK ▸ h2, h3, h4, by rw [h5]; exact q⟩
theorem cmp_ne (hK : y.K = X.K) (hu : X.A.units + 64 < cLine) : OpR X (compareOp .NotEq) (rCmp y .ne) := by
  intro pins s τ Hh v u v' u' Q I rv ru ⟨ρ, w1, w2, h, k, rh, r1, r2, e, q⟩
  change (eqW w1 w2 h).map (!·) = some k at e
  cases e0 : eqW w1 w2 h with
  | none => rw [e0] at e; cases e
  | some k0 =>
    rw [e0] at e
    have ek : (!k0) = k := Option.some.inj e
    obtain ⟨d, e', h1, h2, h3, h4, h5⟩ := eqW_dp rh r1 r2 e0
    exact op_neD hu pins s τ Hh v u v' u' Q I rv ru ⟨d, e', hK ▸ h1, hK ▸ h2, h3, h4, by rw [h5, ek]; exact q⟩
theorem ltS_eq (a b : List Char) : ltS a b = decide ((strV a).cps.toList < (strV b).cps.toList) := by
  rw [strV_tl, strV_tl]
  rfl
theorem ltT_eq : ∀ a b : List Int, ltT a b = HT.lexLt a b
  | [], [] => rfl
  | [], _ :: _ => rfl
  | _ :: _, [] => rfl
  | x :: xs, z :: zs => by
    simp only [ltT, HT.lexLt]
    rw [ltT_eq xs zs]
theorem allI_map : ∀ {ds : List D} {ns : List Int}, allI ds = some ns → ds = ns.map D.int
  | [], ns, h => by simp [allI] at h; subst h; rfl
  | .int i :: r, ns, h => by
    simp only [allI] at h
    cases e : allI r with
    | none => rw [e] at h; cases h
    | some xs => rw [e] at h; cases h; rw [allI_map e]; rfl
  | .non :: _, _, h => by simp [allI] at h
  | .bl _ :: _, _, h => by simp [allI] at h
  | .str _ :: _, _, h => by simp [allI] at h
  | .tup _ :: _, _, h => by simp [allI] at h
theorem rds_ints {K : PySem.W.Frag} {Hh : Hp} : ∀ {ns : List Int} {vs : List V}, RDs K Hh (ns.map D.int) vs → vs = ns.map V.int
  | [], vs, h => by simpa only [List.map_nil, RDs] using h
  | n :: ns, vs, h => by
    simp only [List.map_cons, RDs] at h
    obtain ⟨v, r, rfl, h1, h2⟩ := h
    simp only [RD] at h1
    rw [h1, rds_ints h2]; rfl
theorem cmp_lt (hK : y.K = X.K) (hu : X.A.units < cLine) : OpR X (compareOp .Lt) (rCmp y .lt) := by
  intro pins s τ Hh v u v' u' Q I rv ru ⟨ρ, w1, w2, h, k, rh, r1, r2, e, q⟩
  change ltW w1 w2 = some k at e
  unfold ltW at e
  split at e
  case h_2 => cases e
  case h_1 a b =>
    simp only [RW] at r1 r2
    unfold ltD at e
    split at e
    case h_1 i j =>
      simp only [RD] at r1 r2
      cases e
      exact op_lt pins s τ Hh v u v' u' Q I rv ru ⟨i, j, r1, r2, q⟩
    case h_2 a b =>
      simp only [RD] at r1 r2
      cases e
      rw [ltS_eq] at q
      exact op_lt_str pins s τ Hh v u v' u' Q I rv ru ⟨_, _, r1, r2, q⟩
    case h_3 a b =>
      split at e
      case h_2 => cases e
      case h_1 x z ex ez =>
        cases e
        rw [allI_map ex] at r1
        rw [allI_map ez] at r2
        simp only [RD] at r1 r2
        obtain ⟨pa, va, rfl, ta, ra⟩ := r1
        obtain ⟨pb, vb, rfl, tb, rb⟩ := r2
        rw [rds_ints ra] at ta
        rw [rds_ints rb] at tb
        rw [ltT_eq] at q
        exact op_ltT hu pins s τ Hh _ _ v' u' Q I rv ru ⟨pa, pb, x, z, rfl, rfl, hK ▸ ta.sq, hK ▸ tb.sq, q⟩
    all_goals cases e
theorem cmp_gt : OpR X (compareOp .Gt) (rCmp y .gt) := by
  intro pins s τ Hh v u v' u' Q I rv ru ⟨ρ, w1, w2, h, k, rh, r1, r2, e, q⟩
  change gtW w1 w2 = some k at e
  unfold gtW at e
  split at e
  case h_1 i j =>
    simp only [RW, RD] at r1 r2
    cases e
    exact op_gt pins s τ Hh v u v' u' Q I rv ru ⟨i, j, r1, r2, q⟩
  case h_2 a b =>
    simp only [RW, RD] at r1 r2
    cases e
    rw [ltS_eq] at q
    exact op_gt_str pins s τ Hh v u v' u' Q I rv ru ⟨_, _, r1, r2, q⟩
  all_goals cases e
theorem cmp_le : OpR X (compareOp .LtE) (rCmp y .le) := by
  intro pins s τ Hh v u v' u' Q I rv ru ⟨ρ, w1, w2, h, k, rh, r1, r2, e, q⟩
  change leW w1 w2 = some k at e
  unfold leW at e
  split at e
  case h_1 i j =>
    simp only [RW, RD] at r1 r2
    cases e
    exact op_le pins s τ Hh v u v' u' Q I rv ru ⟨i, j, r1, r2, q⟩
  case h_2 a b =>
    simp only [RW, RD] at r1 r2
    cases e
    rw [ltS_eq] at q
    exact op_le_str pins s τ Hh v u v' u' Q I rv ru ⟨_, _, r1, r2, q⟩
  all_goals cases e
theorem cmp_ge : OpR X (compareOp .GtE) (rCmp y .ge) := by
  intro pins s τ Hh v u v' u' Q I rv ru ⟨ρ, w1, w2, h, k, rh, r1, r2, e, q⟩
  change geW w1 w2 = some k at e
  unfold geW at e
  split at e
  case h_1 i j =>
    simp only [RW, RD] at r1 r2
    cases e
    exact op_ge pins s τ Hh v u v' u' Q I rv ru ⟨i, j, r1, r2, q⟩
  case h_2 a b =>
    simp only [RW, RD] at r1 r2
    cases e
    rw [ltS_eq] at q
    exact op_ge_str pins s τ Hh v u v' u' Q I rv ru ⟨_, _, r1, r2, q⟩
  all_goals cases e
theorem non_of {ρ : List Addr} {Hh : Hp} {v : V} : ∀ {w : W}, RW y ρ Hh w v → decide (v = .non) = decide (w = .d .non)
  | .d .non, r => by simp only [RW, RD] at r; subst r; simp
  | .d (.bl _), r => by simp only [RW, RD] at r; subst r; simp
  | .d (.int _), r => by simp only [RW, RD] at r; subst r; simp
  | .d (.str _), r => by simp only [RW, RD] at r; subst r; simp
  | .d (.tup _), r => by simp only [RW, RD] at r; obtain ⟨_, _, rfl, _⟩ := r; simp
  | .r _, r => by obtain ⟨_, _, rfl⟩ := r; simp
  | .ro _, r => by obtain ⟨_, rfl, _⟩ := r; simp
  | .fn _, r => by obtain ⟨_, _, rfl⟩ := r; simp
theorem isNon_eq {ρ : List Addr} {Hh : Hp} {w1 w2 : W} {v u : V} {k : Bool} (r1 : RW y ρ Hh w1 v) (r2 : RW y ρ Hh w2 u) (e : isNonW w1 w2 = some k) : u = .non ∧ decide (v = .non) = k := by
  unfold isNonW at e
  split at e
  case h_2 => cases e
  case h_1 =>
    simp only [RW, RD] at r2
    refine ⟨r2, ?_⟩
    rw [non_of r1]
    exact Option.some.inj e
theorem cmp_is : OpR X (compareOp .Is) (rCmp y .is) := by
  intro pins s τ Hh v u v' u' Q I rv ru ⟨ρ, w1, w2, h, k, rh, r1, r2, e, q⟩
  obtain ⟨e1, e2⟩ := isNon_eq r1 r2 (show isNonW w1 w2 = some k from e)
  exact op_isN pins s τ Hh v u v' u' Q I rv ru ⟨e1, by rw [e2]; exact q⟩
theorem cmp_isn : OpR X (compareOp .IsNot) (rCmp y .isn) := by
  intro pins s τ Hh v u v' u' Q I rv ru ⟨ρ, w1, w2, h, k, rh, r1, r2, e, q⟩
  change (isNonW w1 w2).map (!·) = some k at e
  cases e0 : isNonW w1 w2 with
  | none => rw [e0] at e; cases e
  | some k0 =>
    rw [e0] at e
    have ek : (!k0) = k := Option.some.inj e
    obtain ⟨e1, e2⟩ := isNon_eq r1 r2 e0
    exact op_notN pins s τ Hh v u v' u' Q I rv ru ⟨e1, by rw [e2, ek]; exact q⟩
theorem flat_eqV {K : PySem.W.Frag} {Hh : Hp} : ∀ {a b : D} {v u : V}, a.flat = true → b.flat = true → RD K Hh a v → RD K Hh b u → flatV v = true ∧ eqV v u = pyEq a b := fun {a b v u} fa fb ra rb => by
  cases a with
  | tup _ => cases fa
  | non =>
    simp only [RD] at ra; subst ra
    refine ⟨rfl, ?_⟩
    cases b with
    | tup _ => cases fb
    | _ => simp only [RD] at rb; subst rb; simp [eqV, pyEq]
  | bl _ =>
    simp only [RD] at ra; subst ra
    refine ⟨rfl, ?_⟩
    cases b with
    | tup _ => cases fb
    | _ => simp only [RD] at rb; subst rb; simp [eqV, pyEq]
  | int _ =>
    simp only [RD] at ra; subst ra
    refine ⟨rfl, ?_⟩
    cases b with
    | tup _ => cases fb
    | _ => simp only [RD] at rb; subst rb; simp [eqV, pyEq]
  | str a =>
    simp only [RD] at ra; subst ra
    refine ⟨rfl, ?_⟩
    cases b with
    | tup _ => cases fb
    | str b => simp only [RD] at rb; subst rb; simp only [eqV, pyEq]; rw [← strV_beq]; exact Bool.beq_eq_decide_eq _ _
    | _ => simp only [RD] at rb; subst rb; simp [eqV, pyEq]
theorem flat_any {K : PySem.W.Frag} {Hh : Hp} {x : D} {v : V} (fx : x.flat = true) (rx : RD K Hh x v) : ∀ {ds : List D} {vs : List V}, RDs K Hh ds vs → ds.all D.flat = true → vs.all flatV = true ∧ inV v vs = ds.any fun z => pyEq z x
  | [], vs, h, _ => by simp only [RDs] at h; subst h; exact ⟨rfl, rfl⟩
  | d :: ds, vs, h, f => by
    simp only [RDs] at h
    obtain ⟨u, r, rfl, h1, h2⟩ := h
    rw [List.all_cons, Bool.and_eq_true] at f
    obtain ⟨q1, q2⟩ := flat_any fx rx h2 f.2
    obtain ⟨z1, z2⟩ := flat_eqV f.1 fx h1 rx
    refine ⟨by rw [List.all_cons, z1, q1]; rfl, ?_⟩
    unfold inV at q2 ⊢
    rw [List.any_cons, List.any_cons, q2, z2]
theorem any_py (x : D) : ∀ db : List D, ((D.pys db).any fun z => PyData.eqv z x.py) = db.any fun z => pyEq z x
  | [] => rfl
  | d :: ds => by simp only [D.pys, List.any_cons, D.py_eqv, any_py x ds]
theorem inW_ok (hK : y.K = X.K) (hu : X.A.units + 65 < cLine) {neg : Bool} {o : CmpOp} (ho : o = if neg then .NotIn else .In) {ρ : List Addr} {Hh : Hp} {h : H} {w1 w2 : W} {v u : V} {k : Bool} (rh : RH y ρ Hh h) (r1 : RW y ρ Hh w1 v) (r2 : RW y ρ Hh w2 u) (e : inW w1 w2 h = some k)
    {pins : List (Addr × Obj)} {s : Shared} {τ : L2.St} {v' u' : Value} {Q : VK} (I : L2.Inv X pins τ Hh s) (rv : RelV v v') (ru : RelV u u') (q : Q (.bl (if neg then !k else k)) Hh) :
    wpAny (model X.prog X.w) X.A (compareOp o v' u') (EP X pins τ Q) X.xe s := by
  subst ho
  unfold inW at e
  split at e
  case h_1 c b =>
    cases e
    simp only [RW, RD] at r1 r2
    have hm : decide (c.toNat ∈ (strV b).cps.toList) = decide (c ∈ b) := by
      rw [strV_tl]
      by_cases hc : c ∈ b
      · rw [decide_eq_true hc, decide_eq_true (List.mem_map_of_mem hc)]
      · rw [decide_eq_false hc]
        refine decide_eq_false fun hm => hc ?_
        obtain ⟨d, hd, e⟩ := List.mem_map.mp hm
        rw [← char_inj e]; exact hd
    cases neg with
    | false => exact op_in_sign pins s τ Hh v u v' u' Q I rv ru ⟨c.toNat, strV b, r1, r2, by rw [hm]; exact q⟩
    | true => exact op_notIn_sign pins s τ Hh v u v' u' Q I rv ru ⟨c.toNat, strV b, r1, r2, by rw [hm]; exact q⟩
  case h_2 x b _ =>
    split at e
    case isFalse => cases e
    case isTrue hf =>
      cases e
      simp only [RW] at r1
      simp only [RW, RD] at r2
      obtain ⟨pb, vb, rfl, tb, rb⟩ := r2
      obtain ⟨q1, q2⟩ := flat_any hf.1 r1 rb hf.2
      have fv : flatV v = true := (flat_eqV hf.1 hf.1 r1 r1).1
      cases neg with
      | false => exact op_in_seq pins s τ Hh v _ v' u' Q I rv ru ⟨pb, vb, rfl, .inr (hK ▸ tb.sq), fv, q1, by rw [q2]; exact q⟩
      | true => exact op_notIn_seq pins s τ Hh v _ v' u' Q I rv ru ⟨pb, vb, rfl, .inr (hK ▸ tb.sq), fv, q1, by rw [q2]; exact q⟩
  case h_3 x n =>
    split at e
    case h_2 => cases e
    case h_1 b eb =>
      split at e
      case h_2 => cases e
      case h_1 db fb =>
        split at e
        case isFalse => cases e
        case isTrue hz =>
          cases e
          have hz := eqOk_iff.mp hz
          simp only [D.depth] at hz
          obtain ⟨pb, vb, f1, f2, f3⟩ := rh.list eb
          obtain ⟨pb', q2, rfl⟩ := r2
          rw [f1] at q2; cases q2
          rw [allD_map fb] at f3
          simp only [RW] at r1
          have sh : SeqAt.shaped (.list (D.pys db)) = true := by
            unfold SeqAt.shaped
            simp only [PyData.canLay0, PyData.depth, D.pys_lay, D.pys_depth, Bool.true_and, decide_eq_true_eq]
            omega
          have han := any_py x db
          cases neg with
          | false => exact op_inD hu pins s τ Hh v _ v' u' Q I rv ru ⟨_, _, hK ▸ dp_of _ _ r1, hK ▸ .lst (SqL.of f2) (dps_of _ _ (rds_of_pw f3)), D.shaped (by omega), sh, by rw [han]; exact q⟩
          | true => exact op_notInD hu pins s τ Hh v _ v' u' Q I rv ru ⟨_, _, hK ▸ dp_of _ _ r1, hK ▸ .lst (SqL.of f2) (dps_of _ _ (rds_of_pw f3)), D.shaped (by omega), sh, by rw [han]; exact q⟩
  all_goals cases e
theorem cmp_inn (hK : y.K = X.K) (hu : X.A.units + 65 < cLine) : OpR X (compareOp .In) (rCmp y .inn) := by
  intro pins s τ Hh v u v' u' Q I rv ru ⟨ρ, w1, w2, h, k, rh, r1, r2, e, q⟩
  exact inW_ok (neg := false) hK hu rfl rh r1 r2 e I rv ru q
theorem cmp_nin (hK : y.K = X.K) (hu : X.A.units + 65 < cLine) : OpR X (compareOp .NotIn) (rCmp y .nin) := by
  intro pins s τ Hh v u v' u' Q I rv ru ⟨ρ, w1, w2, h, k, rh, r1, r2, e, q⟩
  change (inW w1 w2 h).map (!·) = some k at e
  cases e0 : inW w1 w2 h with
  | none => rw [e0] at e; cases e
  | some k0 =>
    rw [e0] at e
    have ek : (!k0) = k := Option.some.inj e
    subst ek
    exact inW_ok (neg := true) hK hu rfl rh r1 r2 e0 I rv ru q
end
end DI

/-! DI2c: truth, subscripts, slices, built-ins, methods. -/
namespace DI
open PySem L2

section
variable {X : Cx} {y : Y} {XX : Exc → Hp → Prop}
theorem truth_ok {ρ : List Addr} {Hh : Hp} {h : H} {w : W} {v : V} {k : Bool} (hK : y.K = X.K) (rh : RH y ρ Hh h) (r : RW y ρ Hh w v) (e : truth w h = some k) : TruV X.K v Hh k := by
  unfold truth at e
  split at e
  case h_1 => simp only [RW, RD] at r; subst r; exact (Option.some.inj e).symm
  case h_2 b => simp only [RW, RD] at r; subst r; exact (Option.some.inj e).symm
  case h_3 i =>
    simp only [RW, RD] at r; subst r
    show k = (i != 0)
    rw [← Option.some.inj e]
    by_cases hi : i = 0 <;> simp [hi]
  case h_4 s =>
    simp only [RW, RD] at r; subst r
    split at e
    case isFalse => cases e
    case isTrue hz =>
      refine ⟨by rw [strV_len, ← sz_eq]; exact hz, ?_⟩
      rw [strV_len, ← Option.some.inj e]
      cases s with
      | nil => rfl
      | cons c s =>
        simp only [List.isEmpty_cons, Bool.not_false, List.length_cons]
        exact (bne_iff_ne.mpr (by omega)).symm
  case h_5 xs =>
    simp only [RW, RD] at r
    obtain ⟨a, vs, rfl, ta, ra⟩ := r
    refine .inr (.inl ⟨vs, hK ▸ ta.sq, ?_⟩)
    rw [← Option.some.inj e]
    have l := (pw_rds ra).length
    cases xs <;> cases vs <;> simp at l ⊢
  case h_6 n =>
    obtain ⟨a, ea, rfl⟩ := r
    split at e
    case h_1 xs ex =>
      obtain ⟨a', vs, e1, e2, e3⟩ := rh.list ex
      rw [ea] at e1; cases e1
      refine .inl ⟨vs, .of e2, ?_⟩
      rw [← Option.some.inj e]
      have l := e3.length
      cases xs <;> cases vs <;> simp at l ⊢
    case h_2 kvs ex =>
      obtain ⟨a', e1, ps, e2, e3⟩ := rh.obj ex
      rw [ea] at e1; cases e1
      refine .inr (.inr ⟨ps, e2, ?_⟩)
      rw [← Option.some.inj e]
      have l := e3.length
      cases kvs <;> cases ps <;> simp at l ⊢
    case h_3 => cases e
  case h_7 xs =>
    obtain ⟨a, rfl, ra⟩ := r
    refine .inl ⟨_, hK ▸ ra.sq, ?_⟩
    rw [← Option.some.inj e]
    cases xs <;> simp
  all_goals cases e

/-! ### subscripts -/
theorem ixn_eq (n : Nat) (i : Int) : ixn n i = ixN n i := by
  unfold ixn ixN
  by_cases h0 : 0 ≤ i
  · rw [if_pos h0, if_pos h0]
  · rw [if_neg h0, if_neg h0]
    by_cases h1 : 0 ≤ i + n
    · rw [if_pos h1, if_pos (by omega)]
    · rw [if_neg h1, if_neg (by omega)]
def rGet (y : Y) : R2 := fun v u Hh Q => ∃ ρ w1 w2 h w, RH y ρ Hh h ∧ RW y ρ Hh w1 v ∧ RW y ρ Hh w2 u ∧ getIx w1 w2 h = some w ∧ ∀ z, RW y ρ Hh w z → Q z Hh
theorem ix_ok (hK : y.K = X.K) : IxR X (rGet y) := by
  intro va sl pins s τ Hh v u v' u' Q I rv ru ⟨ρ, w1, w2, h, w, rh, r1, r2, e, q⟩ hs
  unfold getIx at e
  split at e
  case h_1 xs i =>
    simp only [RW, RD] at r1 r2
    obtain ⟨a, vs, rfl, ta, ra⟩ := r1
    cases ei : ixn xs.length i with
    | none => rw [ei] at e; cases e
    | some k =>
      rw [ei] at e
      cases ek : xs[k]? with
      | none => rw [Option.bind_some, ek] at e; cases e
      | some d =>
        rw [Option.bind_some, ek] at e
        have ew : W.d d = w := Option.some.inj e
        subst ew
        obtain ⟨z, ez, rz⟩ := (pw_rds ra).get ek
        refine ix_tup va sl pins s τ Hh _ u v' u' Q I rv ru ⟨a, vs, i, z, rfl, r2, hK ▸ ta.sq, ?_, q z rz⟩ hs
        unfold atI
        rw [← ixn_eq, ← (pw_rds ra).length, ei]
        exact ez
  case h_2 t i =>
    simp only [RW, RD] at r1 r2
    split at e
    case isFalse => cases e
    case isTrue hz =>
      cases ei : ixn t.length i with
      | none => rw [ei] at e; cases e
      | some k =>
        rw [ei] at e
        cases ek : t[k]? with
        | none => rw [Option.bind_some, ek] at e; cases e
        | some c =>
          rw [Option.bind_some, ek] at e
          have ew : W.d (.str [c]) = w := Option.some.inj e
          subst ew
          refine ix_str va sl pins s τ Hh v u v' u' Q I rv ru ⟨strV t, i, c.toNat, r1, r2, by rw [strV_len, ← sz_eq]; exact hz, ?_, q _ ?_⟩ hs
          · unfold atI
            rw [strV_tl, List.length_map, ← ixn_eq, ei]
            simp [ek]
          · simp only [RW, RD]; rfl
  case h_3 n i =>
    obtain ⟨a, ea, rfl⟩ := r1
    simp only [RW, RD] at r2
    split at e
    case h_2 => cases e
    case h_1 xs ex =>
      obtain ⟨a', vs, e1, e2, e3⟩ := rh.list ex
      rw [ea] at e1; cases e1
      cases ei : ixn xs.length i with
      | none => rw [ei] at e; cases e
      | some k =>
        rw [ei] at e
        rw [Option.bind_some] at e
        obtain ⟨z, ez, rz⟩ := e3.get e
        refine ix_list va sl pins s τ Hh _ u v' u' Q I rv ru ⟨a, vs, i, z, rfl, r2, .of e2, ?_, q z rz⟩ hs
        unfold atI
        rw [← ixn_eq, ← e3.length, ei]
        exact ez
  case h_4 xs i =>
    obtain ⟨a, rfl, ra⟩ := r1
    simp only [RW, RD] at r2
    cases ei : ixn xs.length i with
    | none => rw [ei] at e; cases e
    | some k =>
      rw [ei] at e
      cases ek : xs[k]? with
      | none => rw [Option.bind_some, ek] at e; cases e
      | some d =>
        rw [Option.bind_some, ek] at e
        have ew : W.d (.int d) = w := Option.some.inj e
        subst ew
        refine ix_list va sl pins s τ Hh _ u v' u' Q I rv ru ⟨a, _, i, .int d, rfl, r2, hK ▸ ra.sq, ?_, q _ (by simp only [RW, RD])⟩ hs
        unfold atI
        rw [← ixn_eq, List.length_map, ei]
        simp [ek]
  all_goals cases e

/-! ### slices -/
theorem slIx_eq (n d : Nat) (o : Option Int) : slIx n d o = HT.sIx n d o := by cases o <;> rfl
theorem cut_len {α : Type} (xs : List α) (lo hi : Option Int) : (cut xs lo hi).length ≤ xs.length := by
  unfold cut
  rw [List.length_take, List.length_drop]
  omega
theorem pw_cut {R : D → V → Prop} {ds : List D} {vs : List V} (h : Pw R ds vs) (lo hi : Option Int) : Pw R (cut ds lo hi) (cutV vs lo hi) := by
  unfold cut cutV
  rw [← h.length, slIx_eq, slIx_eq]
  exact (h.drop _).take _
theorem pw_cutW {R : W → V → Prop} {ds : List W} {vs : List V} (h : Pw R ds vs) (lo hi : Option Int) : Pw R (cut ds lo hi) (cutV vs lo hi) := by
  unfold cut cutV
  rw [← h.length, slIx_eq, slIx_eq]
  exact (h.drop _).take _
theorem cut_str (t : List Char) (lo hi : Option Int) : cutS (strV t) lo hi = strV (cut t lo hi) := by
  unfold cutS cut
  rw [strV_len, strV_tl, slIx_eq, slIx_eq]
  unfold strV
  rw [List.map_take, List.map_drop]
theorem cut_whole {α : Type} {xs : List α} {lo hi : Option Int} (h : HT.sIx xs.length 0 lo = 0 ∧ HT.sIx xs.length xs.length hi = xs.length) : cut xs lo hi = xs := by
  unfold cut
  rw [slIx_eq, slIx_eq, h.1, h.2]
  simp
def rSl (y : Y) (XX : Exc → Hp → Prop) : V → Option Int → Option Int → Hp → VK → Prop := fun v lo hi Hh Q => ∃ ρ w h, RH y ρ Hh h ∧ RW y ρ Hh w v ∧ Go y ρ Hh (RW y) XX (slice w lo hi h) Q
theorem sl_ok (hK : y.K = X.K) : SlR X (rSl y XX) := by
  intro pins s τ Hh v v' vl vu lo hi sl Q I rv hs pl pu ⟨ρ, w, h, rh, r, g⟩
  unfold slice at g
  split at g
  case h_1 xs =>
    simp only [RW, RD] at r
    obtain ⟨a, vs, rfl, ta, ra⟩ := r
    have hl := (pw_rds ra).length
    refine sl_tupA pins s τ Hh _ v' vl vu lo hi sl Q I rv hs pl pu ⟨a, vs, rfl, hK ▸ ta.sq, fun hw => ?_, fun hw p hp => ?_⟩
    · rw [← hl] at hw
      refine g ρ Hh _ .refl rh ?_
      rw [cut_whole hw]
      simp only [RW, RD]
      exact ⟨a, vs, rfl, ta, ra⟩
    · obtain ⟨rh', n⟩ := rh.other (u := .tup (cutV vs lo hi)) hp
      refine g ρ _ _ n rh' ?_
      simp only [RW, RD]
      exact ⟨p, _, rfl, .inl upd_same, rds_pw (pw_cut (pw_rds (RDs.ext n.ext _ _ ra)) lo hi)⟩
  case h_2 t =>
    simp only [RW, RD] at r
    subst r
    split at g
    case isFalse => exact g.elim
    case isTrue hz =>
      refine sl_str pins s τ Hh _ v' vl vu lo hi sl Q I rv hs pl pu ⟨_, rfl, by rw [strV_len, ← sz_eq]; exact hz, g ρ Hh _ .refl rh ?_⟩
      simp only [RW, RD]
      rw [cut_str]
  case h_3 n =>
    obtain ⟨a, ea, rfl⟩ := r
    split at g
    case h_2 => exact g.elim
    case h_1 xs ex =>
      obtain ⟨a', vs, e1, e2, e3⟩ := rh.list ex
      rw [ea] at e1; cases e1
      refine sl_list pins s τ Hh _ v' vl vu lo hi sl Q I rv hs pl pu ⟨a, vs, rfl, .of e2, fun p hp => ?_⟩
      have nx : Nxt ρ Hh (ρ ++ [p]) (upd Hh p (.lst (cutV vs lo hi))) := ⟨⟨[p], rfl⟩, .new hp⟩
      obtain ⟨rh', n'⟩ := rh.push (o := .lst (cut xs lo hi)) (u := .lst (cutV vs lo hi)) hp ⟨_, upd_same, pw_cutW (RWs.nxt nx e3) lo hi⟩
      exact g _ _ _ n' rh' ⟨p, by rw [← rh.len, List.getElem?_append_right (Nat.le_refl _)]; simp, rfl⟩
  all_goals exact g.elim

/-! ### built-ins, by the values of their arguments -/
def rBif (y : Y) (XX : Exc → Hp → Prop) (b : BI) : List V → Hp → VK → Prop := fun vs Hh Q => ∃ ρ ws h, RH y ρ Hh h ∧ Pw (RW y ρ Hh) ws vs ∧ Go y ρ Hh (RW y) XX (bifn b ws h) Q
theorem pw1 {R : W → V → Prop} {w : W} {vs : List V} (h : Pw R [w] vs) : ∃ v, vs = [v] ∧ R w v := by
  obtain ⟨v, r, rfl, h1, h2⟩ := h
  cases h2
  exact ⟨v, rfl, h1⟩
theorem pw2 {R : W → V → Prop} {w w' : W} {vs : List V} (h : Pw R [w, w'] vs) : ∃ v v', vs = [v, v'] ∧ R w v ∧ R w' v' := by
  obtain ⟨v, r, rfl, h1, h2⟩ := h
  obtain ⟨v', rfl, h3⟩ := pw1 h2
  exact ⟨v, v', rfl, h1, h3⟩
theorem newL {ρ : List Addr} {Hh : Hp} {h : H} {xs : List W} {vs : List V} {Q : VK} (rh : RH y ρ Hh h) (r : Pw (RW y ρ Hh) xs vs) (g : Go y ρ Hh (RW y) XX (some (.ok (.r h.length) (h ++ [.lst xs]))) Q) :
    ∀ p, Hh p = none → Q (.ref p) (upd Hh p (.lst vs)) := fun p hp => by
  have nx : Nxt ρ Hh (ρ ++ [p]) (upd Hh p (.lst vs)) := ⟨⟨[p], rfl⟩, .new hp⟩
  obtain ⟨rh', n'⟩ := rh.push (o := .lst xs) (u := .lst vs) hp ⟨_, upd_same, RWs.nxt nx r⟩
  exact g _ _ _ n' rh' ⟨p, by rw [← rh.len, List.getElem?_append_right (Nat.le_refl _)]; simp, rfl⟩
theorem bi_len (hK : y.K = X.K) : CallR X (.builtin "len") (rBif y XX .len) := by
  intro pins s τ Hh vs us Q I r ⟨ρ, ws, h, rh, rw_, g⟩
  change Go y ρ Hh (RW y) XX (lenW ws h) Q at g
  unfold lenW at g
  split at g
  case h_1 t =>
    obtain ⟨v, rfl, r1⟩ := pw1 rw_
    simp only [RW, RD] at r1
    subst r1
    split at g
    case isFalse => exact g.elim
    case isTrue hz => exact call_len pins s τ Hh _ us Q I r ⟨_, t.length, rfl, ⟨by rw [strV_len, ← sz_eq]; exact hz, (strV_len t).symm⟩, g ρ Hh _ .refl rh (by simp only [RW, RD])⟩
  case h_2 xs =>
    obtain ⟨v, rfl, r1⟩ := pw1 rw_
    simp only [RW, RD] at r1
    obtain ⟨a, vs, rfl, ta, ra⟩ := r1
    exact call_len pins s τ Hh _ us Q I r ⟨_, xs.length, rfl, .inr ⟨vs, hK ▸ ta.sq, (pw_rds ra).length⟩, g ρ Hh _ .refl rh (by simp only [RW, RD])⟩
  case h_3 xs =>
    obtain ⟨v, rfl, a, rfl, ra⟩ := pw1 rw_
    exact call_len pins s τ Hh _ us Q I r ⟨_, xs.length, rfl, .inl ⟨_, hK ▸ ra.sq, by simp⟩, g ρ Hh _ .refl rh (by simp only [RW, RD])⟩
  case h_4 n =>
    obtain ⟨v, rfl, a, ea, rfl⟩ := pw1 rw_
    split at g
    case h_2 => exact g.elim
    case h_1 xs ex =>
      obtain ⟨a', vs, e1, e2, e3⟩ := rh.list ex
      rw [ea] at e1; cases e1
      exact call_len pins s τ Hh _ us Q I r ⟨_, xs.length, rfl, .inl ⟨vs, .of e2, e3.length⟩, g ρ Hh _ .refl rh (by simp only [RW, RD])⟩
  all_goals exact g.elim
theorem bi_abs : CallR X (.builtin "abs") (rBif y XX .abs) := by
  intro pins s τ Hh vs us Q I r ⟨ρ, ws, h, rh, rw_, g⟩
  change Go y ρ Hh (RW y) XX (absW ws h) Q at g
  unfold absW at g
  split at g
  case h_1 i =>
    obtain ⟨v, rfl, r1⟩ := pw1 rw_
    simp only [RW, RD] at r1
    subst r1
    exact call_abs pins s τ Hh _ us Q I r ⟨i, rfl, g ρ Hh _ .refl rh (by simp only [RW, RD])⟩
  all_goals exact g.elim
theorem bi_int : CallR X (.type "int") (rBif y XX .int) := by
  intro pins s τ Hh vs us Q I r ⟨ρ, ws, h, rh, rw_, g⟩
  change Go y ρ Hh (RW y) XX (intW ws h) Q at g
  unfold intW at g
  split at g
  case h_1 i =>
    obtain ⟨v, rfl, r1⟩ := pw1 rw_
    simp only [RW, RD] at r1
    subst r1
    exact call_int1 pins s τ Hh _ us Q I r (.inl ⟨i, rfl, g ρ Hh _ .refl rh (by simp only [RW, RD])⟩)
  case h_2 b =>
    obtain ⟨v, rfl, r1⟩ := pw1 rw_
    simp only [RW, RD] at r1
    subst r1
    exact call_int1 pins s τ Hh _ us Q I r (.inr ⟨b, rfl, g ρ Hh _ .refl rh (by simp only [RW, RD])⟩)
  all_goals exact g.elim
theorem bi_max2 (hc : X.calm = true) : CallR X (.builtin "max") (rBif y XX .max2) := by
  intro pins s τ Hh vs us Q I r ⟨ρ, ws, h, rh, rw_, g⟩
  change Go y ρ Hh (RW y) XX (max2W ws h) Q at g
  unfold max2W at g
  split at g
  case h_1 i j =>
    obtain ⟨v, v', rfl, r1, r2⟩ := pw2 rw_
    simp only [RW, RD] at r1 r2
    subst r1 r2
    exact call_max2 hc pins s τ Hh _ us Q I r ⟨i, j, rfl, g ρ Hh _ .refl rh (by simp only [RW, RD])⟩
  all_goals exact g.elim
theorem bi_min2 (hc : X.calm = true) : CallR X (.builtin "min") (rBif y XX .min2) := by
  intro pins s τ Hh vs us Q I r ⟨ρ, ws, h, rh, rw_, g⟩
  change Go y ρ Hh (RW y) XX (min2W ws h) Q at g
  unfold min2W at g
  split at g
  case h_1 i j =>
    obtain ⟨v, v', rfl, r1, r2⟩ := pw2 rw_
    simp only [RW, RD] at r1 r2
    subst r1 r2
    exact call_min2 hc pins s τ Hh _ us Q I r ⟨i, j, rfl, g ρ Hh _ .refl rh (by simp only [RW, RD])⟩
  all_goals exact g.elim
theorem bi_tuple (hK : y.K = X.K) : CallR X (.type "tuple") (rBif y XX .tuple) := by
  intro pins s τ Hh vs us Q I r ⟨ρ, ws, h, rh, rw_, g⟩
  change Go y ρ Hh (RW y) XX (tupleW ws h) Q at g
  unfold tupleW at g
  split at g
  case h_1 xs =>
    obtain ⟨v, rfl, r1⟩ := pw1 rw_
    simp only [RW, RD] at r1
    obtain ⟨a, vs, rfl, ta, ra⟩ := r1
    exact call_tuple_of pins s τ Hh _ us Q I r ⟨a, vs, rfl, .inr ⟨hK ▸ ta.sq, g ρ Hh _ .refl rh (by simp only [RW, RD]; exact ⟨a, vs, rfl, ta, ra⟩)⟩⟩
  case h_2 n =>
    obtain ⟨v, rfl, a, ea, rfl⟩ := pw1 rw_
    split at g
    case h_2 => exact g.elim
    case h_1 xs ex =>
      split at g
      case h_2 => exact g.elim
      case h_1 ds eds =>
        obtain ⟨a', vs, e1, e2, e3⟩ := rh.list ex
        rw [ea] at e1; cases e1
        refine call_tuple_of pins s τ Hh _ us Q I r ⟨a, vs, rfl, .inl ⟨.of e2, fun l hl => ?_⟩⟩
        obtain ⟨rh', n'⟩ := rh.other (u := .tup vs) hl
        rw [allD_map eds] at e3
        refine g ρ _ _ n' rh' ?_
        simp only [RW, RD]
        exact ⟨l, vs, rfl, .inl upd_same, RDs.ext n'.ext _ _ (rds_of_pw e3)⟩
  all_goals exact g.elim
theorem bi_list (hK : y.K = X.K) : CallR X (.type "list") (rBif y XX .list) := by
  intro pins s τ Hh vs us Q I r ⟨ρ, ws, h, rh, rw_, g⟩
  change Go y ρ Hh (RW y) XX (listW ws h) Q at g
  unfold listW at g
  split at g
  case h_1 xs =>
    obtain ⟨v, rfl, r1⟩ := pw1 rw_
    simp only [RW, RD] at r1
    obtain ⟨a, vs, rfl, ta, ra⟩ := r1
    exact call_list_of pins s τ Hh _ us Q I r ⟨a, vs, rfl, .inr (hK ▸ ta.sq), newL rh (pw_of_rds ra) g⟩
  case h_2 n =>
    obtain ⟨v, rfl, a, ea, rfl⟩ := pw1 rw_
    split at g
    case h_2 => exact g.elim
    case h_1 xs ex =>
      obtain ⟨a', vs, e1, e2, e3⟩ := rh.list ex
      rw [ea] at e1; cases e1
      exact call_list_of pins s τ Hh _ us Q I r ⟨a, vs, rfl, .inl (.of e2), newL rh e3 g⟩
  case h_3 xs =>
    obtain ⟨v, rfl, a, rfl, ra⟩ := pw1 rw_
    exact call_list_of pins s τ Hh _ us Q I r ⟨a, _, rfl, .inl (hK ▸ ra.sq), newL rh ints_pw g⟩
  all_goals exact g.elim
theorem intsOf_ok (hK : y.K = X.K) {ρ : List Addr} {Hh : Hp} {h : H} {w : W} {v : V} {ns : List Int} (rh : RH y ρ Hh h) (r : RW y ρ Hh w v) (e : intsOf w h = some ns) : ∃ a, v = .ref a ∧ SqL X.K Hh a (ns.map V.int) := by
  unfold intsOf at e
  split at e
  case h_1 n =>
    obtain ⟨a, ea, rfl⟩ := r
    split at e
    case h_2 => cases e
    case h_1 xs ex =>
      obtain ⟨a', vs, e1, e2, e3⟩ := rh.list ex
      rw [ea] at e1; cases e1
      rw [allInts_map e] at e3
      rw [pw_ints e3] at e2
      exact ⟨a, rfl, .of e2⟩
  case h_2 xs =>
    obtain ⟨a, rfl, ra⟩ := r
    cases e
    exact ⟨a, rfl, hK ▸ ra.sq⟩
  all_goals cases e
theorem boolsOf_ok {ρ : List Addr} {Hh : Hp} {h : H} {w : W} {v : V} {ns : List Bool} (rh : RH y ρ Hh h) (r : RW y ρ Hh w v) (e : boolsOf w h = some ns) : ∃ a, v = .ref a ∧ SqL X.K Hh a (ns.map V.bl) := by
  unfold boolsOf at e
  split at e
  case h_1 n =>
    obtain ⟨a, ea, rfl⟩ := r
    split at e
    case h_2 => cases e
    case h_1 xs ex =>
      obtain ⟨a', vs, e1, e2, e3⟩ := rh.list ex
      rw [ea] at e1; cases e1
      rw [allBools_map e] at e3
      rw [pw_bools e3] at e2
      exact ⟨a, rfl, .of e2⟩
  all_goals cases e
theorem bi_sum (hK : y.K = X.K) (hc : X.calm = true) : CallR X (.builtin "sum") (rBif y XX .sum) := by
  intro pins s τ Hh vs us Q I r ⟨ρ, ws, h, rh, rw_, g⟩
  change Go y ρ Hh (RW y) XX (sumW ws h) Q at g
  unfold sumW at g
  split at g
  case h_1 w =>
    obtain ⟨v, rfl, r1⟩ := pw1 rw_
    split at g
    case h_2 => exact g.elim
    case h_1 ns e =>
      obtain ⟨a, rfl, sq⟩ := intsOf_ok hK rh r1 e
      exact cr_sum hc pins s τ Hh _ us Q I r ⟨a, ns, rfl, sq, g ρ Hh _ .refl rh (by simp only [RW, RD])⟩
  all_goals exact g.elim
theorem maxI_spec : ∀ (l : List Int) (m : Int), maxI m l ∈ m :: l ∧ ∀ z ∈ m :: l, z ≤ maxI m l
  | [], m => ⟨by simp [maxI], fun z hz => by simp at hz; subst hz; exact Int.le_refl _⟩
  | x :: l, m => by
    obtain ⟨h1, h2⟩ := maxI_spec l (if x > m then x else m)
    have hm : (if x > m then x else m) = m ∨ (if x > m then x else m) = x := by split <;> simp
    have hb : m ≤ (if x > m then x else m) ∧ x ≤ (if x > m then x else m) := by split <;> omega
    have e : maxI m (x :: l) = maxI (if x > m then x else m) l := rfl
    rw [e]
    generalize (if x > m then x else m) = m' at h1 h2 hm hb
    refine ⟨?_, fun z hz => ?_⟩
    · rcases List.mem_cons.mp h1 with e | e
      · rw [e]
        rcases hm with e | e <;> rw [e] <;> simp
      · exact List.mem_cons_of_mem _ (List.mem_cons_of_mem _ e)
    · have h3 := h2 m' List.mem_cons_self
      rcases List.mem_cons.mp hz with e | hz
      · subst e; omega
      · rcases List.mem_cons.mp hz with e | hz
        · subst e; omega
        · exact h2 z (List.mem_cons_of_mem _ hz)
theorem minI_spec : ∀ (l : List Int) (m : Int), minI m l ∈ m :: l ∧ ∀ z ∈ m :: l, minI m l ≤ z
  | [], m => ⟨by simp [minI], fun z hz => by simp at hz; subst hz; exact Int.le_refl _⟩
  | x :: l, m => by
    obtain ⟨h1, h2⟩ := minI_spec l (if x < m then x else m)
    have hm : (if x < m then x else m) = m ∨ (if x < m then x else m) = x := by split <;> simp
    have hb : (if x < m then x else m) ≤ m ∧ (if x < m then x else m) ≤ x := by split <;> omega
    have e : minI m (x :: l) = minI (if x < m then x else m) l := rfl
    rw [e]
    generalize (if x < m then x else m) = m' at h1 h2 hm hb
    refine ⟨?_, fun z hz => ?_⟩
    · rcases List.mem_cons.mp h1 with e | e
      · rw [e]
        rcases hm with e | e <;> rw [e] <;> simp
      · exact List.mem_cons_of_mem _ (List.mem_cons_of_mem _ e)
    · have h3 := h2 m' List.mem_cons_self
      rcases List.mem_cons.mp hz with e | hz
      · subst e; omega
      · rcases List.mem_cons.mp hz with e | hz
        · subst e; omega
        · exact h2 z (List.mem_cons_of_mem _ hz)
theorem bi_maxL (hK : y.K = X.K) (hc : X.calm = true) : CallR X (.builtin "max") (rBif y XX .maxL) := by
  intro pins s τ Hh vs us Q I r ⟨ρ, ws, h, rh, rw_, g⟩
  change Go y ρ Hh (RW y) XX (maxLW ws h) Q at g
  unfold maxLW at g
  split at g
  case h_1 w =>
    obtain ⟨v, rfl, r1⟩ := pw1 rw_
    split at g
    case h_2 => exact g.elim
    case h_1 n ns e =>
      obtain ⟨a, rfl, sq⟩ := intsOf_ok hK rh r1 e
      refine cr_max hc pins s τ Hh _ us Q I r ⟨a, n :: ns, rfl, sq, by simp, fun m hm hle => ?_⟩
      obtain ⟨q1, q2⟩ := maxI_spec ns n
      have : m = maxI n ns := Int.le_antisymm (q2 m hm) (hle _ q1)
      subst this
      exact g ρ Hh _ .refl rh (by simp only [RW, RD])
  all_goals exact g.elim
theorem bi_minL (hK : y.K = X.K) (hc : X.calm = true) : CallR X (.builtin "min") (rBif y XX .minL) := by
  intro pins s τ Hh vs us Q I r ⟨ρ, ws, h, rh, rw_, g⟩
  change Go y ρ Hh (RW y) XX (minLW ws h) Q at g
  unfold minLW at g
  split at g
  case h_1 w =>
    obtain ⟨v, rfl, r1⟩ := pw1 rw_
    split at g
    case h_2 => exact g.elim
    case h_1 n ns e =>
      obtain ⟨a, rfl, sq⟩ := intsOf_ok hK rh r1 e
      refine cr_min hc pins s τ Hh _ us Q I r ⟨a, n :: ns, rfl, sq, by simp, fun m hm hle => ?_⟩
      obtain ⟨q1, q2⟩ := minI_spec ns n
      have : m = minI n ns := Int.le_antisymm (hle _ q1) (q2 m hm)
      subst this
      exact g ρ Hh _ .refl rh (by simp only [RW, RD])
  all_goals exact g.elim
theorem bi_any (hc : X.calm = true) : CallR X (.builtin "any") (rBif y XX .any) := by
  intro pins s τ Hh vs us Q I r ⟨ρ, ws, h, rh, rw_, g⟩
  change Go y ρ Hh (RW y) XX (anyW ws h) Q at g
  unfold anyW at g
  split at g
  case h_1 w =>
    obtain ⟨v, rfl, r1⟩ := pw1 rw_
    split at g
    case h_2 => exact g.elim
    case h_1 ns e =>
      obtain ⟨a, rfl, sq⟩ := boolsOf_ok (X := X) rh r1 e
      exact cr_any hc pins s τ Hh _ us Q I r ⟨a, ns, rfl, sq, g ρ Hh _ .refl rh (by simp only [RW, RD])⟩
  all_goals exact g.elim
theorem bi_all (hc : X.calm = true) : CallR X (.builtin "all") (rBif y XX .all) := by
  intro pins s τ Hh vs us Q I r ⟨ρ, ws, h, rh, rw_, g⟩
  change Go y ρ Hh (RW y) XX (allW ws h) Q at g
  unfold allW at g
  split at g
  case h_1 w =>
    obtain ⟨v, rfl, r1⟩ := pw1 rw_
    split at g
    case h_2 => exact g.elim
    case h_1 ns e =>
      obtain ⟨a, rfl, sq⟩ := boolsOf_ok (X := X) rh r1 e
      exact cr_all hc pins s τ Hh _ us Q I r ⟨a, ns, rfl, sq, g ρ Hh _ .refl rh (by simp only [RW, RD])⟩
  all_goals exact g.elim
theorem insI_perm (x : Int) : ∀ l : List Int, (insI x l).Perm (x :: l)
  | [] => .refl _
  | z :: l => by
    unfold insI
    split
    · exact .refl _
    · exact ((insI_perm x l).cons z).trans (.swap _ _ _)
theorem insI_sorted (x : Int) : ∀ l : List Int, l.Pairwise (· ≤ ·) → (insI x l).Pairwise (· ≤ ·)
  | [], _ => by simp [insI]
  | z :: l, h => by
    obtain ⟨h1, h2⟩ := List.pairwise_cons.mp h
    unfold insI
    split
    case isTrue hx => exact List.pairwise_cons.mpr ⟨fun a ha => (List.mem_cons.mp ha).elim (fun e => e ▸ hx) fun ha => Int.le_trans hx (h1 a ha), h⟩
    case isFalse hx =>
      refine List.pairwise_cons.mpr ⟨fun a ha => ?_, insI_sorted x l h2⟩
      rcases List.mem_cons.mp ((insI_perm x l).mem_iff.mp ha) with e | e
      · omega
      · exact h1 a e
theorem sortI_perm : ∀ l : List Int, (sortI l).Perm l
  | [] => .refl _
  | x :: l => (insI_perm x _).trans ((sortI_perm l).cons x)
theorem sortI_sorted : ∀ l : List Int, (sortI l).Pairwise (· ≤ ·)
  | [] => .nil
  | x :: l => insI_sorted x _ (sortI_sorted l)
theorem sorted_same {a b : List Int} (hp : a.Perm b) (ha : a.Pairwise (· ≤ ·)) (hb : b.Pairwise (· ≤ ·)) : a = b := hp.eq_of_pairwise (fun x y _ _ h1 h2 => Int.le_antisymm h1 h2) ha hb
theorem bi_sorted (hK : y.K = X.K) : CallR X (.builtin "sorted") (rBif y XX .sorted) := by
  intro pins s τ Hh vs us Q I r ⟨ρ, ws, h, rh, rw_, g⟩
  change Go y ρ Hh (RW y) XX (sortedW ws h) Q at g
  unfold sortedW at g
  split at g
  case h_1 w =>
    obtain ⟨v, rfl, r1⟩ := pw1 rw_
    split at g
    case h_2 => exact g.elim
    case h_1 ns e =>
      obtain ⟨a, rfl, sq⟩ := intsOf_ok hK rh r1 e
      refine cr_sortedI pins s τ Hh _ us Q I r ⟨a, ns, rfl, sq, fun ns' p hp hs hn => ?_⟩
      have : ns' = sortI ns := sorted_same (hp.trans (sortI_perm ns).symm) hs (sortI_sorted ns)
      subst this
      exact newL rh ints_pw g p hn
  all_goals exact g.elim

/-! ### methods, by the values -/
def rMet (y : Y) (XX : Exc → Hp → Prop) (m : MI) : V → List V → Hp → VK → Prop := fun v vs Hh Q => ∃ ρ w ws h, RH y ρ Hh h ∧ RW y ρ Hh w v ∧ Pw (RW y ρ Hh) ws vs ∧ Go y ρ Hh (RW y) XX (meth m w ws h) Q
theorem putL {ρ : List Addr} {Hh : Hp} {h : H} {n : Nat} {a : Addr} {xs : List W} {vs : List V} {w : W} {v : V} {Q : VK} (rh : RH y ρ Hh h) (ea : ρ[n]? = some a) (r : Pw (RW y ρ Hh) xs vs) (rv : RW y ρ Hh w v) (g : Go y ρ Hh (RW y) XX (some (.ok w (h.set n (.lst xs)))) Q) :
    Q v (upd Hh a (.lst vs)) := by
  have nx : Nxt ρ Hh ρ (upd Hh a (.lst vs)) := ⟨⟨[], by simp⟩, rh.upd_ext ea⟩
  obtain ⟨rh', n'⟩ := rh.put (o := .lst xs) (u := .lst vs) ea ⟨_, upd_same, RWs.nxt nx r⟩
  exact g _ _ _ n' rh' (rv.nxt n')
theorem mi_append : MtR X "list.append" (rMet y XX .append) := by
  intro pins s τ Hh v vs v' us Q I rv r ⟨ρ, w, ws, h, rh, rwv, rws, g⟩
  change Go y ρ Hh (RW y) XX (appendW w ws h) Q at g
  unfold appendW at g
  split at g
  case h_1 n z =>
    obtain ⟨a, ea, rfl⟩ := rwv
    obtain ⟨u, rfl, ru⟩ := pw1 rws
    split at g
    case h_2 => exact g.elim
    case h_1 xs ex =>
      split at g
      case isFalse => exact g.elim
      case isTrue hz =>
        obtain ⟨a', vs, e1, e2, e3⟩ := rh.list ex
        rw [ea] at e1; cases e1
        exact mt_append pins s τ Hh _ _ v' us Q I rv r ⟨a, vs, u, rfl, rfl, e2, by rw [← e3.length, ← sz_eq]; exact hz, putL (v := .non) rh ea (e3.append (show Pw (RW y ρ Hh) [z] [u] from ⟨u, [], rfl, ru, rfl⟩)) (by simp only [RW, RD]) g⟩
  all_goals exact g.elim
theorem mi_extend : MtR X "list.extend" (rMet y XX .extend) := by
  intro pins s τ Hh v vs v' us Q I rv r ⟨ρ, w, ws, h, rh, rwv, rws, g⟩
  change Go y ρ Hh (RW y) XX (extendW w ws h) Q at g
  unfold extendW at g
  split at g
  case h_1 n m =>
    obtain ⟨a, ea, rfl⟩ := rwv
    obtain ⟨u, rfl, b, eb, rfl⟩ := pw1 rws
    split at g
    case h_2 => exact g.elim
    case h_1 xs zs ex ez =>
      split at g
      case isFalse => exact g.elim
      case isTrue hz =>
        obtain ⟨a', vs, e1, e2, e3⟩ := rh.list ex
        rw [ea] at e1; cases e1
        obtain ⟨b', us', f1, f2, f3⟩ := rh.list ez
        rw [eb] at f1; cases f1
        exact mt_extend pins s τ Hh _ _ v' us Q I rv r ⟨a, b, vs, us', rfl, rfl, e2, f2, by rw [← e3.length, ← f3.length, ← sz_eq]; exact hz, putL (v := .non) rh ea (e3.append f3) (by simp only [RW, RD]) g⟩
  all_goals exact g.elim
theorem pw_dropLast {R : W → V → Prop} : ∀ {xs : List W} {vs : List V}, Pw R xs vs → Pw R xs.dropLast vs.dropLast
  | [], _, e => by cases e; rfl
  | [x], _, ⟨v, r, e, h1, h2⟩ => by cases e; cases h2; rfl
  | x :: z :: xs, _, ⟨v, r, e, h1, h2⟩ => by
    cases e
    obtain ⟨v2, r2, e2, h3, h4⟩ := id h2
    cases e2
    exact ⟨v, _, rfl, h1, pw_dropLast h2⟩
theorem mi_pop : MtR X "list.pop" (rMet y XX .pop) := by
  intro pins s τ Hh v vs v' us Q I rv r ⟨ρ, w, ws, h, rh, rwv, rws, g⟩
  change Go y ρ Hh (RW y) XX (popW w ws h) Q at g
  unfold popW at g
  split at g
  case h_1 n =>
    obtain ⟨a, ea, rfl⟩ := rwv
    cases rws
    split at g
    case h_2 => exact g.elim
    case h_1 xs ex =>
      split at g
      case h_2 => exact g.elim
      case h_1 z ez =>
        obtain ⟨a', vs, e1, e2, e3⟩ := rh.list ex
        rw [ea] at e1; cases e1
        obtain ⟨u, eu, ru⟩ := e3.get ez
        rw [e3.length] at eu
        exact mt_pop pins s τ Hh _ _ v' us Q I rv r ⟨a, vs, u, rfl, rfl, e2, eu, putL rh ea (pw_dropLast e3) ru g⟩
  all_goals exact g.elim
theorem mi_reverse : MtR X "list.reverse" (rMet y XX .reverse) := by
  intro pins s τ Hh v vs v' us Q I rv r ⟨ρ, w, ws, h, rh, rwv, rws, g⟩
  change Go y ρ Hh (RW y) XX (reverseW w ws h) Q at g
  unfold reverseW at g
  split at g
  case h_1 n =>
    obtain ⟨a, ea, rfl⟩ := rwv
    cases rws
    split at g
    case h_2 => exact g.elim
    case h_1 xs ex =>
      obtain ⟨a', vs, e1, e2, e3⟩ := rh.list ex
      rw [ea] at e1; cases e1
      exact mt_reverse pins s τ Hh _ _ v' us Q I rv r ⟨a, vs, rfl, rfl, e2, putL (v := .non) rh ea e3.reverse (by simp only [RW, RD]) g⟩
  all_goals exact g.elim
theorem mi_clear : MtR X "list.clear" (rMet y XX .clearL) := by
  intro pins s τ Hh v vs v' us Q I rv r ⟨ρ, w, ws, h, rh, rwv, rws, g⟩
  change Go y ρ Hh (RW y) XX (clearW w ws h) Q at g
  unfold clearW at g
  split at g
  case h_1 n =>
    obtain ⟨a, ea, rfl⟩ := rwv
    cases rws
    split at g
    case h_2 => exact g.elim
    case h_1 xs ex =>
      obtain ⟨a', vs, e1, e2, e3⟩ := rh.list ex
      rw [ea] at e1; cases e1
      exact mt_clear pins s τ Hh _ _ v' us Q I rv r ⟨a, vs, rfl, rfl, e2, putL (v := .non) (xs := []) (vs := []) rh ea rfl (by simp only [RW, RD]) g⟩
  all_goals exact g.elim
theorem join_str (t : List Char) : ∀ ys : List (List Char), Txt.join (strV t) (ys.map strV) = strV (joinC t ys) := fun ys => by
  rw [TL.join_eq]
  apply TL.ext_tl
  rw [TL.tl_join]
  induction ys with
  | nil => rfl
  | cons x ys ih =>
    cases ys with
    | nil => rfl
    | cons z zs =>
      simp only [List.map_cons, TL.joinL, joinC] at ih ⊢
      rw [ih]
      simp [TL.tl, strV_tl, List.map_append]
theorem sum_map_len (ys : List (List Char)) : ((ys.map strV).map (·.length)).sum = (ys.map (·.length)).sum := by
  induction ys with
  | nil => rfl
  | cons x ys ih => simp only [List.map_cons, List.sum_cons, ih, strV_len]
theorem mi_join (hK : y.K = X.K) : MtR X "str.join" (rMet y XX .join) := by
  intro pins s τ Hh v vs v' us Q I rv r ⟨ρ, w, ws, h, rh, rwv, rws, g⟩
  change Go y ρ Hh (RW y) XX (joinW w ws h) Q at g
  unfold joinW at g
  split at g
  case h_1 t n =>
    simp only [RW, RD] at rwv
    subst rwv
    obtain ⟨u, rfl, a, ea, rfl⟩ := pw1 rws
    split at g
    case h_2 => exact g.elim
    case h_1 xs ex =>
      split at g
      case h_2 => exact g.elim
      case h_1 ys eys =>
        split at g
        case isFalse => exact g.elim
        case isTrue hz =>
          obtain ⟨a', vs, e1, e2, e3⟩ := rh.list ex
          rw [ea] at e1; cases e1
          rw [allStrs_map eys] at e3
          rw [pw_strs e3] at e2
          refine mt_join pins s τ Hh _ _ v' us Q I rv r ⟨strV t, a, ys.map strV, rfl, rfl, .inl (.of e2), ?_, g ρ Hh _ .refl rh ?_⟩
          · rw [sum_map_len, List.length_map, strV_len]
            have := sz_eq
            rw [sizeLine_eq] at this
            omega
          · simp only [RW, RD]
            rw [join_str]
  all_goals exact g.elim

/-! ### isinstance -/
def tyN : Ty → String
  | .int => "int"
  | .bool => "bool"
  | .str => "str"
  | .tuple => "tuple"
  | .list => "list"
  | .dict => "dict"
  | .cls _ => "?"
  | .valueError => "ValueError"
theorem tyB_ok (hK : y.K = X.K) {ρ : List Addr} {Hh : Hp} {h : H} {w : W} {v : V} {t0 : Ty} {b0 : Bool} (rh : RH y ρ Hh h) (r : RW y ρ Hh w v) (e0 : tyB t0 w h = some b0) :
    ∃ T, TyX X.K Hh v T ∧ ∀ t b, tyB t w h = some b → PySem.W.kitOne X.K T (.type (tyN t)) = some b := by
  have fin : ∀ {T : Value}, TyX X.K Hh v T → (∀ t b, tyB t w h = some b → PySem.W.kitOne X.K T (.type (tyN t)) = some b) → ∃ T, TyX X.K Hh v T ∧ ∀ t b, tyB t w h = some b → PySem.W.kitOne X.K T (.type (tyN t)) = some b := fun a b => ⟨_, a, b⟩
  cases w with
  | d x =>
    cases x with
    | non =>
      simp only [RW, RD] at r; subst r
      refine fin (.base .non) fun t b e => ?_
      cases t <;> first | cases e; done | (cases e; exact kit_ty (by decide +kernel))
    | bl z =>
      simp only [RW, RD] at r; subst r
      refine fin (.base (.bl _)) fun t b e => ?_
      cases t <;> first | cases e; done | (cases e; exact kit_ty (by decide +kernel))
    | int z =>
      simp only [RW, RD] at r; subst r
      refine fin (.base (.int _)) fun t b e => ?_
      cases t <;> first | cases e; done | (cases e; exact kit_ty (by decide +kernel))
    | str z =>
      simp only [RW, RD] at r; subst r
      refine fin (.base (.str _)) fun t b e => ?_
      cases t <;> first | cases e; done | (cases e; exact kit_ty (by decide +kernel))
    | tup xs =>
      simp only [RW, RD] at r
      obtain ⟨a, vs, rfl, ta, ra⟩ := r
      have ty : TyX X.K Hh (.ref a) (.type "tuple") := by
        rcases ta with ta | ⟨o, its, n, lk, hc, _⟩
        · exact .base (.tup ta)
        · exact .kTuple (hK ▸ lk) hc
      refine fin ty fun t b e => ?_
      cases t <;> first | cases e; done | (cases e; exact kit_ty (by decide +kernel))
  | r n =>
    obtain ⟨a, ea, rfl⟩ := r
    cases ex : h[n]? with
    | none => simp only [tyB, ex] at e0; cases e0
    | some o =>
      cases o with
      | lst xs =>
        obtain ⟨a', vs, e1, e2, e3⟩ := rh.list ex
        rw [ea] at e1; cases e1
        refine fin (.base (.lst e2)) fun t b e => ?_
        simp only [tyB, ex] at e
        cases t <;> first | cases e; done | (cases e; exact kit_ty (by decide +kernel))
      | dic kvs =>
        obtain ⟨a', e1, ps, e2, e3⟩ := rh.obj ex
        rw [ea] at e1; cases e1
        refine fin (.base (.dK e2)) fun t b e => ?_
        simp only [tyB, ex] at e
        cases t <;> first | cases e; done | (cases e; exact kit_ty (by decide +kernel))
      | ins c fs => simp only [tyB, ex] at e0; cases e0
  | ro xs => cases e0
  | fn i => cases e0
theorem tyAny_ok (hK : y.K = X.K) {ρ : List Addr} {Hh : Hp} {h : H} {w : W} {v : V} (rh : RH y ρ Hh h) (r : RW y ρ Hh w v) {ts : List Ty} {b : Bool} (ht : ts ≠ []) (e : tyAny ts w h = some b) : ∃ T, TyX X.K Hh v T ∧ PySem.W.kitAny X.K T (ts.map fun t => .type (tyN t)) = some b := by
  cases ts with
  | nil => exact absurd rfl ht
  | cons t ts =>
    have e' := e
    unfold tyAny at e'
    cases e0 : tyB t w h with
    | none => rw [e0] at e'; cases e'
    | some b0 =>
      clear e'
      obtain ⟨T, ty, k⟩ := tyB_ok hK rh r e0
      refine ⟨T, ty, ?_⟩
      clear e0 ht
      generalize t :: ts = us at e
      induction us with
      | nil => cases e; exact kitAny_nil
      | cons u us ih =>
        unfold tyAny at e
        split at e
        case h_1 => cases e
        case h_2 e1 => cases e; exact kitAny_cons (k _ _ e1) (fun z => nomatch z) fun _ => rfl
        case h_3 e1 => exact kitAny_cons (k _ _ e1) (fun _ => ih e) fun z => nomatch z
end
end DI

/-! DI2d: expressions: each form of the program's text and the term of ours that says what it does. -/
namespace DI
open PySem L2

/-! ### where one stands -/
/-- what a name of the module is -/
inductive Gv where
  | fn (i : Nat) | bltn | cst (d : D) | xc (i : Nat)
  deriving DecidableEq
structure Gm where
  N : List Str
  sc : Scope
  calm : Bool
  G : List (Str × Gv)
  /-- the classes by name, with the numbers of the exceptions that are instances of them -/
  Hd : List (Str × List Nat)
  /-- the name of the exception at hand -/
  hot : Option Str
  /-- a def's own context: its cells may be stored -/
  top : Bool
/-- an exception of ours as the hand layer has it -/
def RX (y : Y) (xc : Nat → Option Addr) (x : Exc) (Hh : Hp) (cls : Value) (d : Option Addr) : Prop :=
  ∃ C, xc x.c = some C ∧ cls = .ref C ∧ d = none ∧ x.fs = []
def XW (y : Y) (xc : Nat → Option Addr) (Wx : WX) (τ : L2.St) : Exc → Hp → Prop := fun x H' => ∀ cls d, RX y xc x H' cls d → Wx cls d τ H'
/-- what a def of ours promises -/
def spI (y : Y) (xc : Nat → Option Addr) (C : Calls) (i : Nat) : Sp := fun vs Hh Q E => ∃ ρ ws h, RH y ρ Hh h ∧ Pw (RW y ρ Hh) ws vs ∧ Go y ρ Hh (RW y) (fun x H' => ∀ cls d, RX y xc x H' cls d → E cls d H') (C.f i ws h) Q
structure CallOk (X : Cx) (y : Y) (xc : Nat → Option Addr) (C : Calls) (i : Nat) (a : Addr) : Prop where
  kp : PySem.W.keepIn X.K (.ref a) = true
  fn : ∃ (fd : FuncData) (ps : List Str) (k : Nat), Binds X.K fd ps [] ∧ FnOk X.prog X.w X.K X.mg X.base (L2.CX X.prog X.w) k a fd ps (spI y xc C i) ∧ Room k X.A
/-- what an exception class without a method of its own must be -/
structure XcOk (K : PySem.W.Frag) (C : Addr) : Prop where
  is : ExcC K C
  exc : PySem.W.excIn K C [.type "ValueError", .type "Exception", .type "BaseException", .type "object"] "ValueError.__new__" = true
  kp : PySem.W.keepIn K (.ref C) = true
  sub : PySem.W.subIn K (.ref C) (.type "BaseException") = some true
  ty : PySem.W.typeIn K (.ref C) = some (.type "type")
def GOk (X : Cx) (y : Y) (xc : Nat → Option Addr) (x : Str) : Gv → Prop
  | .fn i => ∃ a, y.fa i = some a ∧ X.mg x = some (.ref a)
  | .bltn => X.mg x = none
  | .cst d => ∃ u v, X.mg x = some u ∧ RelV v u ∧ ∀ Hh, RD y.K Hh d v
  | .xc i => ∃ C, xc i = some C ∧ X.mg x = some (.ref C) ∧ XcOk X.K C
/-- a class by its name: which exceptions of ours are instances of it -/
structure HOk (X : Cx) (xc : Nat → Option Addr) (T : Str) (cs : List Nat) (c : Value) : Prop where
  cls : (∃ D, c = .ref D ∧ X.mg T = some c) ∨ (∃ n, c = .type n ∧ X.mg T = none ∧ bootBuiltins T = some c)
  nm : T ≠ "__name__"
  exm : ∀ i C, xc i = some C → PySem.W.exmOne X.K (.ref C) c = some (cs.contains i)
  kit : ∀ i C, xc i = some C → PySem.W.kitOne X.K (.ref C) c = some (cs.contains i)
/-- isinstance of the exception at hand, with one class, with several -/
def IsR (X : Cx) (v : V) (c : Value) (b : Bool) : Prop := ∀ u, RelV u c → CallR X (.builtin "isinstance") (fun xs Hh Q => xs = [v, u] ∧ Q (.bl b) Hh)
def IsT (X : Cx) (v : V) (cs : List Value) (b : Bool) : Prop := ∀ us, Paired ClsV us cs → CallR X (.builtin "isinstance") (fun xs Hh Q => ∃ tp, xs = [v, .ref tp] ∧ Hh tp = some (.tup us) ∧ Q (.bl b) Hh)
structure Cok (g : Gm) (X : Cx) (y : Y) (xc : Nat → Option Addr) (C : Calls) (Wx : WX) : Prop where
  N : X.N = g.N
  nd : X.N.Nodup
  sc : X.env.scope = g.sc
  K : y.K = X.K
  calm : g.calm = true → X.calm = true
  units : X.A.units + 66 < cLine
  glob : ∀ x v, g.G.lookup x = some v → GOk X y xc x v
  calls : g.calm = true → ∀ i a, y.fa i = some a → CallOk X y xc C i a
  hd : ∀ T cs, g.Hd.lookup T = some cs → ∃ c, HOk X xc T cs c
  hot' : ∀ x, g.hot = some x → ∃ p, y.hot = some p
  hot : ∀ i v, y.hot = some (i, v) → g.calm = false ∧ ∃ x xo, g.hot = some x ∧ g.N[i]? = some x ∧ C.x = some xo ∧ (∀ T cs c, HOk X xc T cs c → IsR X v c (cs.contains xo.c)) ∧
    ∀ l : List (Str × List Nat × Value), l ≠ [] → (∀ p ∈ l, HOk X xc p.1 p.2.1 p.2.2) → IsT X v (l.map (·.2.2)) (l.any fun p => p.2.1.contains xo.c)
  tk : Takes X Wx
  own : PassesOwn (model X.prog X.w) X.A X.env X.xe
  fnx : g.top = true → ∀ x, X.fn x = true

def tE (y : Y) (xc : Nat → Option Addr) (Wx : WX) (C : Calls) (e : E) : TE := fun τ Hh Q => ∃ ρ σ h, RS y ρ Hh σ τ ∧ RH y ρ Hh h ∧ Go y ρ Hh (RW y) (XW y xc Wx τ) (ev C σ e h) Q
def tT (y : Y) (xc : Nat → Option Addr) (Wx : WX) (C : Calls) (e : E) : TT := fun τ Hh Q => ∃ ρ σ h, RS y ρ Hh σ τ ∧ RH y ρ Hh h ∧ Go y ρ Hh (fun _ _ k v => v = k) (XW y xc Wx τ) (evT C σ e h) Q
def tA (y : Y) (xc : Nat → Option Addr) (Wx : WX) (C : Calls) (es : Es) : TA := fun τ Hh Q => ∃ ρ σ h, RS y ρ Hh σ τ ∧ RH y ρ Hh h ∧ Go y ρ Hh (fun ρ H' ws vs => Pw (RW y ρ H') ws vs) (XW y xc Wx τ) (evs C σ es h) Q
def tOo (y : Y) (xc : Nat → Option Addr) (Wx : WX) (C : Calls) (e : Eo) : TO := fun τ Hh Q => ∃ ρ σ h, RS y ρ Hh σ τ ∧ RH y ρ Hh h ∧ Go y ρ Hh (fun _ _ o v => v = o) (XW y xc Wx τ) (evo C σ e h) Q
def SE (g : Gm) (e : Expr) (e' : E) : Prop := ∀ X y xc C Wx, Cok g X y xc C Wx → PE X e (tE y xc Wx C e')
def ST (g : Gm) (e : Expr) (e' : E) : Prop := ∀ X y xc C Wx, Cok g X y xc C Wx → PT X e (tT y xc Wx C e')
def SA (g : Gm) (es : List Expr) (es' : Es) : Prop := ∀ X y xc C Wx, Cok g X y xc C Wx → PA X es (tA y xc Wx C es')
def SO (g : Gm) (e : Option Expr) (e' : Eo) : Prop := ∀ X y xc C Wx, Cok g X y xc C Wx → PO X e (tOo y xc Wx C e')

theorem PE.imp {X : Cx} {e : Expr} {t t' : TE} (h : PE X e t) (k : ∀ τ Hh Q, t' τ Hh Q → t τ Hh Q) : PE X e t' := ⟨fun pins s τ Hh Q I q => h.run pins s τ Hh Q I (k τ Hh Q q)⟩
theorem PT.imp {X : Cx} {e : Expr} {t t' : TT} (h : PT X e t) (k : ∀ τ Hh Q, t' τ Hh Q → t τ Hh Q) : PT X e t' := ⟨fun pins s τ Hh Q I q => h.run pins s τ Hh Q I (k τ Hh Q q)⟩
theorem PW.imp {X : Cx} {e : Expr} {t t' : TT} (h : PW X e t) (k : ∀ τ Hh Q, t' τ Hh Q → t τ Hh Q) : PW X e t' := ⟨fun wh pins s τ Hh Q I q => h.run wh pins s τ Hh Q I (k τ Hh Q q)⟩
theorem PA.imp {X : Cx} {e : List Expr} {t t' : TA} (h : PA X e t) (k : ∀ τ Hh Q, t' τ Hh Q → t τ Hh Q) : PA X e t' := ⟨fun p pins s τ Hh Q I q => h.run p pins s τ Hh Q I (k τ Hh Q q)⟩
theorem PO.imp {X : Cx} {e : Option Expr} {t t' : TO} (h : PO X e t) (k : ∀ τ Hh Q, t' τ Hh Q → t τ Hh Q) : PO X e t' := ⟨fun pins s τ Hh Q I q => h.run pins s τ Hh Q I (k τ Hh Q q)⟩
theorem PS.imp {X : Cx} {e : Stmt} {t t' : TS} (h : PS X e t) (k : ∀ D τ Hh, t' D τ Hh → t D τ Hh) : PS X e t' := ⟨fun pins s τ Hh D I q => h.run pins s τ Hh D I (k D τ Hh q)⟩
theorem PSs.imp {X : Cx} {e : List Stmt} {t t' : TS} (h : PSs X e t) (k : ∀ D τ Hh, t' D τ Hh → t D τ Hh) : PSs X e t' := ⟨fun pins s τ Hh D I q => h.run pins s τ Hh D I (k D τ Hh q)⟩

/-! ### the shapes of the text -/
def nst : Expr → Bool
  | .Starred _ _ => false
  | _ => true
theorem star_cons {e : Expr} {es : List Expr} {env : Env} (h : nst e = true) : starEach (e :: es) env = (false, eval e env) :: starEach es env := by
  cases e <;> first | rfl | cases h
theorem star_any {env : Env} {pos : Pos} : ∀ {es : List Expr}, es.all nst = true → (backTo pos (starEach es env)).any (·.1) = false
  | [], _ => rfl
  | e :: es, h => by
    rw [List.all_cons, Bool.and_eq_true] at h
    rw [star_cons h.1]
    exact star_any (es := es) h.2
theorem star_len {env : Env} : ∀ {es : List Expr}, (starEach es env).length = es.length
  | [] => rfl
  | e :: es => by
    have ih := star_len (env := env) (es := es)
    cases e <;> simp [starEach, ih]
def notSet : Expr → Bool
  | .Set _ _ _ => false
  | _ => true
theorem notSet_in {e : Expr} {op : CmpOp} (h : notSet e = true) : behindInMarks op e = false := by
  cases e <;> first | rfl | cases h
def notSlice : Expr → Bool
  | .Slice _ _ _ _ => false
  | _ => true
theorem plainIx {e : Expr} (h : notSlice e = true) : PlainIx e := by
  cases e <;> first | exact fun _ _ => rfl | cases h
/-- no call super() -/
def notCall0 : Expr → Bool
  | .Call (.Name _ _) [] [] _ => false
  | _ => true
theorem base_of {e : Expr} {f : Str} {env : Env} (h : notCall0 e = true) : attributeBase e f env (eval e env) = eval e env := by
  unfold attributeBase
  split
  · cases h
  · rfl
def plainTest : Expr → Bool
  | .UnaryOp .Not _ _ => false
  | .BoolOp _ _ _ => false
  | .IfExp _ _ _ _ => false
  | .Compare _ _ _ _ => false
  | _ => true
theorem test_of {e : Expr} {env : Env} (h : plainTest e = true) : ∀ whole, isTrue e env whole = (do let v ← whole; standAt e.pos; holding [v] (truthy v)) := by
  intro whole
  cases e <;> first | rfl | cases h | skip
  case UnaryOp op x pos => cases op <;> first | rfl | cases h

section
variable {g : Gm}
theorem s_var {i : Nat} {x : Str} {pos : Pos} (hN : g.N[i]? = some x) (hv : Vis g.sc x) (hd : (x == ("__debug__" : Str)) = false) (hcd : (x == ("__classdict__" : Str)) = false) : SE g (.Name x pos) (.var i) := fun X y xc C Wx k => by
  refine PE.imp (pe_var (i := i) (by rw [k.N]; exact hN) (by rw [k.sc]; exact hv) hd hcd) fun τ Hh Q ⟨ρ, σ, h, rs, rh, go⟩ => ?_
  unfold ev at go
  cases e : σ[i]? with
  | none => rw [e] at go; exact go.elim
  | some o =>
    cases o with
    | none => rw [e] at go; exact go.elim
    | some w =>
      rw [e] at go
      obtain ⟨v, ev, rv⟩ := rs.at_ i w e
      exact ⟨v, ev, go ρ Hh v .refl rh rv⟩
theorem s_cst {e : Expr} {d : D} {v : V} (h : ∀ X : Cx, PE X e (tC v)) (r : ∀ K Hh, RD K Hh d v) : SE g e (.cst d) := fun X y xc C Wx k => by
  refine PE.imp (h X) fun τ Hh Q ⟨ρ, σ, h, rs, rh, go⟩ => ?_
  unfold ev at go
  exact go ρ Hh v .refl rh (by simp only [RW]; exact r _ _)
theorem s_int {i : Int} {j : Nat} {pos : Pos} : SE g (.Constant (.int i) j pos) (.cst (.int i)) := s_cst (fun X => pe_int) (fun _ _ => by simp only [RD])
theorem s_bl {i : Bool} {j : Nat} {pos : Pos} : SE g (.Constant (.bool i) j pos) (.cst (.bl i)) := s_cst (fun X => pe_bl) (fun _ _ => by simp only [RD])
theorem s_non {j : Nat} {pos : Pos} : SE g (.Constant .none j pos) (.cst .non) := s_cst (fun X => pe_non) (fun _ _ => by simp only [RD])
theorem s_str {x : Str} {s : List Char} {j : Nat} {pos : Pos} (h : x = strV s) : SE g (.Constant (.str x) j pos) (.cst (.str s)) := by
  subst h
  exact s_cst (fun X => pe_str) (fun _ _ => by simp only [RD])
theorem s_glob {x : Str} {d : D} {pos : Pos} (hg : g.G.lookup x = some (.cst d)) (hk : g.sc.names.lookup x = some .globalImplicit) (hd : (x == ("__debug__" : Str)) = false) : SE g (.Name x pos) (.cst d) := fun X y xc C Wx k => by
  obtain ⟨u, v, h1, h2, h3⟩ := k.glob x _ hg
  refine PE.imp (pe_glob (x := x) (pos := pos) (by unfold Gl Env.kindOf; rw [k.sc]; exact hk) h1 h2 hd) fun τ Hh Q ⟨ρ, σ, h, rs, rh, go⟩ => ?_
  unfold ev at go
  exact go ρ Hh v .refl rh (by simp only [RW]; exact h3 _)
theorem s_bin {op : Operator} {o : BOp} {a b : Expr} {a' b' : E} {pos : Pos} (ho : ∀ (X : Cx) (y : Y) (XX : Exc → Hp → Prop), y.K = X.K → OpR X (binaryOp op) (rBin y XX o)) (ha : SE g a a') (hb : SE g b b') : SE g (.BinOp a op b pos) (.bin o a' b') := fun X y xc C Wx k => by
  refine ⟨fun pins s τ Hh Q I ⟨ρ, σ, h, rs, rh, go⟩ => ?_⟩
  refine (pe_op (ho X y (XW y xc Wx τ) k.K) (ha X y xc C Wx k) (hb X y xc C Wx k)).run pins s τ Hh Q I ?_
  unfold ev at go
  refine ⟨ρ, σ, h, rs, rh, (Go.seq go).imp fun v1 H1 ⟨ρ1, w1, h1, n1, rh1, r1, go1⟩ => ⟨ρ1, σ, h1, rs.nxt n1, rh1, (Go.seq go1).imp fun v2 H2 ⟨ρ2, w2, h2, n2, rh2, r2, go2⟩ => ?_⟩⟩
  exact ⟨ρ2, w1, w2, h2, rh2, r1.nxt n2, r2, go2⟩
theorem s_add {a b : Expr} {a' b' : E} {pos : Pos} (ha : SE g a a') (hb : SE g b b') : SE g (.BinOp a .Add b pos) (.bin .add a' b') := s_bin (fun _ _ _ hK => bin_add hK) ha hb
theorem s_sub {a b : Expr} {a' b' : E} {pos : Pos} (ha : SE g a a') (hb : SE g b b') : SE g (.BinOp a .Sub b pos) (.bin .sub a' b') := s_bin (fun _ _ _ _ => bin_sub) ha hb
theorem s_mul {a b : Expr} {a' b' : E} {pos : Pos} (ha : SE g a a') (hb : SE g b b') : SE g (.BinOp a .Mult b pos) (.bin .mul a' b') := s_bin (fun _ _ _ _ => bin_mul) ha hb
theorem s_fdiv {a b : Expr} {a' b' : E} {pos : Pos} (ha : SE g a a') (hb : SE g b b') : SE g (.BinOp a .FloorDiv b pos) (.bin .fdiv a' b') := s_bin (fun _ _ _ _ => bin_fdiv) ha hb
theorem s_mod {a b : Expr} {a' b' : E} {pos : Pos} (ha : SE g a a') (hb : SE g b b') : SE g (.BinOp a .Mod b pos) (.bin .mod a' b') := s_bin (fun _ _ _ _ => bin_mod) ha hb
theorem s_pow {a b : Expr} {a' b' : E} {pos : Pos} (ha : SE g a a') (hb : SE g b b') : SE g (.BinOp a .Pow b pos) (.bin .pow a' b') := s_bin (fun _ _ _ _ => bin_pow) ha hb

/-! ### comparisons -/
def CmpR (op : CmpOp) (o : COp) : Prop := ∀ (X : Cx) (y : Y), y.K = X.K → X.A.units + 66 < cLine → OpR X (compareOp op) (rCmp y o)
theorem c_eq : CmpR .Eq .eq := fun X y hK hu => cmp_eq hK (by omega)
theorem c_ne : CmpR .NotEq .ne := fun X y hK hu => cmp_ne hK (by omega)
theorem c_lt : CmpR .Lt .lt := fun X y hK hu => cmp_lt hK (by omega)
theorem c_le : CmpR .LtE .le := fun X y hK hu => cmp_le
theorem c_gt : CmpR .Gt .gt := fun X y hK hu => cmp_gt
theorem c_ge : CmpR .GtE .ge := fun X y hK hu => cmp_ge
theorem c_is : CmpR .Is .is := fun X y hK hu => cmp_is
theorem c_isn : CmpR .IsNot .isn := fun X y hK hu => cmp_isn
theorem c_in : CmpR .In .inn := fun X y hK hu => cmp_inn hK (by omega)
theorem c_nin : CmpR .NotIn .nin := fun X y hK hu => cmp_nin hK (by omega)
theorem s_cmp {op : CmpOp} {o : COp} {a b : Expr} {a' b' : E} {pos : Pos} (ho : CmpR op o) (hs : notSet b = true) (ha : SE g a a') (hb : SE g b b') : SE g (.Compare a [op] [b] pos) (.cmp o a' b') := fun X y xc C Wx k => by
  refine PE.imp (pe_cmpR (ho X y k.K k.units) (ha X y xc C Wx k) (hb X y xc C Wx k) (notSet_in hs)) fun τ Hh Q ⟨ρ, σ, h, rs, rh, go⟩ => ?_
  unfold ev at go
  refine ⟨ρ, σ, h, rs, rh, (Go.seq go).imp fun v1 H1 ⟨ρ1, w1, h1, n1, rh1, r1, go1⟩ => ⟨ρ1, σ, h1, rs.nxt n1, rh1, (Go.seq go1).imp fun v2 H2 ⟨ρ2, w2, h2, n2, rh2, r2, go2⟩ => ?_⟩⟩
  obtain ⟨a, e, q⟩ := go2.ask rh2
  cases ec : cmpOp o w1 w2 h2 with
  | none => rw [ec] at e; cases e
  | some k =>
    rw [ec] at e
    cases e
    exact ⟨ρ2, w1, w2, h2, k, rh2, r1.nxt n2, r2, ec, q _ (by simp only [RW, RD])⟩
theorem t_cmp {op : CmpOp} {o : COp} {a b : Expr} {a' b' : E} {pos : Pos} (ho : CmpR op o) (hs : notSet b = true) (ha : SE g a a') (hb : SE g b b') : ST g (.Compare a [op] [b] pos) (.cmp o a' b') := fun X y xc C Wx k => by
  refine PT.imp (pt_cmpR (ho X y k.K k.units) (ha X y xc C Wx k) (hb X y xc C Wx k) (notSet_in hs)) fun τ Hh Q ⟨ρ, σ, h, rs, rh, go⟩ => ?_
  unfold evT at go
  refine ⟨ρ, σ, h, rs, rh, (Go.seq go).imp fun v1 H1 ⟨ρ1, w1, h1, n1, rh1, r1, go1⟩ => ⟨ρ1, σ, h1, rs.nxt n1, rh1, (Go.seq go1).imp fun v2 H2 ⟨ρ2, w2, h2, n2, rh2, r2, go2⟩ => ?_⟩⟩
  obtain ⟨k, e, q⟩ := go2.ask rh2
  exact ⟨ρ2, w1, w2, h2, k, rh2, r1.nxt n2, r2, e, k, rfl, q _ rfl⟩
theorem notSet_last {op op' : CmpOp} {b c : Expr} (hs : notSet c = true) : lastMarks [op, op'] [b, c] = false := notSet_in (op := op') hs
theorem s_ch2 {op op' : CmpOp} {o o' : COp} {a b c : Expr} {a' b' c' : E} {pos : Pos} (ho : CmpR op o) (ho' : CmpR op' o') (hs : notSet c = true) (ha : SE g a a') (hb : SE g b b') (hc : SE g c c') : SE g (.Compare a [op, op'] [b, c] pos) (.ch2 o o' a' b' c') := fun X y xc C Wx k => by
  refine PE.imp (pe_chain (ho X y k.K k.units) (ho' X y k.K k.units) (ha X y xc C Wx k) (hb X y xc C Wx k) (hc X y xc C Wx k) (notSet_last hs)) fun τ Hh Q ⟨ρ, σ, h, rs, rh, go⟩ => ?_
  unfold ev at go
  refine ⟨ρ, σ, h, rs, rh, (Go.seq go).imp fun v1 H1 ⟨ρ1, w1, h1, n1, rh1, r1, go1⟩ => ⟨ρ1, σ, h1, rs.nxt n1, rh1, (Go.seq go1).imp fun v2 H2 ⟨ρ2, w2, h2, n2, rh2, r2, go2⟩ => ?_⟩⟩
  obtain ⟨kk, e, go3⟩ := (Go.seq (RA := fun _ _ k v => v = k) go2).ask rh2
  obtain ⟨ρ3, w3, h3, n3, rh3, r3, go3⟩ := go3 kk rfl
  subst r3
  refine ⟨ρ2, w1, w2, h2, kk, rh2, r1.nxt n2, r2, e, kk, rfl, ?_⟩
  cases kk with
  | false => exact go3.pure rh3 (by simp only [RW, RD])
  | true =>
    show tE y xc Wx C c' τ H2 _
    refine ⟨ρ3, σ, h3, (rs.nxt n1).nxt (n2.trans n3), rh3, (Go.seq go3).imp fun v4 H4 ⟨ρ4, w4, h4, n4, rh4, r4, go4⟩ => ?_⟩
    obtain ⟨a, e, q⟩ := go4.ask rh4
    cases ec : cmpOp o' w2 w4 h4 with
    | none => rw [ec] at e; cases e
    | some k =>
      rw [ec] at e
      cases e
      exact ⟨ρ4, w2, w4, h4, k, rh4, (r2.nxt n3).nxt n4, r4, ec, q _ (by simp only [RW, RD])⟩
theorem t_ch2 {op op' : CmpOp} {o o' : COp} {a b c : Expr} {a' b' c' : E} {pos : Pos} (ho : CmpR op o) (ho' : CmpR op' o') (hs : notSet c = true) (ha : SE g a a') (hb : SE g b b') (hc : SE g c c') : ST g (.Compare a [op, op'] [b, c] pos) (.ch2 o o' a' b' c') := fun X y xc C Wx k => by
  refine PT.imp (pt_chain (ho X y k.K k.units) (ho' X y k.K k.units) (ha X y xc C Wx k) (hb X y xc C Wx k) (hc X y xc C Wx k) (notSet_last hs)) fun τ Hh Q ⟨ρ, σ, h, rs, rh, go⟩ => ?_
  unfold evT at go
  refine ⟨ρ, σ, h, rs, rh, (Go.seq go).imp fun v1 H1 ⟨ρ1, w1, h1, n1, rh1, r1, go1⟩ => ⟨ρ1, σ, h1, rs.nxt n1, rh1, (Go.seq go1).imp fun v2 H2 ⟨ρ2, w2, h2, n2, rh2, r2, go2⟩ => ?_⟩⟩
  obtain ⟨kk, e, go3⟩ := (Go.seq (RA := fun _ _ k v => v = k) go2).ask rh2
  obtain ⟨ρ3, w3, h3, n3, rh3, r3, go3⟩ := go3 kk rfl
  subst r3
  refine ⟨ρ2, w1, w2, h2, kk, rh2, r1.nxt n2, r2, e, kk, rfl, ?_⟩
  cases kk with
  | false => exact ⟨false, rfl, go3.pure rh3 rfl⟩
  | true =>
    show tE y xc Wx C c' τ H2 _
    refine ⟨ρ3, σ, h3, (rs.nxt n1).nxt (n2.trans n3), rh3, (Go.seq go3).imp fun v4 H4 ⟨ρ4, w4, h4, n4, rh4, r4, go4⟩ => ?_⟩
    obtain ⟨kk, e, q⟩ := go4.ask rh4
    exact ⟨ρ4, w2, w4, h4, kk, rh4, (r2.nxt n3).nxt n4, r4, e, kk, rfl, q _ rfl⟩

/-! ### and, or, not, - , if -/
theorem s_one {op : PySem.BoolOp} {a : Expr} {a' : E} {pos : Pos} (ha : SE g a a') : SE g (.BoolOp op [a] pos) a' := fun X y xc C Wx k => pe_one (ha X y xc C Wx k)
theorem s_and {a b : Expr} {r : List Expr} {a' b' : E} {pos : Pos} (ha : SE g a a') (hb : SE g (.BoolOp .And (b :: r) pos) b') : SE g (.BoolOp .And (a :: b :: r) pos) (.and a' b') := fun X y xc C Wx k => by
  refine PE.imp (pe_and (ha X y xc C Wx k) (hb X y xc C Wx k)) fun τ Hh Q ⟨ρ, σ, h, rs, rh, go⟩ => ?_
  unfold ev at go
  refine ⟨ρ, σ, h, rs, rh, (Go.seq go).imp fun v1 H1 ⟨ρ1, w1, h1, n1, rh1, r1, go1⟩ => ?_⟩
  split at go1
  case h_1 => simp only [RW, RD] at r1; exact ⟨true, r1, ⟨ρ1, σ, h1, rs.nxt n1, rh1, go1⟩⟩
  case h_2 => simp only [RW, RD] at r1; exact ⟨false, r1, go1.pure rh1 (by simp only [RW, RD])⟩
  case h_3 => exact go1.elim
theorem s_or {a b : Expr} {r : List Expr} {a' b' : E} {pos : Pos} (ha : SE g a a') (hb : SE g (.BoolOp .Or (b :: r) pos) b') : SE g (.BoolOp .Or (a :: b :: r) pos) (.or a' b') := fun X y xc C Wx k => by
  refine PE.imp (pe_or (ha X y xc C Wx k) (hb X y xc C Wx k)) fun τ Hh Q ⟨ρ, σ, h, rs, rh, go⟩ => ?_
  unfold ev at go
  refine ⟨ρ, σ, h, rs, rh, (Go.seq go).imp fun v1 H1 ⟨ρ1, w1, h1, n1, rh1, r1, go1⟩ => ?_⟩
  split at go1
  case h_1 => simp only [RW, RD] at r1; exact ⟨false, r1, ⟨ρ1, σ, h1, rs.nxt n1, rh1, go1⟩⟩
  case h_2 => simp only [RW, RD] at r1; exact ⟨true, r1, go1.pure rh1 (by simp only [RW, RD])⟩
  case h_3 => exact go1.elim
theorem s_not {a : Expr} {a' : E} {pos : Pos} (ha : SE g a a') : SE g (.UnaryOp .Not a pos) (.not a') := fun X y xc C Wx k => by
  refine PE.imp (pe_notT (ha X y xc C Wx k)) fun τ Hh Q ⟨ρ, σ, h, rs, rh, go⟩ => ?_
  unfold ev at go
  refine ⟨ρ, σ, h, rs, rh, (Go.seq go).imp fun v1 H1 ⟨ρ1, w1, h1, n1, rh1, r1, go1⟩ => ?_⟩
  obtain ⟨a, e, q⟩ := go1.ask rh1
  cases et : truth w1 h1 with
  | none => rw [et] at e; cases e
  | some b =>
    rw [et] at e
    cases e
    exact ⟨b, truth_ok k.K rh1 r1 et, q _ (by simp only [RW, RD])⟩
theorem s_neg {a : Expr} {a' : E} {pos : Pos} (ha : SE g a a') : SE g (.UnaryOp .USub a pos) (.neg a') := fun X y xc C Wx k => by
  refine PE.imp (pe_un un_neg (ha X y xc C Wx k)) fun τ Hh Q ⟨ρ, σ, h, rs, rh, go⟩ => ?_
  unfold ev at go
  refine ⟨ρ, σ, h, rs, rh, (Go.seq go).imp fun v1 H1 ⟨ρ1, w1, h1, n1, rh1, r1, go1⟩ => ?_⟩
  split at go1
  case h_1 i => simp only [RW, RD] at r1; exact ⟨i, r1, go1.pure rh1 (by simp only [RW, RD])⟩
  case h_2 => exact go1.elim
theorem s_ife {c a b : Expr} {c' a' b' : E} {pos : Pos} (hc : ST g c c') (ha : SE g a a') (hb : SE g b b') : SE g (.IfExp c a b pos) (.ife c' a' b') := fun X y xc C Wx k => by
  refine PE.imp (pe_ifExp (hc X y xc C Wx k) (ha X y xc C Wx k) (hb X y xc C Wx k)) fun τ Hh Q ⟨ρ, σ, h, rs, rh, go⟩ => ?_
  unfold ev at go
  refine ⟨ρ, σ, h, rs, rh, (Go.seq go).imp fun v1 H1 ⟨ρ1, w1, h1, n1, rh1, r1, go1⟩ => ?_⟩
  subst r1
  cases v1 with
  | true => exact ⟨ρ1, σ, h1, rs.nxt n1, rh1, go1⟩
  | false => exact ⟨ρ1, σ, h1, rs.nxt n1, rh1, go1⟩
/-- a test within and, or: whatever its whole is -/
def SW (g : Gm) (e : Expr) (e' : E) : Prop := ∀ X y xc C Wx, Cok g X y xc C Wx → PW X e (tT y xc Wx C e')
theorem SW.t {e : Expr} {e' : E} (h : SW g e e') : ST g e e' := fun X y xc C Wx k => (h X y xc C Wx k).pt
theorem w_and1 {a : Expr} {a' : E} {pos : Pos} (ha : ST g a a') : SW g (.BoolOp .And [a] pos) a' := fun X y xc C Wx k => pw_and1 (ha X y xc C Wx k)
theorem w_or1 {a : Expr} {a' : E} {pos : Pos} (ha : ST g a a') : SW g (.BoolOp .Or [a] pos) a' := fun X y xc C Wx k => pw_or1 (ha X y xc C Wx k)
theorem w_and {a b : Expr} {r : List Expr} {a' b' : E} {pos : Pos} (ha : ST g a a') (hb : SW g (.BoolOp .And (b :: r) pos) b') : SW g (.BoolOp .And (a :: b :: r) pos) (.and a' b') := fun X y xc C Wx k => by
  refine PW.imp (pw_and (ha X y xc C Wx k) (hb X y xc C Wx k)) fun τ Hh Q ⟨ρ, σ, h, rs, rh, go⟩ => ?_
  unfold evT at go
  refine ⟨ρ, σ, h, rs, rh, (Go.seq go).imp fun v1 H1 ⟨ρ1, w1, h1, n1, rh1, r1, go1⟩ => ?_⟩
  subst r1
  cases v1 with
  | true => exact ⟨ρ1, σ, h1, rs.nxt n1, rh1, go1⟩
  | false => exact go1.pure rh1 rfl
theorem w_or {a b : Expr} {r : List Expr} {a' b' : E} {pos : Pos} (ha : ST g a a') (hb : SW g (.BoolOp .Or (b :: r) pos) b') : SW g (.BoolOp .Or (a :: b :: r) pos) (.or a' b') := fun X y xc C Wx k => by
  refine PW.imp (pw_or (ha X y xc C Wx k) (hb X y xc C Wx k)) fun τ Hh Q ⟨ρ, σ, h, rs, rh, go⟩ => ?_
  unfold evT at go
  refine ⟨ρ, σ, h, rs, rh, (Go.seq go).imp fun v1 H1 ⟨ρ1, w1, h1, n1, rh1, r1, go1⟩ => ?_⟩
  subst r1
  cases v1 with
  | false => exact ⟨ρ1, σ, h1, rs.nxt n1, rh1, go1⟩
  | true => exact go1.pure rh1 rfl
theorem t_not {a : Expr} {a' : E} {pos : Pos} (ha : ST g a a') : ST g (.UnaryOp .Not a pos) (.not a') := fun X y xc C Wx k => by
  refine PT.imp (pt_not (ha X y xc C Wx k)) fun τ Hh Q ⟨ρ, σ, h, rs, rh, go⟩ => ?_
  unfold evT at go
  refine ⟨ρ, σ, h, rs, rh, (Go.seq go).imp fun v1 H1 ⟨ρ1, w1, h1, n1, rh1, r1, go1⟩ => ?_⟩
  subst r1
  exact go1.pure rh1 rfl
/-- a value's truth -/
theorem t_val {a : Expr} {a' : E} (hp : plainTest a = true) (ha : SE g a a') (he : ∀ C σ, evT C σ a' = (ev C σ a').bind fun w => M.ask (truth w)) : ST g a a' := fun X y xc C Wx k => by
  refine PT.imp (pt_truth (ha X y xc C Wx k) (test_of hp)) fun τ Hh Q ⟨ρ, σ, h, rs, rh, go⟩ => ?_
  rw [he] at go
  refine ⟨ρ, σ, h, rs, rh, (Go.seq go).imp fun v1 H1 ⟨ρ1, w1, h1, n1, rh1, r1, go1⟩ => ?_⟩
  obtain ⟨b, e, q⟩ := go1.ask rh1
  exact ⟨b, truth_ok k.K rh1 r1 e, q _ rfl⟩

/-! ### lists of expressions -/
theorem a_nil : SA g [] .nil := fun X y xc C Wx k => by
  refine PA.imp pa_nil fun τ Hh Q ⟨ρ, σ, h, rs, rh, go⟩ => ?_
  unfold evs at go
  exact go.pure rh rfl
theorem a_cons {e : Expr} {es : List Expr} {e' : E} {es' : Es} (hn : nst e = true) (he : SE g e e') (hs : SA g es es') : SA g (e :: es) (.cons e' es') := fun X y xc C Wx k => by
  refine PA.imp (pa_cons (he X y xc C Wx k) (hs X y xc C Wx k) (star_cons hn)) fun τ Hh Q ⟨ρ, σ, h, rs, rh, go⟩ => ?_
  unfold evs at go
  refine ⟨ρ, σ, h, rs, rh, (Go.seq go).imp fun v1 H1 ⟨ρ1, w1, h1, n1, rh1, r1, go1⟩ => ⟨ρ1, σ, h1, rs.nxt n1, rh1, (Go.seq go1).imp fun v2 H2 ⟨ρ2, w2, h2, n2, rh2, r2, go2⟩ => ?_⟩⟩
  exact go2.pure rh2 ⟨v1, v2, rfl, r1.nxt n2, r2⟩
theorem s_tup {es : List Expr} {es' : Es} {k1 : Nat} {pos : Pos} (hs : SA g es es') : SE g (.Tuple es k1 pos) (.tup es') := fun X y xc C Wx k => by
  refine PE.imp (pe_tup (hs X y xc C Wx k)) fun τ Hh Q ⟨ρ, σ, h, rs, rh, go⟩ => ?_
  unfold ev at go
  refine ⟨ρ, σ, h, rs, rh, (Go.seq go).imp fun vs H1 ⟨ρ1, ws, h1, n1, rh1, r1, go1⟩ => ?_⟩
  cases ed : allD ws with
  | none => rw [ed] at go1; exact go1.elim
  | some ds =>
    rw [ed] at go1
    dsimp only at go1
    by_cases hz : ds.length ≤ SZ
    · rw [if_pos hz] at go1
      rw [allD_map ed] at r1
      have rd := rds_of_pw r1
      refine ⟨by rw [← (pw_rds rd).length, ← sz_eq]; exact hz, fun p hp => ?_⟩
      obtain ⟨rh', n'⟩ := rh1.other (u := .tup vs) hp
      refine go1 ρ1 _ _ n' rh' ?_
      simp only [RW, RD]
      exact ⟨p, vs, rfl, .inl upd_same, RDs.ext n'.ext _ _ rd⟩
    · rw [if_neg hz] at go1
      exact go1.elim
theorem s_lst {es : List Expr} {es' : Es} {pos : Pos} (hs : SA g es es') : SE g (.List es pos) (.lst es') := fun X y xc C Wx k => by
  refine PE.imp (pe_lst (hs X y xc C Wx k)) fun τ Hh Q ⟨ρ, σ, h, rs, rh, go⟩ => ?_
  unfold ev at go
  refine ⟨ρ, σ, h, rs, rh, (Go.seq go).imp fun vs H1 ⟨ρ1, ws, h1, n1, rh1, r1, go1⟩ => ?_⟩
  by_cases hz : ws.length ≤ SZ
  · rw [if_pos hz] at go1
    exact ⟨by rw [← r1.length, ← sz_eq]; exact hz, newL rh1 r1 go1⟩
  · rw [if_neg hz] at go1
    exact go1.elim
theorem s_ix {a b : Expr} {a' b' : E} {pos : Pos} (hs : notSlice b = true) (ha : SE g a a') (hb : SE g b b') : SE g (.Subscript a b pos) (.ix a' b') := fun X y xc C Wx k => by
  refine PE.imp (pe_ix (ix_ok k.K) (ha X y xc C Wx k) (hb X y xc C Wx k) (plainIx hs)) fun τ Hh Q ⟨ρ, σ, h, rs, rh, go⟩ => ?_
  unfold ev at go
  refine ⟨ρ, σ, h, rs, rh, (Go.seq go).imp fun v1 H1 ⟨ρ1, w1, h1, n1, rh1, r1, go1⟩ => ⟨ρ1, σ, h1, rs.nxt n1, rh1, (Go.seq go1).imp fun v2 H2 ⟨ρ2, w2, h2, n2, rh2, r2, go2⟩ => ?_⟩⟩
  obtain ⟨w, e, q⟩ := go2.ask rh2
  exact ⟨ρ2, w1, w2, h2, w, rh2, r1.nxt n2, r2, e, q⟩
theorem o_none : SO g none .none := fun X y xc C Wx k => by
  refine PO.imp po_none fun τ Hh Q ⟨ρ, σ, h, rs, rh, go⟩ => ?_
  unfold evo at go
  exact go.pure rh rfl
theorem o_some {e : Expr} {e' : E} (he : SE g e e') : SO g (some e) (.some e') := fun X y xc C Wx k => by
  refine PO.imp (po_some (he X y xc C Wx k)) fun τ Hh Q ⟨ρ, σ, h, rs, rh, go⟩ => ?_
  unfold evo at go
  refine ⟨ρ, σ, h, rs, rh, (Go.seq go).imp fun v1 H1 ⟨ρ1, w1, h1, n1, rh1, r1, go1⟩ => ?_⟩
  split at go1
  case h_1 i => simp only [RW, RD] at r1; exact ⟨i, r1, go1.pure rh1 rfl⟩
  case h_2 => exact go1.elim
theorem s_sl {a : Expr} {lo hi : Option Expr} {a' : E} {lo' hi' : Eo} {pos p2 : Pos} (ha : SE g a a') (hl : SO g lo lo') (hh : SO g hi hi') : SE g (.Subscript a (.Slice lo hi none p2) pos) (.sl a' lo' hi') := fun X y xc C Wx k => by
  refine ⟨fun pins s τ Hh Q I ⟨ρ, σ, h, rs, rh, go⟩ => ?_⟩
  refine (pe_slice (sl_ok (XX := XW y xc Wx τ) k.K) (ha X y xc C Wx k) (hl X y xc C Wx k) (hh X y xc C Wx k)).run pins s τ Hh Q I ?_
  unfold ev at go
  refine ⟨ρ, σ, h, rs, rh, (Go.seq go).imp fun v1 H1 ⟨ρ1, w1, h1, n1, rh1, r1, go1⟩ => ⟨ρ1, σ, h1, rs.nxt n1, rh1, (Go.seq go1).imp fun v2 H2 ⟨ρ2, w2, h2, n2, rh2, r2, go2⟩ => ⟨ρ2, σ, h2, (rs.nxt n1).nxt n2, rh2, (Go.seq go2).imp fun v3 H3 ⟨ρ3, w3, h3, n3, rh3, r3, go3⟩ => ?_⟩⟩⟩
  subst r2 r3
  exact ⟨ρ3, w1, h3, rh3, (r1.nxt n2).nxt n3, go3⟩

/-! ### calls -/
def gl (g : Gm) (x : Str) : Prop := g.sc.names.lookup x = some .globalImplicit
theorem Cok.nohot {X : Cx} {y : Y} {xc : Nat → Option Addr} {C : Calls} {Wx : WX} (k : Cok g X y xc C Wx) (hc : g.calm = true) : y.hot = none := by
  cases e : y.hot with
  | none => rfl
  | some p =>
    obtain ⟨i, v⟩ := p
    obtain ⟨h, _⟩ := k.hot i v e
    rw [hc] at h
    cases h
theorem Cok.gl {X : Cx} {y : Y} {xc : Nat → Option Addr} {C : Calls} {Wx : WX} {x : Str} (k : Cok g X y xc C Wx) (h : gl g x) : Gl X x := by
  unfold Gl Env.kindOf
  rw [k.sc]
  exact h
theorem s_call {x : Str} {i : Nat} {e : Expr} {es : List Expr} {es' : Es} {p pos : Pos} (hc : g.calm = true) (hg : g.G.lookup x = some (.fn i)) (hk : gl g x) (hd : (x == ("__debug__" : Str)) = false) (hn : (e :: es).all nst = true) (hs : SA g (e :: es) es') :
    SE g (.Call (.Name x p) (e :: es) [] pos) (.call i es') := fun X y xc C Wx k => by
  obtain ⟨a, ea, hm⟩ := k.glob x _ hg
  obtain ⟨kp, fd, ps, lv, hb, F, hr⟩ := k.calls hc i a ea
  rw [List.all_cons, Bool.and_eq_true] at hn
  refine PE.imp (pe_callS F hr (k.gl hk) hm kp hb (fun σ => passAt k.tk σ) (hs X y xc C Wx k) hd (star_cons hn.1) (star_any hn.2)) fun τ Hh Q ⟨ρ, σ, h, rs, rh, go⟩ => ?_
  unfold ev at go
  refine ⟨ρ, σ, h, rs, rh, (Go.seq go).imp fun vs H1 ⟨ρ1, ws, h1, n1, rh1, r1, go1⟩ => ?_⟩
  exact ⟨ρ1, ws, h1, rh1, r1, go1⟩
theorem s_bif {x : Str} {id : Value} {b : BI} {e : Expr} {es : List Expr} {es' : Es} {p pos : Pos} (hid : (∃ n, id = .builtin n) ∨ ∃ n, id = .type n) (hr : ∀ (X : Cx) (y : Y) (XX : Exc → Hp → Prop), y.K = X.K → (g.calm = true → X.calm = true) → CallR X id (rBif y XX b)) (hg : g.G.lookup x = some .bltn) (hk : gl g x) (hv : bootBuiltins x = some id)
    (hd : (x == ("__debug__" : Str)) = false) (hnm : x ≠ "__name__") (hn : (e :: es).all nst = true) (hs : SA g (e :: es) es') : SE g (.Call (.Name x p) (e :: es) [] pos) (.blt b es') := fun X y xc C Wx k => by
  refine ⟨fun pins s τ Hh Q I ⟨ρ, σ, h, rs, rh, go⟩ => ?_⟩
  rw [List.all_cons, Bool.and_eq_true] at hn
  have q : tCB (rBif y (XW y xc Wx τ) b) (tA y xc Wx C es') τ Hh Q := by
    unfold ev at go
    refine ⟨ρ, σ, h, rs, rh, (Go.seq go).imp fun vs H1 ⟨ρ1, ws, h1, n1, rh1, r1, go1⟩ => ?_⟩
    exact ⟨ρ1, ws, h1, rh1, r1, go1⟩
  rcases hid with ⟨n, rfl⟩ | ⟨n, rfl⟩
  · exact (pe_callB (hr X y (XW y xc Wx τ) k.K k.calm) (k.gl hk) (k.glob x _ hg) hv (hs X y xc C Wx k) hnm hd (star_cons hn.1) (star_any hn.2)).run pins s τ Hh Q I q
  · exact (pe_callTy (hr X y (XW y xc Wx τ) k.K k.calm) (k.gl hk) (k.glob x _ hg) hv (hs X y xc C Wx k) hnm hd (star_cons hn.1) (star_any hn.2)).run pins s τ Hh Q I q
end
end DI

/-! DI2e: methods, isinstance, walks, comprehensions. -/
namespace DI
open PySem L2

section
variable {g : Gm}
/-! ### methods of built-in types -/
theorem recvS_ty {y : Y} {ρ : List Addr} {Hh : Hp} {w : W} {v : V} {u : Unit} {K : PySem.W.Frag} (r : RW y ρ Hh w v) (e : recvS w = some u) : tyV K "str" v Hh := by
  unfold recvS at e
  split at e
  case h_1 t => simp only [RW, RD] at r; subst r; rfl
  case h_2 => cases e
theorem recvL_ty {y : Y} {ρ : List Addr} {Hh : Hp} {h : H} {w : W} {v : V} {u : Unit} {K : PySem.W.Frag} (rh : RH y ρ Hh h) (r : RW y ρ Hh w v) (e : recvL w h = some u) : tyV K "list" v Hh := by
  unfold recvL at e
  split at e
  case h_2 => cases e
  case h_1 n =>
    obtain ⟨a, ea, rfl⟩ := r
    cases eo : h[n]? with
    | none => rw [eo] at e; cases e
    | some o =>
      rw [eo] at e
      cases o with
      | lst xs =>
        obtain ⟨a', vs, e1, e2, e3⟩ := rh.list eo
        rw [ea] at e1; cases e1
        exact .inl ⟨rfl, vs, .of e2⟩
      | dic kvs => cases e
      | ins c fs => cases e
def recT : MI → String
  | .join => "str"
  | _ => "list"
theorem recv_ty {y : Y} {ρ : List Addr} {Hh : Hp} {h : H} {m : MI} {w : W} {v : V} {u : Unit} {K : PySem.W.Frag} (rh : RH y ρ Hh h) (r : RW y ρ Hh w v) (e : recv m w h = some u) : tyV K (recT m) v Hh := by
  cases m
  case join => exact recvS_ty r e
  all_goals exact recvL_ty rh r e
theorem s_meth0 {T id : String} {name : Str} {m : MI} {o : Expr} {o' : E} {apos pos : Pos} (pa : PlainAttrs T) (slot : Slot T name id) (hty : typeOf (.builtin id) = pure (.type "method_descriptor")) (hr : ∀ (X : Cx) (y : Y) (XX : Exc → Hp → Prop), y.K = X.K → MtR X id (rMet y XX m))
    (hT : recT m = T) (hb : notCall0 o = true) (hl : (apos.endLine == pos.line) = true) (ho : SE g o o') : SE g (.Call (.Attribute o name apos) [] [] pos) (.meth m o' .nil) := fun X y xc C Wx k => by
  refine ⟨fun pins s τ Hh Q I ⟨ρ, σ, h, rs, rh, go⟩ => ?_⟩
  refine (pe_bm0 pa slot hty (hr X y (XW y xc Wx τ) k.K) (ho X y xc C Wx k) (base_of hb) hl).run pins s τ Hh Q I ?_
  unfold ev at go
  refine ⟨ρ, σ, h, rs, rh, (Go.seq go).imp fun v1 H1 ⟨ρ1, w1, h1, n1, rh1, r1, go1⟩ => ?_⟩
  obtain ⟨u, e, go2⟩ := (Go.seq (RA := fun _ _ _ (_ : Unit) => True) go1).ask rh1
  obtain ⟨ρ2, w2, h2, n2, rh2, _, go2⟩ := go2 () trivial
  refine ⟨hT ▸ recv_ty rh1 r1 e, ?_⟩
  unfold evs at go2
  obtain ⟨ρ3, w3, h3, n3, rh3, r3, go3⟩ := (Go.seq (RA := fun ρ H' ws vs => Pw (RW y ρ H') ws vs) go2).pure (v := []) rh2 rfl
  exact ⟨ρ3, w1, w3, h3, rh3, r1.nxt (n2.trans n3), r3, go3⟩
theorem s_meth1 {T id : String} {name : Str} {m : MI} {o e : Expr} {o' : E} {es' : Es} {apos pos : Pos} (pa : PlainAttrs T) (slot : Slot T name id) (hty : typeOf (.builtin id) = pure (.type "method_descriptor")) (hr : ∀ (X : Cx) (y : Y) (XX : Exc → Hp → Prop), y.K = X.K → MtR X id (rMet y XX m))
    (hT : recT m = T) (hb : notCall0 o = true) (hl : (apos.endLine == pos.line) = true) (hn : nst e = true) (ho : SE g o o') (ha : SA g [e] es') : SE g (.Call (.Attribute o name apos) [e] [] pos) (.meth m o' es') := fun X y xc C Wx k => by
  refine ⟨fun pins s τ Hh Q I ⟨ρ, σ, h, rs, rh, go⟩ => ?_⟩
  refine (pe_bm pa slot hty (hr X y (XW y xc Wx τ) k.K) (ho X y xc C Wx k) (ha X y xc C Wx k) (base_of hb) (by rw [star_cons hn]; rfl) hl (star_cons hn) rfl).run pins s τ Hh Q I ?_
  unfold ev at go
  refine ⟨ρ, σ, h, rs, rh, (Go.seq go).imp fun v1 H1 ⟨ρ1, w1, h1, n1, rh1, r1, go1⟩ => ?_⟩
  obtain ⟨u, e, go2⟩ := (Go.seq (RA := fun _ _ _ (_ : Unit) => True) go1).ask rh1
  obtain ⟨ρ2, w2, h2, n2, rh2, _, go2⟩ := go2 () trivial
  refine ⟨hT ▸ recv_ty rh1 r1 e, ⟨ρ2, σ, h2, (rs.nxt n1).nxt n2, rh2, (Go.seq go2).imp fun vs H3 ⟨ρ3, ws, h3, n3, rh3, r3, go3⟩ => ?_⟩⟩
  exact ⟨ρ3, w1, ws, h3, rh3, r1.nxt (n2.trans n3), r3, go3⟩
theorem s_append {o e : Expr} {o' : E} {es' : Es} {apos pos : Pos} (hb : notCall0 o = true) (hl : (apos.endLine == pos.line) = true) (hn : nst e = true) (ho : SE g o o') (ha : SA g [e] es') : SE g (.Call (.Attribute o "append" apos) [e] [] pos) (.meth .append o' es') :=
  s_meth1 PySem.F.plainAttrs_list PySem.F.slot_list_append PySem.F.type_list_append (fun _ _ _ _ => mi_append) rfl hb hl hn ho ha
theorem s_extend {o e : Expr} {o' : E} {es' : Es} {apos pos : Pos} (hb : notCall0 o = true) (hl : (apos.endLine == pos.line) = true) (hn : nst e = true) (ho : SE g o o') (ha : SA g [e] es') : SE g (.Call (.Attribute o "extend" apos) [e] [] pos) (.meth .extend o' es') :=
  s_meth1 PySem.F.plainAttrs_list PySem.F.slot_list_extend PySem.F.type_list_extend (fun _ _ _ _ => mi_extend) rfl hb hl hn ho ha
theorem s_join {o e : Expr} {o' : E} {es' : Es} {apos pos : Pos} (hb : notCall0 o = true) (hl : (apos.endLine == pos.line) = true) (hn : nst e = true) (ho : SE g o o') (ha : SA g [e] es') : SE g (.Call (.Attribute o "join" apos) [e] [] pos) (.meth .join o' es') :=
  s_meth1 PySem.F.plainAttrs_str PySem.F.slot_str_join PySem.F.type_str_join (fun _ _ _ hK => mi_join hK) rfl hb hl hn ho ha
theorem s_pop {o : Expr} {o' : E} {apos pos : Pos} (hb : notCall0 o = true) (hl : (apos.endLine == pos.line) = true) (ho : SE g o o') : SE g (.Call (.Attribute o "pop" apos) [] [] pos) (.meth .pop o' .nil) :=
  s_meth0 PySem.F.plainAttrs_list PySem.F.slot_list_pop PySem.F.type_list_pop (fun _ _ _ _ => mi_pop) rfl hb hl ho
theorem s_reverse {o : Expr} {o' : E} {apos pos : Pos} (hb : notCall0 o = true) (hl : (apos.endLine == pos.line) = true) (ho : SE g o o') : SE g (.Call (.Attribute o "reverse" apos) [] [] pos) (.meth .reverse o' .nil) :=
  s_meth0 PySem.F.plainAttrs_list PySem.F.slot_list_reverse PySem.F.type_list_reverse (fun _ _ _ _ => mi_reverse) rfl hb hl ho
theorem s_clear {o : Expr} {o' : E} {apos pos : Pos} (hb : notCall0 o = true) (hl : (apos.endLine == pos.line) = true) (ho : SE g o o') : SE g (.Call (.Attribute o "clear" apos) [] [] pos) (.meth .clearL o' .nil) :=
  s_meth0 PySem.F.plainAttrs_list PySem.F.slot_list_clear PySem.F.type_list_clear (fun _ _ _ _ => mi_clear) rfl hb hl ho

/-! ### isinstance -/
/-- the text of a built-in class -/
def STy (g : Gm) (e : Expr) (t : Ty) : Prop := nst e = true ∧ ∀ X y xc C Wx, Cok g X y xc C Wx → PE X e (tC (.ty (tyN t)))
theorem ty_name {x : Str} {t : Ty} {p : Pos} (hg : g.G.lookup x = some .bltn) (hk : gl g x) (hv : bootBuiltins x = some (.type (tyN t))) (hn : x ≠ "__name__") (hd : (x == ("__debug__" : Str)) = false) : STy g (.Name x p) t :=
  ⟨rfl, fun X y xc C Wx k => pe_bltn (k.gl hk) (k.glob x _ hg) hv rfl hn hd⟩
theorem s_isin1 {a b : Expr} {a' : E} {t : Ty} {p pos : Pos} (hg : g.G.lookup (Str.ofString "isinstance") = some .bltn) (hk : gl g "isinstance") (hn : nst a = true) (ha : SE g a a') (hb : STy g b t) : SE g (.Call (.Name "isinstance" p) [a, b] [] pos) (.isin a' [t]) := fun X y xc C Wx k => by
  refine ⟨fun pins s τ Hh Q I ⟨ρ, σ, h, rs, rh, go⟩ => ?_⟩
  refine (pe_callB (x := "isinstance") (call_isi (X := X)) (k.gl hk) (k.glob _ _ hg) PyProof.Rows.boot_isinstance (pa_cons (ha X y xc C Wx k) (pa_cons (hb.2 X y xc C Wx k) pa_nil (star_cons hb.1)) (star_cons hn)) (by decide) (by decide) (star_cons hn) (star_any (by simp [hb.1]))).run pins s τ Hh Q I ?_
  unfold ev at go
  refine ⟨ρ, σ, h, rs, rh, (Go.seq go).imp fun v1 H1 ⟨ρ1, w1, h1, n1, rh1, r1, go1⟩ => ?_⟩
  obtain ⟨w, e, q⟩ := go1.ask rh1
  cases et : tyB t w1 h1 with
  | none => simp only [tyAny, et] at e; cases e
  | some b =>
    have ew : some (W.d (.bl b)) = some w := by
      rw [← e]
      cases b <;> simp only [tyAny, et, Option.map_some]
    cases ew
    obtain ⟨T, ty, kk⟩ := tyB_ok k.K rh1 r1 et
    exact ⟨v1, .ty (tyN t), T, .type (tyN t), b, rfl, .ty _, ty, kk t b et, q _ (by simp only [RW, RD])⟩
/-- the texts of several built-in classes -/
def STys (g : Gm) : List Expr → List Ty → Prop
  | [], ts => ts = []
  | e :: es, ts => ∃ t r, ts = t :: r ∧ STy g e t ∧ STys g es r
theorem tys_pa {X : Cx} {y : Y} {xc : Nat → Option Addr} {C : Calls} {Wx : WX} (k : Cok g X y xc C Wx) : ∀ {es : List Expr} {ts : List Ty}, STys g es ts → PA X es (fun _ Hh Q => Q (ts.map fun t => V.ty (tyN t)) Hh)
  | [], ts, h => by
    have e : ts = [] := h
    subst e
    exact pa_nil
  | e :: es, ts, ⟨t, r, e1, h1, h2⟩ => by
    subst e1
    exact PA.imp (pa_cons (h1.2 X y xc C Wx k) (tys_pa k h2) (star_cons h1.1)) fun τ Hh Q q => q
theorem cls_all : ∀ ts : List Ty, Paired ClsV (ts.map fun t => V.ty (tyN t)) (ts.map fun t => Value.type (tyN t))
  | [] => .nil
  | t :: ts => .cons (.ty _) (cls_all ts)
theorem TyX.nxt {K : PySem.W.Frag} {Hh : Hp} {v : V} {T : Value} {p : Addr} {u : HO} (h : TyX K Hh v T) (hp : Hh p = none) : TyX K (upd Hh p u) v T := by
  have nn : ∀ {a : Addr} {o : HO}, Hh a = some o → (upd Hh p u) a = some o := fun e => by rw [upd_ne (ne_of_none e hp)]; exact e
  cases h with
  | base b =>
    cases b with
    | non => exact .base .non
    | bl x => exact .base (.bl x)
    | int x => exact .base (.int x)
    | str x => exact .base (.str x)
    | flt x => exact .base (.flt x)
    | lst e => exact .base (.lst (nn e))
    | frz e => exact .base (.frz (nn e))
    | tup e => exact .base (.tup (nn e))
    | dK e => exact .base (.dK (nn e))
    | dT e => exact .base (.dT (nn e))
    | ins e cl ha hn htk hm => exact .base (.ins (nn e) cl ha hn htk hm)
  | byt b => exact .byt b
  | set e => exact .set (nn e)
  | kList e c => exact .kList e c
  | kTuple e c => exact .kTuple e c
  | kDict e c => exact .kDict e c
  | fTuple e => exact .fTuple (nn e)
  | fDict e => exact .fDict (nn e)
theorem s_isinT {a : Expr} {a' : E} {bs : List Expr} {ts : List Ty} {n : Nat} {p p2 pos : Pos} (hg : g.G.lookup (Str.ofString "isinstance") = some .bltn) (hk : gl g "isinstance") (hn : nst a = true) (ht : ts ≠ []) (hz : ts.length ≤ 100) (ha : SE g a a') (hb : STys g bs ts) : SE g (.Call (.Name "isinstance" p) [a, .Tuple bs n p2] [] pos) (.isin a' ts) := fun X y xc C Wx k => by
  refine ⟨fun pins s τ Hh Q I ⟨ρ, σ, h, rs, rh, go⟩ => ?_⟩
  refine (pe_callB (x := "isinstance") (call_isiT (X := X)) (k.gl hk) (k.glob _ _ hg) PyProof.Rows.boot_isinstance (pa_cons (ha X y xc C Wx k) (pa_cons (pe_tup (tys_pa k hb)) pa_nil rfl) (star_cons hn)) (by decide) (by decide) (star_cons hn) rfl).run pins s τ Hh Q I ?_
  unfold ev at go
  refine ⟨ρ, σ, h, rs, rh, (Go.seq go).imp fun v1 H1 ⟨ρ1, w1, h1, n1, rh1, r1, go1⟩ => ?_⟩
  obtain ⟨w, e, q⟩ := go1.ask rh1
  cases et : tyAny ts w1 h1 with
  | none => rw [et] at e; cases e
  | some b =>
    rw [et] at e
    cases e
    refine ⟨by rw [List.length_map, sizeLine_eq]; omega, fun tp hp => ?_⟩
    obtain ⟨T, ty, kk⟩ := tyAny_ok k.K rh1 r1 ht et
    refine ⟨v1, tp, _, T, _, b, rfl, upd_same, cls_all ts, TyX.nxt ty hp, kk, ?_⟩
    obtain ⟨rh', n'⟩ := rh1.other (u := .tup (ts.map fun t => V.ty (tyN t))) hp
    have go2 : Go y ρ1 H1 (RW y) (XW y xc Wx τ) (some (.ok (.d (.bl b)) h1)) Q := by simpa only [M.ask, et, Option.map_some] using go1
    exact go2 ρ1 _ _ n' rh' (by simp only [RW, RD])

/-! ### what a for walks -/
def RItem (y : Y) (ρ : List Addr) (Hh : Hp) : Item → V → Prop
  | .one w, v => RW y ρ Hh w v
  | .many ws, v => ∃ T vs, v = .ref T ∧ TupAt y.K Hh T vs ∧ Pw (RW y ρ Hh) ws vs
/-- the hand layer's walk J hands out what ours says, as long as the lists stand still -/
def WOk (y : Y) (ρ0 : List Addr) (H0 : Hp) (w : Walk) (J : L2.It) : Prop :=
  ∀ ρ Hh h, Nxt ρ0 H0 ρ Hh → RH y ρ Hh h → still w.gs h = true →
    (∀ i x, w.items[i]? = some x → J.go i Hh ∧ ∀ v H', J.yld i Hh v H' → Nxt ρ Hh ρ H' ∧ RH y ρ H' h ∧ RItem y ρ H' x v) ∧ J.stop w.items.length Hh
def tI (y : Y) (xc : Nat → Option Addr) (Wx : WX) (C : Calls) (it : It) : TI := fun τ Hh R => ∃ ρ σ h, RS y ρ Hh σ τ ∧ RH y ρ Hh h ∧ Go y ρ Hh (fun ρ H' w J => WOk y ρ H' w J) (XW y xc Wx τ) (evI C σ it h) R
def SI (g : Gm) (tg : Expr) (it : Expr) (it' : It) : Prop := ∀ X y xc C Wx, g.calm = true → Cok g X y xc C Wx → PI X tg it (tI y xc Wx C it')
theorem PI.imp {X : Cx} {tg e : Expr} {t t' : TI} (h : PI X tg e t) (k : ∀ τ Hh R, t' τ Hh R → t τ Hh R) : PI X tg e t' := ⟨fun pins s τ Hh Q I q => h.run pins s τ Hh Q I (k τ Hh Q q)⟩

/-- a value that is walked: a list, a tuple, a text -/
def iAny (K : PySem.W.Frag) (te : TE) : TI := fun τ Hh R => te τ Hh fun v H1 =>
  (∃ a, v = .ref a ∧ (∃ xs, SqL K H1 a xs) ∧ R (Itl K a) H1) ∨ (∃ a, v = .ref a ∧ (∃ xs, SqT K H1 a xs) ∧ R (Itt K a) H1) ∨ ∃ z, v = .str z ∧ R (Its z) H1
theorem pi_any {X : Cx} {tg e : Expr} {te : TE} (he : PE X e te) : PI X tg e (iAny X.K te) := by
  constructor
  intro pins s τ Hh R I q
  apply thn (he.run pins s τ Hh _ I q)
  rintro u s1 ⟨v, H1, I1, ru, q1⟩
  have fp : ∀ {o : Obj} {b : Addr}, b ∈ [s1.heap.objs.size] → FpOk X pins H1 b := fun {o b} hb => by
    have e := List.mem_singleton.mp hb
    rw [e]
    exact I1.fpOk (Nat.le_refl _) (I1.hok.fresh (Nat.le_refl _))
  have kp : ∀ {o : Obj}, L2.Inv X pins τ H1 { s1 with heap := s1.heap.push o } := fun {o} => I1.kept (t' := s1.toks) fun b o' z => Heap.get?_push_of_some _ z
  rcases q1 with ⟨a, rfl, ⟨xs, hx⟩, r⟩ | ⟨a, rfl, ⟨xs, hx⟩, r⟩ | ⟨z, rfl, r⟩
  · obtain rfl : u = Value.ref a := ru
    obtain ⟨its, rv, pl, _⟩ := I1.list hx
    apply wpAny_pyIter_list pl.isList
    exact ⟨_, _, _, _, H1, rfl, kp, turn_list a _, ⟨_, Heap.get?_push_size _ rfl, rfl, rfl⟩, fun b hb => fp (o := default) hb, r⟩
  · obtain rfl : u = Value.ref a := ru
    obtain ⟨its, rv, pl, _⟩ := I1.tuple hx
    apply wpAny_pyIter_tuple (show s1.heap.IsTuple a its.toArray from pl)
    exact ⟨_, _, _, _, H1, rfl, kp, turn_tuple a _, ⟨_, Heap.get?_push_size _ rfl, rfl, rfl⟩, fun b hb => fp (o := default) hb, r⟩
  · obtain ⟨t, rfl⟩ := ru
    cases hz : z.cps.all (· < 128) with
    | false => exact wpAny_pyIter_wide hz (pi_one (tk := s1.toks) I1 _ (turn_str _ z t "str_iterator" (.inr rfl)) ⟨_, Heap.get?_push_size _ rfl, rfl, rfl⟩ r)
    | true => exact wpAny_pyIter_ascii hz (pi_one (tk := s1.toks) I1 _ (turn_str _ z t "str_ascii_iterator" (.inl rfl)) ⟨_, Heap.get?_push_size _ rfl, rfl, rfl⟩ r)
theorem still_list {y : Y} {ρ : List Addr} {Hh : Hp} {h : H} {gs : List (Nat × List W)} {n : Nat} {xs : List W} (rh : RH y ρ Hh h) (hs : still gs h = true) (hm : (n, xs) ∈ gs) : ∃ a vs, ρ[n]? = some a ∧ Hh a = some (.lst vs) ∧ Pw (RW y ρ Hh) xs vs := by
  unfold still at hs
  rw [List.all_eq_true] at hs
  exact rh.list (of_decide_eq_true (hs (n, xs) hm))
theorem SqL.inj {K : PySem.W.Frag} {Hh : Hp} {a : Addr} {xs : List V} (h : Hh a = some (.lst xs)) : ∀ zs, SqL K Hh a zs → ∀ (hk : K.lookup a = none), zs = xs := fun zs hz hk => by
  rcases hz with (hz | ⟨o, hz⟩) | ⟨o, its, n, lk, _⟩
  · rw [h] at hz; injection hz with hz; injection hz with hz; exact hz.symm
  · rw [h] at hz; cases hz
  · rw [lk] at hk; cases hk
theorem wok_seq {y : Y} {ρ0 : List Addr} {H0 : Hp} {h0 : H} {w : W} {v : V} {wk : Walk} {R : L2.It → Hp → Prop} (rh0 : RH y ρ0 H0 h0) (rw0 : RW y ρ0 H0 w v) (e : seqWalk w h0 = some wk) (q : ∀ J, WOk y ρ0 H0 wk J → R J H0) :
    (∃ a, v = .ref a ∧ (∃ xs, SqL y.K H0 a xs) ∧ R (Itl y.K a) H0) ∨ (∃ a, v = .ref a ∧ (∃ xs, SqT y.K H0 a xs) ∧ R (Itt y.K a) H0) ∨ ∃ z, v = .str z ∧ R (Its z) H0 := by
  unfold seqWalk at e
  split at e
  case h_1 ds =>
    cases e
    simp only [RW, RD] at rw0
    obtain ⟨a, vs, rfl, ta, ra⟩ := rw0
    refine .inr (.inl ⟨a, rfl, ⟨vs, ta.sq⟩, q _ fun ρ Hh h n rh hs => ?_⟩)
    have ta' := ta.ext n.ext
    have ra' := pw_rds (RDs.ext n.ext _ _ ra)
    refine ⟨fun i x hx => ?_, ?_⟩
    · rw [List.getElem?_map] at hx
      cases ed : ds[i]? with
      | none => rw [ed] at hx; cases hx
      | some d =>
        rw [ed] at hx
        have ex : Item.one (.d d) = x := Option.some.inj hx
        subst ex
        obtain ⟨z, ez, rz⟩ := ra'.get ed
        refine ⟨⟨vs, z, ta'.sq, ez⟩, fun v H' hy => ?_⟩
        obtain ⟨rfl, hy⟩ := hy
        have := hy vs ta'.sq
        rw [ez] at this
        cases this
        exact ⟨.refl, rh, rz⟩
    · exact ⟨vs, ta'.sq, by rw [List.length_map, ra'.length]; exact Nat.le_refl _⟩
  case h_2 t =>
    cases e
    simp only [RW, RD] at rw0
    subst rw0
    refine .inr (.inr ⟨_, rfl, q _ fun ρ Hh h n rh hs => ⟨fun i x hx => ?_, ?_⟩⟩)
    · rw [List.getElem?_map] at hx
      cases ed : t[i]? with
      | none => rw [ed] at hx; cases hx
      | some c =>
        rw [ed] at hx
        have ex : Item.one (.d (.str [c])) = x := Option.some.inj hx
        subst ex
        have hi : (strV t).cps[i]? = some c.toNat := by
          unfold strV
          simp [ed]
        refine ⟨(Array.getElem?_eq_some_iff.mp hi).1, fun v H' hy => ?_⟩
        obtain ⟨rfl, c', ec, rfl⟩ := hy
        rw [hi] at ec
        cases ec
        exact ⟨.refl, rh, by simp only [RItem, RW, RD]; rfl⟩
    · show (strV t).cps.size ≤ _
      rw [List.length_map]
      exact Nat.le_of_eq (strV_len t)
  case h_3 n =>
    obtain ⟨a, ea, rfl⟩ := rw0
    split at e
    case h_2 => cases e
    case h_1 xs ex =>
      cases e
      obtain ⟨a', vs0, e1, e2, e3⟩ := rh0.list ex
      rw [ea] at e1; cases e1
      refine .inl ⟨a, rfl, ⟨vs0, .of e2⟩, q _ fun ρ Hh h n' rh hs => ?_⟩
      obtain ⟨a', vs, f1, f2, f3⟩ := still_list rh hs List.mem_cons_self
      rw [n'.at_ ea] at f1; cases f1
      refine ⟨fun i x hx => ?_, ?_⟩
      · rw [List.getElem?_map] at hx
        cases ed : xs[i]? with
        | none => rw [ed] at hx; cases hx
        | some d =>
          rw [ed] at hx
          have ex : Item.one d = x := Option.some.inj hx
          subst ex
          obtain ⟨z, ez, rz⟩ := f3.get ed
          refine ⟨⟨vs, z, .of f2, ez⟩, fun v H' hy => ?_⟩
          obtain ⟨rfl, hy⟩ := hy
          have := hy vs (.of f2)
          rw [ez] at this
          cases this
          exact ⟨.refl, rh, rz⟩
      · exact ⟨vs, .of f2, by rw [List.length_map, f3.length]; exact Nat.le_refl _⟩
  case h_4 xs =>
    cases e
    obtain ⟨a, rfl, ra⟩ := rw0
    refine .inl ⟨a, rfl, ⟨_, ra.sq⟩, q _ fun ρ Hh h n' rh hs => ?_⟩
    have ra' := ra.ext n'.ext
    refine ⟨fun i x hx => ?_, ?_⟩
    · rw [List.getElem?_map] at hx
      cases ed : xs[i]? with
      | none => rw [ed] at hx; cases hx
      | some d =>
        rw [ed] at hx
        have ex : Item.one (.d (.int d)) = x := Option.some.inj hx
        subst ex
        have ez : (xs.map V.int)[i]? = some (.int d) := by rw [List.getElem?_map, ed]; rfl
        refine ⟨⟨_, _, ra'.sq, ez⟩, fun v H' hy => ?_⟩
        obtain ⟨rfl, hy⟩ := hy
        have := hy _ ra'.sq
        rw [ez] at this
        cases this
        exact ⟨.refl, rh, by simp only [RItem, RW, RD]⟩
    · exact ⟨_, ra'.sq, by simp⟩
  all_goals cases e
theorem i_seq {tg e : Expr} {e' : E} (he : SE g e e') : SI g tg e (.seq e') := fun X y xc C Wx hc k => by
  refine PI.imp (pi_any (he X y xc C Wx k)) fun τ Hh R ⟨ρ, σ, h, rs, rh, go⟩ => ?_
  unfold evI at go
  refine ⟨ρ, σ, h, rs, rh, (Go.seq go).imp fun v1 H1 ⟨ρ1, w1, h1, n1, rh1, r1, go1⟩ => ?_⟩
  obtain ⟨wk, e, q⟩ := go1.ask rh1
  have := wok_seq rh1 r1 e q
  rw [k.K] at this
  exact this
theorem rng_get {lo c : Int} {n i : Nat} {x : Item} (h : (rngItems lo n c)[i]? = some x) : i < n ∧ x = .one (.d (.int (lo + (i : Int) * c))) := by
  unfold rngItems at h
  rw [List.getElem?_map] at h
  by_cases hi : i < n
  · rw [List.getElem?_range hi] at h
    exact ⟨hi, (Option.some.inj h).symm⟩
  · rw [List.getElem?_eq_none (by simpa using hi)] at h
    cases h
theorem rng_len (lo c : Int) (n : Nat) : (rngItems lo n c).length = n := by simp [rngItems]
theorem wok_rng {y : Y} {ρ0 : List Addr} {H0 : Hp} {lo : Int} {n : Nat} : WOk y ρ0 H0 ⟨rngItems lo n 1, []⟩ (Itr lo n) := fun ρ Hh h n' rh hs => by
  refine ⟨fun i x hx => ?_, ?_⟩
  · obtain ⟨hi, rfl⟩ := rng_get hx
    refine ⟨hi, fun v H' hy => ?_⟩
    obtain ⟨rfl, rfl⟩ := hy
    exact ⟨.refl, rh, by simp only [RItem, RW, RD, Int.mul_one]⟩
  · show n ≤ _
    rw [rng_len]; exact Nat.le_refl _
theorem wok_rngC {y : Y} {ρ0 : List Addr} {H0 : Hp} {lo c : Int} {n : Nat} : WOk y ρ0 H0 ⟨rngItems lo n c, []⟩ (Itc lo c n) := fun ρ Hh h n' rh hs => by
  refine ⟨fun i x hx => ?_, ?_⟩
  · obtain ⟨hi, rfl⟩ := rng_get hx
    refine ⟨hi, fun v H' hy => ?_⟩
    obtain ⟨rfl, rfl⟩ := hy
    exact ⟨.refl, rh, by simp only [RItem, RW, RD]⟩
  · show n ≤ _
    rw [rng_len]; exact Nat.le_refl _
theorem i_rng1 {tg a : Expr} {a' : E} {p pos : Pos} (hg : g.G.lookup (Str.ofString "range") = some .bltn) (hk : gl g "range") (hn : nst a = true) (ha : SE g a a') : SI g tg (.Call (.Name "range" p) [a] [] pos) (.rng1 a') := fun X y xc C Wx hc k => by
  refine PI.imp (pi_range1 (k.gl hk) (k.glob _ _ hg) (pa_cons (ha X y xc C Wx k) pa_nil (star_cons hn)) (star_cons hn)) fun τ Hh R ⟨ρ, σ, h, rs, rh, go⟩ => ?_
  unfold evI at go
  refine ⟨ρ, σ, h, rs, rh, (Go.seq go).imp fun v1 H1 ⟨ρ1, w1, h1, n1, rh1, r1, go1⟩ => ?_⟩
  split at go1
  case h_2 => exact go1.elim
  case h_1 j =>
    simp only [RW, RD] at r1
    subst r1
    obtain ⟨wk, e, q⟩ := go1.opt rh1
    unfold rngWalk at e
    split at e
    case isFalse => cases e
    case isTrue hz =>
      cases e
      unfold big at hz
      refine ⟨j, rfl, by omega, by omega, ?_⟩
      have := q _ (wok_rng (lo := 0) (n := (j - 0).toNat))
      rw [Int.sub_zero] at this
      exact this
theorem i_rng2 {tg a b : Expr} {a' b' : E} {p pos : Pos} (hg : g.G.lookup (Str.ofString "range") = some .bltn) (hk : gl g "range") (hn : nst a = true) (hn2 : nst b = true) (ha : SE g a a') (hb : SE g b b') : SI g tg (.Call (.Name "range" p) [a, b] [] pos) (.rng2 a' b') := fun X y xc C Wx hc k => by
  refine PI.imp (pi_range2 (k.gl hk) (k.glob _ _ hg) (pa_cons (ha X y xc C Wx k) (pa_cons (hb X y xc C Wx k) pa_nil (star_cons hn2)) (star_cons hn)) (by rw [star_cons hn, star_cons hn2]; rfl) (by rw [star_cons hn2]; rfl)) fun τ Hh R ⟨ρ, σ, h, rs, rh, go⟩ => ?_
  unfold evI at go
  refine ⟨ρ, σ, h, rs, rh, (Go.seq go).imp fun v1 H1 ⟨ρ1, w1, h1, n1, rh1, r1, go1⟩ => ⟨ρ1, σ, h1, rs.nxt n1, rh1, (Go.seq go1).imp fun v2 H2 ⟨ρ2, w2, h2, n2, rh2, r2, go2⟩ => ?_⟩⟩
  split at go2
  case h_2 => exact go2.elim
  case h_1 =>
    simp only [RW, RD] at r1 r2
    subst r1 r2
    obtain ⟨wk, e, q⟩ := go2.opt rh2
    unfold rngWalk at e
    split at e
    case isFalse => cases e
    case isTrue hz =>
      cases e
      unfold big at hz
      exact ⟨_, _, rfl, ⟨by omega, by omega, by omega, by omega⟩, q _ wok_rng⟩
theorem i_rng3 {tg a b c : Expr} {a' b' c' : E} {p pos : Pos} (hg : g.G.lookup (Str.ofString "range") = some .bltn) (hk : gl g "range") (hn : nst a = true) (hn2 : nst b = true) (hn3 : nst c = true) (ha : SE g a a') (hb : SE g b b') (hcc : SE g c c') : SI g tg (.Call (.Name "range" p) [a, b, c] [] pos) (.rng3 a' b' c') := fun X y xc C Wx hc k => by
  refine PI.imp (pi_range3 (k.gl hk) (k.glob _ _ hg) (pa_cons (ha X y xc C Wx k) (pa_cons (hb X y xc C Wx k) (pa_cons (hcc X y xc C Wx k) pa_nil (star_cons hn3)) (star_cons hn2)) (star_cons hn)) (star_cons hn) (star_any (by simp [hn2, hn3]))) fun τ Hh R ⟨ρ, σ, h, rs, rh, go⟩ => ?_
  unfold evI at go
  refine ⟨ρ, σ, h, rs, rh, (Go.seq go).imp fun v1 H1 ⟨ρ1, w1, h1, n1, rh1, r1, go1⟩ => ⟨ρ1, σ, h1, rs.nxt n1, rh1, (Go.seq go1).imp fun v2 H2 ⟨ρ2, w2, h2, n2, rh2, r2, go2⟩ => ⟨ρ2, σ, h2, (rs.nxt n1).nxt n2, rh2, (Go.seq go2).imp fun v3 H3 ⟨ρ3, w3, h3, n3, rh3, r3, go3⟩ => ?_⟩⟩⟩
  split at go3
  case h_2 => exact go3.elim
  case h_1 =>
    simp only [RW, RD] at r1 r2 r3
    subst r1 r2 r3
    obtain ⟨wk, e, q⟩ := go3.opt rh3
    unfold rngWalk3 at e
    split at e
    case isFalse => cases e
    case isTrue hz =>
      cases e
      unfold big at hz
      obtain ⟨z1, z2, z3, z4, rfl⟩ := hz
      exact ⟨_, _, -1, _, rfl, .neg (by omega) (by omega) (by omega) (by omega), q _ wok_rngC⟩
theorem enum_get : ∀ {xs : List W} {k i : Nat} {x : Item}, (enumFrom k xs)[i]? = some x → ∃ w, xs[i]? = some w ∧ x = .many [.d (.int ((k + i : Nat) : Int)), w]
  | [], _, _, _, h => by simp [enumFrom] at h
  | w :: r, k, 0, x, h => by
    simp [enumFrom] at h
    exact ⟨w, rfl, by rw [← h]; simp⟩
  | w :: r, k, i + 1, x, h => by
    simp only [enumFrom, List.getElem?_cons_succ] at h
    obtain ⟨w', e1, e2⟩ := enum_get h
    exact ⟨w', by simpa using e1, by rw [e2, show k + 1 + i = k + (i + 1) from by omega]⟩
theorem enum_len : ∀ (xs : List W) (k : Nat), (enumFrom k xs).length = xs.length
  | [], _ => rfl
  | _ :: r, k => by simp [enumFrom, enum_len r (k + 1)]
theorem wok_enm {y : Y} {ρ0 : List Addr} {H0 : Hp} {n : Nat} {xs : List W} {a : Addr} (ea : ρ0[n]? = some a) : WOk y ρ0 H0 ⟨enumFrom 0 xs, [(n, xs)]⟩ (Ite y.K a) := fun ρ Hh h n' rh hs => by
  obtain ⟨a', vs, f1, f2, f3⟩ := still_list rh hs List.mem_cons_self
  rw [n'.at_ ea] at f1; cases f1
  refine ⟨fun i x hx => ?_, ?_⟩
  · obtain ⟨w, ew, rfl⟩ := enum_get hx
    obtain ⟨z, ez, rz⟩ := f3.get ew
    refine ⟨⟨vs, z, .of f2, ez⟩, fun v H' hy => ?_⟩
    obtain ⟨T, z', rfl, hT, rfl, hy⟩ := hy
    have := hy vs (.of f2)
    rw [ez] at this
    cases this
    obtain ⟨rh', nx⟩ := rh.other (u := .tup [.int (i : Nat), z]) hT
    refine ⟨nx, rh', T, _, rfl, .inl upd_same, ⟨_, _, rfl, by simp only [RW, RD, Nat.zero_add], ⟨_, _, rfl, rz.nxt nx, rfl⟩⟩⟩
  · exact ⟨vs, .of f2, by rw [enum_len, f3.length]; exact Nat.le_refl _⟩
theorem i_enm {e : Expr} {es : List Expr} {k1 : Nat} {e' : E} {p p2 pos : Pos} (hg : g.G.lookup (Str.ofString "enumerate") = some .bltn) (hk : gl g "enumerate") (hn : nst e = true) (he : SE g e e') : SI g (.Tuple es k1 p2) (.Call (.Name "enumerate" p) [e] [] pos) (.enm e') := fun X y xc C Wx hc k => by
  refine PI.imp (pi_enum (k.gl hk) (k.glob _ _ hg) (pa_cons (he X y xc C Wx k) pa_nil (star_cons hn)) (star_cons hn)) fun τ Hh R ⟨ρ, σ, h, rs, rh, go⟩ => ?_
  unfold evI at go
  refine ⟨ρ, σ, h, rs, rh, (Go.seq go).imp fun v1 H1 ⟨ρ1, w1, h1, n1, rh1, r1, go1⟩ => ?_⟩
  obtain ⟨wk, e, q⟩ := go1.ask rh1
  unfold enmWalk at e
  split at e
  case h_2 => cases e
  case h_1 n =>
    obtain ⟨a, ea, rfl⟩ := r1
    split at e
    case h_2 => cases e
    case h_1 xs ex =>
      cases e
      obtain ⟨a', vs, f1, f2, f3⟩ := rh1.list ex
      rw [ea] at f1; cases f1
      exact ⟨a, vs, rfl, .of f2, k.K ▸ q _ (wok_enm ea)⟩
theorem zip_get : ∀ {xs ys : List W} {i : Nat} {x : Item}, (zipItems xs ys)[i]? = some x → ∃ v w, xs[i]? = some v ∧ ys[i]? = some w ∧ x = .many [v, w]
  | [], _, _, _, h => by simp [zipItems] at h
  | _ :: _, [], _, _, h => by simp [zipItems] at h
  | v :: r, w :: r', 0, x, h => by
    simp [zipItems] at h
    exact ⟨v, w, rfl, rfl, h.symm⟩
  | v :: r, w :: r', i + 1, x, h => by
    simp only [zipItems, List.getElem?_cons_succ] at h
    obtain ⟨v', w', e1, e2, e3⟩ := zip_get h
    exact ⟨v', w', by simpa using e1, by simpa using e2, e3⟩
theorem zip_len : ∀ (xs ys : List W), xs.length ≤ (zipItems xs ys).length ∨ ys.length ≤ (zipItems xs ys).length
  | [], _ => .inl (Nat.zero_le _)
  | _ :: _, [] => .inr (Nat.zero_le _)
  | _ :: r, _ :: r' => by
    rcases zip_len r r' with h | h
    · exact .inl (by simp only [zipItems, List.length_cons]; omega)
    · exact .inr (by simp only [zipItems, List.length_cons]; omega)
theorem wok_zip {y : Y} {ρ0 : List Addr} {H0 : Hp} {m n : Nat} {xs ys : List W} {a b : Addr} (ea : ρ0[m]? = some a) (eb : ρ0[n]? = some b) : WOk y ρ0 H0 ⟨zipItems xs ys, [(m, xs), (n, ys)]⟩ (Itz y.K a b) := fun ρ Hh h n' rh hs => by
  obtain ⟨a', vs, f1, f2, f3⟩ := still_list (n := m) (xs := xs) rh hs (by simp)
  rw [n'.at_ ea] at f1; cases f1
  obtain ⟨b', us, g1, g2, g3⟩ := still_list (n := n) (xs := ys) rh hs (by simp)
  rw [n'.at_ eb] at g1; cases g1
  refine ⟨fun i x hx => ?_, ?_⟩
  · obtain ⟨v, w, ev, ew, rfl⟩ := zip_get hx
    obtain ⟨z, ez, rz⟩ := f3.get ev
    obtain ⟨z2, ez2, rz2⟩ := g3.get ew
    refine ⟨⟨vs, us, z, z2, .of f2, .of g2, ez, ez2⟩, fun v H' hy => ?_⟩
    obtain ⟨T, z', z2', rfl, hT, rfl, hy, hy2⟩ := hy
    have := hy vs (.of f2)
    rw [ez] at this
    cases this
    have := hy2 us (.of g2)
    rw [ez2] at this
    cases this
    obtain ⟨rh', nx⟩ := rh.other (u := .tup [z, z2]) hT
    refine ⟨nx, rh', T, _, rfl, .inl upd_same, ⟨_, _, rfl, rz.nxt nx, ⟨_, _, rfl, rz2.nxt nx, rfl⟩⟩⟩
  · refine ⟨vs, us, .of f2, .of g2, ?_⟩
    rw [← f3.length, ← g3.length]
    exact zip_len xs ys
theorem i_zip {e e2 : Expr} {es : List Expr} {k1 : Nat} {e' e2' : E} {p p2 pos : Pos} (hg : g.G.lookup (Str.ofString "zip") = some .bltn) (hk : gl g "zip") (hn : nst e = true) (hn2 : nst e2 = true) (he : SE g e e') (he2 : SE g e2 e2') : SI g (.Tuple es k1 p2) (.Call (.Name "zip" p) [e, e2] [] pos) (.zip e' e2') := fun X y xc C Wx hc k => by
  refine PI.imp (pi_zip (k.gl hk) (k.glob _ _ hg) (pa_cons (he X y xc C Wx k) (pa_cons (he2 X y xc C Wx k) pa_nil (star_cons hn2)) (star_cons hn)) (star_cons hn) (star_any (by simp [hn2]))) fun τ Hh R ⟨ρ, σ, h, rs, rh, go⟩ => ?_
  unfold evI at go
  refine ⟨ρ, σ, h, rs, rh, (Go.seq go).imp fun v1 H1 ⟨ρ1, w1, h1, n1, rh1, r1, go1⟩ => ⟨ρ1, σ, h1, rs.nxt n1, rh1, (Go.seq go1).imp fun v2 H2 ⟨ρ2, w2, h2, n2, rh2, r2, go2⟩ => ?_⟩⟩
  obtain ⟨wk, e, q⟩ := go2.ask rh2
  unfold zipWalk at e
  split at e
  case h_2 => cases e
  case h_1 m n =>
    obtain ⟨a, ea, rfl⟩ := r1
    obtain ⟨b, eb, rfl⟩ := r2
    split at e
    case h_2 => cases e
    case h_1 xs ys ex ey =>
      cases e
      obtain ⟨a', vs, f1, f2, f3⟩ := rh2.list ex
      rw [n2.at_ ea] at f1; cases f1
      obtain ⟨b', us, g1, g2, g3⟩ := rh2.list ey
      rw [eb] at g1; cases g1
      exact ⟨a, b, vs, us, rfl, .of f2, .of g2, k.K ▸ q _ (wok_zip (n2.at_ ea) eb)⟩

/-! ### targets -/
/-- a name that may be stored -/
def Sto (g : Gm) (x : Str) : Prop := (g.sc.names.lookup x = some .local ∨ (g.top = true ∧ g.sc.names.lookup x = some .cell)) ∧ g.hot ≠ some x
theorem Sto.loc {x : Str} {X : Cx} (h : Sto g x) (hsc : X.env.scope = g.sc) : Loc X.env.scope x := by
  rw [hsc]
  exact h.1.elim .inl fun z => .inr z.2
theorem Sto.fn {x : Str} {X : Cx} (h : Sto g x) (hsc : X.env.scope = g.sc) (hf : g.top = true → ∀ x, X.fn x = true) : X.fn x = true ∨ X.env.scope.names.lookup x = some .local := by
  rw [hsc]
  exact h.1.elim .inr fun z => .inl (hf z.1 x)
/-- the texts of names, by their slots -/
def TNs (g : Gm) : List Expr → List Nat → Prop
  | [], is => is = []
  | e :: es, is => ∃ x p i r, e = .Name x p ∧ is = i :: r ∧ g.N[i]? = some x ∧ Sto g x ∧ TNs g es r
theorem gl_len {g : Gm} {env : Env} : ∀ {es : List Expr} {is : List Nat}, TNs g es is → (assignEach es env).length = is.length ∧ (assignEach es env).findIdx? (·.1) = none ∧ ∀ b ∈ assignEach es env, b.1 = false
  | [], is, h => by
    have e : is = [] := h
    subst e
    exact ⟨rfl, rfl, fun b hb => absurd hb (by simp [assignEach])⟩
  | e :: es, is, ⟨x, p, i, r, e1, e2, _, _, h⟩ => by
    subst e1 e2
    obtain ⟨h1, h2, h3⟩ := gl_len (env := env) h
    have e0 : assignEach (.Name x p :: es) env = (false, assign (.Name x p) env) :: assignEach es env := rfl
    refine ⟨by rw [e0]; simp [h1], ?_, ?_⟩
    · rw [e0, List.findIdx?_cons]
      simp only [h2]
      rfl
    · rw [e0]
      intro b hb
      rcases List.mem_cons.mp hb with e | hb
      · rw [e]
      · exact h3 b hb
/-- the slots take the values, one by one -/
def gSlots : List Nat → TGs
  | [] => gNil
  | i :: is => gCons (gName i) (gSlots is)
theorem pgs_of {X : Cx} (hN : X.N = g.N) (hnd : X.N.Nodup) (hsc : X.env.scope = g.sc) (hf : g.top = true → ∀ x, X.fn x = true) : ∀ {es : List Expr} {is : List Nat}, TNs g es is → PGs X es (gSlots is)
  | [], is, h => by
    have e : is = [] := h
    subst e
    exact pgs_nil
  | e :: es, is, ⟨x, p, i, r, e1, e2, hi, hs, h⟩ => by
    subst e1 e2
    exact pgs_cons (pg_name (i := i) hnd (by rw [hN]; exact hi) (hs.loc hsc) (hs.fn hsc hf)) (pgs_of hN hnd hsc hf h) rfl
theorem slots_ok {y : Y} {ρ : List Addr} {Hh : Hp} : ∀ {is : List Nat} {ws : List W} {vs : List V} {σ σ' : St} {τ : L2.St} {Q : L2.St → Hp → Prop}, Pw (RW y ρ Hh) ws vs → RS y ρ Hh σ τ → (∀ i ∈ is, Cold y i) → setAll is ws σ = some σ' → (∀ τ', RS y ρ Hh σ' τ' → Q τ' Hh) → gSlots is vs τ Hh Q
  | [], [], vs, σ, σ', τ, Q, hp, rs, _, e, q => by
    cases hp
    cases e
    exact ⟨rfl, q τ rs⟩
  | i :: is, w :: ws, vs, σ, σ', τ, Q, ⟨v, r, e1, h1, h2⟩, rs, hc, e, q => by
    subst e1
    unfold setAll at e
    split at e
    case isFalse => cases e
    case isTrue hz => exact ⟨v, r, rfl, slots_ok h2 (rs.set (hc i List.mem_cons_self) h1) (fun j hj => hc j (List.mem_cons_of_mem _ hj)) e q⟩
  | [], _ :: _, _, _, _, _, _, _, _, _, e, _ => by cases e
  | _ :: _, [], _, _, _, _, _, _, _, _, e, _ => by cases e
/-- the text of a target -/
inductive TT' (g : Gm) : Expr → T → Prop where
  | name {x : Str} {p : Pos} {i : Nat} (hi : g.N[i]? = some x) (hs : Sto g x) : TT' g (.Name x p) (.name i)
  | tup {es : List Expr} {is : List Nat} {k : Nat} {p : Pos} (h : TNs g es is) : TT' g (.Tuple es k p) (.tup is)
def gT (y : Y) (tg : T) : TG := fun v τ Hh Q => ∃ ρ σ h x σ', RS y ρ Hh σ τ ∧ RH y ρ Hh h ∧ RItem y ρ Hh x v ∧ take tg x σ = some σ' ∧ ∀ τ', RS y ρ Hh σ' τ' → Q τ' Hh
theorem PG.imp {X : Cx} {e : Expr} {t t' : TG} (h : PG X e t) (k : ∀ v τ Hh Q, t' v τ Hh Q → t v τ Hh Q) : PG X e t' := ⟨fun pins s τ Hh v u Q I r q => h.run pins s τ Hh v u Q I r (k v τ Hh Q q)⟩
theorem pg_of {X : Cx} {y : Y} {e : Expr} {tg : T} (hN : X.N = g.N) (hnd : X.N.Nodup) (hsc : X.env.scope = g.sc) (hf : g.top = true → ∀ x, X.fn x = true) (hK : y.K = X.K) (hc : X.calm = true) (hh : y.hot = none) (h : TT' g e tg) : PG X e (gT y tg) := by
  have cold : ∀ i, Cold y i := fun i v e => by rw [hh] at e; cases e
  cases h with
  | @name x p i hi hs =>
    refine PG.imp (pg_name (i := i) hnd (by rw [hN]; exact hi) (hs.loc hsc) (hs.fn hsc hf)) fun v τ Hh Q ⟨ρ, σ, h, x, σ', rs, rh, ri, e, q⟩ => ?_
    unfold take at e
    split at e
    case h_1 _ _ j w ei =>
      injection ei with ei
      subst ei
      split at e
      case isFalse => cases e
      case isTrue hz =>
        cases e
        exact q _ (rs.set (cold _) ri)
    case h_2 ei => cases ei
    case h_3 ei => cases ei
    case h_4 => cases e
  | @tup es is k p h =>
    obtain ⟨h1, h2, _⟩ := gl_len (env := X.env) h
    refine PG.imp (pg_tup hc (pgs_of hN hnd hsc hf h) h1 h2) fun v τ Hh Q ⟨ρ, σ, hh, x, σ', rs, rh, ri, e, q⟩ => ?_
    have len : ∀ {is : List Nat} {ws : List W} {σ σ' : St}, setAll is ws σ = some σ' → ws.length = is.length := by
      intro is
      induction is with
      | nil =>
        intro ws σ σ' e
        cases ws with
        | nil => rfl
        | cons _ _ => cases e
      | cons i is ih =>
        intro ws σ σ' e
        cases ws with
        | nil => cases e
        | cons w ws =>
          unfold setAll at e
          split at e
          case isFalse => cases e
          case isTrue hz => simp [ih e]
    unfold take at e
    split at e
    case h_1 ei => cases ei
    case h_2 _ _ js ds ei =>
      injection ei with ei
      subst ei
      simp only [RItem, RW, RD] at ri
      obtain ⟨a, vs, rfl, ta, ra⟩ := ri
      have pw := pw_of_rds (y := y) (ρ := ρ) ra
      refine ⟨a, vs, rfl, hK ▸ ta.sq, ?_, slots_ok pw rs (fun i _ => cold i) e q⟩
      rw [← pw.length]
      exact len e
    case h_3 _ _ js ws ei =>
      injection ei with ei
      subst ei
      obtain ⟨a, vs, rfl, ta, pw⟩ := ri
      refine ⟨a, vs, rfl, hK ▸ ta.sq, ?_, slots_ok pw rs (fun i _ => cold i) e q⟩
      rw [← pw.length]
      exact len e
    case h_4 => cases e
end
end DI

/-! DI2f: comprehensions, statements. -/
namespace DI
open PySem L2

/-! ### slots -/
def T.slots : T → List Nat
  | .name i => [i]
  | .tup is => is
theorem wipe_get (τ : L2.St) : ∀ (vs : List Nat) (j : Nat), (L2.wipe τ vs)[j]? = if j ∈ vs then (if j < τ.length then some none else none) else τ[j]?
  | [], j => by simp [L2.wipe]
  | v :: vs, j => by
    unfold L2.wipe
    by_cases hj : v = j
    · subst hj
      rw [if_pos List.mem_cons_self]
      by_cases hl : v < τ.length
      · rw [if_pos hl, List.getElem?_set_self (by rw [wipe_length]; exact hl)]
      · rw [if_neg hl, List.getElem?_eq_none (by rw [List.length_set, wipe_length]; omega)]
    · rw [List.getElem?_set_ne hj, wipe_get τ vs j]
      by_cases hm : j ∈ vs
      · rw [if_pos hm, if_pos (List.mem_cons_of_mem _ hm)]
      · rw [if_neg hm, if_neg (by simp only [List.mem_cons, not_or]; exact ⟨fun e => hj e.symm, hm⟩)]
theorem wipe_set {τ : L2.St} {vs : List Nat} {i : Nat} {x : Option V} (h : i ∈ vs) : L2.wipe (τ.set i x) vs = L2.wipe τ vs := by
  apply List.ext_getElem?
  intro j
  rw [wipe_get, wipe_get, List.length_set]
  by_cases hm : j ∈ vs
  · rw [if_pos hm, if_pos hm]
  · rw [if_neg hm, if_neg hm, List.getElem?_set_ne (fun e : i = j => hm (by rw [← e]; exact h))]
theorem wipe_wipe {τ : L2.St} {vs : List Nat} : L2.wipe (L2.wipe τ vs) vs = L2.wipe τ vs := by
  apply List.ext_getElem?
  intro j
  rw [wipe_get, wipe_get, wipe_length]
  by_cases hm : j ∈ vs
  · rw [if_pos hm, if_pos hm]
  · rw [if_neg hm, if_neg hm]

section
variable {g : Gm}
theorem slots_okW {y : Y} {ρ : List Addr} {Hh : Hp} {wp : List Nat} : ∀ {is : List Nat} {ws : List W} {vs : List V} {σ σ' : St} {τ : L2.St} {Q : L2.St → Hp → Prop}, Pw (RW y ρ Hh) ws vs → RS y ρ Hh σ τ → y.hot = none → setAll is ws σ = some σ' → (∀ i ∈ is, i ∈ wp) → (∀ τ', RS y ρ Hh σ' τ' → L2.wipe τ' wp = L2.wipe τ wp → Q τ' Hh) → gSlots is vs τ Hh Q
  | [], [], vs, σ, σ', τ, Q, hp, rs, _, e, _, q => by
    cases hp
    cases e
    exact ⟨rfl, q τ rs rfl⟩
  | i :: is, w :: ws, vs, σ, σ', τ, Q, ⟨v, r, e1, h1, h2⟩, rs, hh, e, hw, q => by
    subst e1
    unfold setAll at e
    split at e
    case isFalse => cases e
    case isTrue hz =>
      refine ⟨v, r, rfl, slots_okW h2 (rs.set (fun v e => by rw [hh] at e; cases e) h1) hh e (fun j hj => hw j (List.mem_cons_of_mem _ hj)) fun τ' r' e' => q τ' r' ?_⟩
      rw [e', wipe_set (hw i List.mem_cons_self)]
  | [], _ :: _, _, _, _, _, _, _, _, _, e, _, _ => by cases e
  | _ :: _, [], _, _, _, _, _, _, _, _, e, _, _ => by cases e
/-- the target of a comprehension: its slots are among the block's own -/
def gTW (y : Y) (tg : T) (wp : List Nat) : TG := fun v τ Hh Q => ∃ ρ σ h x σ', RS y ρ Hh σ τ ∧ RH y ρ Hh h ∧ RItem y ρ Hh x v ∧ take tg x σ = some σ' ∧ ∀ τ', RS y ρ Hh σ' τ' → L2.wipe τ' wp = L2.wipe τ wp → Q τ' Hh
theorem setAll_len : ∀ {is : List Nat} {ws : List W} {σ σ' : St}, setAll is ws σ = some σ' → ws.length = is.length
  | [], [], _, _, _ => rfl
  | [], _ :: _, _, _, e => by cases e
  | _ :: _, [], _, _, e => by cases e
  | i :: is, w :: ws, σ, σ', e => by
    unfold setAll at e
    split at e
    case isFalse => cases e
    case isTrue hz => simp [setAll_len e]
theorem pg_ofW {X : Cx} {y : Y} {e : Expr} {tg : T} {wp : List Nat} (hN : X.N = g.N) (hnd : X.N.Nodup) (hsc : X.env.scope = g.sc) (hf : g.top = true → ∀ x, X.fn x = true) (hK : y.K = X.K) (hc : X.calm = true) (hh : y.hot = none) (h : TT' g e tg) (hw : ∀ i ∈ tg.slots, i ∈ wp) : PG X e (gTW y tg wp) := by
  cases h with
  | @name x p i hi hs =>
    refine PG.imp (pg_name (i := i) hnd (by rw [hN]; exact hi) (hs.loc hsc) (hs.fn hsc hf)) fun v τ Hh Q ⟨ρ, σ, h, x, σ', rs, rh, ri, e, q⟩ => ?_
    unfold take at e
    split at e
    case h_1 _ _ j w ei =>
      injection ei with ei
      subst ei
      split at e
      case isFalse => cases e
      case isTrue hz =>
        cases e
        exact q _ (rs.set (fun v e => by rw [hh] at e; cases e) ri) (wipe_set (hw _ List.mem_cons_self))
    case h_2 ei => cases ei
    case h_3 ei => cases ei
    case h_4 => cases e
  | @tup es is k p h =>
    obtain ⟨h1, h2, _⟩ := gl_len (env := X.env) h
    refine PG.imp (pg_tup hc (pgs_of hN hnd hsc hf h) h1 h2) fun v τ Hh Q ⟨ρ, σ, hp, x, σ', rs, rh, ri, e, q⟩ => ?_
    unfold take at e
    split at e
    case h_1 ei => cases ei
    case h_2 _ _ js ds ei =>
      injection ei with ei
      subst ei
      simp only [RItem, RW, RD] at ri
      obtain ⟨a, vs, rfl, ta, ra⟩ := ri
      have pw := pw_of_rds (y := y) (ρ := ρ) ra
      refine ⟨a, vs, rfl, hK ▸ ta.sq, ?_, slots_okW pw rs hh e hw q⟩
      rw [← pw.length]
      exact setAll_len e
    case h_3 _ _ js ws ei =>
      injection ei with ei
      subst ei
      obtain ⟨a, vs, rfl, ta, pw⟩ := ri
      refine ⟨a, vs, rfl, hK ▸ ta.sq, ?_, slots_okW pw rs hh e hw q⟩
      rw [← pw.length]
      exact setAll_len e
    case h_4 => cases e

/-! ### comprehensions -/
def Gm.blk (g : Gm) (scope : Scope) : Gm := { g with sc := relS scope g.sc, top := false }
/-- no exception is wished -/
abbrev noW : WX := fun _ _ _ _ => False
theorem Cok.blk {X : Cx} {y : Y} {xc : Nat → Option Addr} {C : Calls} {Wx : WX} (hc : g.calm = true) (k : Cok g X y xc C Wx) (s : Shared) (Hh : Hp) (scope : Scope) (cl : List (Str × Addr)) (D : Addr) (fp : List Addr) :
    Cok (g.blk scope) (X.blk s Hh scope (compEnvC scope cl D X.env) fp) y xc C noW where
  N := k.N
  nd := k.nd
  sc := by
    show (compEnvC scope cl D X.env).scope = relS scope g.sc
    rw [← k.sc]
    rfl
  K := k.K
  calm := k.calm
  units := k.units
  glob := fun x v h => by
    have q := k.glob x v h
    cases v <;> exact q
  calls := fun hc i a e => by
    obtain ⟨h1, fd, ps, lv, h2, h3, h4⟩ := k.calls hc i a e
    exact ⟨h1, fd, ps, lv, h2, h3, h4⟩
  tk := fun u s' h => by
    obtain ⟨_, _, _, _, _, _, _, _, _, _, _, _, _, _, _, _, w⟩ := h
    exact w
  hd := fun T cs e => by
    obtain ⟨c, q⟩ := k.hd T cs e
    exact ⟨c, q.cls, q.nm, q.exm, q.kit⟩
  hot' := k.hot'
  hot := fun i v e => by
    obtain ⟨h, _⟩ := k.hot i v e
    rw [hc] at h
    cases h
  own := PassesOwn.never
  fnx := fun h => by cases h
def tCo (y : Y) (xc : Nat → Option Addr) (Wx : WX) (C : Calls) (e : Eo) : TT := fun τ Hh Q => ∃ ρ σ h, RS y ρ Hh σ τ ∧ RH y ρ Hh h ∧ Go y ρ Hh (fun _ _ k v => v = k) (XW y xc Wx τ) (evC C σ e h) Q
/-- the tests of a comprehension: none or one -/
def SC (g : Gm) : List Expr → Eo → Prop
  | [], e => e = .none
  | [c], e => ∃ c', e = .some c' ∧ ST g c c'
  | _, _ => False
theorem PTs.imp {X : Cx} {es : List Expr} {t t' : TT} (h : PTs X es t) (k : ∀ τ Hh Q, t' τ Hh Q → t τ Hh Q) : PTs X es t' := ⟨fun pins s τ Hh Q I q => h.run pins s τ Hh Q I (k τ Hh Q q)⟩
theorem pts_of {X : Cx} {y : Y} {xc : Nat → Option Addr} {C : Calls} {Wx : WX} (k : Cok g X y xc C Wx) : ∀ {cs : List Expr} {c' : Eo}, SC g cs c' → PTs X cs (tCo y xc Wx C c')
  | [], c', h => by
    have e : c' = .none := h
    subst e
    refine PTs.imp pts_nil fun τ Hh Q ⟨ρ, σ, h, rs, rh, go⟩ => ?_
    unfold evC at go
    exact go.pure rh rfl
  | [c], c', ⟨e, e1, h⟩ => by
    subst e1
    refine PTs.imp (pts_one (h X y xc C Wx k)) fun τ Hh Q ⟨ρ, σ, hh, rs, rh, go⟩ => ?_
    unfold evC at go
    exact ⟨ρ, σ, hh, rs, rh, go⟩
  | _ :: _ :: _, _, h => h.elim
theorem notSet_fold {e : Expr} {env : Env} (h : notSet e = true) : ∀ x, foldedSetIterable e env x = pure x := by
  intro x
  cases e <;> first | rfl | cases h
theorem lc_read {y : Y} {xc : Nat → Option Addr} {C : Calls} {Wx : WX} {elt' : E} {tg' : T} {it' : It} {c' : Eo} {wp : List Nat} {τ : L2.St} {Hh : Hp} {Q : VK} (hh : y.hot = none) (h : tE y xc Wx C (.comp elt' tg' it' c' wp) τ Hh Q) :
    tLc (tI y xc Wx C it') (gTW y tg' wp) (tCo y xc noW C c') (tE y xc noW C elt') wp τ Hh Q := by
  obtain ⟨ρ, σ, h, rs, rh, go⟩ := h
  unfold ev at go
  refine ⟨ρ, σ, h, rs, rh, (Go.seq go).imp fun J H1 ⟨ρ1, wk, h1, n1, rh1, wok, go1⟩ D hD => ?_⟩
  have nx0 : Nxt ρ1 H1 (ρ1 ++ [D]) (upd H1 D (.lst [])) := ⟨⟨[D], rfl⟩, .new hD⟩
  obtain ⟨rh0, n0⟩ := rh1.push (o := .lst []) (u := .lst []) hD ⟨[], upd_same, rfl⟩
  have atD : ∀ {ρ' : List Addr} {H' : Hp}, Nxt (ρ1 ++ [D]) (upd H1 D (.lst [])) ρ' H' → ρ'[h1.length]? = some D := fun n => n.at_ (by rw [← rh1.len, List.getElem?_append_right (Nat.le_refl _)]; simp)
  cases ec : compL wk.gs tg' (wipe σ wp) (fun σ1 => evC C σ1 c') (fun σ1 => ev C σ1 elt') h1.length wk.items (h1 ++ [.lst []]) with
  | none => rw [ec] at go1; exact go1.elim
  | some r =>
    rw [ec] at go1
    cases r with
    | ex x h2 => exact go1.elim
    | ok u h2 =>
      dsimp only at go1
      have fin : ∀ {ρ' : List Addr} {H' : Hp}, Nxt (ρ1 ++ [D]) (upd H1 D (.lst [])) ρ' H' → RH y ρ' H' h2 → Q (.ref D) H' := fun n' rh' => go1 _ _ _ (n0.trans n') rh' ⟨D, atD n', rfl⟩
      refine ⟨fun i m H => m = wk.items.length - i ∧ i ≤ wk.items.length ∧ ∃ ρ' h', Nxt (ρ1 ++ [D]) (upd H1 D (.lst [])) ρ' H ∧ RH y ρ' H h' ∧
        compL wk.gs tg' (wipe σ wp) (fun σ1 => evC C σ1 c') (fun σ1 => ev C σ1 elt') h1.length (wk.items.drop i) h' = some (.ok u h2), ⟨_, rfl, Nat.zero_le _, _, _, .refl, rh0, by simpa using ec⟩, ?_⟩
      rintro i m H ⟨rfl, hi, ρ', h', n', rh', e'⟩
      by_cases hlt : i < wk.items.length
      · right
        rw [List.drop_eq_getElem_cons hlt] at e'
        unfold compL at e'
        split at e'
        case isFalse => cases e'
        case isTrue hst =>
          obtain ⟨turn, _⟩ := wok ρ' H h' (n0.trans n') rh' hst
          obtain ⟨hgo, hy⟩ := turn i _ (List.getElem?_eq_getElem hlt)
          refine ⟨hgo, fun H' => ∃ ρ'' h'', Nxt (ρ1 ++ [D]) (upd H1 D (.lst [])) ρ'' H' ∧ RH y ρ'' H' h'' ∧ compL wk.gs tg' (wipe σ wp) (fun σ1 => evC C σ1 c') (fun σ1 => ev C σ1 elt') h1.length (wk.items.drop (i + 1)) h'' = some (.ok u h2), fun H' ⟨ρ'', h'', a, b, c⟩ => ⟨_, by omega, rfl, hlt, ρ'', h'', a, b, c⟩, fun v H2 hv => ?_⟩
          obtain ⟨n2, rh2, ri⟩ := hy v H2 hv
          split at e'
          case h_1 => cases e'
          case h_2 σ1 et =>
            refine ⟨ρ', wipe σ wp, h', _, σ1, (rs.nxt (n1.trans (n0.trans (n'.trans n2)))).wipe hh wp, rh2, ri, et, fun τ' rs' hw => ⟨by rw [hw, wipe_wipe], ρ', σ1, h', rs', rh2, ?_⟩⟩
            cases e1 : evC C σ1 c' h' with
            | none => rw [e1] at e'; cases e'
            | some r =>
              rw [e1] at e'
              cases r with
              | ex x hx => cases e'
              | ok b h3 =>
                intro ρ3 H3 bv n3 rh3 eb
                subst eb
                cases bv with
                | false => exact ⟨ρ3, h3, n'.trans (n2.trans n3), rh3, e'⟩
                | true =>
                  dsimp only at e'
                  refine ⟨ρ3, σ1, h3, rs'.nxt n3, rh3, ?_⟩
                  cases e2 : ev C σ1 elt' h3 with
                  | none => rw [e2] at e'; cases e'
                  | some r =>
                    rw [e2] at e'
                    cases r with
                    | ex x hx => cases e'
                    | ok w h4 =>
                      intro ρ4 H4 wv n4 rh4 rw4
                      have nD := n'.trans (n2.trans (n3.trans n4))
                      dsimp only at e'
                      split at e'
                      case h_2 => cases e'
                      case h_1 acc ea =>
                        split at e'
                        case isFalse => cases e'
                        case isTrue hz =>
                          obtain ⟨D', vs, f1, f2, f3⟩ := rh4.list ea
                          rw [atD nD] at f1; cases f1
                          have nx : Nxt ρ4 H4 ρ4 (upd H4 D (.lst (vs ++ [wv]))) := ⟨⟨[], by simp⟩, rh4.upd_ext (atD nD)⟩
                          obtain ⟨rh5, n5⟩ := rh4.put (o := .lst (acc ++ [w])) (u := .lst (vs ++ [wv])) (atD nD) ⟨_, upd_same, (RWs.nxt nx f3).append ⟨wv, [], rfl, rw4.nxt nx, rfl⟩⟩
                          exact ⟨vs, f2, by rw [← f3.length, ← sz_eq]; exact hz, ρ4, _, nD.trans n5, rh5, e'⟩
      · have hi' : i = wk.items.length := by omega
        subst hi'
        rw [List.drop_length] at e'
        unfold compL at e'
        split at e'
        case isFalse => cases e'
        case isTrue hst =>
          cases e'
          obtain ⟨_, hstop⟩ := wok ρ' H _ (n0.trans n') rh' hst
          exact .inl ⟨hstop, fin n' rh'⟩
theorem s_comp {elt tg iter : Expr} {ifs : List Expr} {scope : Scope} {own : List (Str × Nat)} {pos : Pos} {elt' : E} {tg' : T} {it' : It} {c' : Eo} (hc : g.calm = true) (hi : SI g tg iter it') (ok : blkC g.N g.sc scope own = true) (ht : TT' (g.blk scope) tg tg') (hw : ∀ i ∈ tg'.slots, i ∈ own.map (·.2))
    (hcs : SC (g.blk scope) ifs c') (he : SE (g.blk scope) elt elt') (hs : notSet iter = true) : SE g (.ListComp elt [⟨tg, iter, ifs, 0⟩] scope pos) (.comp elt' tg' it' c' (own.map (·.2))) := fun X y xc C Wx k => by
  have okB : BlkOk X.N X.env.scope scope own := by
    rw [k.N, k.sc]
    exact blkOk_by ok
  exact PE.imp (pe_lc (k.calm hc) k.nd (hi X y xc C Wx hc k) okB (fun s Hh D cl fp => by
      have kb := k.blk hc s Hh scope cl D fp
      exact pg_ofW kb.N kb.nd kb.sc kb.fnx kb.K (k.calm hc) (k.nohot hc) ht hw) (fun s Hh D cl fp => pts_of (k.blk hc s Hh scope cl D fp) hcs) (fun s Hh D cl fp => he _ y xc C noW (k.blk hc s Hh scope cl D fp)) (notSet_fold hs)) fun τ Hh Q h => lc_read (k.nohot hc) h

/-! ### statements -/
def GoS (y : Y) (xc : Nat → Option Addr) (ρ : List Addr) (Hh : Hp) (Wx : WX) (r : Option Out) (D : Ends) : Prop :=
  match r with
  | none => False
  | some (.ok (.nx σ) h) => ∀ ρ' H' τ, Nxt ρ Hh ρ' H' → RS y ρ' H' σ τ → RH y ρ' H' h → D.nx τ H'
  | some (.ok (.bk σ) h) => ∀ ρ' H' τ, Nxt ρ Hh ρ' H' → RS y ρ' H' σ τ → RH y ρ' H' h → D.bk τ H'
  | some (.ok (.ct σ) h) => ∀ ρ' H' τ, Nxt ρ Hh ρ' H' → RS y ρ' H' σ τ → RH y ρ' H' h → D.ct τ H'
  | some (.ok (.rt w) h) => ∀ ρ' H' v, Nxt ρ Hh ρ' H' → RH y ρ' H' h → RW y ρ' H' w v → D.rt v H'
  | some (.ex x σ h) => ∀ ρ' H' τ cls d, Nxt ρ Hh ρ' H' → RS y ρ' H' σ τ → RH y ρ' H' h → RX y xc x H' cls d → Wx cls d τ H'
theorem GoS.mono {y : Y} {xc : Nat → Option Addr} {ρ ρ1 : List Addr} {Hh H1 : Hp} {Wx : WX} {r : Option Out} {D : Ends} (n : Nxt ρ Hh ρ1 H1) (go : GoS y xc ρ Hh Wx r D) : GoS y xc ρ1 H1 Wx r D := by
  unfold GoS at go ⊢
  split at go
  · exact go
  · exact fun ρ' H' τ n' => go ρ' H' τ (n.trans n')
  · exact fun ρ' H' τ n' => go ρ' H' τ (n.trans n')
  · exact fun ρ' H' τ n' => go ρ' H' τ (n.trans n')
  · exact fun ρ' H' v n' => go ρ' H' v (n.trans n')
  · exact fun ρ' H' τ cls d n' => go ρ' H' τ cls d (n.trans n')
theorem GoS.onE {α β : Type} {y : Y} {xc : Nat → Option Addr} {ρ : List Addr} {Hh : Hp} {Wx : WX} {RA : List Addr → Hp → α → β → Prop} {σ : St} {τ : L2.St} {m : M α} {k : α → H → Option Out} {h : H} {D : Ends} (rs : RS y ρ Hh σ τ) (go : GoS y xc ρ Hh Wx (onE σ m k h) D) :
    Go y ρ Hh RA (XW y xc Wx τ) (m h) (fun v H1 => ∃ ρ1 a h1, Nxt ρ Hh ρ1 H1 ∧ RH y ρ1 H1 h1 ∧ RA ρ1 H1 a v ∧ GoS y xc ρ1 H1 Wx (k a h1) D) := by
  unfold DI.onE at go
  cases e : m h with
  | none => rw [e] at go; exact go.elim
  | some r =>
    rw [e] at go
    cases r with
    | ok a h1 => exact fun ρ' H' v n rh ra => ⟨ρ', a, h1, n, rh, ra, go.mono n⟩
    | ex x h1 => exact fun ρ' H' n rh cls d rx => go ρ' H' τ cls d n (rs.nxt n) rh rx
def tS (y : Y) (xc : Nat → Option Addr) (Wx : WX) (XS : List XCls) (C : Calls) (s : S) : TS := fun D τ Hh => ∃ ρ σ h, RS y ρ Hh σ τ ∧ RH y ρ Hh h ∧ GoS y xc ρ Hh Wx (exec XS C s σ h) D
/-- what the statements lean on besides: the frame -/
structure Cks (g : Gm) (X : Cx) (y : Y) (xc : Nat → Option Addr) (C : Calls) (Wx : WX) : Prop where
  ok : Cok g X y xc C Wx
  st : X.stack = X.env :: X.outer
  fr : X.env.frame = some X.env.locals
def SS (g : Gm) (XS : List XCls) (st : Stmt) (s : S) : Prop := ∀ X y xc C Wx, Cks g X y xc C Wx → PS X st (tS y xc Wx XS C s)
def SB (g : Gm) (XS : List XCls) (st : List Stmt) (s : S) : Prop := ∀ X y xc C Wx, Cks g X y xc C Wx → PSs X st (tS y xc Wx XS C s)
variable {XS : List XCls}
theorem b_nil : SB g XS [] .skip := fun X y xc C Wx k => by
  refine PSs.imp pss_nil fun D τ Hh ⟨ρ, σ, h, rs, rh, go⟩ => ?_
  exact go ρ Hh τ .refl rs rh
theorem b_one {st : Stmt} {s : S} (h : SS g XS st s) : SB g XS [st] s := fun X y xc C Wx k => pss_one (h X y xc C Wx k)
theorem b_cons {st : Stmt} {r : List Stmt} {a b : S} (h1 : SS g XS st a) (h2 : SB g XS r b) : SB g XS (st :: r) (.seq a b) := fun X y xc C Wx k => by
  refine PSs.imp (pss_cons (h1 X y xc C Wx k) (h2 X y xc C Wx k)) fun D τ Hh ⟨ρ, σ, h, rs, rh, go⟩ => ⟨ρ, σ, h, rs, rh, ?_⟩
  unfold exec at go
  cases e : exec XS C a σ h with
  | none => rw [e] at go; exact go.elim
  | some o =>
    rw [e] at go
    cases o with
    | ex x σ1 h1 => exact go
    | ok f h1 =>
      cases f with
      | nx σ1 => exact fun ρ' H' τ' n rs' rh' => ⟨ρ', σ1, h1, rs', rh', go.mono n⟩
      | bk σ1 => exact go
      | ct σ1 => exact go
      | rt w => exact go
theorem st_pass {pos : Pos} : SS g XS (.Pass pos) .skip := fun X y xc C Wx k => by
  refine PS.imp ps_pass fun D τ Hh ⟨ρ, σ, h, rs, rh, go⟩ => ?_
  exact go ρ Hh τ .refl rs rh
theorem st_brk {pos : Pos} : SS g XS (.Break pos) .brk := fun X y xc C Wx k => by
  refine PS.imp ps_break fun D τ Hh ⟨ρ, σ, h, rs, rh, go⟩ => ?_
  exact go ρ Hh τ .refl rs rh
theorem st_cnt {pos : Pos} : SS g XS (.Continue pos) .cnt := fun X y xc C Wx k => by
  refine PS.imp ps_continue fun D τ Hh ⟨ρ, σ, h, rs, rh, go⟩ => ?_
  exact go ρ Hh τ .refl rs rh
def notComp : Expr → Bool
  | .ListComp _ _ _ _ => false
  | .SetComp _ _ _ _ => false
  | .DictComp _ _ _ _ _ => false
  | _ => true
theorem swaps_no {e : Expr} {t : Option Expr} {l : Nat} {env : Env} (h : notComp e = true) : swapsWith e t l env = pure false := by
  cases e <;> first | rfl | cases h
theorem sole_no {e t : Expr} {l : Nat} {env : Env} (h : notComp e = true) : swapsWithSole [t] e l env = pure false := by
  unfold swapsWithSole
  exact swaps_no h
theorem st_expr {e : Expr} {e' : E} {pos : Pos} (hn : notComp e = true) (he : SE g e e') : SS g XS (.Expr e pos) (.expr e') := fun X y xc C Wx k => by
  refine PS.imp (ps_expr (he X y xc C Wx k.ok) (swaps_no hn)) fun D τ Hh ⟨ρ, σ, h, rs, rh, go⟩ => ?_
  unfold exec at go
  exact ⟨ρ, σ, h, rs, rh, (GoS.onE rs go).imp fun v H1 ⟨ρ1, a, h1, n1, rh1, _, go1⟩ => go1 ρ1 H1 τ .refl (rs.nxt n1) rh1⟩
theorem Cks.cold {X : Cx} {y : Y} {xc : Nat → Option Addr} {C : Calls} {Wx : WX} {i : Nat} {x : Str} (k : Cks g X y xc C Wx) (hi : g.N[i]? = some x) (hs : Sto g x) : Cold y i := fun v e => by
  obtain ⟨_, x', _, h1, h2, _⟩ := k.ok.hot i v e
  rw [hi] at h2
  cases h2
  exact hs.2 h1
theorem set_fin {y : Y} {xc : Nat → Option Addr} {Wx : WX} {ρ : List Addr} {Hh : Hp} {σ : St} {τ : L2.St} {i : Nat} {w : W} {v : V} {h : H} {D : Ends} (hc : Cold y i) (rs : RS y ρ Hh σ τ) (rh : RH y ρ Hh h) (r : RW y ρ Hh w v) (go : GoS y xc ρ Hh Wx (if i < σ.length then some (.ok (.nx (σ.set i (some w))) h) else none) D) :
    D.nx (τ.set i (some v)) Hh := by
  by_cases hz : i < σ.length
  · rw [if_pos hz] at go
    exact go ρ Hh _ .refl (rs.set hc r) rh
  · rw [if_neg hz] at go
    exact go.elim
theorem st_set {x : Str} {i : Nat} {e : Expr} {e' : E} {p pos : Pos} (hi : g.N[i]? = some x) (hs : Sto g x) (hn : notComp e = true) (he : SE g e e') : SS g XS (.Assign [.Name x p] e pos) (.set i e') := fun X y xc C Wx k => by
  refine PS.imp (ps_set (i := i) k.ok.nd (by rw [k.ok.N]; exact hi) (hs.loc k.ok.sc) (he X y xc C Wx k.ok) (swaps_no hn) (hs.fn k.ok.sc k.ok.fnx)) fun D τ Hh ⟨ρ, σ, h, rs, rh, go⟩ => ?_
  unfold exec at go
  exact ⟨ρ, σ, h, rs, rh, (GoS.onE rs go).imp fun v H1 ⟨ρ1, a, h1, n1, rh1, r1, go1⟩ => set_fin (k.cold hi hs) (rs.nxt n1) rh1 r1 go1⟩
theorem st_setLc {x : Str} {i : Nat} {p pos : Pos} {elt tg iter : Expr} {ifs : List Expr} {scope : Scope} {own : List (Str × Nat)} {cpos : Pos} {elt' : E} {tg' : T} {it' : It} {c' : Eo} (hix : g.N[i]? = some x) (hsx : Sto g x) (hsl : g.sc.names.lookup x = some .local) (hk : g.sc.kind = .function) (hl : (p.line == cpos.line) = true) (ha : (scope.names.any fun (n, k) => n == x && (k == .local || k == .cell)) = false)
    (hc : g.calm = true) (hi : SI g tg iter it') (ok : blkC g.N g.sc scope own = true) (ht : TT' (g.blk scope) tg tg') (hw : ∀ i ∈ tg'.slots, i ∈ own.map (·.2)) (hcs : SC (g.blk scope) ifs c') (he : SE (g.blk scope) elt elt') (hs : notSet iter = true) :
    SS g XS (.Assign [.Name x p] (.ListComp elt [⟨tg, iter, ifs, 0⟩] scope cpos) pos) (.set i (.comp elt' tg' it' c' (own.map (·.2)))) := fun X y xc C Wx ks => by
  have k := ks.ok
  have hloc : X.env.scope.names.lookup x = some .local := by rw [k.sc]; exact hsl
  have okB : BlkOk X.N X.env.scope scope own := by
    rw [k.N, k.sc]
    exact blkOk_by ok
  refine PS.imp (ps_setLc (i := i) (k.calm hc) k.nd (by rw [k.N]; exact hix) hloc (sw_true (by rw [k.sc]; exact hk) hloc hl ha) (hi X y xc C Wx hc k) okB (fun s Hh D cl fp => by
      have kb := k.blk hc s Hh scope cl D fp
      exact pg_ofW kb.N kb.nd kb.sc kb.fnx kb.K (k.calm hc) (k.nohot hc) ht hw) (fun s Hh D cl fp => pts_of (k.blk hc s Hh scope cl D fp) hcs) (fun s Hh D cl fp => he _ y xc C noW (k.blk hc s Hh scope cl D fp)) (notSet_fold hs)) fun D τ Hh ⟨ρ, σ, h, rs, rh, go⟩ => ?_
  unfold exec at go
  exact lc_read (k.nohot hc) (Q := fun v H1 => gName i v τ H1 D.nx) ⟨ρ, σ, h, rs, rh, (GoS.onE rs go).imp fun v H1 ⟨ρ1, a, h1, n1, rh1, r1, go1⟩ => set_fin (ks.cold hix hsx) (rs.nxt n1) rh1 r1 go1⟩
def notTup : Expr → Bool
  | .Tuple _ _ _ => false
  | _ => true
theorem st_setT {es : List Expr} {is : List Nat} {e : Expr} {e' : E} {k1 : Nat} {p pos : Pos} (hc : g.calm = true) (ht : TT' g (.Tuple es k1 p) (.tup is)) (hn : notComp e = true) (hnt : notTup e = true) (he : SE g e e') : SS g XS (.Assign [.Tuple es k1 p] e pos) (.setT is e') := fun X y xc C Wx k => by
  refine PS.imp (ps_asg (he X y xc C Wx k.ok) (pg_of k.ok.N k.ok.nd k.ok.sc k.ok.fnx k.ok.K (k.ok.calm hc) (k.ok.nohot hc) ht) (sole_no hn) (by cases e <;> first | rfl | cases hnt)) fun D τ Hh ⟨ρ, σ, h, rs, rh, go⟩ => ?_
  unfold exec at go
  refine ⟨ρ, σ, h, rs, rh, (GoS.onE rs go).imp fun v H1 ⟨ρ1, a, h1, n1, rh1, r1, go1⟩ => ?_⟩
  cases et : take (.tup is) (.one a) σ with
  | none => rw [et] at go1; exact go1.elim
  | some σ1 =>
    rw [et] at go1
    exact ⟨ρ1, σ, h1, .one a, σ1, rs.nxt n1, rh1, r1, et, fun τ' rs' => go1 ρ1 H1 τ' .refl rs' rh1⟩
theorem st_par {x x2 : Str} {i j : Nat} {a b : Expr} {a' b' : E} {px px2 pt : Pos} {kt k2 : Nat} {pt2 pos : Pos} (hc : g.calm = true) (hi : g.N[i]? = some x) (hj : g.N[j]? = some x2) (hij : i ≠ j) (hs : Sto g x) (hs2 : Sto g x2) (hsl : g.sc.names.lookup x = some .local) (hsl2 : g.sc.names.lookup x2 = some .local) (hn : nst a = true) (hn2 : nst b = true) (ha : SE g a a') (hb : SE g b b')
    (hp : ∀ (X : Cx) (ta : TA), X.calm = true → X.N.Nodup → X.N[i]? = some x → X.N[j]? = some x2 → i ≠ j → X.env.scope.names.lookup x = some .local → X.env.scope.names.lookup x2 = some .local → PA X [a, b] ta → X.env.scope = g.sc → PS X (.Assign [.Tuple [.Name x px, .Name x2 px2] kt pt] (.Tuple [a, b] k2 pt2) pos) (tPar i j ta)) :
    SS g XS (.Assign [.Tuple [.Name x px, .Name x2 px2] kt pt] (.Tuple [a, b] k2 pt2) pos) (.par i j a' b') := fun X y xc C Wx k => by
  have hl : X.env.scope.names.lookup x = some .local := by rw [k.ok.sc]; exact hsl
  have hl2 : X.env.scope.names.lookup x2 = some .local := by rw [k.ok.sc]; exact hsl2
  refine PS.imp (hp X _ (k.ok.calm hc) k.ok.nd (by rw [k.ok.N]; exact hi) (by rw [k.ok.N]; exact hj) hij hl hl2 (pa_cons (ha X y xc C Wx k.ok) (pa_cons (hb X y xc C Wx k.ok) pa_nil (star_cons hn2)) (star_cons hn)) k.ok.sc) fun D τ Hh ⟨ρ, σ, h, rs, rh, go⟩ => ?_
  unfold exec at go
  refine ⟨ρ, σ, h, rs, rh, (GoS.onE rs go).imp fun v H1 ⟨ρ1, w1, h1, n1, rh1, r1, go1⟩ => ⟨ρ1, σ, h1, rs.nxt n1, rh1, (GoS.onE (rs.nxt n1) go1).imp fun u H2 ⟨ρ2, w2, h2, n2, rh2, r2, go2⟩ => ?_⟩⟩
  refine ⟨v, u, rfl, ?_⟩
  by_cases hz : i < σ.length ∧ j < σ.length
  · rw [if_pos hz] at go2
    exact go2 ρ2 H2 _ .refl ((((rs.nxt n1).nxt n2).set (k.cold hi hs) (r1.nxt n2)).set (k.cold hj hs2) r2) rh2
  · rw [if_neg hz] at go2
    exact go2.elim
theorem setIx_ok {y : Y} {ρ : List Addr} {Hh : Hp} {h h4 : H} {w2 w3 w1 : W} {u z v : V} (rh : RH y ρ Hh h) (r2 : RW y ρ Hh w2 u) (r3 : RW y ρ Hh w3 z) (r1 : RW y ρ Hh w1 v) (es : setIx w2 w3 w1 h = some h4) :
    ∃ (a : Addr) (vs : List V) (k : Int) (j : Nat), u = .ref a ∧ z = .int k ∧ Hh a = some (.lst vs) ∧ ixN vs.length k = some j ∧ RH y ρ (upd Hh a (.lst (vs.set j v))) h4 ∧ Nxt ρ Hh ρ (upd Hh a (.lst (vs.set j v))) := by
  cases w2 with
  | r n =>
    cases w3 with
    | d x =>
      cases x with
      | int k =>
        obtain ⟨a, ea, rfl⟩ := r2
        simp only [RW, RD] at r3
        subst r3
        unfold setIx at es
        dsimp only at es
        cases ex : h[n]? with
        | none => rw [ex] at es; cases es
        | some o =>
          rw [ex] at es
          cases o with
          | lst xs =>
            dsimp only at es
            cases ei : ixn xs.length k with
            | none => rw [ei] at es; cases es
            | some j =>
              rw [ei] at es
              cases es
              obtain ⟨a', vs, e1, e2, e3⟩ := rh.list ex
              rw [ea] at e1; cases e1
              have nx : Nxt ρ Hh ρ (upd Hh a (.lst (vs.set j v))) := ⟨⟨[], by simp⟩, rh.upd_ext ea⟩
              exact ⟨a, vs, k, j, rfl, rfl, e2, by rw [← e3.length, ← ixn_eq]; exact ei, rh.put (o := .lst (xs.set j w1)) (u := .lst (vs.set j v)) ea ⟨_, upd_same, Pw.set (r1.nxt nx) j (RWs.nxt nx e3)⟩⟩
          | dic _ => cases es
          | ins _ _ => cases es
      | _ => cases es
    | _ => cases es
  | _ => cases w3 <;> cases es
theorem st_setI {o i e : Expr} {o' i' e' : E} {p pos : Pos} (hn : notComp e = true) (hsl : notSlice i = true) (ho : SE g o o') (hi : SE g i i') (he : SE g e e') : SS g XS (.Assign [.Subscript o i p] e pos) (.setI o' i' e') := fun X y xc C Wx k => by
  refine PS.imp (ps_asg (he X y xc C Wx k.ok) (pg_sub (ho X y xc C Wx k.ok) (hi X y xc C Wx k.ok) set_list (by intro v; cases i <;> first | rfl | cases hsl)) (sole_no hn) (by cases e <;> rfl)) fun D τ Hh ⟨ρ, σ, h, rs, rh, go⟩ => ?_
  unfold exec at go
  refine ⟨ρ, σ, h, rs, rh, (GoS.onE rs go).imp fun v H1 ⟨ρ1, w1, h1, n1, rh1, r1, go1⟩ => ⟨ρ1, σ, h1, rs.nxt n1, rh1, (GoS.onE (rs.nxt n1) go1).imp fun u H2 ⟨ρ2, w2, h2, n2, rh2, r2, go2⟩ => ⟨ρ2, σ, h2, (rs.nxt n1).nxt n2, rh2, (GoS.onE ((rs.nxt n1).nxt n2) go2).imp fun z H3 ⟨ρ3, w3, h3, n3, rh3, r3, go3⟩ => ?_⟩⟩⟩
  cases es : setIx w2 w3 w1 h3 with
  | none => rw [es] at go3; exact go3.elim
  | some h4 =>
    rw [es] at go3
    obtain ⟨a, vs, k1, j, e1, e2, e3, e4, e5⟩ := setIx_ok (u := u) rh3 (r2.nxt n3) r3 (r1.nxt (n2.trans n3)) es
    obtain ⟨rh4, n4⟩ := e5
    exact ⟨a, vs, k1, j, e1, e2, e3, e4, go3 ρ3 _ τ n4 (rs.nxt (n1.trans (n2.trans (n3.trans n4)))) rh4⟩
def rAug (y : Y) (XX : Exc → Hp → Prop) (o : BOp) : TIp := fun v u Hh Q => ∃ ρ w1 w2 h, RH y ρ Hh h ∧ RW y ρ Hh w1 v ∧ RW y ρ Hh w2 u ∧ Go y ρ Hh (RW y) XX (augOp o w1 w2 h) Q
theorem aug_ok {X : Cx} {y : Y} {XX : Exc → Hp → Prop} {op : Operator} {o : BOp} (h : (op = .Add ∧ o = .add) ∨ (op = .Sub ∧ o = .sub) ∨ (op = .Mult ∧ o = .mul)) : PIp X op (rAug y XX o) := by
  intro pins s τ Hh v u v' u' Q I rv ru ⟨ρ, w1, w2, hh, rh, r1, r2, go⟩
  unfold augOp at go
  split at go
  case h_1 i j =>
    simp only [RW, RD] at r1 r2
    rcases h with ⟨rfl, _⟩ | ⟨_, e⟩ | ⟨_, e⟩
    · exact iop_add pins s τ Hh v u v' u' Q I rv ru ⟨_, _, r1, r2, go ρ Hh _ .refl rh (by simp only [RW, RD])⟩
    · cases e
    · cases e
  case h_2 a b =>
    simp only [RW, RD] at r1 r2
    rcases h with ⟨rfl, _⟩ | ⟨_, e⟩ | ⟨_, e⟩
    · split at go
      case isFalse => exact go.elim
      case isTrue hz =>
        refine iop_add_str pins s τ Hh v u v' u' Q I rv ru ⟨_, _, r1, r2, ?_, go ρ Hh _ .refl rh ?_⟩
        · rw [strV_len, strV_len, ← sz_eq]; exact hz
        · simp only [RW, RD]; rw [strV_app]
    · cases e
    · cases e
  case h_3 i j =>
    simp only [RW, RD] at r1 r2
    rcases h with ⟨_, e⟩ | ⟨rfl, _⟩ | ⟨_, e⟩
    · cases e
    · exact iop_sub pins s τ Hh v u v' u' Q I rv ru ⟨_, _, r1, r2, go ρ Hh _ .refl rh (by simp only [RW, RD])⟩
    · cases e
  case h_4 i j =>
    simp only [RW, RD] at r1 r2
    rcases h with ⟨_, e⟩ | ⟨_, e⟩ | ⟨rfl, _⟩
    · cases e
    · cases e
    · split at go
      case isFalse => exact go.elim
      case isTrue hz => exact iop_mul pins s τ Hh v u v' u' Q I rv ru ⟨_, _, r1, r2, mulOk_ok hz, go ρ Hh _ .refl rh (by simp only [RW, RD])⟩
  case h_5 => exact go.elim
theorem st_aug {x : Str} {i : Nat} {op : Operator} {o : BOp} {e : Expr} {e' : E} {p pos : Pos} (ho : (op = .Add ∧ o = .add) ∨ (op = .Sub ∧ o = .sub) ∨ (op = .Mult ∧ o = .mul)) (hi : g.N[i]? = some x) (hs : Sto g x) (he : SE g e e') : SS g XS (.AugAssign (.Name x p) op e pos) (.aug i o e') := fun X y xc C Wx k => by
  refine ⟨fun pins s τ Hh D I ⟨ρ, σ, h, rs, rh, go⟩ => ?_⟩
  refine (ps_aug (i := i) k.ok.nd (by rw [k.ok.N]; exact hi) (hs.loc k.ok.sc) (he X y xc C Wx k.ok) (aug_ok (y := y) (XX := XW y xc Wx τ) ho) (hs.fn k.ok.sc k.ok.fnx)).run pins s τ Hh D I ?_
  unfold exec at go
  cases e0 : σ[i]? with
  | none => rw [e0] at go; exact go.elim
  | some o =>
    rw [e0] at go
    cases o with
    | none => exact go.elim
    | some w =>
      obtain ⟨v, ev, rv⟩ := rs.at_ i w e0
      refine ⟨v, ev, ρ, σ, h, rs, rh, (GoS.onE rs go).imp fun u H1 ⟨ρ1, w1, h1, n1, rh1, r1, go1⟩ => ?_⟩
      refine ⟨ρ1, w, w1, h1, rh1, rv.nxt n1, r1, (GoS.onE (rs.nxt n1) go1).imp fun z H2 ⟨ρ2, w2, h2, n2, rh2, r2, go2⟩ => ?_⟩
      exact go2 ρ2 H2 _ .refl (((rs.nxt n1).nxt n2).set (k.cold hi hs) r2) rh2
theorem st_if {c : Expr} {a b : List Stmt} {c' : E} {a' b' : S} {pos : Pos} (hc : ST g c c') (ha : SB g XS a a') (hb : SB g XS b b') : SS g XS (.If c a b pos) (.ife c' a' b') := fun X y xc C Wx k => by
  refine PS.imp (ps_if (hc X y xc C Wx k.ok) (ha X y xc C Wx k) (hb X y xc C Wx k)) fun D τ Hh ⟨ρ, σ, h, rs, rh, go⟩ => ?_
  unfold exec at go
  refine ⟨ρ, σ, h, rs, rh, (GoS.onE rs go).imp fun v H1 ⟨ρ1, w1, h1, n1, rh1, r1, go1⟩ => ?_⟩
  subst r1
  cases v with
  | true => exact ⟨ρ1, σ, h1, rs.nxt n1, rh1, go1⟩
  | false => exact ⟨ρ1, σ, h1, rs.nxt n1, rh1, go1⟩
theorem st_ret {e : Expr} {e' : E} {pos : Pos} (he : SE g e e') : SS g XS (.Return (some e) pos) (.ret (.some e')) := fun X y xc C Wx k => by
  refine PS.imp (ps_ret (he X y xc C Wx k.ok)) fun D τ Hh ⟨ρ, σ, h, rs, rh, go⟩ => ?_
  unfold exec at go
  exact ⟨ρ, σ, h, rs, rh, (GoS.onE rs go).imp fun v H1 ⟨ρ1, w1, h1, n1, rh1, r1, go1⟩ => go1 ρ1 H1 v .refl rh1 r1⟩
theorem st_retN {pos : Pos} : SS g XS (.Return none pos) (.ret .none) := fun X y xc C Wx k => by
  refine PS.imp ps_retN fun D τ Hh ⟨ρ, σ, h, rs, rh, go⟩ => ?_
  unfold exec at go
  exact go ρ Hh .non .refl rh (by simp only [RW, RD])
theorem st_whl {c : Expr} {b : List Stmt} {c' : E} {b' : S} {pos : Pos} (hc : ST g c c') (hb : SB g XS b b') : SS g XS (.While c b [] pos) (.whl c' b') := fun X y xc C Wx k => by
  refine PS.imp (ps_while k.ok.own (hc X y xc C Wx k.ok) (hb X y xc C Wx k)) fun D τ Hh ⟨ρ, σ, h, rs, rh, go⟩ => ?_
  unfold exec at go
  generalize FUEL = fuel at go
  refine ⟨fun m τ Hh => ∃ ρ σ h, RS y ρ Hh σ τ ∧ RH y ρ Hh h ∧ GoS y xc ρ Hh Wx (whlL (fun σ => evT C σ c') (fun σ h => exec XS C b' σ h) m σ h) D, ⟨fuel, ρ, σ, h, rs, rh, go⟩, ?_⟩
  rintro m τ Hh ⟨ρ, σ, h, rs, rh, go⟩
  cases m with
  | zero => exact go.elim
  | succ m =>
    unfold whlL at go
    refine ⟨ρ, σ, h, rs, rh, (GoS.onE rs go).imp fun v H1 ⟨ρ1, w1, h1, n1, rh1, r1, go1⟩ => ?_⟩
    subst r1
    cases v with
    | false => exact go1 ρ1 H1 τ .refl (rs.nxt n1) rh1
    | true =>
      refine ⟨fun τ Hh => ∃ ρ σ h, RS y ρ Hh σ τ ∧ RH y ρ Hh h ∧ GoS y xc ρ Hh Wx (whlL (fun σ => evT C σ c') (fun σ h => exec XS C b' σ h) m σ h) D, fun τ' H' q => ⟨m, Nat.lt_succ_self _, q⟩, ⟨ρ1, σ, h1, rs.nxt n1, rh1, ?_⟩⟩
      dsimp only at go1
      cases e : exec XS C b' σ h1 with
      | none => rw [e] at go1; exact go1.elim
      | some o =>
        rw [e] at go1
        cases o with
        | ex x σ1 h2 => exact go1
        | ok f h2 =>
          cases f with
          | nx σ1 => exact fun ρ' H' τ' n rs' rh' => ⟨ρ', σ1, h2, rs', rh', go1.mono n⟩
          | ct σ1 => exact fun ρ' H' τ' n rs' rh' => ⟨ρ', σ1, h2, rs', rh', go1.mono n⟩
          | bk σ1 => exact go1
          | rt w => exact go1
theorem st_for {tg iter : Expr} {tg' : T} {it' : It} {b : List Stmt} {b' : S} {pos : Pos} (hc : g.calm = true) (hs : notSet iter = true) (ht : TT' g tg tg') (hi : SI g tg iter it') (hb : SB g XS b b') : SS g XS (.For tg iter b [] pos) (.for tg' it' b') := fun X y xc C Wx k => by
  refine PS.imp (ps_for k.ok.own (k.ok.calm hc) (hi X y xc C Wx hc k.ok) (pg_of k.ok.N k.ok.nd k.ok.sc k.ok.fnx k.ok.K (k.ok.calm hc) (k.ok.nohot hc) ht) (hb X y xc C Wx k) (notSet_fold hs)) fun D τ Hh ⟨ρ, σ, h, rs, rh, go⟩ => ?_
  unfold exec at go
  refine ⟨ρ, σ, h, rs, rh, (GoS.onE rs go).imp fun J H1 ⟨ρ1, wk, h1, n1, rh1, wok, go1⟩ => ?_⟩
  refine ⟨fun i m τ Hh => m = wk.items.length - i ∧ i ≤ wk.items.length ∧ ∃ ρ σ h, Nxt ρ1 H1 ρ Hh ∧ RS y ρ Hh σ τ ∧ RH y ρ Hh h ∧ GoS y xc ρ Hh Wx (forL wk.gs tg' (fun σ h => exec XS C b' σ h) (wk.items.drop i) σ h) D, ⟨_, rfl, Nat.zero_le _, ρ1, σ, h1, .refl, rs.nxt n1, rh1, by simpa using go1⟩, ?_⟩
  rintro i m τ Hh ⟨rfl, hi', ρ', σ', h', n', rs', rh', go'⟩
  by_cases hlt : i < wk.items.length
  · right
    rw [List.drop_eq_getElem_cons hlt] at go'
    unfold forL at go'
    split at go'
    case isFalse => exact go'.elim
    case isTrue hst =>
      obtain ⟨turn, _⟩ := wok ρ' Hh h' n' rh' hst
      obtain ⟨hgo, hy⟩ := turn i _ (List.getElem?_eq_getElem hlt)
      refine ⟨hgo, fun τ Hh => ∃ ρ σ h, Nxt ρ1 H1 ρ Hh ∧ RS y ρ Hh σ τ ∧ RH y ρ Hh h ∧ GoS y xc ρ Hh Wx (forL wk.gs tg' (fun σ h => exec XS C b' σ h) (wk.items.drop (i + 1)) σ h) D, fun τ2 H2 ⟨ρ2, σ2, h2, a, b, c, d⟩ => ⟨_, by omega, rfl, hlt, ρ2, σ2, h2, a, b, c, d⟩, fun v H2 hv => ?_⟩
      obtain ⟨n2, rh2, ri⟩ := hy v H2 hv
      split at go'
      case h_1 => exact go'.elim
      case h_2 σ1 et =>
        refine ⟨ρ', σ', h', _, σ1, rs'.nxt n2, rh2, ri, et, fun τ' rs1 => ⟨ρ', σ1, h', rs1, rh2, ?_⟩⟩
        cases e : exec XS C b' σ1 h' with
        | none => rw [e] at go'; exact go'.elim
        | some o =>
          rw [e] at go'
          have go2 := GoS.mono n2 go'
          cases o with
          | ex x σ2 h2 => exact go2
          | ok f h2 =>
            cases f with
            | nx σ2 => exact fun ρ3 H3 τ3 n3 rs3 rh3 => ⟨ρ3, σ2, h2, n'.trans (n2.trans n3), rs3, rh3, go2.mono n3⟩
            | ct σ2 => exact fun ρ3 H3 τ3 n3 rs3 rh3 => ⟨ρ3, σ2, h2, n'.trans (n2.trans n3), rs3, rh3, go2.mono n3⟩
            | bk σ2 => exact go2
            | rt w => exact go2
  · have hi2 : i = wk.items.length := by omega
    subst hi2
    rw [List.drop_length] at go'
    unfold forL at go'
    split at go'
    case isFalse => exact go'.elim
    case isTrue hst =>
      obtain ⟨_, hstop⟩ := wok ρ' Hh h' n' rh' hst
      exact .inl ⟨hstop, go' ρ' Hh τ .refl rs' rh'⟩
end
end DI

/-! DI2g: raise, try, isinstance of what was caught; defs and calls. -/
namespace DI
open PySem L2

section
variable {g : Gm} {XS : List XCls}
/-! ### the exception at hand -/
theorem names_of {X : Cx} {xc : Nat → Option Addr} {T : Str} {cs : List Nat} {c : Value} (h : HOk X xc T cs c) (hg : Gl X T) (hd : (T == ("__debug__" : Str)) = false) : Names X T c := by
  refine ⟨hg, hd, ?_⟩
  rcases h.cls with ⟨D, _, e⟩ | ⟨n, _, e1, e2⟩
  · exact .inl e
  · exact .inr ⟨e1, e2, h.nm⟩
theorem pe_cls {X : Cx} {xc : Nat → Option Addr} {T : Str} {cs : List Nat} {c : Value} {p : Pos} (h : HOk X xc T cs c) (hg : Gl X T) (hd : (T == ("__debug__" : Str)) = false) : ∃ u, ClsV u c ∧ PE X (.Name T p) (tC u) := by
  rcases h.cls with ⟨D, rfl, e⟩ | ⟨n, rfl, e1, e2⟩
  · exact ⟨.ref D, .own D, pe_glob hg e rfl hd⟩
  · exact ⟨.ty n, .ty n, pe_bltn hg e1 e2 rfl h.nm hd⟩
theorem clsv_rel {u : V} {c : Value} (h : ClsV u c) : RelV u c := by
  cases h <;> rfl
theorem hot_get {X : Cx} {y : Y} {xc : Nat → Option Addr} {C : Calls} {Wx : WX} {x : Str} (k : Cok g X y xc C Wx) (hx : g.hot = some x) : ∃ i v xo, y.hot = some (i, v) ∧ g.N[i]? = some x ∧ C.x = some xo ∧ (∀ T cs c, HOk X xc T cs c → IsR X v c (cs.contains xo.c)) ∧
    ∀ l : List (Str × List Nat × Value), l ≠ [] → (∀ p ∈ l, HOk X xc p.1 p.2.1 p.2.2) → IsT X v (l.map (·.2.2)) (l.any fun p => p.2.1.contains xo.c) := by
  obtain ⟨⟨i, v⟩, e⟩ := k.hot' x hx
  obtain ⟨_, x', xo, h1, h2, h3, h4, h5⟩ := k.hot i v e
  rw [hx] at h1
  cases h1
  exact ⟨i, v, xo, e, h2, h3, h4, h5⟩
theorem s_isx {x T : Str} {cs : List Nat} {p p1 p2 pos : Pos} (hg : g.G.lookup (Str.ofString "isinstance") = some .bltn) (hk : gl g "isinstance") (hx : g.hot = some x) (hv : Vis g.sc x) (hT : g.Hd.lookup T = some cs) (hgT : gl g T)
    (hd : (x == ("__debug__" : Str)) = false) (hcd : (x == ("__classdict__" : Str)) = false) (hdT : (T == ("__debug__" : Str)) = false) : SE g (.Call (.Name "isinstance" p) [.Name x p1, .Name T p2] [] pos) (.isx cs) := fun X y xc C Wx k => by
  obtain ⟨i, v, xo, h1, h2, h3, h4, _⟩ := hot_get k hx
  obtain ⟨c, hc⟩ := k.hd T cs hT
  obtain ⟨u, hu, pu⟩ := pe_cls (p := p2) hc (k.gl hgT) hdT
  refine PE.imp (pe_callB (x := "isinstance") (h4 T cs c hc u (clsv_rel hu)) (k.gl hk) (k.glob _ _ hg) PyProof.Rows.boot_isinstance (pa_cons (pe_var (i := i) (by rw [k.N]; exact h2) (by rw [k.sc]; exact hv) hd hcd) (pa_cons pu pa_nil))) fun τ Hh Q ⟨ρ, σ, h, rs, rh, go⟩ => ?_
  unfold ev at go
  rw [h3] at go
  obtain ⟨w, e, q⟩ := go.opt rh
  cases e
  exact ⟨v, rs.hot i v h1, rfl, q _ (by simp only [RW, RD])⟩
/-- the texts of several classes: their names -/
def Clss (g : Gm) : List Expr → List (Str × List Nat) → Prop
  | [], l => l = []
  | e :: es, l => ∃ T p cs r, e = .Name T p ∧ l = (T, cs) :: r ∧ g.Hd.lookup T = some cs ∧ gl g T ∧ (T == ("__debug__" : Str)) = false ∧ Clss g es r
theorem clss_get {X : Cx} {y : Y} {xc : Nat → Option Addr} {C : Calls} {Wx : WX} (k : Cok g X y xc C Wx) : ∀ {es : List Expr} {l : List (Str × List Nat)}, Clss g es l →
    ∃ (l' : List (Str × List Nat × Value)) (us : List V), l'.map (fun p => (p.1, p.2.1)) = l ∧ (∀ p ∈ l', HOk X xc p.1 p.2.1 p.2.2) ∧ Paired ClsV us (l'.map (·.2.2)) ∧ us.length = l.length ∧ PA X es (fun _ Hh Q => Q us Hh)
  | [], l, h => by
    have e : l = [] := h
    subst e
    exact ⟨[], [], rfl, fun _ hp => absurd hp (by simp), .nil, rfl, pa_nil⟩
  | e :: es, l, ⟨T, p, cs, r, e1, e2, h1, h2, h3, h4⟩ => by
    subst e1 e2
    obtain ⟨l', us, q1, q2, q3, q4, q5⟩ := clss_get k h4
    obtain ⟨c, hc⟩ := k.hd T cs h1
    obtain ⟨u, hu, pu⟩ := pe_cls (p := p) hc (k.gl h2) h3
    exact ⟨(T, cs, c) :: l', u :: us, by simp [q1], fun p hp => (List.mem_cons.mp hp).elim (fun e => e ▸ hc) (q2 p), .cons hu q3, by simp [q4], PA.imp (pa_cons pu q5) fun τ Hh Q q => q⟩
theorem isx_any {n : Nat} : ∀ {l : List (Str × List Nat × Value)}, ((l.map fun p => (p.1, p.2.1)).flatMap (·.2)).contains n = l.any fun p => p.2.1.contains n
  | [] => rfl
  | a :: l => by
    rw [List.map_cons, List.flatMap_cons, List.any_cons, ← isx_any (l := l)]
    simp only [List.contains_eq_mem, List.mem_append, Bool.decide_or]
theorem s_isxT {x : Str} {es : List Expr} {l : List (Str × List Nat)} {n : Nat} {p p1 p2 pos : Pos} (hg : g.G.lookup (Str.ofString "isinstance") = some .bltn) (hk : gl g "isinstance") (hx : g.hot = some x) (hv : Vis g.sc x) (hl : Clss g es l) (hne : l ≠ []) (hz : l.length ≤ 100)
    (hd : (x == ("__debug__" : Str)) = false) (hcd : (x == ("__classdict__" : Str)) = false) : SE g (.Call (.Name "isinstance" p) [.Name x p1, .Tuple es n p2] [] pos) (.isx (l.flatMap (·.2))) := fun X y xc C Wx k => by
  obtain ⟨i, v, xo, h1, h2, h3, _, h5⟩ := hot_get k hx
  obtain ⟨l', us, q1, q2, q3, q4, q5⟩ := clss_get k hl
  have hne' : l' ≠ [] := fun e => hne (by rw [← q1, e]; rfl)
  refine PE.imp (pe_callB (x := "isinstance") (h5 l' hne' q2 us q3) (k.gl hk) (k.glob _ _ hg) PyProof.Rows.boot_isinstance (pa_cons (pe_var (i := i) (by rw [k.N]; exact h2) (by rw [k.sc]; exact hv) hd hcd) (pa_cons (pe_tup q5) pa_nil))) fun τ Hh Q ⟨ρ, σ, h, rs, rh, go⟩ => ?_
  unfold ev at go
  rw [h3] at go
  have e : (l.flatMap (·.2)).contains xo.c = l'.any fun p => p.2.1.contains xo.c := by
    rw [← q1]
    exact isx_any
  refine ⟨v, rs.hot i v h1, by rw [q4, sizeLine_eq]; omega, fun tp hp => ⟨tp, rfl, upd_same, ?_⟩⟩
  obtain ⟨rh', n'⟩ := rh.other (u := .tup us) hp
  rw [← e]
  exact go ρ _ _ n' rh' (by simp only [RW, RD])
theorem t_isx {a : Expr} {cs : List Nat} (hp : plainTest a = true) (ha : SE g a (.isx cs)) : ST g a (.isx cs) := t_val hp ha fun C σ => by
  unfold evT ev M.opt M.bind M.ask
  cases C.x with
  | none => rfl
  | some x => rfl

/-! ### raise -/
theorem mk_plain {i : Nat} {ws : List W} {xo : Exc} (hX : XS[i]?.map (·.fields) = some []) (em : mkExc XS i ws = some xo) : xo = ⟨i, []⟩ ∧ ws.length ≤ SZ := by
  unfold mkExc at em
  cases eX : XS[i]? with
  | none => rw [eX] at em; cases em
  | some kk =>
    rw [eX] at em hX
    have hf : kk.fields = [] := Option.some.inj hX
    dsimp only at em
    rw [hf] at em
    split at em
    case h_1 => cases em
    case h_2 =>
      split at em
      case isFalse => cases em
      case isTrue hz => exact ⟨(Option.some.inj em).symm, hz⟩
theorem st_raise {x : Str} {i : Nat} {e : Expr} {es : List Expr} {es' : Es} {p p2 pos : Pos} (hc : g.calm = true) (hg : g.G.lookup x = some (.xc i)) (hk : gl g x) (hX : XS[i]?.map (·.fields) = some []) (hd : (x == ("__debug__" : Str)) = false) (hn : (e :: es).all nst = true) (hs : SA g (e :: es) es') (hz : (e :: es).length ≤ 100) :
    SS g XS (.Raise (some (.Call (.Name x p) (e :: es) [] p2)) none pos) (.raise i es') := fun X y xc C Wx k => by
  obtain ⟨D, hD, hm, ok⟩ := k.ok.glob x _ hg
  rw [List.all_cons, Bool.and_eq_true] at hn
  refine PS.imp (ps_raise (k.ok.calm hc) k.ok.tk (pmk_ownA PySem.F.excBase_ValueError ok.exc hm ok.kp (raises_own ok.sub ok.ty) (k.ok.gl hk) (hs X y xc C Wx k.ok) hd (star_cons hn.1) (star_any hn.2))) fun D0 τ Hh ⟨ρ, σ, h, rs, rh, go⟩ => ?_
  unfold exec at go
  refine ⟨ρ, σ, h, rs, rh, (GoS.onE rs go).imp fun vs H1 ⟨ρ1, ws, h1, n1, rh1, r1, go1⟩ => ?_⟩
  cases em : mkExc XS i ws with
  | none => rw [em] at go1; exact go1.elim
  | some xo =>
    rw [em] at go1
    obtain ⟨exo, hlen⟩ := mk_plain hX em
    subst exo
    refine ⟨?_, go1 ρ1 H1 τ _ _ .refl (rs.nxt n1) rh1 ⟨D, hD, rfl, rfl, rfl⟩⟩
    rw [← r1.length, ← sz_eq]
    exact hlen
end
end DI

/-! DI3: the defs: each keeps what the evaluator says, at every level of calls. -/
namespace DI
open PySem L2

/-! ### what is thrown away behind a call -/
section
variable {y : Y} {ρ ρ1 : List Addr} {Hh H1 : Hp} {h h1 : H}
theorem take_at {ρ t : List Addr} {m : Nat} {a : Addr} (e : (ρ ++ t)[m]? = some a) (h : m < ρ.length) : ρ[m]? = some a := by
  rw [List.getElem?_append_left h] at e
  exact e
theorem RW.cut {s t : List Addr} {w : W} {v : V} (r : RW y (ρ ++ s) H1 w v) (hb : w.below ρ.length = true) : RW y (ρ ++ t) H1 w v := by
  cases w with
  | d x => exact r
  | ro xs => exact r
  | fn i => exact r
  | r m =>
    obtain ⟨a, e, rfl⟩ := r
    have hm : m < ρ.length := of_decide_eq_true hb
    exact ⟨a, by rw [List.getElem?_append_left hm]; exact take_at e hm, rfl⟩
theorem Pw.cut {s t : List Addr} : ∀ {ws : List W} {vs : List V}, Pw (RW y (ρ ++ s) H1) ws vs → ws.all (W.below ρ.length) = true → Pw (RW y (ρ ++ t) H1) ws vs
  | [], _, e, _ => e
  | w :: ws, _, ⟨v, r, e, h1, h2⟩, h => by
    rw [List.all_cons, Bool.and_eq_true] at h
    exact ⟨v, r, e, h1.cut h.1, Pw.cut h2 h.2⟩
theorem Pw.cutK {s t : List Addr} : ∀ {kvs : List (D × W)} {ps : List (Key × V)}, Pw (fun (p : D × W) (q : Key × V) => RK p.1 q.1 ∧ RW y (ρ ++ s) H1 p.2 q.2) kvs ps → (kvs.all fun p => p.2.below ρ.length) = true →
    Pw (fun (p : D × W) (q : Key × V) => RK p.1 q.1 ∧ RW y (ρ ++ t) H1 p.2 q.2) kvs ps
  | [], _, e, _ => e
  | w :: ws, _, ⟨v, r, e, h1, h2⟩, h => by
    rw [List.all_cons, Bool.and_eq_true] at h
    exact ⟨v, r, e, ⟨h1.1, h1.2.cut h.1⟩, Pw.cutK h2 h.2⟩
theorem RO.cut {s t : List Addr} {o : O} {a : Addr} (r : RO y (ρ ++ s) H1 o a) (hb : o.below ρ.length = true) : RO y (ρ ++ t) H1 o a := by
  cases o with
  | lst xs =>
    obtain ⟨vs, e, p⟩ := r
    exact ⟨vs, e, p.cut hb⟩
  | dic kvs =>
    obtain ⟨vs, e, p⟩ := r
    exact ⟨vs, e, p.cutK hb⟩
  | ins _ _ => exact r.elim
theorem all_at {l : List O} {n i : Nat} {o : O} (h : l.all (O.below n) = true) (e : l[i]? = some o) : o.below n = true := List.all_eq_true.mp h o (List.mem_of_getElem? e)
theorem take_lt {l : List O} {n i : Nat} {o : O} (e : (l.take n)[i]? = some o) : l[i]? = some o ∧ i < n := by
  have h := (List.getElem?_eq_some_iff.mp e).1
  rw [List.length_take] at h
  have h2 : i < n := by omega
  rw [List.getElem?_take_of_lt h2] at e
  exact ⟨e, h2⟩
theorem gcx_ok (rh : RH y ρ Hh h) (n1 : Nxt ρ Hh ρ1 H1) (rh1 : RH y ρ1 H1 h1) : ∃ ρ2, Nxt ρ Hh ρ2 H1 ∧ RH y ρ2 H1 (gcx h.length h1) := by
  unfold gcx
  by_cases hb : (h1.take h.length).all (O.below h.length) = true
  · rw [if_pos hb]
    obtain ⟨⟨t, rfl⟩, ex⟩ := n1
    have hl := rh1.len
    rw [List.length_append, rh.len] at hl
    refine ⟨ρ, ⟨⟨[], by simp⟩, ex⟩, by rw [List.length_take, rh.len]; omega, (List.nodup_append.mp rh1.nd).1, fun i a o e1 e2 => ?_⟩
    have hi : i < ρ.length := (List.getElem?_eq_some_iff.mp e1).1
    obtain ⟨e3, _⟩ := take_lt e2
    have q := rh1.at_ i a o (by rw [List.getElem?_append_left hi]; exact e1) e3
    have hb' := all_at hb e2
    rw [← rh.len] at hb'
    simpa using RO.cut (t := []) q hb'
  · rw [if_neg hb]
    exact ⟨ρ1, n1, rh1⟩
theorem gc_ok {w : W} {v : V} (rh : RH y ρ Hh h) (n1 : Nxt ρ Hh ρ1 H1) (rh1 : RH y ρ1 H1 h1) (r1 : RW y ρ1 H1 w v) : ∃ ρ2, Nxt ρ Hh ρ2 H1 ∧ RH y ρ2 H1 (gc h.length w h1).2 ∧ RW y ρ2 H1 (gc h.length w h1).1 v := by
  unfold gc
  by_cases hb : (h1.take h.length).all (O.below h.length) = true
  · rw [if_pos hb]
    have q0 := gcx_ok rh n1 rh1
    unfold gcx at q0
    rw [if_pos hb] at q0
    obtain ⟨⟨t, rfl⟩, ex⟩ := n1
    have hl := rh1.len
    rw [List.length_append, rh.len] at hl
    have base : RH y ρ H1 (h1.take h.length) := by
      refine ⟨by rw [List.length_take, rh.len]; omega, (List.nodup_append.mp rh1.nd).1, fun i a o e1 e2 => ?_⟩
      have hi : i < ρ.length := (List.getElem?_eq_some_iff.mp e1).1
      obtain ⟨e3, _⟩ := take_lt e2
      have q := rh1.at_ i a o (by rw [List.getElem?_append_left hi]; exact e1) e3
      have hb' := all_at hb e2
      rw [← rh.len] at hb'
      simpa using RO.cut (t := []) q hb'
    have nx : Nxt ρ Hh ρ H1 := ⟨⟨[], by simp⟩, ex⟩
    cases w with
    | d x => exact ⟨ρ, nx, base, r1⟩
    | ro xs => exact ⟨ρ, nx, base, r1⟩
    | fn i => exact ⟨ρ, nx, base, r1⟩
    | r m =>
      dsimp only
      by_cases hm : m < h.length
      · rw [if_pos hm]
        refine ⟨ρ, nx, base, ?_⟩
        have q := RW.cut (t := []) r1 (by rw [rh.len]; exact decide_eq_true hm)
        simpa using q
      · rw [if_neg hm]
        cases eo : h1[m]? with
        | none => exact ⟨_, ⟨⟨t, rfl⟩, ex⟩, rh1, r1⟩
        | some o =>
          dsimp only
          by_cases hbo : o.below h.length = true
          · rw [if_pos hbo]
            obtain ⟨a, ea, rfl⟩ := r1
            have hlt : (h1.take h.length).length = h.length := by rw [List.length_take]; omega
            have hat : a ∈ t := by
              rw [List.getElem?_append_right (by rw [rh.len]; omega)] at ea
              exact List.mem_of_getElem? ea
            refine ⟨ρ ++ [a], ⟨⟨[a], rfl⟩, ex⟩, ⟨by rw [List.length_append, List.length_append, hlt, rh.len]; rfl, ?_, fun i b o' e1 e2 => ?_⟩, ⟨a, by rw [← rh.len, List.getElem?_append_right (Nat.le_refl _)]; simp, rfl⟩⟩
            · have nd := List.nodup_append.mp rh1.nd
              rw [List.nodup_append]
              exact ⟨nd.1, by simp, fun x hx z hz => by rw [List.mem_singleton.mp hz]; exact nd.2.2 x hx a hat⟩
            · by_cases hi : i < ρ.length
              · rw [List.getElem?_append_left hi] at e1
                rw [List.getElem?_append_left (by rw [hlt, ← rh.len]; exact hi)] at e2
                have e2' := e2
                obtain ⟨e3, _⟩ := take_lt e2
                have q := rh1.at_ i b o' (by rw [List.getElem?_append_left hi]; exact e1) e3
                have hb' := all_at hb e2'
                rw [← rh.len] at hb'
                exact RO.cut q hb'
              · rw [List.getElem?_append_right (by omega)] at e1
                rw [List.getElem?_append_right (by rw [hlt, ← rh.len]; omega), hlt, ← rh.len] at e2
                have z : i - ρ.length = 0 := by
                  by_cases z : i - ρ.length = 0
                  · exact z
                  · rw [List.getElem?_eq_none (by simp; omega)] at e1
                    cases e1
                rw [z] at e1 e2
                simp at e1 e2
                subst e1 e2
                have q := rh1.at_ m a o ea eo
                exact RO.cut q (by rw [rh.len]; exact hbo)
          · rw [if_neg hbo]
            exact ⟨_, ⟨⟨t, rfl⟩, ex⟩, rh1, r1⟩
  · rw [if_neg hb]
    exact ⟨ρ1, n1, rh1, r1⟩
end

/-! ### the defs -/
/-- a def of the text, and what is known of it without a run -/
structure DefT where
  x : Str
  st : Stmt
  N : List Str
  ps : List Str
/-- the def and its term: the text's part -/
structure DefOk (G : List (Str × Gv)) (Hd : List (Str × List Nat)) (XS : List XCls) (d : DefT) (f : Fn) : Prop where
  sc : FnScope d.N d.ps (defScope d.st)
  n : f.n = d.N.length
  ps : f.ps = d.ps.length
  body : SB ⟨d.N, defScope d.st, true, G, Hd, none, true⟩ XS (defBody d.st) f.body
/-- the defs, the classes as they stand behind the top -/
structure TopOk (K : PySem.W.Frag) (mg : Str → Option Value) (G : List (Str × Gv)) (Hd : List (Str × List Nat)) (ds : List DefT) (y : Y) (xc : Nat → Option Addr) : Prop where
  kk : y.K = K
  hot : y.hot = none
  fa : ∀ i a, y.fa i = some a → ∃ d, ds[i]? = some d ∧ ∃ fd, Fun K d.x d.x d.st a fd ∧ Binds K fd d.ps []
  glob : ∀ (X : Cx), X.K = K → X.mg = mg → ∀ x v, G.lookup x = some v → GOk X y xc x v
  hd : ∀ (X : Cx), X.K = K → X.mg = mg → ∀ T cs, Hd.lookup T = some cs → ∃ c, HOk X xc T cs c
/-- term by term -/
def DefsOk (G : List (Str × Gv)) (Hd : List (Str × List Nat)) (XS : List XCls) : List DefT → List Fn → Prop
  | [], [] => True
  | d :: ds, f :: fs => DefOk G Hd XS d f ∧ DefsOk G Hd XS ds fs
  | _, _ => False
theorem DefsOk.at_ {G : List (Str × Gv)} {Hd : List (Str × List Nat)} {XS : List XCls} : ∀ {ds : List DefT} {fs : List Fn} {i : Nat} {d : DefT}, DefsOk G Hd XS ds fs → ds[i]? = some d → ∃ f, fs[i]? = some f ∧ DefOk G Hd XS d f
  | [], [], i, d, _, e => by simp at e
  | d :: ds, f :: fs, 0, d', h, e => by
    simp at e
    subst e
    exact ⟨f, rfl, h.1⟩
  | d :: ds, f :: fs, i + 1, d', h, e => by
    obtain ⟨f', e1, e2⟩ := DefsOk.at_ (i := i) h.2 (by simpa using e)
    exact ⟨f', by simpa using e1, e2⟩
  | [], _ :: _, _, _, h, _ => h.elim
  | _ :: _, [], _, _, h, _ => h.elim
theorem start_rs {y : Y} {ρ : List Addr} {Hh : Hp} {ws : List W} {vs : List V} {N : List Str} (hh : y.hot = none) (pw : Pw (RW y ρ Hh) ws vs) : RS y ρ Hh (start N.length ws) (L2.start N vs) := by
  have hl := pw.length
  refine ⟨by unfold start L2.start; simp [hl], fun i w e => ?_, fun i v e => by rw [hh] at e; cases e⟩
  unfold start at e
  by_cases hi : i < ws.length
  · rw [List.getElem?_append_left (by simpa using hi), List.getElem?_map] at e
    cases ew : ws[i]? with
    | none => rw [ew] at e; cases e
    | some w' =>
      rw [ew] at e
      cases e
      obtain ⟨v, ev, r⟩ := pw.get ew
      exact ⟨v, by unfold L2.start; rw [List.getElem?_append_left (by simp; omega), List.getElem?_map, ev]; rfl, r⟩
  · rw [List.getElem?_append_right (by simpa using hi), List.getElem?_replicate] at e
    split at e <;> cases e
section
variable {P : Program} {w : World} {K : PySem.W.Frag} {mg : Str → Option Value} {base : Heap} {G : List (Str × Gv)} {Hd : List (Str × List Nat)} {XS : List XCls} {ds : List DefT} {y : Y} {xc : Nat → Option Addr} {fs : List Fn}
theorem fns_ok (T : TopOk K mg G Hd ds y xc) (D : DefsOk G Hd XS ds fs) : ∀ (k i : Nat) (a : Addr) (d : DefT) (fd : FuncData), y.fa i = some a → ds[i]? = some d → Fun K d.x d.x d.st a fd →
    FnOk P w K mg base (L2.CX P w) k a fd d.ps (spI y xc (call ⟨fs, XS⟩ k) i)
  | 0, i, a, d, fd, ea, ed, F => by
    have no : ∀ vs H Q E, ¬ spI y xc (call ⟨fs, XS⟩ 0) i vs H Q E := fun vs H Q E ⟨ρ, ws, h, rh, pw, go⟩ => go
    exact ⟨fun vs H Q E h => absurd h (no vs H Q E), fun A outer s H args us vs Q E _ _ _ _ h => absurd h (no vs H Q E)⟩
  | k + 1, i, a, d, fd, ea, ed, F => by
    obtain ⟨f, ef, ok⟩ := D.at_ ed
    have call_eq : ∀ ws h, (call ⟨fs, XS⟩ (k + 1)).f i ws h = if ws.length = f.ps then (match exec XS ⟨callF ⟨fs, XS⟩ k, none⟩ f.body (start f.n ws) h with
        | some (.ok (.nx _) h') => some (.ok (gc h.length (.d .non) h').1 (gc h.length (.d .non) h').2)
        | some (.ok (.rt w) h') => some (.ok (gc h.length w h').1 (gc h.length w h').2)
        | some (.ex x _ h') => some (.ex x (gcx h.length h'))
        | _ => none) else none := fun ws h => by
      show callF ⟨fs, XS⟩ (k + 1) i ws h = _
      conv => lhs; unfold callF
      dsimp only
      first | (rw [ef]; done) | (rw [ef]; rfl)
    refine F.okX ok.sc (fun vs H Q E ⟨ρ, ws, h, rh, pw, go⟩ => ?_) (fun cdv A outer s H vs Q E hr ⟨ρ, ws, h, rh, pw, go⟩ => ?_)
    · rw [call_eq] at go
      split at go
      case isFalse => exact go.elim
      case isTrue hl => rw [← pw.length, hl, ok.ps]
    · rw [call_eq] at go
      split at go
      case isFalse => exact go.elim
      case isTrue hl =>
        have ks : Cks ⟨d.N, defScope d.st, true, G, Hd, none, true⟩ (cxOf (L2.CX P w) P w K mg base d.N d.x (defScope d.st) a cdv A outer s H E) y xc (call ⟨fs, XS⟩ k) (fun cls dd _ H => E cls dd H) := by
          refine ⟨⟨rfl, ok.sc.nd, rfl, T.kk, fun _ => rfl, ?_, fun x v e => T.glob _ rfl rfl x v e, fun _ j b ej => ?_, fun TT cs e => T.hd _ rfl rfl TT cs e, fun x e => (by cases e), fun j v e => (by rw [T.hot] at e; cases e), takes_of rfl rfl rfl rfl, passes_of rfl, fun _ _ => rfl⟩, rfl, rfl⟩
          · have := hr.un
            show (A.deeper _).units + 66 < cLine
            omega
          · obtain ⟨d', ed', fd', F', B'⟩ := T.fa j b ej
            exact ⟨F'.kp, fd', d'.ps, k, B', fns_ok T D k j b d' fd' ej ed' F', hr⟩
        refine ⟨_, ok.body _ y xc _ _ ks, ρ, start f.n ws, h, ?_, rh, ?_⟩
        · rw [ok.n]
          exact start_rs T.hot pw
        · unfold GoS
          cases e : exec XS ⟨callF ⟨fs, XS⟩ k, none⟩ f.body (start f.n ws) h with
          | none => rw [e] at go; exact go.elim
          | some o =>
            rw [e] at go
            cases o with
            | ex x σ1 h1 =>
              intro ρ' H' τ cls dd n' rs' rh' rx
              obtain ⟨ρ2, n2, rh2⟩ := gcx_ok rh n' rh'
              exact go ρ2 H' n2 rh2 cls dd rx
            | ok fl h1 =>
              cases fl with
              | nx σ1 =>
                intro ρ' H' τ n' rs' rh'
                obtain ⟨ρ2, n2, rh2, r2⟩ := gc_ok (w := .d .non) (v := .non) rh n' rh' (by simp only [RW, RD])
                exact go ρ2 H' _ n2 rh2 r2
              | rt wv =>
                intro ρ' H' v n' rh' rv
                obtain ⟨ρ2, n2, rh2, r2⟩ := gc_ok rh n' rh' rv
                exact go ρ2 H' _ n2 rh2 r2
              | bk σ1 => exact go.elim
              | ct σ1 => exact go.elim
end
end DI

/-! DI4: from the program's text to the evaluator's terms; each step carries its proof. -/
namespace DI
open PySem L2

def CE (g : Gm) (e : Expr) := Option { t : E // SE g e t }
def CT (g : Gm) (e : Expr) := Option { t : E // ST g e t }
structure Cc where
  e : (g : Gm) → (e : Expr) → Option { t : E // SE g e t }
  t : (g : Gm) → (e : Expr) → Option { t : E // ST g e t }
def cc0 : Cc := ⟨fun _ _ => none, fun _ _ => none⟩

instance {sc : Scope} {x : Str} : Decidable (Vis sc x) := by unfold Vis; infer_instance
instance {g : Gm} {x : Str} : Decidable (gl g x) := by unfold gl; infer_instance
instance {g : Gm} {x : Str} : Decidable (Sto g x) := by unfold Sto; infer_instance
def slot (x : Str) : (N : List Str) → Option { i : Nat // N[i]? = some x }
  | [] => none
  | a :: r => if h : a = x then some ⟨0, by simp [h]⟩ else match slot x r with
    | some ⟨i, p⟩ => some ⟨i + 1, by simpa using p⟩
    | none => none
/-- no name of the machine's own -/
def okN (x : Str) : Bool := !(x == ("__debug__" : Str)) && !(x == ("__classdict__" : Str)) && !(x == ("__name__" : Str))
theorem okN_d {x : Str} (h : okN x = true) : (x == ("__debug__" : Str)) = false := by
  unfold okN at h; simp only [Bool.and_eq_true, Bool.not_eq_true'] at h; exact h.1.1
theorem okN_c {x : Str} (h : okN x = true) : (x == ("__classdict__" : Str)) = false := by
  unfold okN at h; simp only [Bool.and_eq_true, Bool.not_eq_true'] at h; exact h.1.2
theorem okN_n {x : Str} (h : okN x = true) : x ≠ "__name__" := by
  unfold okN at h; simp only [Bool.and_eq_true, Bool.not_eq_true'] at h
  intro e; subst e; exact absurd h.2 (by decide)

section
variable {g : Gm} {XS : List XCls}

/-! ### names, constants -/
/-- a text as characters -/
def ofStr (x : Str) : Option { s : List Char // x = strV s } :=
  let s := x.cps.toList.map Char.ofNat
  if h : x = strV s then some ⟨s, h⟩ else none
def cName (g : Gm) (x : Str) (pos : Pos) : Option { t : E // SE g (.Name x pos) t } :=
  if ho : okN x = true then
    match (if hv : Vis g.sc x then (match slot x g.N with
      | some ⟨i, p⟩ => some ⟨.var i, s_var p hv (okN_d ho) (okN_c ho)⟩
      | none => none) else none : Option { t : E // SE g (.Name x pos) t }) with
    | some r => some r
    | none => if hk : gl g x then (match hg : g.G.lookup x with
      | some (.cst d) => some ⟨.cst d, s_glob hg hk (okN_d ho)⟩
      | _ => none) else none
  else none
def cConst (g : Gm) (c : Const) (j : Nat) (pos : Pos) : Option { t : E // SE g (.Constant c j pos) t } := match c with
  | .int i => some ⟨.cst (.int i), s_int⟩
  | .bool b => some ⟨.cst (.bl b), s_bl⟩
  | .none => some ⟨.cst .non, s_non⟩
  | .str x => match ofStr x with
    | some ⟨s, h⟩ => some ⟨.cst (.str s), s_str h⟩
    | none => none
  | _ => none

/-! ### lists of expressions, slices -/
def cArgs (c : Cc) (g : Gm) : (es : List Expr) → Option { t : Es // SA g es t }
  | [] => some ⟨.nil, a_nil⟩
  | e :: es => if hn : nst e = true then (match c.e g e, cArgs c g es with
    | some ⟨t, h⟩, some ⟨ts, hs⟩ => some ⟨.cons t ts, a_cons hn h hs⟩
    | _, _ => none) else none
def cOpt (c : Cc) (g : Gm) : (e : Option Expr) → Option { t : Eo // SO g e t }
  | none => some ⟨.none, o_none⟩
  | some e => match c.e g e with
    | some ⟨t, h⟩ => some ⟨.some t, o_some h⟩
    | none => none

/-! ### operators -/
def cCmp : (op : CmpOp) → Option { o : COp // CmpR op o }
  | .Eq => some ⟨.eq, c_eq⟩
  | .NotEq => some ⟨.ne, c_ne⟩
  | .Lt => some ⟨.lt, c_lt⟩
  | .LtE => some ⟨.le, c_le⟩
  | .Gt => some ⟨.gt, c_gt⟩
  | .GtE => some ⟨.ge, c_ge⟩
  | .Is => some ⟨.is, c_is⟩
  | .IsNot => some ⟨.isn, c_isn⟩
  | .In => some ⟨.inn, c_in⟩
  | .NotIn => some ⟨.nin, c_nin⟩
def cBin (op : Operator) : Option { o : BOp // ∀ (g : Gm) (a b : Expr) (a' b' : E) (pos : Pos), SE g a a' → SE g b b' → SE g (.BinOp a op b pos) (.bin o a' b') } := match op with
  | .Add => some ⟨.add, fun _ _ _ _ _ _ => s_add⟩
  | .Sub => some ⟨.sub, fun _ _ _ _ _ _ => s_sub⟩
  | .Mult => some ⟨.mul, fun _ _ _ _ _ _ => s_mul⟩
  | .FloorDiv => some ⟨.fdiv, fun _ _ _ _ _ _ => s_fdiv⟩
  | .Mod => some ⟨.mod, fun _ _ _ _ _ _ => s_mod⟩
  | .Pow => some ⟨.pow, fun _ _ _ _ _ _ => s_pow⟩
  | _ => none
def cAnd (c : Cc) (g : Gm) (pos : Pos) : (es : List Expr) → Option { t : E // SE g (.BoolOp .And es pos) t }
  | [] => none
  | [a] => match c.e g a with
    | some ⟨t, h⟩ => some ⟨t, s_one h⟩
    | none => none
  | a :: b :: r => match c.e g a, cAnd c g pos (b :: r) with
    | some ⟨t, h⟩, some ⟨u, hu⟩ => some ⟨.and t u, s_and h hu⟩
    | _, _ => none
def cOr (c : Cc) (g : Gm) (pos : Pos) : (es : List Expr) → Option { t : E // SE g (.BoolOp .Or es pos) t }
  | [] => none
  | [a] => match c.e g a with
    | some ⟨t, h⟩ => some ⟨t, s_one h⟩
    | none => none
  | a :: b :: r => match c.e g a, cOr c g pos (b :: r) with
    | some ⟨t, h⟩, some ⟨u, hu⟩ => some ⟨.or t u, s_or h hu⟩
    | _, _ => none
def wAnd (c : Cc) (g : Gm) (pos : Pos) : (es : List Expr) → Option { t : E // SW g (.BoolOp .And es pos) t }
  | [] => none
  | [a] => match c.t g a with
    | some ⟨t, h⟩ => some ⟨t, w_and1 h⟩
    | none => none
  | a :: b :: r => match c.t g a, wAnd c g pos (b :: r) with
    | some ⟨t, h⟩, some ⟨u, hu⟩ => some ⟨.and t u, w_and h hu⟩
    | _, _ => none
def wOr (c : Cc) (g : Gm) (pos : Pos) : (es : List Expr) → Option { t : E // SW g (.BoolOp .Or es pos) t }
  | [] => none
  | [a] => match c.t g a with
    | some ⟨t, h⟩ => some ⟨t, w_or1 h⟩
    | none => none
  | a :: b :: r => match c.t g a, wOr c g pos (b :: r) with
    | some ⟨t, h⟩, some ⟨u, hu⟩ => some ⟨.or t u, w_or h hu⟩
    | _, _ => none

/-! ### calls by name -/
def Bi (g : Gm) (x : Str) (b : BI) : Prop := ∃ id : Value, ((∃ n, id = .builtin n) ∨ ∃ n, id = .type n) ∧ bootBuiltins x = some id ∧ ∀ (X : Cx) (y : Y) (XX : Exc → Hp → Prop), y.K = X.K → (g.calm = true → X.calm = true) → CallR X id (rBif y XX b)
def cBi (g : Gm) (x : Str) (n : Nat) : Option { b : BI // Bi g x b } :=
  if h : x = Str.ofString "len" then some ⟨.len, by subst h; exact ⟨_, .inl ⟨_, rfl⟩, PySem.boot_len, fun _ _ _ hK _ => bi_len hK⟩⟩
  else if h : x = Str.ofString "abs" then some ⟨.abs, by subst h; exact ⟨_, .inl ⟨_, rfl⟩, PyProof.Rows.boot_abs, fun _ _ _ hK _ => bi_abs⟩⟩
  else if h : x = Str.ofString "int" then some ⟨.int, by subst h; exact ⟨_, .inr ⟨_, rfl⟩, PyProof.Rows.boot_int, fun _ _ _ hK _ => bi_int⟩⟩
  else if h : x = Str.ofString "tuple" then some ⟨.tuple, by subst h; exact ⟨_, .inr ⟨_, rfl⟩, PyProof.Rows.boot_tuple, fun _ _ _ hK _ => bi_tuple hK⟩⟩
  else if h : x = Str.ofString "list" then some ⟨.list, by subst h; exact ⟨_, .inr ⟨_, rfl⟩, PyProof.Rows.boot_list, fun _ _ _ hK _ => bi_list hK⟩⟩
  else if h : x = Str.ofString "sorted" then some ⟨.sorted, by subst h; exact ⟨_, .inl ⟨_, rfl⟩, PyProof.Rows.boot_sorted, fun _ _ _ hK _ => bi_sorted hK⟩⟩
  else if hc : g.calm = true then
    if h : x = Str.ofString "max" ∧ n = 2 then some ⟨.max2, by obtain ⟨h, _⟩ := h; subst h; exact ⟨_, .inl ⟨_, rfl⟩, PyProof.Rows.boot_max, fun _ _ _ hK hx => bi_max2 (hx hc)⟩⟩
    else if h : x = Str.ofString "min" ∧ n = 2 then some ⟨.min2, by obtain ⟨h, _⟩ := h; subst h; exact ⟨_, .inl ⟨_, rfl⟩, PyProof.Rows.boot_min, fun _ _ _ hK hx => bi_min2 (hx hc)⟩⟩
    else if h : x = Str.ofString "max" ∧ n = 1 then some ⟨.maxL, by obtain ⟨h, _⟩ := h; subst h; exact ⟨_, .inl ⟨_, rfl⟩, PyProof.Rows.boot_max, fun _ _ _ hK hx => bi_maxL hK (hx hc)⟩⟩
    else if h : x = Str.ofString "min" ∧ n = 1 then some ⟨.minL, by obtain ⟨h, _⟩ := h; subst h; exact ⟨_, .inl ⟨_, rfl⟩, PyProof.Rows.boot_min, fun _ _ _ hK hx => bi_minL hK (hx hc)⟩⟩
    else if h : x = Str.ofString "sum" then some ⟨.sum, by subst h; exact ⟨_, .inl ⟨_, rfl⟩, PyProof.Rows.boot_sum, fun _ _ _ hK hx => bi_sum hK (hx hc)⟩⟩
    else if h : x = Str.ofString "any" then some ⟨.any, by subst h; exact ⟨_, .inl ⟨_, rfl⟩, PyProof.Rows.boot_any, fun _ _ _ hK hx => bi_any (hx hc)⟩⟩
    else if h : x = Str.ofString "all" then some ⟨.all, by subst h; exact ⟨_, .inl ⟨_, rfl⟩, PyProof.Rows.boot_all, fun _ _ _ hK hx => bi_all (hx hc)⟩⟩
    else none
  else none
theorem s_bi {x : Str} {b : BI} {e : Expr} {es : List Expr} {es' : Es} {p pos : Pos} (h : Bi g x b) (hg : g.G.lookup x = some .bltn) (hk : gl g x) (ho : okN x = true) (hn : (e :: es).all nst = true) (hs : SA g (e :: es) es') : SE g (.Call (.Name x p) (e :: es) [] pos) (.blt b es') := by
  obtain ⟨id, hid, hv, hr⟩ := h
  exact s_bif hid hr hg hk hv (okN_d ho) (okN_n ho) hn hs
def cTy1 (g : Gm) (e : Expr) : Option { t : Ty // STy g e t } := match e with
  | .Name x p => match hg : g.G.lookup x with
    | some .bltn => if hk : gl g x then
        if h : x = Str.ofString "int" then some ⟨.int, by subst h; exact ty_name hg hk PyProof.Rows.boot_int (by decide) (by decide)⟩
        else if h : x = Str.ofString "bool" then some ⟨.bool, by subst h; exact ty_name hg hk PyProof.Rows.boot_bool (by decide) (by decide)⟩
        else if h : x = Str.ofString "str" then some ⟨.str, by subst h; exact ty_name hg hk PyProof.Rows.boot_str (by decide) (by decide)⟩
        else if h : x = Str.ofString "tuple" then some ⟨.tuple, by subst h; exact ty_name hg hk PyProof.Rows.boot_tuple (by decide) (by decide)⟩
        else if h : x = Str.ofString "list" then some ⟨.list, by subst h; exact ty_name hg hk PyProof.Rows.boot_list (by decide) (by decide)⟩
        else none
      else none
    | _ => none
  | _ => none
def cTys (g : Gm) : (es : List Expr) → Option { ts : List Ty // STys g es ts }
  | [] => some ⟨[], rfl⟩
  | e :: es => match cTy1 g e, cTys g es with
    | some ⟨t, h⟩, some ⟨ts, hs⟩ => some ⟨t :: ts, t, ts, rfl, h, hs⟩
    | _, _ => none

/-! ### what a for walks; comprehensions -/
def cTNs (g : Gm) : (es : List Expr) → Option { is : List Nat // TNs g es is }
  | [] => some ⟨[], rfl⟩
  | .Name x p :: es => match slot x g.N, cTNs g es with
    | some ⟨i, h⟩, some ⟨is, hs⟩ => if hx : Sto g x then some ⟨i :: is, x, p, i, is, rfl, rfl, h, hx, hs⟩ else none
    | _, _ => none
  | _ :: _ => none
def cTgt (g : Gm) : (e : Expr) → Option { t : T // TT' g e t }
  | .Name x p => match slot x g.N with
    | some ⟨i, h⟩ => if hx : Sto g x then some ⟨.name i, .name h hx⟩ else none
    | none => none
  | .Tuple es k p => match cTNs g es with
    | some ⟨is, h⟩ => some ⟨.tup is, .tup h⟩
    | none => none
  | _ => none
def cWalk (c : Cc) (g : Gm) (tg it : Expr) : Option { t : It // SI g tg it t } :=
  match (match it with
    | .Call (.Name x p) [a] [] pos => if hh : x = Str.ofString "range" ∧ g.G.lookup (Str.ofString "range") = some .bltn ∧ gl g "range" ∧ nst a = true then (match c.e g a with
        | some ⟨t, h⟩ => some ⟨.rng1 t, by obtain ⟨h1, h2, h3, h4⟩ := hh; subst h1; exact i_rng1 h2 h3 h4 h⟩
        | none => none)
      else if hh : x = Str.ofString "enumerate" ∧ g.G.lookup (Str.ofString "enumerate") = some .bltn ∧ gl g "enumerate" ∧ nst a = true then (match tg, c.e g a with
        | .Tuple es k1 p2, some ⟨t, h⟩ => some ⟨.enm t, by obtain ⟨h1, h2, h3, h4⟩ := hh; subst h1; exact i_enm h2 h3 h4 h⟩
        | _, _ => none)
      else none
    | .Call (.Name x p) [a, b] [] pos => if hh : x = Str.ofString "range" ∧ g.G.lookup (Str.ofString "range") = some .bltn ∧ gl g "range" ∧ nst a = true ∧ nst b = true then (match c.e g a, c.e g b with
        | some ⟨t, h⟩, some ⟨u, hu⟩ => some ⟨.rng2 t u, by obtain ⟨h1, h2, h3, h4, h5⟩ := hh; subst h1; exact i_rng2 h2 h3 h4 h5 h hu⟩
        | _, _ => none)
      else if hh : x = Str.ofString "zip" ∧ g.G.lookup (Str.ofString "zip") = some .bltn ∧ gl g "zip" ∧ nst a = true ∧ nst b = true then (match tg, c.e g a, c.e g b with
        | .Tuple es k1 p2, some ⟨t, h⟩, some ⟨u, hu⟩ => some ⟨.zip t u, by obtain ⟨h1, h2, h3, h4, h5⟩ := hh; subst h1; exact i_zip h2 h3 h4 h5 h hu⟩
        | _, _, _ => none)
      else none
    | .Call (.Name x p) [a, b, d] [] pos => if hh : x = Str.ofString "range" ∧ g.G.lookup (Str.ofString "range") = some .bltn ∧ gl g "range" ∧ nst a = true ∧ nst b = true ∧ nst d = true then (match c.e g a, c.e g b, c.e g d with
        | some ⟨t, h⟩, some ⟨u, hu⟩, some ⟨v, hv⟩ => some ⟨.rng3 t u v, by obtain ⟨h1, h2, h3, h4, h5, h6⟩ := hh; subst h1; exact i_rng3 h2 h3 h4 h5 h6 h hu hv⟩
        | _, _, _ => none)
      else none
    | _ => none : Option { t : It // SI g tg it t }) with
  | some r => some r
  | none => match c.e g it with
    | some ⟨t, h⟩ => some ⟨.seq t, i_seq h⟩
    | none => none
def ownOf (N : List Str) (sc : Scope) : List (Str × Nat) := sc.names.filterMap fun (x, k) => if k = .local ∨ k = .cell then (slot x N).map fun i => (x, i.1) else none
def cIfs (c : Cc) (g : Gm) : (es : List Expr) → Option { t : Eo // SC g es t }
  | [] => some ⟨.none, rfl⟩
  | [e] => match c.t g e with
    | some ⟨t, h⟩ => some ⟨.some t, t, rfl, h⟩
    | none => none
  | _ => none
/-- the parts of a comprehension -/
structure CP (g : Gm) (elt tg iter : Expr) (ifs : List Expr) (scope : Scope) where
  own : List (Str × Nat)
  elt' : E
  tg' : T
  it' : It
  c' : Eo
  hc : g.calm = true
  hi : SI g tg iter it'
  ok : blkC g.N g.sc scope own = true
  ht : TT' (g.blk scope) tg tg'
  hw : ∀ i ∈ tg'.slots, i ∈ own.map (·.2)
  hcs : SC (g.blk scope) ifs c'
  he : SE (g.blk scope) elt elt'
  hs : notSet iter = true
def cComp (c : Cc) (g : Gm) (elt tg iter : Expr) (ifs : List Expr) (scope : Scope) : Option (CP g elt tg iter ifs scope) :=
  if hc : g.calm = true ∧ notSet iter = true ∧ blkC g.N g.sc scope (ownOf g.N scope) = true then
    match cWalk c g tg iter, cTgt (g.blk scope) tg, cIfs c (g.blk scope) ifs, c.e (g.blk scope) elt with
    | some ⟨it', hi⟩, some ⟨tg', ht⟩, some ⟨c', hcs⟩, some ⟨elt', he⟩ => if hw : ∀ i ∈ tg'.slots, i ∈ (ownOf g.N scope).map (·.2) then
        some ⟨ownOf g.N scope, elt', tg', it', c', hc.1, hi, hc.2.2, ht, hw, hcs, he, hc.2.1⟩ else none
    | _, _, _, _ => none
  else none

/-! ### calls of methods, of names -/
def cMeth (c : Cc) (g : Gm) (o : Expr) (m : Str) (args : List Expr) (apos pos : Pos) : Option { t : E // SE g (.Call (.Attribute o m apos) args [] pos) t } :=
  if hb : notCall0 o = true ∧ (apos.endLine == pos.line) = true then
    match c.e g o with
    | none => none
    | some ⟨o', ho⟩ => match args with
      | [] => if h : m = Str.ofString "pop" then some ⟨.meth .pop o' .nil, by subst h; exact s_pop hb.1 hb.2 ho⟩
        else if h : m = Str.ofString "reverse" then some ⟨.meth .reverse o' .nil, by subst h; exact s_reverse hb.1 hb.2 ho⟩
        else if h : m = Str.ofString "clear" then some ⟨.meth .clearL o' .nil, by subst h; exact s_clear hb.1 hb.2 ho⟩
        else none
      | [e] => match cArgs c g [e] with
        | none => none
        | some ⟨es', hs⟩ => if hn : nst e = true then
            if h : m = Str.ofString "append" then some ⟨.meth .append o' es', by subst h; exact s_append hb.1 hb.2 hn ho hs⟩
            else if h : m = Str.ofString "extend" then some ⟨.meth .extend o' es', by subst h; exact s_extend hb.1 hb.2 hn ho hs⟩
            else if h : m = Str.ofString "join" then some ⟨.meth .join o' es', by subst h; exact s_join hb.1 hb.2 hn ho hs⟩
            else none
          else none
      | _ => none
  else none
def cClss (g : Gm) : (es : List Expr) → Option { l : List (Str × List Nat) // Clss g es l }
  | [] => some ⟨[], rfl⟩
  | .Name T p :: es => match hT : g.Hd.lookup T, cClss g es with
    | some cs, some ⟨l, h⟩ => if hh : gl g T ∧ okN T = true then some ⟨(T, cs) :: l, T, p, cs, l, rfl, rfl, hT, hh.1, okN_d hh.2, h⟩ else none
    | _, _ => none
  | _ :: _ => none
/-- isinstance of the exception at hand -/
def cIsx (g : Gm) (x : Str) (b : Expr) (p p1 pos : Pos) : Option { t : E // SE g (.Call (.Name (Str.ofString "isinstance") p) [.Name x p1, b] [] pos) t } :=
  if hh : g.G.lookup (Str.ofString "isinstance") = some .bltn ∧ gl g "isinstance" ∧ g.hot = some x ∧ Vis g.sc x ∧ okN x = true then
    match b with
    | .Name T p2 => match hT : g.Hd.lookup T with
      | some cs => if h2 : gl g T ∧ okN T = true then some ⟨.isx cs, s_isx hh.1 hh.2.1 hh.2.2.1 hh.2.2.2.1 hT h2.1 (okN_d hh.2.2.2.2) (okN_c hh.2.2.2.2) (okN_d h2.2)⟩ else none
      | none => none
    | .Tuple es n p2 => match cClss g es with
      | some ⟨l, hl⟩ => if h2 : l ≠ [] ∧ l.length ≤ 100 then some ⟨.isx (l.flatMap (·.2)), s_isxT hh.1 hh.2.1 hh.2.2.1 hh.2.2.2.1 hl h2.1 h2.2 (okN_d hh.2.2.2.2) (okN_c hh.2.2.2.2)⟩ else none
      | none => none
    | _ => none
  else none
def cIsin (c : Cc) (g : Gm) (a b : Expr) (p pos : Pos) : Option { t : E // SE g (.Call (.Name (Str.ofString "isinstance") p) [a, b] [] pos) t } :=
  match (match a with
    | .Name x p1 => cIsx g x b p p1 pos
    | _ => none : Option { t : E // SE g (.Call (.Name (Str.ofString "isinstance") p) [a, b] [] pos) t }) with
  | some r => some r
  | none => if hh : g.G.lookup (Str.ofString "isinstance") = some .bltn ∧ gl g "isinstance" ∧ nst a = true then
      match c.e g a with
      | none => none
      | some ⟨a', ha⟩ => match b with
        | .Tuple bs n p2 => match cTys g bs with
          | some ⟨ts, hts⟩ => if ht : ts ≠ [] ∧ ts.length ≤ 100 then some ⟨.isin a' ts, s_isinT hh.1 hh.2.1 hh.2.2 ht.1 ht.2 ha hts⟩ else none
          | none => none
        | b => match cTy1 g b with
          | some ⟨t, ht⟩ => some ⟨.isin a' [t], s_isin1 hh.1 hh.2.1 hh.2.2 ha ht⟩
          | none => none
    else none
def cCall (c : Cc) (g : Gm) (x : Str) (args : List Expr) (p pos : Pos) : Option { t : E // SE g (.Call (.Name x p) args [] pos) t } :=
  match args with
  | [] => none
  | e :: es => match (if h : x = Str.ofString "isinstance" then (match e, es with
      | a, [b] => (match cIsin c g a b p pos with
        | some ⟨t, ht⟩ => some ⟨t, by subst h; exact ht⟩
        | none => none)
      | _, _ => none) else none : Option { t : E // SE g (.Call (.Name x p) (e :: es) [] pos) t }) with
    | some r => some r
    | none => if ho : okN x = true ∧ gl g x ∧ (e :: es).all nst = true then
        match hg : g.G.lookup x, cArgs c g (e :: es) with
        | some (.fn i), some ⟨es', hs⟩ => if hc : g.calm = true then some ⟨.call i es', s_call hc hg ho.2.1 (okN_d ho.1) ho.2.2 hs⟩ else none
        | some .bltn, some ⟨es', hs⟩ => (match cBi g x (e :: es).length with
          | some ⟨b, hb⟩ => some ⟨.blt b es', s_bi hb hg ho.2.1 ho.1 ho.2.2 hs⟩
          | none => none)
        | _, _ => none
      else none

/-! ### one step -/
def stepE (c : Cc) (g : Gm) : (e : Expr) → Option { t : E // SE g e t }
  | .Name x pos => cName g x pos
  | .Constant k j pos => cConst g k j pos
  | .BinOp a op b pos => match cBin op, c.e g a, c.e g b with
    | some ⟨o, ho⟩, some ⟨t, h⟩, some ⟨u, hu⟩ => some ⟨.bin o t u, ho g a b t u pos h hu⟩
    | _, _, _ => none
  | .UnaryOp .Not a pos => match c.e g a with
    | some ⟨t, h⟩ => some ⟨.not t, s_not h⟩
    | none => none
  | .UnaryOp .USub a pos => match c.e g a with
    | some ⟨t, h⟩ => some ⟨.neg t, s_neg h⟩
    | none => none
  | .BoolOp .And es pos => cAnd c g pos es
  | .BoolOp .Or es pos => cOr c g pos es
  | .IfExp k a b pos => match c.t g k, c.e g a, c.e g b with
    | some ⟨v, hv⟩, some ⟨t, h⟩, some ⟨u, hu⟩ => some ⟨.ife v t u, s_ife hv h hu⟩
    | _, _, _ => none
  | .Compare a [op] [b] pos => if hs : notSet b = true then (match cCmp op, c.e g a, c.e g b with
      | some ⟨o, ho⟩, some ⟨t, h⟩, some ⟨u, hu⟩ => some ⟨.cmp o t u, s_cmp ho hs h hu⟩
      | _, _, _ => none) else none
  | .Compare a [op, op'] [b, d] pos => if hs : notSet d = true then (match cCmp op, cCmp op', c.e g a, c.e g b, c.e g d with
      | some ⟨o, ho⟩, some ⟨o', ho'⟩, some ⟨t, h⟩, some ⟨u, hu⟩, some ⟨v, hv⟩ => some ⟨.ch2 o o' t u v, s_ch2 ho ho' hs h hu hv⟩
      | _, _, _, _, _ => none) else none
  | .Tuple es k pos => match cArgs c g es with
    | some ⟨ts, hs⟩ => some ⟨.tup ts, s_tup hs⟩
    | none => none
  | .List es pos => match cArgs c g es with
    | some ⟨ts, hs⟩ => some ⟨.lst ts, s_lst hs⟩
    | none => none
  | .Subscript a (.Slice lo hi none p2) pos => match c.e g a, cOpt c g lo, cOpt c g hi with
    | some ⟨t, h⟩, some ⟨l, hl⟩, some ⟨u, hu⟩ => some ⟨.sl t l u, s_sl h hl hu⟩
    | _, _, _ => none
  | .Subscript a b pos => if hs : notSlice b = true then (match c.e g a, c.e g b with
      | some ⟨t, h⟩, some ⟨u, hu⟩ => some ⟨.ix t u, s_ix hs h hu⟩
      | _, _ => none) else none
  | .ListComp elt [⟨tg, iter, ifs, 0⟩] scope pos => match cComp c g elt tg iter ifs scope with
    | some p => some ⟨.comp p.elt' p.tg' p.it' p.c' (p.own.map (·.2)), s_comp p.hc p.hi p.ok p.ht p.hw p.hcs p.he p.hs⟩
    | none => none
  | .Call (.Attribute o m apos) args [] pos => cMeth c g o m args apos pos
  | .Call (.Name x p) args [] pos => cCall c g x args p pos
  | _ => none
def plainT : E → Bool
  | .var _ => true
  | .call _ _ => true
  | .blt _ _ => true
  | .meth _ _ _ => true
  | .ix _ _ => true
  | .cst _ => true
  | .isin _ _ => true
  | .isx _ => true
  | _ => false
theorem isin_t {C : Calls} {σ : St} {a : E} {ts : List Ty} : evT C σ (.isin a ts) = (ev C σ (.isin a ts)).bind fun w => M.ask (truth w) := by
  rw [evT, ev]
  unfold M.bind M.ask
  funext h
  dsimp only
  cases ev C σ a h with
  | none => rfl
  | some r =>
    cases r with
    | ex x h' => rfl
    | ok w h' =>
      dsimp only
      cases tyAny ts w h' with
      | none => rfl
      | some b => cases b <;> rfl
theorem isx_t {C : Calls} {σ : St} {cs : List Nat} : evT C σ (.isx cs) = (ev C σ (.isx cs)).bind fun w => M.ask (truth w) := by
  rw [evT, ev]
  unfold M.opt M.bind M.ask
  cases C.x with
  | none => rfl
  | some x => funext h; cases e : cs.contains x.c <;> simp [e] <;> rfl
theorem plainT_ok {a : E} (h : plainT a = true) (C : Calls) (σ : St) : evT C σ a = (ev C σ a).bind fun w => M.ask (truth w) := by
  cases a with
  | isin a ts => exact isin_t
  | isx cs => exact isx_t
  | var i => rw [evT, ev]
  | call i es => rw [evT, ev]
  | blt i es => rw [evT, ev]
  | meth i o es => rw [evT, ev]
  | ix a b => rw [evT, ev]
  | cst d => rw [evT, ev]
  | _ => cases h
def stepT (c : Cc) (g : Gm) (e : Expr) : Option { t : E // ST g e t } := match e with
  | .UnaryOp .Not a pos => match c.t g a with
    | some ⟨t, h⟩ => some ⟨.not t, t_not h⟩
    | none => none
  | .BoolOp .And es pos => match wAnd c g pos es with
    | some ⟨t, h⟩ => some ⟨t, h.t⟩
    | none => none
  | .BoolOp .Or es pos => match wOr c g pos es with
    | some ⟨t, h⟩ => some ⟨t, h.t⟩
    | none => none
  | .Compare a [op] [b] pos => if hs : notSet b = true then (match cCmp op, c.e g a, c.e g b with
      | some ⟨o, ho⟩, some ⟨t, h⟩, some ⟨u, hu⟩ => some ⟨.cmp o t u, t_cmp ho hs h hu⟩
      | _, _, _ => none) else none
  | .Compare a [op, op'] [b, d] pos => if hs : notSet d = true then (match cCmp op, cCmp op', c.e g a, c.e g b, c.e g d with
      | some ⟨o, ho⟩, some ⟨o', ho'⟩, some ⟨t, h⟩, some ⟨u, hu⟩, some ⟨v, hv⟩ => some ⟨.ch2 o o' t u v, t_ch2 ho ho' hs h hu hv⟩
      | _, _, _, _, _ => none) else none
  | e => if hp : plainTest e = true then (match c.e g e with
      | some ⟨t, h⟩ => if ht : plainT t = true then some ⟨t, t_val hp h (plainT_ok ht)⟩ else none
      | none => none) else none
def cc : Nat → Cc
  | 0 => cc0
  | n + 1 => ⟨stepE (cc n), stepT (cc n)⟩

/-! ### statements -/
def augOf : (op : Operator) → Option { o : BOp // (op = .Add ∧ o = .add) ∨ (op = .Sub ∧ o = .sub) ∨ (op = .Mult ∧ o = .mul) }
  | .Add => some ⟨.add, .inl ⟨rfl, rfl⟩⟩
  | .Sub => some ⟨.sub, .inr (.inl ⟨rfl, rfl⟩)⟩
  | .Mult => some ⟨.mul, .inr (.inr ⟨rfl, rfl⟩)⟩
  | _ => none
abbrev CSt (XS : List XCls) := (g : Gm) → (st : Stmt) → Option { s : S // SS g XS st s }
def cBody (f : CSt XS) (g : Gm) : (b : List Stmt) → Option { s : S // SB g XS b s }
  | [] => some ⟨.skip, b_nil⟩
  | [a] => match f g a with
    | some ⟨s, h⟩ => some ⟨s, b_one h⟩
    | none => none
  | a :: b :: r => match f g a, cBody f g (b :: r) with
    | some ⟨s, h⟩, some ⟨u, hu⟩ => some ⟨.seq s u, b_cons h hu⟩
    | _, _ => none
def cAsg (c : Cc) (g : Gm) (x : Str) (e : Expr) (p pos : Pos) : Option { s : S // SS g XS (.Assign [.Name x p] e pos) s } :=
  match slot x g.N with
  | none => none
  | some ⟨i, hi⟩ => if hs : Sto g x then
      match e with
      | .ListComp elt [⟨tg, iter, ifs, 0⟩] scope cpos => if hh : g.sc.names.lookup x = some .local ∧ g.sc.kind = .function ∧ (p.line == cpos.line) = true ∧ (scope.names.any fun (n, k) => n == x && (k == .local || k == .cell)) = false then (match cComp c g elt tg iter ifs scope with
          | some q => some ⟨.set i (.comp q.elt' q.tg' q.it' q.c' (q.own.map (·.2))), st_setLc hi hs hh.1 hh.2.1 hh.2.2.1 hh.2.2.2 q.hc q.hi q.ok q.ht q.hw q.hcs q.he q.hs⟩
          | none => none) else none
      | e => if hn : notComp e = true then (match c.e g e with
          | some ⟨t, h⟩ => some ⟨.set i t, st_set hi hs hn h⟩
          | none => none) else none
    else none
def cRaise (c : Cc) (g : Gm) (e : Expr) (pos : Pos) : Option { s : S // SS g XS (.Raise (some e) none pos) s } := match e with
  | .Call (.Name x p) (a :: es) [] p2 => match hg : g.G.lookup x, cArgs c g (a :: es) with
    | some (.xc i), some ⟨ts, hs⟩ => if hh : g.calm = true ∧ gl g x ∧ XS[i]?.map (·.fields) = some [] ∧ okN x = true ∧ (a :: es).all nst = true ∧ (a :: es).length ≤ 100 then
        some ⟨.raise i ts, st_raise hh.1 hg hh.2.1 hh.2.2.1 (okN_d hh.2.2.2.1) hh.2.2.2.2.1 hs hh.2.2.2.2.2⟩ else none
    | _, _ => none
  | _ => none
def stepS (c : Cc) (f : CSt XS) (g : Gm) : (st : Stmt) → Option { s : S // SS g XS st s }
  | .Pass pos => some ⟨.skip, st_pass⟩
  | .Break pos => some ⟨.brk, st_brk⟩
  | .Continue pos => some ⟨.cnt, st_cnt⟩
  | .Expr e pos => if hn : notComp e = true then (match c.e g e with
      | some ⟨t, h⟩ => some ⟨.expr t, st_expr hn h⟩
      | none => none) else none
  | .Return none pos => some ⟨.ret .none, st_retN⟩
  | .Return (some e) pos => match c.e g e with
    | some ⟨t, h⟩ => some ⟨.ret (.some t), st_ret h⟩
    | none => none
  | .Assign [.Name x p] e pos => cAsg c g x e p pos
  | .Assign [.Tuple es k1 p] e pos => match cTNs g es, c.e g e with
    | some ⟨is, h⟩, some ⟨t, ht⟩ => if hh : g.calm = true ∧ notComp e = true ∧ notTup e = true then some ⟨.setT is t, st_setT hh.1 (.tup h) hh.2.1 hh.2.2 ht⟩ else none
    | _, _ => none
  | .Assign [.Subscript o i p] e pos => match c.e g o, c.e g i, c.e g e with
    | some ⟨o', ho⟩, some ⟨i', hi⟩, some ⟨e', he⟩ => if hh : notComp e = true ∧ notSlice i = true then some ⟨.setI o' i' e', st_setI hh.1 hh.2 ho hi he⟩ else none
    | _, _, _ => none
  | .AugAssign (.Name x p) op e pos => match augOf op, slot x g.N, c.e g e with
    | some ⟨o, ho⟩, some ⟨i, hi⟩, some ⟨t, ht⟩ => if hs : Sto g x then some ⟨.aug i o t, st_aug ho hi hs ht⟩ else none
    | _, _, _ => none
  | .If k a b pos => match c.t g k, cBody f g a, cBody f g b with
    | some ⟨v, hv⟩, some ⟨s, h⟩, some ⟨u, hu⟩ => some ⟨.ife v s u, st_if hv h hu⟩
    | _, _, _ => none
  | .While k b [] pos => match c.t g k, cBody f g b with
    | some ⟨v, hv⟩, some ⟨s, h⟩ => some ⟨.whl v s, st_whl hv h⟩
    | _, _ => none
  | .For tg iter b [] pos => match cWalk c g tg iter, cTgt g tg, cBody f g b with
    | some ⟨w, hw⟩, some ⟨t, ht⟩, some ⟨s, h⟩ => if hh : g.calm = true ∧ notSet iter = true then some ⟨.for t w s, st_for hh.1 hh.2 ht hw h⟩ else none
    | _, _, _ => none
  | .Raise (some e) none pos => cRaise c g e pos
  | _ => none
def cs (c : Cc) : Nat → CSt XS
  | 0 => fun _ _ => none
  | n + 1 => stepS c (cs c n)
theorem body_of {b : List Stmt} {c : Nat} {s : S} (h : (cBody (XS := XS) (cs (cc c) c) g b).map (·.1) = some s) : SB g XS b s := by
  cases e : cBody (XS := XS) (cs (cc c) c) g b with
  | none => rw [e] at h; cases h
  | some r =>
    rw [e] at h
    have q : r.1 = s := Option.some.inj h
    rw [← q]
    exact r.2
end
end DI

/-! DI5: the ends: from a program's top to the row. -/
namespace DI
open PySem L2

/-- the defs behind the top -/
def DefAt (K : PySem.W.Frag) (x : Str) (st : Stmt) : Prop := ∃ (f : Addr) (fd : FuncData), PySem.W.nsIn K mainGlobals x = some (some (.ref f)) ∧ Fun K x x st f fd
theorem at_mk {K : PySem.W.Frag} {x : Str} {st : Stmt} {f : Addr} {oc : Value} {od an : Option Addr} {sl : Array (Option Value)} {kV dc pm cd ct : Value} (a : PySem.W.nsIn K mainGlobals x = some (some (.ref f)))
    (l : K.lookup f = some ⟨oc, od, .func (PySem.W.fnOf x x (defArgs st) (defBody st) (defScope st) .none kV dc pm an cd ct), sl⟩) (c : PySem.W.codeIn K cd x = true) (k : PySem.W.keepIn K (.ref f) = true) : DefAt K x st := ⟨f, _, a, fun_mk (st := st) l c k⟩
def DefsAt (K : PySem.W.Frag) : List DefT → Prop
  | [] => True
  | d :: ds => DefAt K d.x d.st ∧ DefsAt K ds
theorem DefsAt.at_ {K : PySem.W.Frag} : ∀ {ds : List DefT} {i : Nat} {d : DefT}, DefsAt K ds → ds[i]? = some d → DefAt K d.x d.st
  | [], i, d, _, e => by simp at e
  | d :: ds, 0, d', h, e => by
    simp at e
    subst e
    exact h.1
  | d :: ds, i + 1, d', h, e => DefsAt.at_ (i := i) h.2 (by simpa using e)
/-- how a def's arguments bind: no defaults, no stars -/
def BindOk (x : Str) (st : Stmt) (ps : List Str) : Prop := ∀ (kV doc pm : Value) (an : Option Addr) (cdv ct : Value) (us : List Value), us.length = ps.length → bindArgs (PySem.W.fnOf x x (defArgs st) (defBody st) (defScope st) .none kV doc pm an cdv ct) ⟨us, []⟩ = pure (ps.zip us)
def BindsOk : List DefT → Prop
  | [] => True
  | d :: ds => BindOk d.x d.st d.ps ∧ BindsOk ds
theorem BindsOk.at_ : ∀ {ds : List DefT} {i : Nat} {d : DefT}, BindsOk ds → ds[i]? = some d → BindOk d.x d.st d.ps
  | [], i, d, _, e => by simp at e
  | d :: ds, 0, d', h, e => by
    simp at e
    subst e
    exact h.1
  | d :: ds, i + 1, d', h, e => BindsOk.at_ (i := i) h.2 (by simpa using e)
/-- where the defs stand -/
def faOf (K : PySem.W.Frag) (ds : List DefT) (i : Nat) : Option Addr := match ds[i]? with
  | none => none
  | some d => match PySem.W.nsIn K mainGlobals d.x with
    | some (some (.ref f)) => some f
    | _ => none
def xcOf (K : PySem.W.Frag) (xs : List Str) (i : Nat) : Option Addr := match xs[i]? with
  | none => none
  | some x => match PySem.W.nsIn K mainGlobals x with
    | some (some (.ref f)) => some f
    | _ => none
def yOf (K : PySem.W.Frag) (ds : List DefT) : Y := ⟨K, faOf K ds, none⟩
theorem faOf_some {K : PySem.W.Frag} {ds : List DefT} {i : Nat} {f : Addr} (h : faOf K ds i = some f) : ∃ d, ds[i]? = some d ∧ PySem.W.nsIn K mainGlobals d.x = some (some (.ref f)) := by
  unfold faOf at h
  cases e : ds[i]? with
  | none => rw [e] at h; cases h
  | some d =>
    rw [e] at h
    dsimp only at h
    split at h
    case h_1 f' e' => cases h; exact ⟨d, rfl, e'⟩
    case h_2 => cases h
theorem faOf_at {K : PySem.W.Frag} {ds : List DefT} {i : Nat} {d : DefT} {f : Addr} (e : ds[i]? = some d) (h : PySem.W.nsIn K mainGlobals d.x = some (some (.ref f))) : faOf K ds i = some f := by
  unfold faOf
  rw [e]
  dsimp only
  rw [h]
theorem xcOf_at {K : PySem.W.Frag} {xs : List Str} {i : Nat} {x : Str} {f : Addr} (e : xs[i]? = some x) (h : PySem.W.nsIn K mainGlobals x = some (some (.ref f))) : xcOf K xs i = some f := by
  unfold xcOf
  rw [e]
  dsimp only
  rw [h]
/-- what stands behind the top for a name of the table -/
def GlobAt (K : PySem.W.Frag) (ds : List DefT) (xs : List Str) (x : Str) : Gv → Prop
  | .fn i => ds[i]?.map (·.x) = some x
  | .bltn => PySem.W.nsIn K mainGlobals x = some none
  | .cst (.int i) => ∃ u, RelV (.int i) u ∧ PySem.W.nsIn K mainGlobals x = some (some u)
  | .cst (.str s) => ∃ u, RelV (.str (strV s)) u ∧ PySem.W.nsIn K mainGlobals x = some (some u)
  | .cst _ => False
  | .xc i => xs[i]? = some x ∧ ∃ C, PySem.W.nsIn K mainGlobals x = some (some (.ref C)) ∧ XcOk K C
def GlobsAt (K : PySem.W.Frag) (ds : List DefT) (xs : List Str) : List (Str × Gv) → Prop
  | [] => True
  | p :: r => GlobAt K ds xs p.1 p.2 ∧ GlobsAt K ds xs r
theorem GlobsAt.at_ {K : PySem.W.Frag} {ds : List DefT} {xs : List Str} : ∀ {G : List (Str × Gv)} {x : Str} {v : Gv}, GlobsAt K ds xs G → G.lookup x = some v → GlobAt K ds xs x v
  | [], x, v, _, e => by cases e
  | (a, b) :: r, x, v, h, e => by
    by_cases hx : x = a
    · subst hx
      rw [List.lookup_cons_self] at e
      cases e
      exact h.1
    · rw [List.lookup_cons, beq_false_of_ne hx] at e
      exact GlobsAt.at_ h.2 e
/-- the classes that except clauses and isinstance name -/
def HdAt (K : PySem.W.Frag) (xs : List Str) (T : Str) (cs : List Nat) : Prop := ∃ c, ((∃ D, c = .ref D ∧ PySem.W.nsIn K mainGlobals T = some (some c)) ∨ (∃ n, c = .type n ∧ PySem.W.nsIn K mainGlobals T = some none ∧ bootBuiltins T = some c)) ∧ T ≠ "__name__" ∧
  ∀ i C, xcOf K xs i = some C → PySem.W.exmOne K (.ref C) c = some (cs.contains i) ∧ PySem.W.kitOne K (.ref C) c = some (cs.contains i)
def HdsAt (K : PySem.W.Frag) (xs : List Str) : List (Str × List Nat) → Prop
  | [] => True
  | p :: r => HdAt K xs p.1 p.2 ∧ HdsAt K xs r
theorem HdsAt.at_ {K : PySem.W.Frag} {xs : List Str} : ∀ {Hd : List (Str × List Nat)} {x : Str} {v : List Nat}, HdsAt K xs Hd → Hd.lookup x = some v → HdAt K xs x v
  | [], x, v, _, e => by cases e
  | (a, b) :: r, x, v, h, e => by
    by_cases hx : x = a
    · subst hx
      rw [List.lookup_cons_self] at e
      cases e
      exact h.1
    · rw [List.lookup_cons, beq_false_of_ne hx] at e
      exact HdsAt.at_ h.2 e
structure TopAt (K : PySem.W.Frag) (ds : List DefT) (xs : List Str) (G : List (Str × Gv)) (Hd : List (Str × List Nat)) : Prop where
  defs : DefsAt K ds
  globs : GlobsAt K ds xs G
  hds : HdsAt K xs Hd
theorem top_ok {K : PySem.W.Frag} {ds : List DefT} {xs : List Str} {G : List (Str × Gv)} {Hd : List (Str × List Nat)} {h : Heap} {mg : Str → Option Value} (T : TopAt K ds xs G Hd) (B : BindsOk ds) (KX : K.In h) (ns : h.Ns mainGlobals mg) : TopOk K mg G Hd ds (yOf K ds) (xcOf K xs) where
  kk := rfl
  hot := rfl
  fa := fun i a e => by
    obtain ⟨d, ed, en⟩ := faOf_some e
    obtain ⟨f, fd, e1, F⟩ := T.defs.at_ ed
    rw [en] at e1
    cases e1
    exact ⟨d, ed, fd, F, F.binds (B.at_ ed)⟩
  glob := fun X hK hm x v e => by
    have q := T.globs.at_ e
    cases v with
    | fn i =>
      have q' : ds[i]?.map (·.x) = some x := q
      cases ed : ds[i]? with
      | none => rw [ed] at q'; cases q'
      | some d =>
        rw [ed] at q'
        have ex : d.x = x := Option.some.inj q'
        subst ex
        obtain ⟨f, fd, e1, F⟩ := T.defs.at_ ed
        exact ⟨f, faOf_at ed e1, by rw [hm]; exact PySem.W.mg_of KX ns e1⟩
    | bltn => show X.mg x = none; rw [hm]; exact PySem.W.mg_none_of KX ns q
    | cst d => cases d with
      | int i => obtain ⟨u, r, q⟩ := q; exact ⟨u, .int i, by rw [hm]; exact PySem.W.mg_of KX ns q, r, fun _ => by simp only [RD]⟩
      | str s => obtain ⟨u, r, q⟩ := q; exact ⟨u, .str (strV s), by rw [hm]; exact PySem.W.mg_of KX ns q, r, fun _ => by simp only [RD]⟩
      | _ => exact q.elim
    | xc i =>
      obtain ⟨e1, C, e2, ok⟩ := q
      exact ⟨C, xcOf_at e1 e2, by rw [hm]; exact PySem.W.mg_of KX ns e2, by rw [hK]; exact ok⟩
  hd := fun X hK hm T' cs e => by
    obtain ⟨c, h1, h2, h3⟩ := T.hds.at_ e
    refine ⟨c, ?_, h2, fun i C ec => by rw [hK]; exact (h3 i C ec).1, fun i C ec => by rw [hK]; exact (h3 i C ec).2⟩
    rcases h1 with ⟨D, e1, e2⟩ | ⟨n, e1, e2, e3⟩
    · exact .inl ⟨D, e1, by rw [hm]; exact PySem.W.mg_of KX ns e2⟩
    · exact .inr ⟨n, e1, by rw [hm]; exact PySem.W.mg_none_of KX ns e2, e3⟩
theorem cx_nil {P : Program} {w : World} {H : Hp} {s : Shared} {e : Value} {s' : Shared} (h : L2.CX P w [] H s (fun _ _ _ => False) e s') : False := by
  obtain ⟨_, _, _, _, _, _, _, _, _, _, _, _, z⟩ := h
  exact z
theorem only_ro {K : PySem.W.Frag} {H : Hp} {a : Addr} {xs : List V} (o : Only H) (h : SqL K H a xs) : RoAt K H a xs := by
  rcases h with (h | ⟨ob, h⟩) | h
  · rcases o a with e | ⟨ob, u, e⟩
    · rw [h] at e; cases e
    · rw [h] at e; cases e
  · exact .inl ⟨ob, h⟩
  · exact .inr h
/-- the law, of the evaluator: at every script it answers True -/
def LawE (P : Prog) (k i : Nat) : Prop := ∀ ns : List Int, ns.length ≤ 63 → ∃ h', callF P k i [.ro ns] [] = some (.ok (.d (.bl true)) h')
theorem walk {l : PySem.W.OpenLaw} {q : Program} {loose : List Str} {XP : (Str → Option Value) → Heap → Prop} {YP : World → Heap → Prop} {d : DefRec} {K : Params → PySem.W.Frag} {ds : List DefT} {xs : List Str} {G : List (Str × Gv)} {Hd : List (Str × List Nat)} {fs : List Fn} {XS : List XCls} {k i : Nat} {dl : DefT}
    (hn : l.most = some 63) (hdf : d.params.defaults = []) (hr : Room k callerA) (D : DefsOk G Hd XS ds fs) (B : BindsOk ds) (hl : ds[i]? = some dl) (hp : dl.ps = [Str.ofString "script"]) (hx : d.name = dl.x) (L : LawE ⟨fs, XS⟩ k i)
    (hY : ∀ (w : World) (h : Heap), YP w h → (K w.params).In h) (T : ∀ w : World, TopAt (K w.params) ds xs G Hd) :
    PySem.W.WalkO q loose XP YP l.row.toRowW d [] (fun f vs => PySem.call f vs) := by
  refine L2.walk_of (n := 63) (k := k) (x := "script") (CX := fun w => L2.CX l.prog w) (sp := fun w => spI (yOf (K w.params) ds) (xcOf (K w.params) xs) (call ⟨fs, XS⟩ k) i) hn (by decide) hdf hr hY (fun w mg fa h KX G1 hm => ?_) (fun w H a ns hz hO hS => ?_) fun w H s e s' z => cx_nil z
  · obtain ⟨f, fd, e1, F⟩ := (T w).defs.at_ hl
    have e := PySem.W.mg_of KX G1 e1
    rw [← hx, hm] at e
    cases e
    refine ⟨fd, fun s u => ?_, fun base KB NB => ?_⟩
    · have b := B.at_ hl
      obtain ⟨oc, od, kV, doc, pm, an, cdv, ct, osl, rfl, lk, hcd⟩ := F.ex
      have q := b kV doc pm an cdv ct [u] (by rw [hp]; rfl)
      rw [hp] at q
      exact .of_eq q
    · have q := fns_ok (P := l.prog) (w := w) (base := base) (top_ok (T w) B KB NB) D k i fa dl fd (faOf_at hl e1) hl F
      rw [hp] at q
      exact q
  · obtain ⟨h', e⟩ := L ns hz
    refine ⟨[], [.ro ns], [], ⟨rfl, List.nodup_nil, fun i a o e1 _ => by simp at e1⟩, ⟨.ref a, [], rfl, ⟨a, rfl, only_ro hO hS⟩, rfl⟩, ?_⟩
    show Go _ _ _ _ _ (callF ⟨fs, XS⟩ k i [.ro ns] []) _
    rw [e]
    intro ρ' H' v _ _ rv
    simpa only [RW, RD] using rv
end DI

/-! DI6: running the evaluator by hand: heaps, calls, loops. -/
namespace DI

/-! ### heaps: an old part, then what is new -/
theorem hget {b t : H} {n i : Nat} (hb : b.length = n) : (b ++ t)[n + i]? = t[i]? := by
  subst hb
  rw [List.getElem?_append_right (by omega)]
  congr 1
  omega
theorem hget0 {b t : H} {n : Nat} (hb : b.length = n) : (b ++ t)[n]? = t[0]? := hget (i := 0) hb
theorem hold {b t : H} {p : Nat} (hp : p < b.length) : (b ++ t)[p]? = b[p]? := List.getElem?_append_left hp
theorem hset {b t : H} {n i : Nat} {o : O} (hb : b.length = n) : (b ++ t).set (n + i) o = b ++ t.set i o := by
  subst hb
  rw [List.set_append_right _ _ (by omega)]
  congr 2
  omega
theorem hset0 {b t : H} {n : Nat} {o : O} (hb : b.length = n) : (b ++ t).set n o = b ++ t.set 0 o := hset (i := 0) hb
theorem hsetold {b t : H} {p : Nat} {o : O} (hp : p < b.length) : (b ++ t).set p o = b.set p o ++ t := List.set_append_left _ _ hp
theorem hsetg {b : H} {p : Nat} {o : O} (hp : p < b.length) : (b.set p o)[p]? = some o := List.getElem?_set_self hp
theorem hsets {b : H} {p : Nat} {o u : O} : (b.set p o).set p u = b.set p u := List.set_set ..
/-- all that the heap's objects hold stands in it -/
def wf (h : H) : Prop := h.all (O.below h.length) = true
theorem W.below_mono {n m : Nat} (hm : n ≤ m) : ∀ {w : W}, w.below n = true → w.below m = true
  | .r k, h => by
    have : k < n := of_decide_eq_true h
    exact decide_eq_true (by omega)
  | .d _, _ => rfl
  | .ro _, _ => rfl
  | .fn _, _ => rfl
theorem O.below_mono {n m : Nat} (hm : n ≤ m) : ∀ {o : O}, o.below n = true → o.below m = true
  | .lst xs, h => List.all_eq_true.mpr fun x hx => W.below_mono hm (List.all_eq_true.mp h x hx)
  | .dic xs, h => List.all_eq_true.mpr fun x hx => W.below_mono hm (List.all_eq_true.mp h x hx)
  | .ins c xs, h => List.all_eq_true.mpr fun x hx => W.below_mono hm (List.all_eq_true.mp h x hx)
theorem wf_nil : wf [] := rfl
theorem wf_push {h : H} {o : O} (hw : wf h) (ho : o.below (h.length + 1) = true) : wf (h ++ [o]) := by
  unfold wf
  rw [List.length_append, List.all_append, Bool.and_eq_true]
  refine ⟨List.all_eq_true.mpr fun x hx => O.below_mono (by omega) (List.all_eq_true.mp hw x hx), ?_⟩
  simp only [List.all_cons, List.all_nil, Bool.and_true, List.length_singleton]
  exact ho
theorem wf_set {h : H} {p : Nat} {o : O} (hw : wf h) (ho : o.below h.length = true) : wf (h.set p o) := by
  unfold wf
  rw [List.length_set]
  refine List.all_eq_true.mpr fun x hx => ?_
  rcases List.mem_or_eq_of_mem_set hx with h1 | h1
  · exact List.all_eq_true.mp hw x h1
  · rw [h1]; exact ho
theorem below_data {n : Nat} {ds : List D} : O.below n (.lst (ds.map W.d)) = true := by
  unfold O.below
  refine List.all_eq_true.mpr fun x hx => ?_
  obtain ⟨d, _, rfl⟩ := List.mem_map.mp hx
  rfl

theorem log2_nat {n : Nat} (h : n < 18446744073709551616) : n.log2 < 9000 := by
  by_cases h1 : n = 0
  · subst h1; decide
  rw [Nat.log2_lt h1]
  have : n < 2 ^ 64 := by omega
  exact Nat.lt_of_lt_of_le this (Nat.pow_le_pow_right (n := 2) (by decide) (by decide : 64 ≤ 9000))
theorem SZv : SZ = 16777216 := by unfold SZ; rfl
theorem ibeq (a b : Int) : (a == b) = decide (a = b) := by
  by_cases h : a = b
  · subst h; simp
  · simp [h]
/-! ### calls -/
section
variable {P : Prog} {k f : Nat} {fn : Fn} {ws : List W} {h h1 t : H}
theorem call_rt {w : W} (hf : P.fns[f]? = some fn) (hl : ws.length = fn.ps) (hx : exec P.xs (call P k) fn.body (start fn.n ws) h = some (.ok (.rt w) h1)) : callF P (k + 1) f ws h = some (.ok (gc h.length w h1).1 (gc h.length w h1).2) := by
  unfold callF
  rw [hf]
  simp only [if_pos hl]
  unfold call at hx
  rw [hx]
theorem call_nx {σ : St} (hf : P.fns[f]? = some fn) (hl : ws.length = fn.ps) (hx : exec P.xs (call P k) fn.body (start fn.n ws) h = some (.ok (.nx σ) h1)) : callF P (k + 1) f ws h = some (.ok (gc h.length (.d .non) h1).1 (gc h.length (.d .non) h1).2) := by
  unfold callF
  rw [hf]
  simp only [if_pos hl]
  unfold call at hx
  rw [hx]
theorem call_ex {σ : St} {x : Exc} (hf : P.fns[f]? = some fn) (hl : ws.length = fn.ps) (hx : exec P.xs (call P k) fn.body (start fn.n ws) h = some (.ex x σ h1)) : callF P (k + 1) f ws h = some (.ex x (gcx h.length h1)) := by
  unfold callF
  rw [hf]
  simp only [if_pos hl]
  unfold call at hx
  rw [hx]
/-- data handed out: the new part goes -/
theorem gc_d {n : Nat} {x : D} (hn : h.length = n) (hw : wf h) : gc n (.d x) (h ++ t) = (.d x, h) := by
  subst hn
  unfold gc
  rw [List.take_left, if_pos (show h.all (O.below h.length) = true from hw)]
theorem gc_d0 {n : Nat} {x : D} (hn : h.length = n) (hw : wf h) : gc n (.d x) h = (.d x, h) := by
  have := gc_d (t := []) (x := x) hn hw
  rwa [List.append_nil] at this
theorem gcx_d {n : Nat} (hn : h.length = n) (hw : wf h) : gcx n (h ++ t) = h := by
  subst hn
  unfold gcx
  rw [List.take_left, if_pos (show h.all (O.below h.length) = true from hw)]
theorem gcx_d0 {n : Nat} (hn : h.length = n) (hw : wf h) : gcx n h = h := by
  have := gcx_d (t := []) hn hw
  rwa [List.append_nil] at this
/-- a new object handed out -/
theorem gc_new {n i : Nat} {o : O} (hn : h.length = n) (hw : wf h) (ho : t[i]? = some o) (hb : o.below n = true) : gc n (.r (n + i)) (h ++ t) = (.r n, h ++ [o]) := by
  subst hn
  unfold gc
  rw [List.take_left, if_pos (show h.all (O.below h.length) = true from hw)]
  dsimp only
  rw [if_neg (by omega), hget rfl, ho]
  dsimp only
  rw [if_pos hb]
theorem gc_new0 {n : Nat} {o : O} (hn : h.length = n) (hw : wf h) (ho : t[0]? = some o) (hb : o.below n = true) : gc n (.r n) (h ++ t) = (.r n, h ++ [o]) := gc_new (i := 0) hn hw ho hb
/-- an old one -/
theorem gc_old {n m : Nat} (hn : h.length = n) (hw : wf h) (hm : m < n) : gc n (.r m) (h ++ t) = (.r m, h) := by
  subst hn
  unfold gc
  rw [List.take_left, if_pos (show h.all (O.below h.length) = true from hw)]
  dsimp only
  rw [if_pos hm]
end

/-! ### loops -/
/-- a for whose turns all go on: I i: after i turns -/
theorem for_go {gs : List (Nat × List W)} {tg : T} {b : St → H → Option Out} (xs : List Item) (I : Nat → St → H → Prop)
    (step : ∀ i x σ h, xs[i]? = some x → I i σ h → still gs h = true ∧ ∃ σ1, take tg x σ = some σ1 ∧ ∃ σ2 h2, (b σ1 h = some (.ok (.nx σ2) h2) ∨ b σ1 h = some (.ok (.ct σ2) h2)) ∧ I (i + 1) σ2 h2)
    (last : ∀ σ h, I xs.length σ h → still gs h = true) : ∀ (σ : St) (h : H), I 0 σ h → ∃ σ' h', forL gs tg b xs σ h = some (.ok (.nx σ') h') ∧ I xs.length σ' h' := by
  have gen : ∀ (n i : Nat) (σ : St) (h : H), xs.length - i = n → i ≤ xs.length → I i σ h → ∃ σ' h', forL gs tg b (xs.drop i) σ h = some (.ok (.nx σ') h') ∧ I xs.length σ' h' := by
    intro n
    induction n with
    | zero =>
      intro i σ h e hi q
      have : i = xs.length := by omega
      subst this
      rw [List.drop_length]
      unfold forL
      rw [if_pos (last σ h q)]
      exact ⟨σ, h, rfl, q⟩
    | succ n ih =>
      intro i σ h e hi q
      have hlt : i < xs.length := by omega
      rw [List.drop_eq_getElem_cons hlt]
      obtain ⟨s, σ1, e1, σ2, h2, e2, q2⟩ := step i _ σ h (List.getElem?_eq_getElem hlt) q
      obtain ⟨σ', h', e3, q3⟩ := ih (i + 1) σ2 h2 (by omega) (by omega) q2
      refine ⟨σ', h', ?_, q3⟩
      unfold forL
      rw [if_pos s, e1]
      dsimp only
      rcases e2 with e2 | e2
      · rw [e2]; exact e3
      · rw [e2]; exact e3
  intro σ h q
  have := gen xs.length 0 σ h (by omega) (by omega) q
  simpa using this
/-- a for that may end early: R: what is then so -/
theorem for_or {gs : List (Nat × List W)} {tg : T} {b : St → H → Option Out} (xs : List Item) (I : Nat → St → H → Prop) (R : Out → Prop)
    (step : ∀ i x σ h, xs[i]? = some x → I i σ h → still gs h = true ∧ ∃ σ1, take tg x σ = some σ1 ∧ ((∃ σ2 h2, (b σ1 h = some (.ok (.nx σ2) h2) ∨ b σ1 h = some (.ok (.ct σ2) h2)) ∧ I (i + 1) σ2 h2) ∨
      (∃ σ2 h2, b σ1 h = some (.ok (.bk σ2) h2) ∧ R (.ok (.nx σ2) h2)) ∨ (∃ w h2, b σ1 h = some (.ok (.rt w) h2) ∧ R (.ok (.rt w) h2)) ∨ (∃ x σ2 h2, b σ1 h = some (.ex x σ2 h2) ∧ R (.ex x σ2 h2))))
    (last : ∀ σ h, I xs.length σ h → still gs h = true ∧ R (.ok (.nx σ) h)) : ∀ (σ : St) (h : H), I 0 σ h → ∃ o, forL gs tg b xs σ h = some o ∧ R o := by
  have gen : ∀ (n i : Nat) (σ : St) (h : H), xs.length - i = n → i ≤ xs.length → I i σ h → ∃ o, forL gs tg b (xs.drop i) σ h = some o ∧ R o := by
    intro n
    induction n with
    | zero =>
      intro i σ h e hi q
      have : i = xs.length := by omega
      subst this
      rw [List.drop_length]
      unfold forL
      rw [if_pos (last σ h q).1]
      exact ⟨_, rfl, (last σ h q).2⟩
    | succ n ih =>
      intro i σ h e hi q
      have hlt : i < xs.length := by omega
      rw [List.drop_eq_getElem_cons hlt]
      obtain ⟨s, σ1, e1, e2⟩ := step i _ σ h (List.getElem?_eq_getElem hlt) q
      unfold forL
      rw [if_pos s, e1]
      dsimp only
      rcases e2 with ⟨σ2, h2, e2, q2⟩ | ⟨σ2, h2, e2, q2⟩ | ⟨w, h2, e2, q2⟩ | ⟨x, σ2, h2, e2, q2⟩
      · obtain ⟨o, e3, q3⟩ := ih (i + 1) σ2 h2 (by omega) (by omega) q2
        refine ⟨o, ?_, q3⟩
        rcases e2 with e2 | e2
        · rw [e2]; exact e3
        · rw [e2]; exact e3
      · rw [e2]; exact ⟨_, rfl, q2⟩
      · rw [e2]; exact ⟨_, rfl, q2⟩
      · rw [e2]; exact ⟨_, rfl, q2⟩
  intro σ h q
  have := gen xs.length 0 σ h (by omega) (by omega) q
  simpa using this
theorem fuel_big {m : Nat} (h : m < 1000000000000) : ∃ n, FUEL = m + 1 + n := ⟨FUEL - (m + 1), by
  have : FUEL = 18446744073709551616 := by unfold FUEL; rfl
  omega⟩
/-- a while: m measures what is left -/
theorem whl_go {c : St → M Bool} {b : St → H → Option Out} (I : Nat → St → H → Prop)
    (step : ∀ m σ h, I m σ h → (c σ h = some (.ok false h) ∧ m = 0) ∨ (c σ h = some (.ok true h) ∧ 0 < m ∧ ∃ σ2 h2, (b σ h = some (.ok (.nx σ2) h2) ∨ b σ h = some (.ok (.ct σ2) h2)) ∧ I (m - 1) σ2 h2)) :
    ∀ (m n : Nat) (σ : St) (h : H), I m σ h → ∃ σ' h', whlL c b (m + 1 + n) σ h = some (.ok (.nx σ') h') ∧ I 0 σ' h' := by
  intro m
  induction m with
  | zero =>
    intro n σ h q
    rcases step 0 σ h q with ⟨e, _⟩ | ⟨_, z, _⟩
    · refine ⟨σ, h, ?_, q⟩
      rw [show 0 + 1 + n = n + 1 by omega]
      unfold whlL onE
      rw [e]
    · omega
  | succ m ih =>
    intro n σ h q
    rcases step (m + 1) σ h q with ⟨_, z⟩ | ⟨e, _, σ2, h2, e2, q2⟩
    · omega
    · obtain ⟨σ', h', e3, q3⟩ := ih n σ2 h2 q2
      refine ⟨σ', h', ?_, q3⟩
      rw [show m + 1 + 1 + n = (m + 1 + n) + 1 by omega]
      unfold whlL onE
      rw [e]
      dsimp only
      rcases e2 with e2 | e2
      · rw [e2]; exact e3
      · rw [e2]; exact e3
/-- a comprehension without a test whose turns answer ws, and leave the heap as I says -/
theorem comp_go {gs : List (Nat × List W)} {tg : T} {σ0 : St} {c : St → M Bool} {e : St → M W} {D : Nat} (xs : List Item) (I : Nat → List W → H → Prop)
    (step : ∀ i x acc h, xs[i]? = some x → I i acc h → still gs h = true ∧ ∃ σ1, take tg x σ0 = some σ1 ∧ ((∃ h1, c σ1 h = some (.ok false h1) ∧ I (i + 1) acc h1) ∨
      ∃ h1 w h2, c σ1 h = some (.ok true h1) ∧ e σ1 h1 = some (.ok w h2) ∧ h2[D]? = some (.lst acc) ∧ acc.length < SZ ∧ I (i + 1) (acc ++ [w]) (h2.set D (.lst (acc ++ [w])))))
    (last : ∀ acc h, I xs.length acc h → still gs h = true) : ∀ (acc : List W) (h : H), I 0 acc h → ∃ acc' h', compL gs tg σ0 c e D xs h = some (.ok () h') ∧ I xs.length acc' h' := by
  have gen : ∀ (n i : Nat) (acc : List W) (h : H), xs.length - i = n → i ≤ xs.length → I i acc h → ∃ acc' h', compL gs tg σ0 c e D (xs.drop i) h = some (.ok () h') ∧ I xs.length acc' h' := by
    intro n
    induction n with
    | zero =>
      intro i acc h e hi q
      have : i = xs.length := by omega
      subst this
      rw [List.drop_length]
      unfold compL
      rw [if_pos (last acc h q)]
      exact ⟨acc, h, rfl, q⟩
    | succ n ih =>
      intro i acc h e hi q
      have hlt : i < xs.length := by omega
      rw [List.drop_eq_getElem_cons hlt]
      obtain ⟨s, σ1, e1, e2⟩ := step i _ acc h (List.getElem?_eq_getElem hlt) q
      unfold compL
      rw [if_pos s, e1]
      dsimp only
      rcases e2 with ⟨h1, e2, q2⟩ | ⟨h1, w, h2, e2, e3, e4, e5, q2⟩
      · obtain ⟨acc', h', e3, q3⟩ := ih (i + 1) acc h1 (by omega) (by omega) q2
        exact ⟨acc', h', by rw [e2]; exact e3, q3⟩
      · obtain ⟨acc', h', e6, q6⟩ := ih (i + 1) _ _ (by omega) (by omega) q2
        refine ⟨acc', h', ?_, q6⟩
        rw [e2]
        dsimp only
        rw [e3]
        dsimp only
        rw [e4]
        dsimp only
        rw [if_pos e5]
        exact e6
  intro acc h q
  have := gen xs.length 0 acc h (by omega) (by omega) q
  simpa using this
/-- a comprehension without a test, of values that leave the heap alone -/
theorem comp_map {gs : List (Nat × List W)} {tg : T} {σ0 : St} {c : St → M Bool} {e : St → M W} {h : H} {xs : List W} {f : W → W} {n : Nat} (hn : h.length = n) (hg : ∀ acc, still gs (h ++ [.lst acc]) = true) (hl : xs.length < 16777216)
    (hx : ∀ x ∈ xs, ∀ acc, (∀ z ∈ acc, ∃ u ∈ xs, z = f u) → ∃ σ1, take tg (.one x) σ0 = some σ1 ∧ c σ1 (h ++ [.lst acc]) = some (.ok true (h ++ [.lst acc])) ∧ e σ1 (h ++ [.lst acc]) = some (.ok (f x) (h ++ [.lst acc]))) :
    compL gs tg σ0 c e n (xs.map Item.one) (h ++ [.lst []]) = some (.ok () (h ++ [.lst (xs.map f)])) := by
  obtain ⟨acc, h', e1, e2, e3⟩ := comp_go (gs := gs) (tg := tg) (σ0 := σ0) (c := c) (e := e) (D := n) (xs.map Item.one) (fun i acc h' => acc = (xs.take i).map f ∧ h' = h ++ [.lst acc]) (fun i x acc h' ex ⟨e1, e2⟩ => by
    subst e2
    refine ⟨hg acc, ?_⟩
    rw [List.getElem?_map] at ex
    cases e0 : xs[i]? with
    | none => rw [e0] at ex; cases ex
    | some x0 =>
      rw [e0] at ex
      have ex' : Item.one x0 = x := Option.some.inj ex
      subst ex'
      have hi : i < xs.length := (List.getElem?_eq_some_iff.mp e0).1
      obtain ⟨σ1, t1, t2, t3⟩ := hx x0 (List.mem_of_getElem? e0) acc (fun z hz => by
        rw [e1] at hz
        obtain ⟨u, hu, rfl⟩ := List.mem_map.mp hz
        exact ⟨u, List.mem_of_mem_take hu, rfl⟩)
      refine ⟨σ1, t1, .inr ⟨_, f x0, _, t2, t3, hget0 hn, ?_, ?_, ?_⟩⟩
      · rw [e1, SZv]; simp; omega
      · rw [e1, List.take_succ, e0]; simp
      · rw [hset0 hn]; rfl) (fun acc h' ⟨_, e2⟩ => by subst e2; exact hg acc) [] (h ++ [.lst []]) ⟨by simp, rfl⟩
  rw [e1, e3, e2]
  simp
/-! ### data -/
theorem allD_mapD : ∀ {ds : List D}, allD (ds.map W.d) = some ds
  | [] => rfl
  | d :: ds => by
    rw [List.map_cons]
    unfold allD
    rw [allD_mapD]
mutual
theorem pyEq_refl : ∀ d : D, pyEq d d = true
  | .non => rfl
  | .bl b => by unfold pyEq; simp
  | .int i => by unfold pyEq; simp
  | .str s => by unfold pyEq; simp
  | .tup ds => by unfold pyEq; exact pyEqs_refl ds
theorem pyEqs_refl : ∀ d : List D, pyEqs d d = true
  | [] => rfl
  | d :: ds => by unfold pyEqs; rw [pyEq_refl d, pyEqs_refl ds]; rfl
end
theorem depths_le {n : Nat} : ∀ {ds : List D}, (∀ d ∈ ds, d.depth ≤ n) → D.depths ds ≤ n
  | [], _ => Nat.zero_le _
  | d :: ds, h => by
    unfold D.depths
    exact Nat.max_le.mpr ⟨h d List.mem_cons_self, depths_le fun x hx => h x (List.mem_cons_of_mem _ hx)⟩
theorem eqW_lst {h : H} {m n : Nat} {ds : List D} (hm : h[m]? = some (.lst (ds.map W.d))) (hn : h[n]? = some (.lst (ds.map W.d))) (hd : ∀ d ∈ ds, d.depth ≤ 59) : eqW (.r m) (.r n) h = some true := by
  unfold eqW
  dsimp only
  rw [hm, hn]
  dsimp only
  rw [allD_mapD]
  dsimp only
  have : (D.tup ds).depth ≤ 60 := by
    unfold D.depth
    have := depths_le hd
    omega
  rw [if_pos (by unfold eqOk; simp [this]), pyEqs_refl]
end DI

/-! DI7: the pool of figures that all laws draw from. -/
namespace DI
def takeFn : Fn := ⟨5, 2,
  (.seq (.setI (.var 0) (.cst (.int 1)) (.bin .add (.ix (.var 0) (.cst (.int 1))) (.cst (.int 1))))
  (.seq (.ife (.cmp .eq (.ix (.var 0) (.cst (.int 2))) (.cst (.int 1)))
    (.seq (.set 2 (.bin .mod (.blt .int (.cons (.ix (.var 0) (.cst (.int 0))) .nil)) (.var 1)))
    (.seq (.setI (.var 0) (.cst (.int 0)) (.bin .fdiv (.ix (.var 0) (.cst (.int 0))) (.var 1)))
    (.ret (.some (.var 2)))))
    .skip)
  (.seq (.set 3 (.bin .mod (.blt .int (.cons (.bin .add (.bin .add (.bin .mul (.ix (.var 0) (.cst (.int 3))) (.cst (.int 48271))) (.bin .mul (.ix (.var 0) (.cst (.int 1))) (.cst (.int 69621)))) (.cst (.int 11))) .nil)) (.cst (.int 2147483647))))
  (.seq (.set 4 (.bin .mod (.blt .int (.cons (.bin .add (.bin .add (.bin .mul (.var 3) (.cst (.int 16807))) (.bin .fdiv (.var 3) (.cst (.int 65536)))) (.bin .mul (.bin .mul (.ix (.var 0) (.cst (.int 1))) (.ix (.var 0) (.cst (.int 1)))) (.cst (.int 40692)))) .nil)) (.cst (.int 2147483399))))
  (.ret (.some (.bin .mod (.blt .int (.cons (.bin .fdiv (.var 4) (.bin .add (.ix (.var 0) (.cst (.int 1))) (.cst (.int 6)))) .nil)) (.var 1))))))))⟩
def poolFn : Fn := ⟨3, 2,
  (.seq (.set 2 (.cst (.int 0)))
  (.seq (.ife (.cmp .lt (.var 1) (.blt .len (.cons (.var 0) .nil)))
    (.set 2 (.blt .abs (.cons (.blt .int (.cons (.ix (.var 0) (.var 1)) .nil)) .nil)))
    .skip)
  (.ret (.some (.lst (.cons (.var 2) (.cons (.cst (.int 0)) (.cons (.blt .int (.cons (.cmp .ge (.var 2) (.bin .pow (.cst (.int 10)) (.cst (.int 18)))) .nil)) (.cons (.bin .mod (.blt .int (.cons (.bin .add (.var 2) (.bin .mul (.var 1) (.cst (.int 7919)))) .nil)) (.cst (.int 2147483647))) (.cons (.cst (.int 3)) .nil))))))))))⟩
/-- a pool of which at most N figures were taken -/
def Pool (N : Nat) (xs : List W) : Prop := ∃ a b c d e : Int, xs = [.d (.int a), .d (.int b), .d (.int c), .d (.int d), .d (.int e)] ∧ 0 ≤ b ∧ b ≤ N
theorem Pool.below {N n : Nat} {xs : List W} (h : Pool N xs) : O.below n (.lst xs) = true := by
  obtain ⟨a, b, c, d, e, rfl, _⟩ := h
  rfl
theorem Pool.mono {N M : Nat} {xs : List W} (h : Pool N xs) (hm : N ≤ M) : Pool M xs := by
  obtain ⟨a, b, c, d, e, rfl, h1, h2⟩ := h
  exact ⟨a, b, c, d, e, rfl, h1, by omega⟩
theorem log2_small {j : Int} (h0 : 0 < j) (h : j < 18446744073709551616) : j.natAbs.log2 < 9000 := by
  have h1 : j.natAbs ≠ 0 := by omega
  rw [Nat.log2_lt h1]
  have : j.natAbs < 2 ^ 64 := by omega
  exact Nat.lt_of_lt_of_le this (Nat.pow_le_pow_right (n := 2) (by decide) (by decide : 64 ≤ 9000))
theorem sz_ge {n : Nat} (h : n ≤ 10000000) : n ≤ SZ := by
  have : SZ = 16777216 := by unfold SZ; rfl
  omega
section
variable {P : Prog} {k i p N : Nat} {h : H} {xs : List W} {many : Int}
theorem take_ok (hf : P.fns[i]? = some takeFn) (hw : wf h) (hp : h[p]? = some (.lst xs)) (px : Pool N xs) (hN : N < 1000000000000) (h0 : 0 < many) (h1 : many < 18446744073709551616) :
    ∃ r xs', 0 ≤ r ∧ r < many ∧ Pool (N + 1) xs' ∧ callF P (k + 1) i [.r p, .d (.int many)] h = some (.ok (.d (.int r)) (h.set p (.lst xs'))) := by
  obtain ⟨a, b, c, d, e, rfl, hb0, hb1⟩ := px
  have hlt : p < h.length := (List.getElem?_eq_some_iff.mp hp).1
  have hs : ∀ o : O, (h.set p o)[p]? = some o := fun o => List.getElem?_set_self hlt
  have fin : ∀ {r : Int} {xs' : List W}, Pool (N + 1) xs' → exec P.xs (call P k) takeFn.body (start takeFn.n [.r p, .d (.int many)]) h = some (.ok (.rt (.d (.int r))) (h.set p (.lst xs'))) → callF P (k + 1) i [.r p, .d (.int many)] h = some (.ok (.d (.int r)) (h.set p (.lst xs'))) := fun {r xs'} px' e => by
    rw [call_rt hf rfl e, gc_d0 (by simp) (wf_set hw px'.below)]
  by_cases hc : c = 1
  · refine ⟨a % many, [.d (.int (a / many)), .d (.int (b + 1)), .d (.int c), .d (.int d), .d (.int e)], Int.emod_nonneg _ (by omega), Int.emod_lt_of_pos _ h0, ⟨_, _, _, _, _, rfl, by omega, by omega⟩, fin ⟨_, _, _, _, _, rfl, by omega, by omega⟩ ?_⟩
    clear hlt
    simp [takeFn, exec, ev, evT, evs, evo, evC, evI, M.bind, M.ask, M.pure, M.opt, M.fail, onE, binOp, addW, subW, mulW, fdivW, modW, powW, cmpOp, eqW, gtW, ltW, leW, geW, ltD, isNonW, bifn, lenW, absW, intW, max2W, min2W, tupleW, listW, allD, allI, eqOk, D.depth, D.depths, pyEq, pyEqs, getIx, setIx, ixn, augOp, tyAny, tyB, truth, meth, recv, recvL, recvS, isLst, appendW, reverseW, popW, extendW, start, take, setAll, mulOk, ibeq, SZv, log2_nat, hp, hc, h0, log2_small h0 h1, hs, List.set_set]
  · refine ⟨((((d * 48271 + (b + 1) * 69621 + 11) % 2147483647) * 16807 + ((d * 48271 + (b + 1) * 69621 + 11) % 2147483647) / 65536 + (b + 1) * (b + 1) * 40692) % 2147483399 / (b + 1 + 6)) % many, [.d (.int a), .d (.int (b + 1)), .d (.int c), .d (.int d), .d (.int e)], Int.emod_nonneg _ (by omega), Int.emod_lt_of_pos _ h0, ⟨_, _, _, _, _, rfl, by omega, by omega⟩, fin ⟨_, _, _, _, _, rfl, by omega, by omega⟩ ?_⟩
    have m1 : (b + 1).natAbs < 18446744073709551616 := by omega
    have m2 : 0 < b + 1 + 6 := by omega
    have m3 : (b + 1 + 6).natAbs.log2 < 9000 := log2_small m2 (by omega)
    have m4 : Nat.log2 65536 < 9000 := by decide +kernel
    clear hlt
    simp [takeFn, exec, ev, evT, evs, evo, evC, evI, M.bind, M.ask, M.pure, M.opt, M.fail, onE, binOp, addW, subW, mulW, fdivW, modW, powW, cmpOp, eqW, gtW, ltW, leW, geW, ltD, isNonW, bifn, lenW, absW, intW, max2W, min2W, tupleW, listW, allD, allI, eqOk, D.depth, D.depths, pyEq, pyEqs, getIx, setIx, ixn, augOp, tyAny, tyB, truth, meth, recv, recvL, recvS, isLst, appendW, reverseW, popW, extendW, start, take, setAll, mulOk, ibeq, SZv, log2_nat, hp, hc, h0, hs, m1, m2, m3, m4, List.set_set]
theorem pool_ok {ns : List Int} {at_ : Int} (hf : P.fns[i]? = some poolFn) (hw : wf h) (h0 : 0 ≤ at_) :
    ∃ xs', Pool 0 xs' ∧ callF P (k + 1) i [.ro ns, .d (.int at_)] h = some (.ok (.r h.length) (h ++ [.lst xs'])) := by
  have fin : ∀ {xs' : List W}, Pool 0 xs' → exec P.xs (call P k) poolFn.body (start poolFn.n [.ro ns, .d (.int at_)]) h = some (.ok (.rt (.r h.length)) (h ++ [.lst xs'])) → callF P (k + 1) i [.ro ns, .d (.int at_)] h = some (.ok (.r h.length) (h ++ [.lst xs'])) := fun {xs'} px' e => by
    rw [call_rt hf rfl e, gc_new0 rfl hw (o := .lst xs') rfl px'.below]
  by_cases hl : at_ < (ns.length : Int)
  · have hn : at_.toNat < ns.length := by omega
    have e : ns[at_.toNat]? = some ns[at_.toNat] := List.getElem?_eq_getElem hn
    generalize hv : ns[at_.toNat] = v at e
    have r := fin (xs' := [.d (.int (if v < 0 then -v else v)), .d (.int 0), .d (.int (if (1000000000000000000 : Int) ≤ (if v < 0 then -v else v) then 1 else 0)), .d (.int (((if v < 0 then -v else v) + at_ * 7919) % 2147483647)), .d (.int 3)]) ⟨_, _, _, _, _, rfl, by omega, by omega⟩
    refine ⟨_, ⟨_, _, _, _, _, rfl, by omega, by omega⟩, r ?_⟩
    simp [poolFn, exec, ev, evT, evs, evo, evC, evI, M.bind, M.ask, M.pure, M.opt, M.fail, onE, binOp, addW, subW, mulW, fdivW, modW, powW, cmpOp, eqW, gtW, ltW, leW, geW, ltD, isNonW, bifn, lenW, absW, intW, max2W, min2W, tupleW, listW, allD, allI, eqOk, D.depth, D.depths, pyEq, pyEqs, getIx, setIx, ixn, augOp, tyAny, tyB, truth, meth, recv, recvL, recvS, isLst, appendW, reverseW, popW, extendW, start, take, setAll, mulOk, ibeq, SZv, log2_nat, hl, h0, e, hv]
  · have r := fin (xs' := [.d (.int 0), .d (.int 0), .d (.int 0), .d (.int ((0 + at_ * 7919) % 2147483647)), .d (.int 3)]) ⟨_, _, _, _, _, rfl, by omega, by omega⟩
    refine ⟨_, ⟨_, _, _, _, _, rfl, by omega, by omega⟩, r ?_⟩
    simp [poolFn, exec, ev, evT, evs, evo, evC, evI, M.bind, M.ask, M.pure, M.opt, M.fail, onE, binOp, addW, subW, mulW, fdivW, modW, powW, cmpOp, eqW, gtW, ltW, leW, geW, ltD, isNonW, bifn, lenW, absW, intW, max2W, min2W, tupleW, listW, allD, allI, eqOk, D.depth, D.depths, pyEq, pyEqs, getIx, setIx, ixn, augOp, tyAny, tyB, truth, meth, recv, recvL, recvS, isLst, appendW, reverseW, popW, extendW, start, take, setAll, mulOk, ibeq, SZv, log2_nat, hl, h0]
end
end DI

namespace LW
open PySem DI
/-! ### the defs of the text -/
def top (i : Nat) : Stmt := PySem.Challenge.pw_pagestyles_k26_whole_steps_of_strokes.main.body.getD i (.Pass ⟨0, 0, 0, 0⟩)
def XS : List XCls := []
def xs : List Str := []
def Hd : List (Str × List Nat) := []
def G : List (Str × Gv) := [("abs", .bltn), ("range", .bltn), ("sign", .fn 0), ("takes_first_move", .fn 2), ("line_steps", .fn 1), ("arc_steps", .fn 3), ("len", .bltn), ("int", .bltn), ("isinstance", .bltn), ("tuple", .bltn), ("bool", .bltn), ("_law_moves", .fn 8), ("list", .bltn), ("_law_step", .fn 7), ("_law_pool", .fn 5), ("_law_take", .fn 6), ("unit_steps", .fn 4), ("_law_right", .fn 9), ("_law_image", .fn 10), ("_law_sign", .fn 12), ("_law_pairs", .fn 14), ("_law_right_two", .fn 13), ("_law_part_one", .fn 11), ("_law_part_two", .fn 15)]
/-! 0: sign ["number"] -/
def d0 : DefT := ⟨"sign", top 1, ["number"], ["number"]⟩
def f0 : Fn := ⟨1, 1,
  (.seq (.ife (.cmp .gt (.var 0) (.cst (.int 0)))
    (.ret (.some (.cst (.int 1))))
    .skip)
  (.seq (.ife (.cmp .lt (.var 0) (.cst (.int 0)))
    (.ret (.some (.neg (.cst (.int 1)))))
    .skip)
  (.ret (.some (.cst (.int 0))))))⟩
/-! 1: line_steps ["dx", "dy", "across", "length", "steps", "k"] -/
def d1 : DefT := ⟨"line_steps", top 2, ["dx", "dy", "across", "length", "steps", "k"], ["dx", "dy"]⟩
def b1_0 : S := 
  (.ife (.cmp .gt (.bin .fdiv (.bin .mul (.bin .add (.var 5) (.cst (.int 1))) (.var 2)) (.var 3)) (.bin .fdiv (.bin .mul (.var 5) (.var 2)) (.var 3)))
    (.expr (.meth .append (.var 4) (.cons (.tup (.cons (.call 0 (.cons (.var 0) .nil)) (.cons (.cst (.int 0)) .nil))) .nil)))
    (.expr (.meth .append (.var 4) (.cons (.tup (.cons (.cst (.int 0)) (.cons (.call 0 (.cons (.var 1) .nil)) .nil))) .nil))))
def f1 : Fn := ⟨6, 2,
  (.seq (.set 2 (.blt .abs (.cons (.var 0) .nil)))
  (.seq (.set 3 (.bin .add (.var 2) (.blt .abs (.cons (.var 1) .nil))))
  (.seq (.set 4 (.lst .nil))
  (.seq (.for (.name 5) (.rng1 (.var 3)) b1_0)
  (.ret (.some (.var 4)))))))⟩
/-! 2: takes_first_move ["a", "b", "radius", "square", "after_first", "after_second"] -/
def d2 : DefT := ⟨"takes_first_move", top 3, ["a", "b", "radius", "square", "after_first", "after_second"], ["a", "b", "radius"]⟩
def f2 : Fn := ⟨6, 3,
  (.seq (.ife (.cmp .eq (.var 0) (.cst (.int 0)))
    (.ret (.some (.cst (.bl true))))
    .skip)
  (.seq (.ife (.cmp .eq (.var 1) (.var 2))
    (.ret (.some (.cst (.bl false))))
    .skip)
  (.seq (.set 3 (.bin .mul (.var 2) (.var 2)))
  (.seq (.set 4 (.blt .abs (.cons (.bin .sub (.bin .add (.bin .mul (.var 0) (.var 0)) (.bin .mul (.bin .add (.var 1) (.cst (.int 1))) (.bin .add (.var 1) (.cst (.int 1))))) (.var 3)) .nil)))
  (.seq (.set 5 (.blt .abs (.cons (.bin .sub (.bin .add (.bin .mul (.bin .sub (.var 0) (.cst (.int 1))) (.bin .sub (.var 0) (.cst (.int 1)))) (.bin .mul (.var 1) (.var 1))) (.var 3)) .nil)))
  (.ret (.some (.cmp .le (.var 4) (.var 5)))))))))⟩
/-! 3: arc_steps ["first", "second", "radius", "a", "b", "steps"] -/
def d3 : DefT := ⟨"arc_steps", top 4, ["first", "second", "radius", "a", "b", "steps"], ["first", "second", "radius"]⟩
def b3_0 : E := (.or (.cmp .gt (.var 3) (.cst (.int 0))) (.cmp .lt (.var 4) (.var 2)))
def b3_1 : S := 
  (.ife (.call 2 (.cons (.var 3) (.cons (.var 4) (.cons (.var 2) .nil))))
    (.seq (.expr (.meth .append (.var 5) (.cons (.var 0) .nil)))
    (.aug 4 .add (.cst (.int 1))))
    (.seq (.expr (.meth .append (.var 5) (.cons (.var 1) .nil)))
    (.aug 3 .sub (.cst (.int 1)))))
def f3 : Fn := ⟨6, 3,
  (.seq (.set 3 (.var 2))
  (.seq (.set 4 (.cst (.int 0)))
  (.seq (.set 5 (.lst .nil))
  (.seq (.whl b3_0 b3_1)
  (.ret (.some (.var 5)))))))⟩
/-! 4: unit_steps ["stroke", "sort", "dx", "dy", "level", "upright"] -/
def d4 : DefT := ⟨"unit_steps", top 5, ["stroke", "sort", "dx", "dy", "level", "upright"], ["stroke"]⟩
def f4 : Fn := ⟨6, 1,
  (.seq (.setT [1, 2, 3] (.var 0))
  (.seq (.ife (.cmp .eq (.var 1) (.cst (.str ['l', 'i', 'n', 'e'])))
    (.ret (.some (.call 1 (.cons (.var 2) (.cons (.var 3) .nil)))))
    .skip)
  (.seq (.set 4 (.tup (.cons (.call 0 (.cons (.var 2) .nil)) (.cons (.cst (.int 0)) .nil))))
  (.seq (.set 5 (.tup (.cons (.cst (.int 0)) (.cons (.call 0 (.cons (.var 3) .nil)) .nil))))
  (.seq (.ife (.cmp .eq (.var 1) (.cst (.str ['f', 'l', 'a', 't'])))
    (.ret (.some (.call 3 (.cons (.var 4) (.cons (.var 5) (.cons (.blt .abs (.cons (.var 2) .nil)) .nil))))))
    .skip)
  (.ret (.some (.call 3 (.cons (.var 5) (.cons (.var 4) (.cons (.blt .abs (.cons (.var 2) .nil)) .nil)))))))))))⟩
/-! 5: _law_pool ["script", "at", "cell"] -/
def d5 : DefT := ⟨"_law_pool", top 7, ["script", "at", "cell"], ["script", "at"]⟩
def f5 : Fn := ⟨3, 2,
  (.seq (.set 2 (.cst (.int 0)))
  (.seq (.ife (.cmp .lt (.var 1) (.blt .len (.cons (.var 0) .nil)))
    (.set 2 (.blt .abs (.cons (.blt .int (.cons (.ix (.var 0) (.var 1)) .nil)) .nil)))
    .skip)
  (.ret (.some (.lst (.cons (.var 2) (.cons (.cst (.int 0)) (.cons (.blt .int (.cons (.cmp .ge (.var 2) (.bin .pow (.cst (.int 10)) (.cst (.int 18)))) .nil)) (.cons (.bin .mod (.blt .int (.cons (.bin .add (.var 2) (.bin .mul (.var 1) (.cst (.int 7919)))) .nil)) (.cst (.int 2147483647))) (.cons (.cst (.int 3)) .nil))))))))))⟩
/-! 6: _law_take ["pool", "many", "got", "one", "two"] -/
def d6 : DefT := ⟨"_law_take", top 8, ["pool", "many", "got", "one", "two"], ["pool", "many"]⟩
def f6 : Fn := ⟨5, 2,
  (.seq (.setI (.var 0) (.cst (.int 1)) (.bin .add (.ix (.var 0) (.cst (.int 1))) (.cst (.int 1))))
  (.seq (.ife (.cmp .eq (.ix (.var 0) (.cst (.int 2))) (.cst (.int 1)))
    (.seq (.set 2 (.bin .mod (.blt .int (.cons (.ix (.var 0) (.cst (.int 0))) .nil)) (.var 1)))
    (.seq (.setI (.var 0) (.cst (.int 0)) (.bin .fdiv (.ix (.var 0) (.cst (.int 0))) (.var 1)))
    (.ret (.some (.var 2)))))
    .skip)
  (.seq (.set 3 (.bin .mod (.blt .int (.cons (.bin .add (.bin .add (.bin .mul (.ix (.var 0) (.cst (.int 3))) (.cst (.int 48271))) (.bin .mul (.ix (.var 0) (.cst (.int 1))) (.cst (.int 69621)))) (.cst (.int 11))) .nil)) (.cst (.int 2147483647))))
  (.seq (.set 4 (.bin .mod (.blt .int (.cons (.bin .add (.bin .add (.bin .mul (.var 3) (.cst (.int 16807))) (.bin .fdiv (.var 3) (.cst (.int 65536)))) (.bin .mul (.bin .mul (.ix (.var 0) (.cst (.int 1))) (.ix (.var 0) (.cst (.int 1)))) (.cst (.int 40692)))) .nil)) (.cst (.int 2147483399))))
  (.ret (.some (.bin .mod (.blt .int (.cons (.bin .fdiv (.var 4) (.bin .add (.ix (.var 0) (.cst (.int 1))) (.cst (.int 6)))) .nil)) (.var 1))))))))⟩
/-! 7: _law_step ["told", "number"] -/
def d7 : DefT := ⟨"_law_step", top 9, ["told", "number"], ["told"]⟩
def b7_0 : S := 
  (.ife (.or (.not (.isin (.var 1) [.int])) (.isin (.var 1) [.bool]))
    (.ret (.some (.cst (.bl false))))
    .skip)
def f7 : Fn := ⟨2, 1,
  (.seq (.ife (.or (.not (.isin (.var 0) [.tuple])) (.cmp .ne (.blt .len (.cons (.var 0) .nil)) (.cst (.int 2))))
    (.ret (.some (.cst (.bl false))))
    .skip)
  (.seq (.for (.name 1) (.seq (.var 0)) b7_0)
  (.ret (.some (.cst (.bl true))))))⟩
/-! 8: _law_moves ["stroke", "level", "upright"] -/
def d8 : DefT := ⟨"_law_moves", top 10, ["stroke", "level", "upright"], ["stroke"]⟩
def f8 : Fn := ⟨3, 1,
  (.seq (.set 1 (.tup (.cons (.bin .fdiv (.ix (.var 0) (.cst (.int 1))) (.blt .abs (.cons (.ix (.var 0) (.cst (.int 1))) .nil))) (.cons (.cst (.int 0)) .nil))))
  (.seq (.set 2 (.tup (.cons (.cst (.int 0)) (.cons (.bin .fdiv (.ix (.var 0) (.cst (.int 2))) (.blt .abs (.cons (.ix (.var 0) (.cst (.int 2))) .nil))) .nil))))
  (.seq (.ife (.cmp .eq (.ix (.var 0) (.cst (.int 0))) (.cst (.str ['f', 'l', 'a', 't'])))
    (.ret (.some (.lst (.cons (.var 1) (.cons (.var 2) .nil)))))
    .skip)
  (.ret (.some (.lst (.cons (.var 2) (.cons (.var 1) .nil))))))))⟩
/-! 9: _law_right ["stroke", "told", "bend", "moves", "a", "b", "step", "along", "inward"] -/
def d9 : DefT := ⟨"_law_right", top 11, ["stroke", "told", "bend", "moves", "a", "b", "step", "along", "inward"], ["stroke", "told"]⟩
def b9_0 : S := 
  (.seq (.ife (.not (.call 7 (.cons (.var 6) .nil)))
    (.ret (.some (.cst (.bl false))))
    .skip)
  (.seq (.set 7 (.blt .abs (.cons (.bin .sub (.bin .add (.bin .mul (.var 4) (.var 4)) (.bin .mul (.bin .add (.var 5) (.cst (.int 1))) (.bin .add (.var 5) (.cst (.int 1))))) (.bin .mul (.var 2) (.var 2))) .nil)))
  (.seq (.set 8 (.blt .abs (.cons (.bin .sub (.bin .add (.bin .mul (.bin .sub (.var 4) (.cst (.int 1))) (.bin .sub (.var 4) (.cst (.int 1)))) (.bin .mul (.var 5) (.var 5))) (.bin .mul (.var 2) (.var 2))) .nil)))
  (.seq (.ife (.cmp .eq (.var 6) (.ix (.var 3) (.cst (.int 0))))
    (.seq (.ife (.and (.cmp .gt (.var 4) (.cst (.int 0))) (.or (.cmp .eq (.var 5) (.var 2)) (.cmp .gt (.var 7) (.var 8))))
      (.ret (.some (.cst (.bl false))))
      .skip)
    (.set 5 (.bin .add (.var 5) (.cst (.int 1)))))
    (.ife (.cmp .eq (.var 6) (.ix (.var 3) (.cst (.int 1))))
      (.seq (.ife (.or (.cmp .eq (.var 4) (.cst (.int 0))) (.and (.cmp .lt (.var 5) (.var 2)) (.cmp .le (.var 7) (.var 8))))
        (.ret (.some (.cst (.bl false))))
        .skip)
      (.set 4 (.bin .sub (.var 4) (.cst (.int 1)))))
      (.ret (.some (.cst (.bl false))))))
  (.ife (.cmp .ge (.blt .abs (.cons (.bin .sub (.bin .add (.bin .mul (.var 4) (.var 4)) (.bin .mul (.var 5) (.var 5))) (.bin .mul (.var 2) (.var 2))) .nil)) (.bin .mul (.cst (.int 2)) (.var 2)))
    (.ret (.some (.cst (.bl false))))
    .skip)))))
def f9 : Fn := ⟨9, 2,
  (.seq (.set 2 (.blt .abs (.cons (.ix (.var 0) (.cst (.int 1))) .nil)))
  (.seq (.set 3 (.call 8 (.cons (.var 0) .nil)))
  (.seq (.ife (.or (.not (.isin (.var 1) [.list])) (.cmp .ne (.blt .len (.cons (.var 1) .nil)) (.bin .mul (.cst (.int 2)) (.var 2))))
    (.ret (.some (.cst (.bl false))))
    .skip)
  (.seq (.set 4 (.var 2))
  (.seq (.set 5 (.cst (.int 0)))
  (.seq (.for (.name 6) (.seq (.var 1)) b9_0)
  (.ret (.some (.and (.cmp .eq (.var 4) (.cst (.int 0))) (.cmp .eq (.var 5) (.var 2)))))))))))⟩
/-! 10: _law_image ["x", "y", "turn", "across", "up"] -/
def d10 : DefT := ⟨"_law_image", top 12, ["x", "y", "turn", "across", "up"], ["x", "y", "turn"]⟩
def f10 : Fn := ⟨5, 3,
  (.seq (.set 3 (.bin .sub (.cst (.int 1)) (.bin .mul (.cst (.int 2)) (.bin .mod (.blt .int (.cons (.var 2) .nil)) (.cst (.int 2))))))
  (.seq (.set 4 (.bin .sub (.cst (.int 1)) (.bin .mul (.cst (.int 2)) (.bin .mod (.blt .int (.cons (.bin .fdiv (.var 2) (.cst (.int 2))) .nil)) (.cst (.int 2))))))
  (.seq (.ife (.cmp .ge (.var 2) (.cst (.int 4)))
    (.ret (.some (.tup (.cons (.bin .mul (.var 3) (.var 1)) (.cons (.bin .mul (.var 4) (.var 0)) .nil)))))
    .skip)
  (.ret (.some (.tup (.cons (.bin .mul (.var 3) (.var 0)) (.cons (.bin .mul (.var 4) (.var 1)) .nil))))))))⟩
/-! 11: _law_part_one ["script", "pool", "sort", "bend", "dx", "dy", "sorts", "told", "steps", "turn", "ends", "stroke", "images", ".0", "step"] -/
def d11 : DefT := ⟨"_law_part_one", top 13, ["script", "pool", "sort", "bend", "dx", "dy", "sorts", "told", "steps", "turn", "ends", "stroke", "images", ".0", "step"], ["script"]⟩
def b11_0 : E := (.call 10 (.cons (.ix (.var 14) (.cst (.int 0))) (.cons (.ix (.var 14) (.cst (.int 1))) (.cons (.var 9) .nil))))
def b11_1 : S := 
  (.seq (.set 10 (.call 10 (.cons (.var 4) (.cons (.var 5) (.cons (.var 9) .nil)))))
  (.seq (.set 11 (.tup (.cons (.ix (.var 6) (.bin .mod (.blt .int (.cons (.bin .add (.var 2) (.bin .fdiv (.var 9) (.cst (.int 4)))) .nil)) (.cst (.int 2)))) (.cons (.ix (.var 10) (.cst (.int 0))) (.cons (.ix (.var 10) (.cst (.int 1))) .nil)))))
  (.seq (.set 12 (.comp b11_0 (.name 14) (.seq (.var 8)) .none [13, 14]))
  (.seq (.set 7 (.call 4 (.cons (.var 11) .nil)))
  (.ife (.or (.not (.call 9 (.cons (.var 11) (.cons (.var 7) .nil)))) (.cmp .ne (.var 7) (.var 12)))
    (.ret (.some (.cst (.bl false))))
    .skip)))))
def f11 : Fn := ⟨15, 1,
  (.seq (.set 1 (.call 5 (.cons (.var 0) (.cons (.cst (.int 0)) .nil))))
  (.seq (.set 2 (.call 6 (.cons (.var 1) (.cons (.cst (.int 2)) .nil))))
  (.seq (.set 3 (.bin .add (.cst (.int 1)) (.call 6 (.cons (.var 1) (.cons (.cst (.int 12)) .nil)))))
  (.seq (.set 4 (.bin .mul (.var 3) (.bin .sub (.cst (.int 1)) (.bin .mul (.cst (.int 2)) (.call 6 (.cons (.var 1) (.cons (.cst (.int 2)) .nil)))))))
  (.seq (.set 5 (.bin .mul (.var 3) (.bin .sub (.cst (.int 1)) (.bin .mul (.cst (.int 2)) (.call 6 (.cons (.var 1) (.cons (.cst (.int 2)) .nil)))))))
  (.seq (.set 6 (.lst (.cons (.cst (.str ['f', 'l', 'a', 't'])) (.cons (.cst (.str ['s', 't', 'e', 'e', 'p'])) .nil))))
  (.seq (.set 7 (.call 4 (.cons (.tup (.cons (.ix (.var 6) (.var 2)) (.cons (.var 4) (.cons (.var 5) .nil)))) .nil)))
  (.seq (.ife (.not (.call 9 (.cons (.tup (.cons (.ix (.var 6) (.var 2)) (.cons (.var 4) (.cons (.var 5) .nil)))) (.cons (.var 7) .nil))))
    (.ret (.some (.cst (.bl false))))
    .skip)
  (.seq (.set 8 (.blt .list (.cons (.var 7) .nil)))
  (.seq (.expr (.meth .reverse (.var 7) .nil))
  (.seq (.expr (.meth .append (.var 7) (.cons (.tup (.cons (.cst (.int 0)) (.cons (.cst (.int 0)) .nil))) .nil)))
  (.seq (.for (.name 9) (.rng1 (.cst (.int 8))) b11_1)
  (.ret (.some (.cst (.bl true))))))))))))))))⟩
/-! 12: _law_sign ["number"] -/
def d12 : DefT := ⟨"_law_sign", top 14, ["number"], ["number"]⟩
def f12 : Fn := ⟨1, 1,
  (.ret (.some (.bin .sub (.blt .int (.cons (.cmp .gt (.var 0) (.cst (.int 0))) .nil)) (.blt .int (.cons (.cmp .lt (.var 0) (.cst (.int 0))) .nil)))))⟩
/-! 13: _law_right_two ["stroke", "told", "wide", "many", "level", "upright", "across", "x", "y", "k"] -/
def d13 : DefT := ⟨"_law_right_two", top 15, ["stroke", "told", "wide", "many", "level", "upright", "across", "x", "y", "k"], ["stroke", "told"]⟩
def b13_0 : S := 
  (.seq (.ife (.not (.call 7 (.cons (.ix (.var 1) (.var 9)) .nil)))
    (.ret (.some (.cst (.bl false))))
    .skip)
  (.seq (.ife (.cmp .eq (.ix (.var 1) (.var 9)) (.var 4))
    (.set 6 (.bin .add (.var 6) (.cst (.int 1))))
    (.ife (.cmp .ne (.ix (.var 1) (.var 9)) (.var 5))
      (.ret (.some (.cst (.bl false))))
      .skip))
  (.seq (.ife (.not (.ch2 .le .lt (.bin .mul (.var 6) (.var 3)) (.bin .mul (.bin .add (.var 9) (.cst (.int 1))) (.var 2)) (.bin .mul (.bin .add (.var 6) (.cst (.int 1))) (.var 3))))
    (.ret (.some (.cst (.bl false))))
    .skip)
  (.seq (.set 7 (.bin .add (.var 7) (.ix (.ix (.var 1) (.var 9)) (.cst (.int 0)))))
  (.set 8 (.bin .add (.var 8) (.ix (.ix (.var 1) (.var 9)) (.cst (.int 1)))))))))
def f13 : Fn := ⟨10, 2,
  (.seq (.set 2 (.blt .abs (.cons (.ix (.var 0) (.cst (.int 1))) .nil)))
  (.seq (.set 3 (.bin .add (.var 2) (.blt .abs (.cons (.ix (.var 0) (.cst (.int 2))) .nil))))
  (.seq (.set 4 (.tup (.cons (.call 12 (.cons (.ix (.var 0) (.cst (.int 1))) .nil)) (.cons (.cst (.int 0)) .nil))))
  (.seq (.set 5 (.tup (.cons (.cst (.int 0)) (.cons (.call 12 (.cons (.ix (.var 0) (.cst (.int 2))) .nil)) .nil))))
  (.seq (.ife (.or (.not (.isin (.var 1) [.list])) (.cmp .ne (.blt .len (.cons (.var 1) .nil)) (.var 3)))
    (.ret (.some (.cst (.bl false))))
    .skip)
  (.seq (.set 6 (.cst (.int 0)))
  (.seq (.set 7 (.cst (.int 0)))
  (.seq (.set 8 (.cst (.int 0)))
  (.seq (.for (.name 9) (.rng1 (.var 3)) b13_0)
  (.ret (.some (.and (.cmp .eq (.var 7) (.ix (.var 0) (.cst (.int 1)))) (.cmp .eq (.var 8) (.ix (.var 0) (.cst (.int 2))))))))))))))))⟩
/-! 14: _law_pairs ["pool", "dx", "dy", "reach", "ways", "side"] -/
def d14 : DefT := ⟨"_law_pairs", top 16, ["pool", "dx", "dy", "reach", "ways", "side"], ["pool"]⟩
def f14 : Fn := ⟨6, 1,
  (.seq (.set 1 (.bin .sub (.call 6 (.cons (.var 0) (.cons (.cst (.int 41)) .nil))) (.cst (.int 20))))
  (.seq (.set 2 (.bin .sub (.call 6 (.cons (.var 0) (.cons (.cst (.int 41)) .nil))) (.cst (.int 20))))
  (.seq (.ife (.cmp .eq (.call 6 (.cons (.var 0) (.cons (.cst (.int 8)) .nil))) (.cst (.int 0)))
    (.seq (.set 3 (.bin .add (.cst (.int 21)) (.call 6 (.cons (.var 0) (.cons (.cst (.int 380)) .nil)))))
    (.seq (.set 4 (.lst (.cons (.tup (.cons (.var 3) (.cons (.cst (.int 0)) .nil))) (.cons (.tup (.cons (.neg (.var 3)) (.cons (.cst (.int 0)) .nil))) (.cons (.tup (.cons (.cst (.int 0)) (.cons (.var 3) .nil))) (.cons (.tup (.cons (.cst (.int 0)) (.cons (.neg (.var 3)) .nil))) .nil))))))
    (.seq (.set 5 (.call 6 (.cons (.var 0) (.cons (.cst (.int 4)) .nil))))
    (.ret (.some (.lst (.cons (.ix (.var 4) (.var 5)) (.cons (.ix (.var 4) (.bin .mod (.blt .int (.cons (.bin .add (.var 5) (.cst (.int 1))) .nil)) (.cst (.int 4)))) .nil))))))))
    .skip)
  (.seq (.ife (.and (.cmp .eq (.var 1) (.cst (.int 0))) (.cmp .eq (.var 2) (.cst (.int 0))))
    (.set 1 (.cst (.int 1)))
    .skip)
  (.ret (.some (.lst (.cons (.tup (.cons (.var 1) (.cons (.var 2) .nil))) (.cons (.tup (.cons (.neg (.var 1)) (.cons (.var 2) .nil))) (.cons (.tup (.cons (.var 1) (.cons (.neg (.var 2)) .nil))) (.cons (.tup (.cons (.neg (.var 1)) (.cons (.neg (.var 2)) .nil))) (.cons (.tup (.cons (.var 2) (.cons (.var 1) .nil))) .nil))))))))))))⟩
/-! 15: _law_part_two ["script", "strokes", "stroke", "told", ".0", "pair"] -/
def d15 : DefT := ⟨"_law_part_two", top 17, ["script", "strokes", "stroke", "told", ".0", "pair"], ["script"]⟩
def b15_0 : E := (.tup (.cons (.cst (.str ['l', 'i', 'n', 'e'])) (.cons (.ix (.var 5) (.cst (.int 0))) (.cons (.ix (.var 5) (.cst (.int 1))) .nil))))
def b15_1 : S := 
  (.seq (.set 3 (.call 4 (.cons (.var 2) .nil)))
  (.seq (.ife (.not (.call 13 (.cons (.var 2) (.cons (.var 3) .nil))))
    (.ret (.some (.cst (.bl false))))
    .skip)
  (.seq (.expr (.meth .reverse (.var 3) .nil))
  (.expr (.meth .append (.var 3) (.cons (.tup (.cons (.cst (.int 0)) (.cons (.cst (.int 0)) .nil))) .nil))))))
def b15_2 : S := 
  (.ife (.not (.call 13 (.cons (.var 2) (.cons (.call 4 (.cons (.var 2) .nil)) .nil))))
    (.ret (.some (.cst (.bl false))))
    .skip)
def f15 : Fn := ⟨6, 1,
  (.seq (.set 1 (.comp b15_0 (.name 5) (.seq (.call 14 (.cons (.call 5 (.cons (.var 0) (.cons (.cst (.int 0)) .nil))) .nil))) .none [4, 5]))
  (.seq (.for (.name 2) (.seq (.var 1)) b15_1)
  (.seq (.for (.name 2) (.seq (.var 1)) b15_2)
  (.ret (.some (.cst (.bl true)))))))⟩
/-! 16: law ["script"] -/
def d16 : DefT := ⟨"law", top 18, ["script"], ["script"]⟩
def f16 : Fn := ⟨1, 1,
  (.ret (.some (.and (.call 11 (.cons (.var 0) .nil)) (.call 15 (.cons (.var 0) .nil)))))⟩
def ds : List DefT := [d0, d1, d2, d3, d4, d5, d6, d7, d8, d9, d10, d11, d12, d13, d14, d15, d16]
def fs : List Fn := [f0, f1, f2, f3, f4, f5, f6, f7, f8, f9, f10, f11, f12, f13, f14, f15, f16]
theorem ok0 : DefOk G Hd XS d0 f0 := ⟨⟨rfl, rfl, rfl, by decide +kernel, rfl, by decide +kernel, by decide +kernel⟩, rfl, rfl, body_of (c := 30) (by decide +kernel)⟩
theorem bd0 : BindOk d0.x d0.st d0.ps := fun _ _ _ _ _ _ us hl => match us, hl with | [_], _ => rfl
theorem ok1 : DefOk G Hd XS d1 f1 := ⟨⟨rfl, rfl, rfl, by decide +kernel, rfl, by decide +kernel, by decide +kernel⟩, rfl, rfl, body_of (c := 30) (by decide +kernel)⟩
theorem bd1 : BindOk d1.x d1.st d1.ps := fun _ _ _ _ _ _ us hl => match us, hl with | [_, _], _ => rfl
theorem ok2 : DefOk G Hd XS d2 f2 := ⟨⟨rfl, rfl, rfl, by decide +kernel, rfl, by decide +kernel, by decide +kernel⟩, rfl, rfl, body_of (c := 30) (by decide +kernel)⟩
theorem bd2 : BindOk d2.x d2.st d2.ps := fun _ _ _ _ _ _ us hl => match us, hl with | [_, _, _], _ => rfl
theorem ok3 : DefOk G Hd XS d3 f3 := ⟨⟨rfl, rfl, rfl, by decide +kernel, rfl, by decide +kernel, by decide +kernel⟩, rfl, rfl, body_of (c := 30) (by decide +kernel)⟩
theorem bd3 : BindOk d3.x d3.st d3.ps := fun _ _ _ _ _ _ us hl => match us, hl with | [_, _, _], _ => rfl
theorem ok4 : DefOk G Hd XS d4 f4 := ⟨⟨rfl, rfl, rfl, by decide +kernel, rfl, by decide +kernel, by decide +kernel⟩, rfl, rfl, body_of (c := 30) (by decide +kernel)⟩
theorem bd4 : BindOk d4.x d4.st d4.ps := fun _ _ _ _ _ _ us hl => match us, hl with | [_], _ => rfl
theorem ok5 : DefOk G Hd XS d5 f5 := ⟨⟨rfl, rfl, rfl, by decide +kernel, rfl, by decide +kernel, by decide +kernel⟩, rfl, rfl, body_of (c := 30) (by decide +kernel)⟩
theorem bd5 : BindOk d5.x d5.st d5.ps := fun _ _ _ _ _ _ us hl => match us, hl with | [_, _], _ => rfl
theorem ok6 : DefOk G Hd XS d6 f6 := ⟨⟨rfl, rfl, rfl, by decide +kernel, rfl, by decide +kernel, by decide +kernel⟩, rfl, rfl, body_of (c := 30) (by decide +kernel)⟩
theorem bd6 : BindOk d6.x d6.st d6.ps := fun _ _ _ _ _ _ us hl => match us, hl with | [_, _], _ => rfl
theorem ok7 : DefOk G Hd XS d7 f7 := ⟨⟨rfl, rfl, rfl, by decide +kernel, rfl, by decide +kernel, by decide +kernel⟩, rfl, rfl, body_of (c := 30) (by decide +kernel)⟩
theorem bd7 : BindOk d7.x d7.st d7.ps := fun _ _ _ _ _ _ us hl => match us, hl with | [_], _ => rfl
theorem ok8 : DefOk G Hd XS d8 f8 := ⟨⟨rfl, rfl, rfl, by decide +kernel, rfl, by decide +kernel, by decide +kernel⟩, rfl, rfl, body_of (c := 30) (by decide +kernel)⟩
theorem bd8 : BindOk d8.x d8.st d8.ps := fun _ _ _ _ _ _ us hl => match us, hl with | [_], _ => rfl
theorem ok9 : DefOk G Hd XS d9 f9 := ⟨⟨rfl, rfl, rfl, by decide +kernel, rfl, by decide +kernel, by decide +kernel⟩, rfl, rfl, body_of (c := 30) (by decide +kernel)⟩
theorem bd9 : BindOk d9.x d9.st d9.ps := fun _ _ _ _ _ _ us hl => match us, hl with | [_, _], _ => rfl
theorem ok10 : DefOk G Hd XS d10 f10 := ⟨⟨rfl, rfl, rfl, by decide +kernel, rfl, by decide +kernel, by decide +kernel⟩, rfl, rfl, body_of (c := 30) (by decide +kernel)⟩
theorem bd10 : BindOk d10.x d10.st d10.ps := fun _ _ _ _ _ _ us hl => match us, hl with | [_, _, _], _ => rfl
theorem ok11 : DefOk G Hd XS d11 f11 := ⟨⟨rfl, rfl, rfl, by decide +kernel, rfl, by decide +kernel, by decide +kernel⟩, rfl, rfl, body_of (c := 30) (by decide +kernel)⟩
theorem bd11 : BindOk d11.x d11.st d11.ps := fun _ _ _ _ _ _ us hl => match us, hl with | [_], _ => rfl
theorem ok12 : DefOk G Hd XS d12 f12 := ⟨⟨rfl, rfl, rfl, by decide +kernel, rfl, by decide +kernel, by decide +kernel⟩, rfl, rfl, body_of (c := 30) (by decide +kernel)⟩
theorem bd12 : BindOk d12.x d12.st d12.ps := fun _ _ _ _ _ _ us hl => match us, hl with | [_], _ => rfl
theorem ok13 : DefOk G Hd XS d13 f13 := ⟨⟨rfl, rfl, rfl, by decide +kernel, rfl, by decide +kernel, by decide +kernel⟩, rfl, rfl, body_of (c := 30) (by decide +kernel)⟩
theorem bd13 : BindOk d13.x d13.st d13.ps := fun _ _ _ _ _ _ us hl => match us, hl with | [_, _], _ => rfl
theorem ok14 : DefOk G Hd XS d14 f14 := ⟨⟨rfl, rfl, rfl, by decide +kernel, rfl, by decide +kernel, by decide +kernel⟩, rfl, rfl, body_of (c := 30) (by decide +kernel)⟩
theorem bd14 : BindOk d14.x d14.st d14.ps := fun _ _ _ _ _ _ us hl => match us, hl with | [_], _ => rfl
theorem ok15 : DefOk G Hd XS d15 f15 := ⟨⟨rfl, rfl, rfl, by decide +kernel, rfl, by decide +kernel, by decide +kernel⟩, rfl, rfl, body_of (c := 30) (by decide +kernel)⟩
theorem bd15 : BindOk d15.x d15.st d15.ps := fun _ _ _ _ _ _ us hl => match us, hl with | [_], _ => rfl
theorem ok16 : DefOk G Hd XS d16 f16 := ⟨⟨rfl, rfl, rfl, by decide +kernel, rfl, by decide +kernel, by decide +kernel⟩, rfl, rfl, body_of (c := 30) (by decide +kernel)⟩
theorem bd16 : BindOk d16.x d16.st d16.ps := fun _ _ _ _ _ _ us hl => match us, hl with | [_], _ => rfl
theorem oks : DefsOk G Hd XS ds fs := ⟨ok0, ok1, ok2, ok3, ok4, ok5, ok6, ok7, ok8, ok9, ok10, ok11, ok12, ok13, ok14, ok15, ok16, trivial⟩
theorem bds : BindsOk ds := ⟨bd0, bd1, bd2, bd3, bd4, bd5, bd6, bd7, bd8, bd9, bd10, bd11, bd12, bd13, bd14, bd15, bd16, trivial⟩
end LW

namespace LW
open DI
abbrev PP : Prog := ⟨fs, XS⟩
section
variable {k : Nat} {h : H}
/-! ### the parts -/
def sg (x : Int) : Int := if 0 < x then 1 else if x < 0 then -1 else 0
def ab (x : Int) : Int := if x < 0 then -x else x
theorem sign_ok {x : Int} (hw : wf h) : callF PP (k + 1) 0 [.d (.int x)] h = some (.ok (.d (.int (sg x))) h) := by
  have e : exec PP.xs (call PP k) f0.body (start f0.n [.d (.int x)]) h = some (.ok (.rt (.d (.int (sg x)))) h) := by
    unfold sg
    by_cases h1 : 0 < x
    · simp [f0, exec, ev, evT, evs, evo, evC, evI, M.bind, M.ask, M.pure, M.opt, M.fail, onE, binOp, addW, subW, mulW, fdivW, modW, powW, cmpOp, eqW, gtW, ltW, leW, geW, ltD, isNonW, bifn, lenW, absW, intW, max2W, min2W, tupleW, listW, allD, allI, eqOk, D.depth, D.depths, pyEq, pyEqs, getIx, setIx, ixn, augOp, tyAny, tyB, truth, meth, recv, recvL, recvS, isLst, appendW, reverseW, popW, extendW, start, take, setAll, mulOk, ibeq, SZv, log2_nat, h1]
    · by_cases h2 : x < 0
      · simp [f0, exec, ev, evT, evs, evo, evC, evI, M.bind, M.ask, M.pure, M.opt, M.fail, onE, binOp, addW, subW, mulW, fdivW, modW, powW, cmpOp, eqW, gtW, ltW, leW, geW, ltD, isNonW, bifn, lenW, absW, intW, max2W, min2W, tupleW, listW, allD, allI, eqOk, D.depth, D.depths, pyEq, pyEqs, getIx, setIx, ixn, augOp, tyAny, tyB, truth, meth, recv, recvL, recvS, isLst, appendW, reverseW, popW, extendW, start, take, setAll, mulOk, ibeq, SZv, log2_nat, h1, h2]
      · simp [f0, exec, ev, evT, evs, evo, evC, evI, M.bind, M.ask, M.pure, M.opt, M.fail, onE, binOp, addW, subW, mulW, fdivW, modW, powW, cmpOp, eqW, gtW, ltW, leW, geW, ltD, isNonW, bifn, lenW, absW, intW, max2W, min2W, tupleW, listW, allD, allI, eqOk, D.depth, D.depths, pyEq, pyEqs, getIx, setIx, ixn, augOp, tyAny, tyB, truth, meth, recv, recvL, recvS, isLst, appendW, reverseW, popW, extendW, start, take, setAll, mulOk, ibeq, SZv, log2_nat, h1, h2]
  rw [call_rt (fn := f0) rfl rfl e, gc_d0 rfl hw]
/-- one step of a line -/
def lstep (dx dy : Int) (j : Nat) : W := .d (.tup (if (j * ab dx) / (ab dx + ab dy) < ((j : Int) + 1) * ab dx / (ab dx + ab dy) then [.int (sg dx), .int 0] else [.int 0, .int (sg dy)]))
def lineL (dx dy : Int) : List W := (List.range (ab dx + ab dy).toNat).map (lstep dx dy)
theorem ab_nn (x : Int) : 0 ≤ ab x := by unfold ab; split <;> omega
theorem rng_get {lo : Int} {n : Nat} {c : Int} {i : Nat} {x : Item} (e : (rngItems lo n c)[i]? = some x) : i < n ∧ x = .one (.d (.int (lo + (i : Int) * c))) := by
  unfold rngItems at e
  rw [List.getElem?_map] at e
  by_cases hi : i < n
  · rw [List.getElem?_range hi] at e
    cases e
    exact ⟨hi, rfl⟩
  · rw [List.getElem?_eq_none (by simpa using hi)] at e
    cases e
theorem rng_len {lo : Int} {n : Nat} {c : Int} : (rngItems lo n c).length = n := by unfold rngItems; simp
theorem line_ok {dx dy : Int} (hw : wf h) (hz : ab dx + ab dy ≤ 100000) : callF PP (k + 2) 1 [.d (.int dx), .d (.int dy)] h = some (.ok (.r h.length) (h ++ [.lst (lineL dx dy)])) := by
  have a1 := ab_nn dx
  have a2 := ab_nn dy
  obtain ⟨σ', h', e, q1, q2⟩ := for_go (gs := []) (tg := .name 5) (b := fun σ h => exec PP.xs (call PP (k + 1)) b1_0 σ h) (rngItems 0 (ab dx + ab dy).toNat 1)
    (fun i σ h' => h' = h ++ [.lst ((List.range i).map (lstep dx dy))] ∧ ∃ z, σ = [some (.d (.int dx)), some (.d (.int dy)), some (.d (.int (ab dx))), some (.d (.int (ab dx + ab dy))), some (.r h.length), z])
    (fun i x σ h2 e ⟨e1, z, e2⟩ => by
      obtain ⟨hi, rfl⟩ := rng_get e
      subst e1 e2
      have hpos : 0 < ab dx + ab dy := by omega
      have hlog := log2_small hpos (by omega)
      have hw2 : wf (h ++ [.lst ((List.range i).map (lstep dx dy))]) := wf_push hw (by
        unfold O.below
        refine List.all_eq_true.mpr fun x hx => ?_
        obtain ⟨j, _, rfl⟩ := List.mem_map.mp hx
        rfl)
      have hm : (ab dx).natAbs < 18446744073709551616 := by omega
      have hl : i < 16777216 := by omega
      refine ⟨rfl, _, rfl, [some (.d (.int dx)), some (.d (.int dy)), some (.d (.int (ab dx))), some (.d (.int (ab dx + ab dy))), some (.r h.length), some (.d (.int i))], _, .inl ?_, rfl, _, rfl⟩
      have g0 : ∀ t : H, (h ++ t)[h.length]? = t[0]? := fun t => hget0 rfl
      have s0 : ∀ (t : H) (o : O), (h ++ t).set h.length o = h ++ t.set 0 o := fun t o => hset0 rfl
      rw [List.range_succ, List.map_append, List.map_singleton]
      have hla : ((List.range i).map (lstep dx dy)).length < 16777216 := by simpa using hl
      generalize (List.range i).map (lstep dx dy) = acc at *
      have hsg := fun x => sign_ok (k := k) (x := x) hw2
      by_cases hc : (i * ab dx) / (ab dx + ab dy) < ((i : Int) + 1) * ab dx / (ab dx + ab dy)
      · simp [b1_0, exec, ev, evT, evs, evo, evC, evI, M.bind, M.ask, M.pure, M.opt, M.fail, onE, binOp, addW, subW, mulW, fdivW, modW, powW, cmpOp, eqW, gtW, ltW, leW, geW, ltD, isNonW, bifn, lenW, absW, intW, max2W, min2W, tupleW, listW, allD, allI, eqOk, D.depth, D.depths, pyEq, pyEqs, getIx, setIx, ixn, augOp, tyAny, tyB, truth, meth, recv, recvL, recvS, isLst, appendW, reverseW, popW, extendW, start, take, setAll, mulOk, ibeq, SZv, log2_nat, g0, s0, hpos, hlog, hm, hla, hc, hsg, lstep]
      · simp [b1_0, exec, ev, evT, evs, evo, evC, evI, M.bind, M.ask, M.pure, M.opt, M.fail, onE, binOp, addW, subW, mulW, fdivW, modW, powW, cmpOp, eqW, gtW, ltW, leW, geW, ltD, isNonW, bifn, lenW, absW, intW, max2W, min2W, tupleW, listW, allD, allI, eqOk, D.depth, D.depths, pyEq, pyEqs, getIx, setIx, ixn, augOp, tyAny, tyB, truth, meth, recv, recvL, recvS, isLst, appendW, reverseW, popW, extendW, start, take, setAll, mulOk, ibeq, SZv, log2_nat, g0, s0, hpos, hlog, hm, hla, hc, hsg, lstep])
    (fun σ h2 _ => rfl) _ (h ++ [.lst []]) ⟨rfl, none, rfl⟩
  obtain ⟨z, q2⟩ := q2
  subst q1 q2
  rw [rng_len] at e
  have e2 : exec PP.xs (call PP (k + 1)) f1.body (start f1.n [.d (.int dx), .d (.int dy)]) h = some (.ok (.rt (.r h.length)) (h ++ [.lst (lineL dx dy)])) := by
    have hb : -4611686018427387904 ≤ ab dx + ab dy := by omega
    have hb2 : ab dx + ab dy < 4611686018427387904 := by omega
    have e3 : rngWalk 0 (ab dx + ab dy) = some ⟨rngItems 0 (ab dx + ab dy).toNat 1, []⟩ := by
      unfold rngWalk big
      rw [if_pos ⟨by omega, by omega, by omega, by omega⟩, Int.sub_zero]
    have za : ∀ x : Int, (if x < 0 then -x else x) = ab x := fun _ => rfl
    simp [f1, exec, ev, evT, evs, evo, evC, evI, M.bind, M.ask, M.pure, M.opt, M.fail, onE, binOp, addW, subW, mulW, fdivW, modW, powW, cmpOp, eqW, gtW, ltW, leW, geW, ltD, isNonW, bifn, lenW, absW, intW, max2W, min2W, tupleW, listW, allD, allI, eqOk, D.depth, D.depths, pyEq, pyEqs, getIx, setIx, ixn, augOp, tyAny, tyB, truth, meth, recv, recvL, recvS, isLst, appendW, reverseW, popW, extendW, start, take, setAll, mulOk, ibeq, SZv, log2_nat, za, e3, e, lineL]
  rw [call_rt (fn := f1) rfl rfl e2, gc_new0 rfl hw rfl]
  unfold O.below lineL
  refine List.all_eq_true.mpr fun x hx => ?_
  obtain ⟨j, _, rfl⟩ := List.mem_map.mp hx
  rfl
/-! ### arcs -/
def tk (a b r : Int) : Bool := if a = 0 then true else if b = r then false else decide (ab (a * a + (b + 1) * (b + 1) - r * r) ≤ ab ((a - 1) * (a - 1) + b * b - r * r))
theorem tk_ok {a b r : Int} (hw : wf h) (ha : 0 ≤ a ∧ a ≤ 1000) (hb : 0 ≤ b ∧ b ≤ 1000) (hr : 0 ≤ r ∧ r ≤ 1000) : callF PP (k + 1) 2 [.d (.int a), .d (.int b), .d (.int r)] h = some (.ok (.d (.bl (tk a b r))) h) := by
  have e : exec PP.xs (call PP k) f2.body (start f2.n [.d (.int a), .d (.int b), .d (.int r)]) h = some (.ok (.rt (.d (.bl (tk a b r)))) h) := by
    have n1 : a.natAbs < 18446744073709551616 := by omega
    have n2 : (b + 1).natAbs < 18446744073709551616 := by omega
    have n3 : (a - 1).natAbs < 18446744073709551616 := by omega
    have n4 : b.natAbs < 18446744073709551616 := by omega
    have n5 : r.natAbs < 18446744073709551616 := by omega
    have za : ∀ x : Int, (if x < 0 then -x else x) = ab x := fun _ => rfl
    unfold tk
    by_cases h1 : a = 0
    · simp [f2, exec, ev, evT, evs, evo, evC, evI, M.bind, M.ask, M.pure, M.opt, M.fail, onE, binOp, addW, subW, mulW, fdivW, modW, powW, cmpOp, eqW, gtW, ltW, leW, geW, ltD, isNonW, bifn, lenW, absW, intW, max2W, min2W, tupleW, listW, allD, allI, eqOk, D.depth, D.depths, pyEq, pyEqs, getIx, setIx, ixn, augOp, tyAny, tyB, truth, meth, recv, recvL, recvS, isLst, appendW, reverseW, popW, extendW, start, take, setAll, mulOk, ibeq, SZv, log2_nat, h1]
    · by_cases h2 : b = r
      · simp [f2, exec, ev, evT, evs, evo, evC, evI, M.bind, M.ask, M.pure, M.opt, M.fail, onE, binOp, addW, subW, mulW, fdivW, modW, powW, cmpOp, eqW, gtW, ltW, leW, geW, ltD, isNonW, bifn, lenW, absW, intW, max2W, min2W, tupleW, listW, allD, allI, eqOk, D.depth, D.depths, pyEq, pyEqs, getIx, setIx, ixn, augOp, tyAny, tyB, truth, meth, recv, recvL, recvS, isLst, appendW, reverseW, popW, extendW, start, take, setAll, mulOk, ibeq, SZv, log2_nat, h1, h2]
      · simp [f2, exec, ev, evT, evs, evo, evC, evI, M.bind, M.ask, M.pure, M.opt, M.fail, onE, binOp, addW, subW, mulW, fdivW, modW, powW, cmpOp, eqW, gtW, ltW, leW, geW, ltD, isNonW, bifn, lenW, absW, intW, max2W, min2W, tupleW, listW, allD, allI, eqOk, D.depth, D.depths, pyEq, pyEqs, getIx, setIx, ixn, augOp, tyAny, tyB, truth, meth, recv, recvL, recvS, isLst, appendW, reverseW, popW, extendW, start, take, setAll, mulOk, ibeq, SZv, log2_nat, h1, h2, n1, n2, n3, n4, n5, za]
  rw [call_rt (fn := f2) rfl rfl e, gc_d0 rfl hw]
def arcB : Nat → Int → Int → Int → List Bool
  | 0, _, _, _ => []
  | n + 1, a, b, r => if tk a b r = true then true :: arcB n a (b + 1) r else false :: arcB n (a - 1) b r
theorem arcB_len : ∀ (n : Nat) (a b r : Int), (arcB n a b r).length = n
  | 0, _, _, _ => rfl
  | n + 1, a, b, r => by
    unfold arcB
    split
    · simp [arcB_len n]
    · simp [arcB_len n]
def arcW (x y : W) (r : Int) : List W := (arcB (2 * r).toNat r 0 r).map fun b => if b then x else y
theorem arcW_below {x y : D} {r : Int} {n : Nat} : O.below n (.lst (arcW (.d x) (.d y) r)) = true := by
  unfold O.below arcW
  refine List.all_eq_true.mpr fun z hz => ?_
  obtain ⟨j, _, rfl⟩ := List.mem_map.mp hz
  cases j <;> rfl
theorem below_lst {n : Nat} {xs : List W} (h : ∀ x ∈ xs, ∃ d, x = .d d) : O.below n (.lst xs) = true := by
  unfold O.below
  refine List.all_eq_true.mpr fun z hz => ?_
  obtain ⟨d, rfl⟩ := h z hz
  rfl
theorem arc_ok {x y : D} {r : Int} (hw : wf h) (hr : 0 ≤ r ∧ r ≤ 1000) : callF PP (k + 2) 3 [.d x, .d y, .d (.int r)] h = some (.ok (.r h.length) (h ++ [.lst (arcW (.d x) (.d y) r)])) := by
  have g0 : ∀ t : H, (h ++ t)[h.length]? = t[0]? := fun t => hget0 rfl
  have s0 : ∀ (t : H) (o : O), (h ++ t).set h.length o = h ++ t.set 0 o := fun t o => hset0 rfl
  let g : Bool → W := fun b => if b then .d x else .d y
  obtain ⟨nf, hf⟩ := fuel_big (m := (2 * r).toNat) (by omega)
  obtain ⟨σ', h', e, a, b, acc, q1, q2, q3, q4, q5, q6, q7⟩ := whl_go (c := fun σ => evT (call PP (k + 1)) σ b3_0) (b := fun σ h => exec PP.xs (call PP (k + 1)) b3_1 σ h)
    (fun m σ h' => ∃ (a b : Int) (acc : List W), σ = [some (.d x), some (.d y), some (.d (.int r)), some (.d (.int a)), some (.d (.int b)), some (.r h.length)] ∧ h' = h ++ [.lst acc] ∧ 0 ≤ a ∧ a ≤ r ∧ (0 ≤ b ∧ b ≤ r ∧ (m : Int) = a + (r - b)) ∧ acc ++ (arcB m a b r).map g = arcW (.d x) (.d y) r ∧ ∀ z ∈ acc, ∃ d, z = .d d)
    (fun m σ h' ⟨a, b, acc, e1, e2, a0, a1, ⟨b0, b1, em⟩, ea, hd⟩ => by
      subst e1 e2
      by_cases hm : m = 0
      · have ha : a = 0 := by omega
        have hb : b = r := by omega
        subst ha hb
        exact .inl ⟨by simp [b3_0, exec, ev, evT, evs, evo, evC, evI, M.bind, M.ask, M.pure, M.opt, M.fail, onE, binOp, addW, subW, mulW, fdivW, modW, powW, cmpOp, eqW, gtW, ltW, leW, geW, ltD, isNonW, bifn, lenW, absW, intW, max2W, min2W, tupleW, listW, allD, allI, eqOk, D.depth, D.depths, pyEq, pyEqs, getIx, setIx, ixn, augOp, tyAny, tyB, truth, meth, recv, recvL, recvS, isLst, appendW, reverseW, popW, extendW, start, take, setAll, mulOk, ibeq, SZv, log2_nat], hm⟩
      · refine .inr ⟨?_, by omega, ?_⟩
        · by_cases ha : 0 < a
          · simp [b3_0, exec, ev, evT, evs, evo, evC, evI, M.bind, M.ask, M.pure, M.opt, M.fail, onE, binOp, addW, subW, mulW, fdivW, modW, powW, cmpOp, eqW, gtW, ltW, leW, geW, ltD, isNonW, bifn, lenW, absW, intW, max2W, min2W, tupleW, listW, allD, allI, eqOk, D.depth, D.depths, pyEq, pyEqs, getIx, setIx, ixn, augOp, tyAny, tyB, truth, meth, recv, recvL, recvS, isLst, appendW, reverseW, popW, extendW, start, take, setAll, mulOk, ibeq, SZv, log2_nat, ha]
          · have hb : b < r := by omega
            simp [b3_0, exec, ev, evT, evs, evo, evC, evI, M.bind, M.ask, M.pure, M.opt, M.fail, onE, binOp, addW, subW, mulW, fdivW, modW, powW, cmpOp, eqW, gtW, ltW, leW, geW, ltD, isNonW, bifn, lenW, absW, intW, max2W, min2W, tupleW, listW, allD, allI, eqOk, D.depth, D.depths, pyEq, pyEqs, getIx, setIx, ixn, augOp, tyAny, tyB, truth, meth, recv, recvL, recvS, isLst, appendW, reverseW, popW, extendW, start, take, setAll, mulOk, ibeq, SZv, log2_nat, ha, hb]
        · have hw2 : wf (h ++ [.lst acc]) := wf_push hw (below_lst hd)
          have hl : acc.length < 16777216 := by
            have := congrArg List.length ea
            unfold arcW at this
            simp [arcB_len] at this
            omega
          have et := tk_ok (k := k) (a := a) (b := b) (r := r) hw2 ⟨a0, by omega⟩ ⟨b0, by omega⟩ ⟨by omega, by omega⟩
          obtain ⟨m, rfl⟩ : ∃ m', m = m' + 1 := ⟨m - 1, by omega⟩
          unfold arcB at ea
          by_cases ht : tk a b r = true
          · rw [if_pos ht] at ea
            refine ⟨[some (.d x), some (.d y), some (.d (.int r)), some (.d (.int a)), some (.d (.int (b + 1))), some (.r h.length)], h ++ [.lst (acc ++ [.d x])], .inl ?_, a, b + 1, acc ++ [.d x], rfl, rfl, a0, a1, ⟨by omega, ?_, by omega⟩, ?_, ?_⟩
            · simp [b3_1, exec, ev, evT, evs, evo, evC, evI, M.bind, M.ask, M.pure, M.opt, M.fail, onE, binOp, addW, subW, mulW, fdivW, modW, powW, cmpOp, eqW, gtW, ltW, leW, geW, ltD, isNonW, bifn, lenW, absW, intW, max2W, min2W, tupleW, listW, allD, allI, eqOk, D.depth, D.depths, pyEq, pyEqs, getIx, setIx, ixn, augOp, tyAny, tyB, truth, meth, recv, recvL, recvS, isLst, appendW, reverseW, popW, extendW, start, take, setAll, mulOk, ibeq, SZv, log2_nat, et, ht, g0, s0, hl]
            · unfold tk at ht
              by_cases hbr : b = r
              · by_cases ha : a = 0
                · omega
                · rw [if_neg ha, if_pos hbr] at ht; cases ht
              · omega
            · rw [← ea]; simp [g]
            · intro z hz
              rcases List.mem_append.mp hz with hz | hz
              · exact hd z hz
              · exact ⟨x, List.mem_singleton.mp hz⟩
          · rw [if_neg ht] at ea
            refine ⟨[some (.d x), some (.d y), some (.d (.int r)), some (.d (.int (a - 1))), some (.d (.int b)), some (.r h.length)], h ++ [.lst (acc ++ [.d y])], .inl ?_, a - 1, b, acc ++ [.d y], rfl, rfl, ?_, by omega, ⟨by omega, by omega, by omega⟩, ?_, ?_⟩
            · simp [b3_1, exec, ev, evT, evs, evo, evC, evI, M.bind, M.ask, M.pure, M.opt, M.fail, onE, binOp, addW, subW, mulW, fdivW, modW, powW, cmpOp, eqW, gtW, ltW, leW, geW, ltD, isNonW, bifn, lenW, absW, intW, max2W, min2W, tupleW, listW, allD, allI, eqOk, D.depth, D.depths, pyEq, pyEqs, getIx, setIx, ixn, augOp, tyAny, tyB, truth, meth, recv, recvL, recvS, isLst, appendW, reverseW, popW, extendW, start, take, setAll, mulOk, ibeq, SZv, log2_nat, et, ht, g0, s0, hl]
            · by_cases ha : a = 0
              · exact absurd (by unfold tk; rw [if_pos ha]) ht
              · omega
            · rw [← ea]; simp [g]
            · intro z hz
              rcases List.mem_append.mp hz with hz | hz
              · exact hd z hz
              · exact ⟨y, List.mem_singleton.mp hz⟩)
    (2 * r).toNat nf _ (h ++ [.lst []]) ⟨r, 0, [], rfl, rfl, by omega, by omega, ⟨by omega, by omega, by omega⟩, rfl, fun z hz => by cases hz⟩
  rw [← hf] at e
  subst q1 q2
  unfold arcB at q6
  simp at q6
  subst q6
  have e2 : exec PP.xs (call PP (k + 1)) f3.body (start f3.n [.d x, .d y, .d (.int r)]) h = some (.ok (.rt (.r h.length)) (h ++ [.lst (arcW (.d x) (.d y) r)])) := by
    simp [f3, exec, ev, evT, evs, evo, evC, evI, M.bind, M.ask, M.pure, M.opt, M.fail, onE, binOp, addW, subW, mulW, fdivW, modW, powW, cmpOp, eqW, gtW, ltW, leW, geW, ltD, isNonW, bifn, lenW, absW, intW, max2W, min2W, tupleW, listW, allD, allI, eqOk, D.depth, D.depths, pyEq, pyEqs, getIx, setIx, ixn, augOp, tyAny, tyB, truth, meth, recv, recvL, recvS, isLst, appendW, reverseW, popW, extendW, start, take, setAll, mulOk, ibeq, SZv, log2_nat, e]
  rw [call_rt (fn := f3) rfl rfl e2, gc_new0 rfl hw rfl arcW_below]
/-! ### strokes -/
def lv (s : Int) : D := .tup [.int s, .int 0]
def up (s : Int) : D := .tup [.int 0, .int s]
def sLine : List Char := ['l', 'i', 'n', 'e']
def sFlat : List Char := ['f', 'l', 'a', 't']
def sSteep : List Char := ['s', 't', 'e', 'e', 'p']
def strk (s : List Char) (dx dy : Int) : W := .d (.tup [.str s, .int dx, .int dy])
theorem unit_line {dx dy : Int} (hw : wf h) (hz : ab dx + ab dy ≤ 100000) : callF PP (k + 3) 4 [strk sLine dx dy] h = some (.ok (.r h.length) (h ++ [.lst (lineL dx dy)])) := by
  have e : exec PP.xs (call PP (k + 2)) f4.body (start f4.n [strk sLine dx dy]) h = some (.ok (.rt (.r h.length)) (h ++ [.lst (lineL dx dy)])) := by
    simp [f4, strk, sLine, exec, ev, evT, evs, evo, evC, evI, M.bind, M.ask, M.pure, M.opt, M.fail, onE, binOp, addW, subW, mulW, fdivW, modW, powW, cmpOp, eqW, gtW, ltW, leW, geW, ltD, isNonW, bifn, lenW, absW, intW, max2W, min2W, tupleW, listW, allD, allI, eqOk, D.depth, D.depths, pyEq, pyEqs, getIx, setIx, ixn, augOp, tyAny, tyB, truth, meth, recv, recvL, recvS, isLst, appendW, reverseW, popW, extendW, start, take, setAll, mulOk, ibeq, SZv, log2_nat, line_ok (k := k) hw hz]
  rw [call_rt (fn := f4) rfl rfl e, gc_new0 rfl hw rfl]
  refine below_lst fun x hx => ?_
  unfold lineL at hx
  obtain ⟨j, _, rfl⟩ := List.mem_map.mp hx
  exact ⟨_, rfl⟩
theorem unit_flat {dx dy : Int} (hw : wf h) (hz : ab dx ≤ 1000) : callF PP (k + 3) 4 [strk sFlat dx dy] h = some (.ok (.r h.length) (h ++ [.lst (arcW (.d (lv (sg dx))) (.d (up (sg dy))) (ab dx))])) := by
  have za : ∀ x : Int, (if x < 0 then -x else x) = ab x := fun _ => rfl
  have hs := fun x => sign_ok (k := k + 1) (x := x) hw
  have ha := arc_ok (k := k) (x := lv (sg dx)) (y := up (sg dy)) (r := ab dx) hw ⟨ab_nn dx, hz⟩
  have e : exec PP.xs (call PP (k + 2)) f4.body (start f4.n [strk sFlat dx dy]) h = some (.ok (.rt (.r h.length)) (h ++ [.lst (arcW (.d (lv (sg dx))) (.d (up (sg dy))) (ab dx))])) := by
    unfold lv up at ha ⊢
    simp [f4, strk, sFlat, exec, ev, evT, evs, evo, evC, evI, M.bind, M.ask, M.pure, M.opt, M.fail, onE, binOp, addW, subW, mulW, fdivW, modW, powW, cmpOp, eqW, gtW, ltW, leW, geW, ltD, isNonW, bifn, lenW, absW, intW, max2W, min2W, tupleW, listW, allD, allI, eqOk, D.depth, D.depths, pyEq, pyEqs, getIx, setIx, ixn, augOp, tyAny, tyB, truth, meth, recv, recvL, recvS, isLst, appendW, reverseW, popW, extendW, start, take, setAll, mulOk, ibeq, SZv, log2_nat, hs, za, ha]
  rw [call_rt (fn := f4) rfl rfl e, gc_new0 rfl hw rfl arcW_below]
theorem unit_steep {dx dy : Int} (hw : wf h) (hz : ab dx ≤ 1000) : callF PP (k + 3) 4 [strk sSteep dx dy] h = some (.ok (.r h.length) (h ++ [.lst (arcW (.d (up (sg dy))) (.d (lv (sg dx))) (ab dx))])) := by
  have za : ∀ x : Int, (if x < 0 then -x else x) = ab x := fun _ => rfl
  have hs := fun x => sign_ok (k := k + 1) (x := x) hw
  have ha := arc_ok (k := k) (x := up (sg dy)) (y := lv (sg dx)) (r := ab dx) hw ⟨ab_nn dx, hz⟩
  have e : exec PP.xs (call PP (k + 2)) f4.body (start f4.n [strk sSteep dx dy]) h = some (.ok (.rt (.r h.length)) (h ++ [.lst (arcW (.d (up (sg dy))) (.d (lv (sg dx))) (ab dx))])) := by
    unfold lv up at ha ⊢
    simp [f4, strk, sSteep, exec, ev, evT, evs, evo, evC, evI, M.bind, M.ask, M.pure, M.opt, M.fail, onE, binOp, addW, subW, mulW, fdivW, modW, powW, cmpOp, eqW, gtW, ltW, leW, geW, ltD, isNonW, bifn, lenW, absW, intW, max2W, min2W, tupleW, listW, allD, allI, eqOk, D.depth, D.depths, pyEq, pyEqs, getIx, setIx, ixn, augOp, tyAny, tyB, truth, meth, recv, recvL, recvS, isLst, appendW, reverseW, popW, extendW, start, take, setAll, mulOk, ibeq, SZv, log2_nat, hs, za, ha]
  rw [call_rt (fn := f4) rfl rfl e, gc_new0 rfl hw rfl arcW_below]
theorem step_ok {x y : Int} (hw : wf h) : callF PP (k + 1) 7 [.d (.tup [.int x, .int y])] h = some (.ok (.d (.bl true)) h) := by
  have e : exec PP.xs (call PP k) f7.body (start f7.n [.d (.tup [.int x, .int y])]) h = some (.ok (.rt (.d (.bl true))) h) := by
    simp [f7, b7_0, exec, ev, evT, evs, evo, evC, evI, M.bind, M.ask, M.pure, M.opt, M.fail, onE, binOp, addW, subW, mulW, fdivW, modW, powW, cmpOp, eqW, gtW, ltW, leW, geW, ltD, isNonW, bifn, lenW, absW, intW, max2W, min2W, tupleW, listW, allD, allI, eqOk, D.depth, D.depths, pyEq, pyEqs, getIx, setIx, ixn, augOp, tyAny, tyB, truth, meth, recv, recvL, recvS, isLst, appendW, reverseW, popW, extendW, start, take, setAll, mulOk, ibeq, SZv, log2_nat, seqWalk, forL, still]
  rw [call_rt (fn := f7) rfl rfl e, gc_d0 rfl hw]
theorem div_ab {x : Int} (h : x ≠ 0) : x / ab x = sg x := by
  unfold ab sg
  by_cases h1 : x < 0
  · rw [if_pos h1, if_neg (by omega), if_pos h1]
    rw [Int.ediv_neg, Int.ediv_self h]
  · rw [if_neg h1, if_pos (by omega), Int.ediv_self h]
theorem moves_flat {dx dy : Int} (hw : wf h) (h1 : 0 < ab dx ∧ ab dx ≤ 1000) (h2 : 0 < ab dy ∧ ab dy ≤ 1000) : callF PP (k + 1) 8 [strk sFlat dx dy] h = some (.ok (.r h.length) (h ++ [.lst [.d (lv (sg dx)), .d (up (sg dy))]])) := by
  have za : ∀ x : Int, (if x < 0 then -x else x) = ab x := fun _ => rfl
  have x1 : dx ≠ 0 := fun e => by rw [e] at h1; exact absurd h1.1 (by decide)
  have x2 : dy ≠ 0 := fun e => by rw [e] at h2; exact absurd h2.1 (by decide)
  have l1 := log2_small h1.1 (by omega)
  have l2 := log2_small h2.1 (by omega)
  have e : exec PP.xs (call PP k) f8.body (start f8.n [strk sFlat dx dy]) h = some (.ok (.rt (.r h.length)) (h ++ [.lst [.d (lv (sg dx)), .d (up (sg dy))]])) := by
    simp [f8, strk, sFlat, lv, up, exec, ev, evT, evs, evo, evC, evI, M.bind, M.ask, M.pure, M.opt, M.fail, onE, binOp, addW, subW, mulW, fdivW, modW, powW, cmpOp, eqW, gtW, ltW, leW, geW, ltD, isNonW, bifn, lenW, absW, intW, max2W, min2W, tupleW, listW, allD, allI, eqOk, D.depth, D.depths, pyEq, pyEqs, getIx, setIx, ixn, augOp, tyAny, tyB, truth, meth, recv, recvL, recvS, isLst, appendW, reverseW, popW, extendW, start, take, setAll, mulOk, ibeq, SZv, log2_nat, za, h1.1, h2.1, l1, l2, div_ab x1, div_ab x2]
  rw [call_rt (fn := f8) rfl rfl e, gc_new0 rfl hw rfl rfl]
theorem moves_steep {dx dy : Int} (hw : wf h) (h1 : 0 < ab dx ∧ ab dx ≤ 1000) (h2 : 0 < ab dy ∧ ab dy ≤ 1000) : callF PP (k + 1) 8 [strk sSteep dx dy] h = some (.ok (.r h.length) (h ++ [.lst [.d (up (sg dy)), .d (lv (sg dx))]])) := by
  have za : ∀ x : Int, (if x < 0 then -x else x) = ab x := fun _ => rfl
  have x1 : dx ≠ 0 := fun e => by rw [e] at h1; exact absurd h1.1 (by decide)
  have x2 : dy ≠ 0 := fun e => by rw [e] at h2; exact absurd h2.1 (by decide)
  have l1 := log2_small h1.1 (by omega)
  have l2 := log2_small h2.1 (by omega)
  have e : exec PP.xs (call PP k) f8.body (start f8.n [strk sSteep dx dy]) h = some (.ok (.rt (.r h.length)) (h ++ [.lst [.d (up (sg dy)), .d (lv (sg dx))]])) := by
    simp [f8, strk, sSteep, lv, up, exec, ev, evT, evs, evo, evC, evI, M.bind, M.ask, M.pure, M.opt, M.fail, onE, binOp, addW, subW, mulW, fdivW, modW, powW, cmpOp, eqW, gtW, ltW, leW, geW, ltD, isNonW, bifn, lenW, absW, intW, max2W, min2W, tupleW, listW, allD, allI, eqOk, D.depth, D.depths, pyEq, pyEqs, getIx, setIx, ixn, augOp, tyAny, tyB, truth, meth, recv, recvL, recvS, isLst, appendW, reverseW, popW, extendW, start, take, setAll, mulOk, ibeq, SZv, log2_nat, za, h1.1, h2.1, l1, l2, div_ab x1, div_ab x2]
  rw [call_rt (fn := f8) rfl rfl e, gc_new0 rfl hw rfl rfl]

/-! ### the check of an arc -/
theorem sq1 (b : Int) : (b + 1) * (b + 1) = b * b + 2 * b + 1 := by rw [Int.add_mul, Int.mul_add]; omega
theorem sq2 (a : Int) : (a - 1) * (a - 1) = a * a - 2 * a + 1 := by rw [Int.sub_mul, Int.mul_sub]; omega
theorem sq_le {a b : Int} (h0 : 0 ≤ a) (h : a ≤ b) : a * a ≤ b * b := Int.mul_le_mul h h h0 (by omega)
/-- near the circle -/
def near (a b r : Int) : Prop := -(2 * r) < a * a + b * b - r * r ∧ a * a + b * b - r * r < 2 * r
theorem near_t {a b r : Int} (ha : 0 ≤ a ∧ a ≤ r) (hb : 0 ≤ b ∧ b ≤ r) (hr : 0 < r) (hm : 0 < a + (r - b)) (n : near a b r) (t : tk a b r = true) : near a (b + 1) r := by
  unfold near at n ⊢
  unfold tk at t
  rw [sq1]
  by_cases h1 : a = 0
  · subst h1
    have := sq_le (a := b + 1) (b := r) (by omega) (by omega)
    rw [sq1] at this
    omega
  · rw [if_neg h1] at t
    by_cases h2 : b = r
    · rw [if_pos h2] at t; cases t
    · rw [if_neg h2] at t
      have t2 := of_decide_eq_true t
      rw [sq1, sq2] at t2
      unfold ab at t2
      split at t2 <;> split at t2 <;> omega
theorem near_f {a b r : Int} (ha : 0 ≤ a ∧ a ≤ r) (hb : 0 ≤ b ∧ b ≤ r) (hr : 0 < r) (hm : 0 < a + (r - b)) (n : near a b r) (t : ¬ tk a b r = true) : near (a - 1) b r := by
  unfold near at n ⊢
  unfold tk at t
  rw [sq2]
  by_cases h1 : a = 0
  · rw [if_pos h1] at t; exact absurd rfl t
  · rw [if_neg h1] at t
    by_cases h2 : b = r
    · subst h2
      have := sq_le (a := 0) (b := a - 1) (by omega) (by omega)
      rw [sq2] at this
      omega
    · rw [if_neg h2] at t
      have t2 := of_decide_eq_false (Bool.eq_false_iff.mpr t)
      rw [sq1, sq2] at t2
      unfold ab at t2
      split at t2 <;> split at t2 <;> omega
/-- one step of the check -/
theorem right_step {s : W} {p n : Nat} {r a b : Int} {m0 m1 x : D} {z7 z8 : Option W} {c : Bool} (hw : wf h) (hm : h[n]? = some (.lst [.d m0, .d m1])) (hx : x = if c = true then m0 else m1) (hc : tk a b r = c) (hi : ∃ i j, x = .tup [.int i, .int j]) (h01 : pyEq m0 m0 = true ∧ pyEq m1 m1 = true ∧ pyEq m1 m0 = false)
    (hd : m0.depth ≤ 60 ∧ m1.depth ≤ 60) (ha : 0 ≤ a ∧ a ≤ r) (hb : 0 ≤ b ∧ b ≤ r) (hr : 0 < r ∧ r ≤ 1000) (hm2 : 0 < a + (r - b)) (ne : near a b r) :
    ∃ u7 u8, exec PP.xs (call PP (k + 1)) b9_0 [some s, some (.r p), some (.d (.int r)), some (.r n), some (.d (.int a)), some (.d (.int b)), some (.d x), z7, z8] h =
      some (.ok (.nx [some s, some (.r p), some (.d (.int r)), some (.r n), some (.d (.int (if c = true then a else a - 1))), some (.d (.int (if c = true then b + 1 else b))), some (.d x), u7, u8]) h) := by
  obtain ⟨i, j, hxe⟩ := hi
  have hs : callF PP (k + 1) 7 [.d x] h = some (.ok (.d (.bl true)) h) := by rw [hxe]; exact step_ok hw
  have n1 : a.natAbs < 18446744073709551616 := by omega
  have n2 : (b + 1).natAbs < 18446744073709551616 := by omega
  have n3 : (a - 1).natAbs < 18446744073709551616 := by omega
  have n4 : b.natAbs < 18446744073709551616 := by omega
  have n5 : r.natAbs < 18446744073709551616 := by omega
  have za : ∀ x : Int, (if x < 0 then -x else x) = ab x := fun _ => rfl
  have ea : (0 < a) = ¬ (a = 0) := by simp; omega
  refine ⟨some (.d (.int (ab (a * a + (b + 1) * (b + 1) - r * r)))), some (.d (.int (ab ((a - 1) * (a - 1) + b * b - r * r)))), ?_⟩
  cases c with
  | true =>
    have hx' : x = m0 := hx
    subst hx'
    have nt := near_t ha hb hr.1 hm2 ne hc
    have g1 := eq_false (show ¬ (2 * r ≤ ab (a * a + (b + 1) * (b + 1) - r * r)) from by unfold near at nt; unfold ab; split <;> omega)
    unfold tk at hc
    by_cases h1 : a = 0
    · subst h1
      rw [Int.zero_mul, Int.zero_add] at g1
      simp [b9_0, exec, ev, evT, evs, evo, evC, evI, M.bind, M.ask, M.pure, M.opt, M.fail, onE, binOp, addW, subW, mulW, fdivW, modW, powW, cmpOp, eqW, gtW, ltW, leW, geW, ltD, isNonW, bifn, lenW, absW, intW, max2W, min2W, tupleW, listW, allD, allI, eqOk, D.depth, D.depths, pyEq, pyEqs, getIx, setIx, ixn, augOp, tyAny, tyB, truth, meth, recv, recvL, recvS, isLst, appendW, reverseW, popW, extendW, start, take, setAll, mulOk, ibeq, SZv, log2_nat, hs, hm, h01.1, hd.1, n2, n4, n5, za, g1]
    · by_cases h2 : b = r
      · rw [if_neg h1, if_pos h2] at hc; cases hc
      · rw [if_neg h1, if_neg h2] at hc
        have h3 := of_decide_eq_true hc
        have h5 := eq_false (show ¬ (ab ((a - 1) * (a - 1) + b * b - r * r) < ab (a * a + (b + 1) * (b + 1) - r * r)) from by omega)
        simp [b9_0, exec, ev, evT, evs, evo, evC, evI, M.bind, M.ask, M.pure, M.opt, M.fail, onE, binOp, addW, subW, mulW, fdivW, modW, powW, cmpOp, eqW, gtW, ltW, leW, geW, ltD, isNonW, bifn, lenW, absW, intW, max2W, min2W, tupleW, listW, allD, allI, eqOk, D.depth, D.depths, pyEq, pyEqs, getIx, setIx, ixn, augOp, tyAny, tyB, truth, meth, recv, recvL, recvS, isLst, appendW, reverseW, popW, extendW, start, take, setAll, mulOk, ibeq, SZv, log2_nat, hs, hm, h01.1, hd.1, n1, n2, n3, n4, n5, za, g1, ea, eq_false h1, eq_false h2, h5]
  | false =>
    have hx' : x = m1 := hx
    subst hx'
    have nt := near_f ha hb hr.1 hm2 ne (by rw [hc]; exact Bool.false_ne_true)
    have g1 := eq_false (show ¬ (2 * r ≤ ab ((a - 1) * (a - 1) + b * b - r * r)) from by unfold near at nt; unfold ab; split <;> omega)
    unfold tk at hc
    by_cases h1 : a = 0
    · rw [if_pos h1] at hc; cases hc
    · rw [if_neg h1] at hc
      by_cases h2 : b = r
      · have h6 := eq_false (show ¬ (b < r) by omega)
        simp [b9_0, exec, ev, evT, evs, evo, evC, evI, M.bind, M.ask, M.pure, M.opt, M.fail, onE, binOp, addW, subW, mulW, fdivW, modW, powW, cmpOp, eqW, gtW, ltW, leW, geW, ltD, isNonW, bifn, lenW, absW, intW, max2W, min2W, tupleW, listW, allD, allI, eqOk, D.depth, D.depths, pyEq, pyEqs, getIx, setIx, ixn, augOp, tyAny, tyB, truth, meth, recv, recvL, recvS, isLst, appendW, reverseW, popW, extendW, start, take, setAll, mulOk, ibeq, SZv, log2_nat, hs, hm, h01.2.1, h01.2.2, hd.1, hd.2, n1, n2, n3, n4, n5, za, g1, ea, eq_false h1, h6]
      · rw [if_neg h2] at hc
        have h3 := of_decide_eq_false hc
        have h5 := eq_false h3
        have h6 : b < r := by omega
        simp [b9_0, h6, exec, ev, evT, evs, evo, evC, evI, M.bind, M.ask, M.pure, M.opt, M.fail, onE, binOp, addW, subW, mulW, fdivW, modW, powW, cmpOp, eqW, gtW, ltW, leW, geW, ltD, isNonW, bifn, lenW, absW, intW, max2W, min2W, tupleW, listW, allD, allI, eqOk, D.depth, D.depths, pyEq, pyEqs, getIx, setIx, ixn, augOp, tyAny, tyB, truth, meth, recv, recvL, recvS, isLst, appendW, reverseW, popW, extendW, start, take, setAll, mulOk, ibeq, SZv, log2_nat, hs, hm, h01.2.1, h01.2.2, hd.1, hd.2, n1, n2, n3, n4, n5, za, g1, ea, eq_false h1, h5]
theorem lv_depth (s : Int) : (lv s).depth ≤ 60 := by simp [lv, D.depth, D.depths]
theorem up_depth (s : Int) : (up s).depth ≤ 60 := by simp [up, D.depth, D.depths]
/-- the arc's own list passes -/
theorem right_ok {st : List Char} {dx dy : Int} {p : Nat} {m0 m1 : D} (hw : wf h) (hp : h[p]? = some (.lst (arcW (.d m0) (.d m1) (ab dx)))) (h1 : 0 < ab dx ∧ ab dx ≤ 1000)
    (hmv : callF PP (k + 1) 8 [strk st dx dy] h = some (.ok (.r h.length) (h ++ [.lst [.d m0, .d m1]]))) (t0 : ∃ i j, m0 = .tup [.int i, .int j]) (t1 : ∃ i j, m1 = .tup [.int i, .int j]) (h01 : pyEq m0 m0 = true ∧ pyEq m1 m1 = true ∧ pyEq m1 m0 = false) (hd : m0.depth ≤ 60 ∧ m1.depth ≤ 60) :
    callF PP (k + 2) 9 [strk st dx dy, .r p] h = some (.ok (.d (.bl true)) h) := by
  have za : ∀ x : Int, (if x < 0 then -x else x) = ab x := fun _ => rfl
  have hlt : p < h.length := (List.getElem?_eq_some_iff.mp hp).1
  have hw2 : wf (h ++ [.lst [.d m0, .d m1]]) := wf_push hw rfl
  have hpo : (h ++ [.lst [.d m0, .d m1]])[p]? = some (.lst (arcW (.d m0) (.d m1) (ab dx))) := by rw [hold hlt]; exact hp
  have hm : (h ++ [.lst [.d m0, .d m1]])[h.length]? = some (.lst [.d m0, .d m1]) := hget0 rfl
  generalize hr : ab dx = r at *
  let g : Bool → W := fun b => if b then .d m0 else .d m1
  have lenA : (arcW (.d m0) (.d m1) r).length = (2 * r).toNat := by unfold arcW; simp [arcB_len]
  obtain ⟨σ', h', e, q1, a, b, z6, z7, z8, q2, q3⟩ := for_go (gs := [(p, arcW (.d m0) (.d m1) r)]) (tg := .name 6) (b := fun σ h => exec PP.xs (call PP (k + 1)) b9_0 σ h) ((arcW (.d m0) (.d m1) r).map Item.one)
    (fun i σ h' => h' = h ++ [.lst [.d m0, .d m1]] ∧ ∃ (a b : Int) (z6 z7 z8 : Option W), σ = [some (strk st dx dy), some (.r p), some (.d (.int r)), some (.r h.length), some (.d (.int a)), some (.d (.int b)), z6, z7, z8] ∧ 0 ≤ a ∧ a ≤ r ∧ 0 ≤ b ∧ b ≤ r ∧ a + (r - b) = 2 * r - i ∧ near a b r ∧ (arcW (.d m0) (.d m1) r).drop i = (arcB (2 * r - i).toNat a b r).map g)
    (fun i x σ h' e ⟨e1, a, b, z6, z7, z8, e2, a0, a1, b0, b1, em, ne, ed⟩ => by
      subst e1 e2
      have hst : still [(p, arcW (.d m0) (.d m1) r)] (h ++ [.lst [.d m0, .d m1]]) = true := by simp [still, hpo]
      have hi : i < (2 * r).toNat := by
        rw [← lenA]
        have := (List.getElem?_eq_some_iff.mp e).1
        simpa using this
      rw [List.getElem?_map] at e
      obtain ⟨j, hj⟩ : ∃ j, (2 * r - i).toNat = j + 1 := ⟨(2 * r - i).toNat - 1, by omega⟩
      rw [hj] at ed
      unfold arcB at ed
      have hd0 := List.drop_eq_getElem_cons (l := arcW (.d m0) (.d m1) r) (i := i) (by rw [lenA]; exact hi)
      rw [hd0] at ed
      rw [List.getElem?_eq_getElem (by rw [lenA]; exact hi)] at e
      by_cases ht : tk a b r = true
      · rw [if_pos ht, List.map_cons, List.cons.injEq] at ed
        obtain ⟨ed1, ed2⟩ := ed
        rw [ed1] at e
        cases e
        obtain ⟨u7, u8, es⟩ := right_step (k := k) (s := strk st dx dy) (p := p) (z7 := z7) (z8 := z8) (c := true) (x := m0) hw2 hm rfl ht t0 h01 hd ⟨a0, a1⟩ ⟨b0, b1⟩ h1 (by omega) ne
        refine ⟨hst, _, rfl, _, _, .inl es, rfl, a, b + 1, _, _, _, rfl, a0, a1, by omega, ?_, by omega, near_t ⟨a0, a1⟩ ⟨b0, b1⟩ h1.1 (by omega) ne ht, ?_⟩
        · unfold tk at ht
          by_cases ha : a = 0
          · omega
          · rw [if_neg ha] at ht
            by_cases hb : b = r
            · rw [if_pos hb] at ht; cases ht
            · omega
        · rw [ed2]
          congr 2
          omega
      · rw [if_neg ht, List.map_cons, List.cons.injEq] at ed
        obtain ⟨ed1, ed2⟩ := ed
        rw [ed1] at e
        cases e
        obtain ⟨u7, u8, es⟩ := right_step (k := k) (s := strk st dx dy) (p := p) (z7 := z7) (z8 := z8) (c := false) (x := m1) hw2 hm rfl (Bool.eq_false_iff.mpr ht) t1 h01 hd ⟨a0, a1⟩ ⟨b0, b1⟩ h1 (by omega) ne
        refine ⟨hst, _, rfl, _, _, .inl es, rfl, a - 1, b, _, _, _, rfl, ?_, by omega, b0, b1, by omega, near_f ⟨a0, a1⟩ ⟨b0, b1⟩ h1.1 (by omega) ne ht, ?_⟩
        · by_cases ha : a = 0
          · exact absurd (by unfold tk; rw [if_pos ha]) ht
          · omega
        · rw [ed2]
          congr 2
          omega)
    (fun σ h' ⟨e1, _⟩ => by subst e1; simp [still, hpo])
    [some (strk st dx dy), some (.r p), some (.d (.int r)), some (.r h.length), some (.d (.int r)), some (.d (.int 0)), none, none, none] (h ++ [.lst [.d m0, .d m1]]) ⟨rfl, r, 0, none, none, none, rfl, by omega, by omega, by omega, by omega, by omega, by unfold near; simp; omega, by simp [arcW, g]⟩
  subst q1 q2
  have ha : a = 0 := by rw [List.length_map, lenA] at q3; omega
  have hb : b = r := by rw [List.length_map, lenA] at q3; omega
  subst ha hb
  have hl2 : (((2 * b).toNat : Nat) : Int) = 2 * b := by omega
  have e2 : exec PP.xs (call PP (k + 1)) f9.body (start f9.n [strk st dx dy, .r p]) h = some (.ok (.rt (.d (.bl true))) (h ++ [.lst [.d m0, .d m1]])) := by
    unfold strk at e hmv ⊢
    simp [f9, exec, ev, evT, evs, evo, evC, evI, M.bind, M.ask, M.pure, M.opt, M.fail, onE, binOp, addW, subW, mulW, fdivW, modW, powW, cmpOp, eqW, gtW, ltW, leW, geW, ltD, isNonW, bifn, lenW, absW, intW, max2W, min2W, tupleW, listW, allD, allI, eqOk, D.depth, D.depths, pyEq, pyEqs, getIx, setIx, ixn, augOp, tyAny, tyB, truth, meth, recv, recvL, recvS, isLst, appendW, reverseW, popW, extendW, start, take, setAll, mulOk, ibeq, SZv, log2_nat, za, hr, hmv, hpo, lenA, hl2, seqWalk, e]
  rw [call_rt (fn := f9) rfl rfl e2, gc_d rfl hw]
/-! ### part one -/
def img1 (x y t : Int) : Int := if 4 ≤ t then (1 - 2 * (t % 2)) * y else (1 - 2 * (t % 2)) * x
def img2 (x y t : Int) : Int := if 4 ≤ t then (1 - 2 * (t / 2 % 2)) * x else (1 - 2 * (t / 2 % 2)) * y
def imgD (x y t : Int) : D := .tup [.int (img1 x y t), .int (img2 x y t)]
theorem image_ok {x y t : Int} (hw : wf h) : callF PP (k + 1) 10 [.d (.int x), .d (.int y), .d (.int t)] h = some (.ok (.d (imgD x y t)) h) := by
  have e : exec PP.xs (call PP k) f10.body (start f10.n [.d (.int x), .d (.int y), .d (.int t)]) h = some (.ok (.rt (.d (imgD x y t))) h) := by
    have n1 : (1 - 2 * (t % 2)).natAbs < 18446744073709551616 := by omega
    have n2 : (1 - 2 * (t / 2 % 2)).natAbs < 18446744073709551616 := by omega
    unfold imgD img1 img2
    by_cases h1 : 4 ≤ t
    · simp [f10, exec, ev, evT, evs, evo, evC, evI, M.bind, M.ask, M.pure, M.opt, M.fail, onE, binOp, addW, subW, mulW, fdivW, modW, powW, cmpOp, eqW, gtW, ltW, leW, geW, ltD, isNonW, bifn, lenW, absW, intW, max2W, min2W, tupleW, listW, allD, allI, eqOk, D.depth, D.depths, pyEq, pyEqs, getIx, setIx, ixn, augOp, tyAny, tyB, truth, meth, recv, recvL, recvS, isLst, appendW, reverseW, popW, extendW, start, take, setAll, mulOk, ibeq, SZv, log2_nat, h1, n1, n2]
    · simp [f10, exec, ev, evT, evs, evo, evC, evI, M.bind, M.ask, M.pure, M.opt, M.fail, onE, binOp, addW, subW, mulW, fdivW, modW, powW, cmpOp, eqW, gtW, ltW, leW, geW, ltD, isNonW, bifn, lenW, absW, intW, max2W, min2W, tupleW, listW, allD, allI, eqOk, D.depth, D.depths, pyEq, pyEqs, getIx, setIx, ixn, augOp, tyAny, tyB, truth, meth, recv, recvL, recvS, isLst, appendW, reverseW, popW, extendW, start, take, setAll, mulOk, ibeq, SZv, log2_nat, h1, n1, n2]
  rw [call_rt (fn := f10) rfl rfl e, gc_d0 rfl hw]
def stn (s : Int) : List Char := if s = 0 then sFlat else sSteep
def unitD (s dx dy : Int) : List D := (arcB (2 * ab dx).toNat (ab dx) 0 (ab dx)).map fun b => if b = (s == 0) then lv (sg dx) else up (sg dy)
theorem unitD_flat (dx dy : Int) : (unitD 0 dx dy).map W.d = arcW (.d (lv (sg dx))) (.d (up (sg dy))) (ab dx) := by
  unfold unitD arcW
  rw [List.map_map]
  refine List.map_congr_left fun b _ => ?_
  cases b <;> rfl
theorem unitD_steep (dx dy : Int) : (unitD 1 dx dy).map W.d = arcW (.d (up (sg dy))) (.d (lv (sg dx))) (ab dx) := by
  unfold unitD arcW
  rw [List.map_map]
  refine List.map_congr_left fun b _ => ?_
  cases b <;> rfl
theorem unit_ok {s dx dy : Int} (hw : wf h) (hs : s = 0 ∨ s = 1) (hz : ab dx ≤ 1000) : callF PP (k + 3) 4 [.d (.tup [.str (stn s), .int dx, .int dy])] h = some (.ok (.r h.length) (h ++ [.lst ((unitD s dx dy).map W.d)])) := by
  rcases hs with rfl | rfl
  · rw [unitD_flat]; exact unit_flat hw hz
  · rw [unitD_steep]; exact unit_steep hw hz
theorem sg_pm {x : Int} (h : 0 < ab x) : sg x = 1 ∨ sg x = -1 := by
  unfold ab at h
  unfold sg
  split at h
  · rw [if_neg (by omega), if_pos (by omega)]; exact .inr rfl
  · rw [if_pos (by omega)]; exact .inl rfl
theorem chk_ok {s dx dy : Int} {p : Nat} (hw : wf h) (hs : s = 0 ∨ s = 1) (hp : h[p]? = some (.lst ((unitD s dx dy).map W.d))) (h1 : 0 < ab dx ∧ ab dx ≤ 1000) (h2 : 0 < ab dy ∧ ab dy ≤ 1000) :
    callF PP (k + 2) 9 [.d (.tup [.str (stn s), .int dx, .int dy]), .r p] h = some (.ok (.d (.bl true)) h) := by
  have q1 := sg_pm h1.1
  have q2 := sg_pm h2.1
  rcases hs with rfl | rfl
  · rw [unitD_flat] at hp
    refine right_ok hw hp h1 (moves_flat hw h1 h2) ⟨_, _, rfl⟩ ⟨_, _, rfl⟩ ⟨pyEq_refl _, pyEq_refl _, ?_⟩ ⟨lv_depth _, up_depth _⟩
    rcases q1 with q1 | q1 <;> rcases q2 with q2 | q2 <;> rw [q1, q2] <;> rfl
  · rw [unitD_steep] at hp
    refine right_ok hw hp h1 (moves_steep hw h1 h2) ⟨_, _, rfl⟩ ⟨_, _, rfl⟩ ⟨pyEq_refl _, pyEq_refl _, ?_⟩ ⟨up_depth _, lv_depth _⟩
    rcases q1 with q1 | q1 <;> rcases q2 with q2 | q2 <;> rw [q1, q2] <;> rfl
/-- the image of a step -/
def imgOf (t : Int) : D → D
  | .tup [.int x, .int y] => imgD x y t
  | d => d
theorem pm_ab {c x : Int} (hc : c = 1 ∨ c = -1) : ab (c * x) = ab x := by
  rcases hc with rfl | rfl
  · rw [Int.one_mul]
  · rw [Int.neg_mul, Int.one_mul]
    unfold ab
    split <;> split <;> omega
theorem pm_sg {c x : Int} (hc : c = 1 ∨ c = -1) : sg (c * x) = c * sg x := by
  rcases hc with rfl | rfl
  · rw [Int.one_mul, Int.one_mul]
  · rw [Int.neg_mul, Int.one_mul]
    unfold sg
    by_cases h1 : 0 < x
    · rw [if_neg (by omega), if_pos (by omega), if_pos h1]; rfl
    · by_cases h2 : x < 0
      · rw [if_pos (by omega), if_neg h1, if_pos h2]; rfl
      · rw [if_neg (by omega), if_neg (by omega), if_neg h1, if_neg h2]; rfl
theorem img_ab {dx dy t : Int} (he : ab dx = ab dy) : ab (img1 dx dy t) = ab dx ∧ ab (img2 dx dy t) = ab dx := by
  unfold img1 img2
  split
  · rw [pm_ab (by omega), pm_ab (by omega)]
    exact ⟨he.symm, rfl⟩
  · rw [pm_ab (by omega), pm_ab (by omega)]
    exact ⟨rfl, he.symm⟩
theorem img_unit {s dx dy t : Int} (hs : s = 0 ∨ s = 1) (ht : 0 ≤ t ∧ t < 8) (he : ab dx = ab dy) : (unitD s dx dy).map (imgOf t) = unitD ((s + t / 4) % 2) (img1 dx dy t) (img2 dx dy t) := by
  unfold unitD
  rw [(img_ab (t := t) he).1, List.map_map]
  refine List.map_congr_left fun b _ => ?_
  have p1 : (1 - 2 * (t % 2)) = 1 ∨ (1 - 2 * (t % 2)) = -1 := by omega
  have p2 : (1 - 2 * (t / 2 % 2)) = 1 ∨ (1 - 2 * (t / 2 % 2)) = -1 := by omega
  by_cases h4 : 4 ≤ t
  · have q : (s + t / 4) % 2 = 1 - s := by omega
    rw [q]
    have e1 : img1 dx dy t = (1 - 2 * (t % 2)) * dy := by unfold img1; rw [if_pos h4]
    have e2 : img2 dx dy t = (1 - 2 * (t / 2 % 2)) * dx := by unfold img2; rw [if_pos h4]
    rw [e1, e2, pm_sg p1, pm_sg p2]
    rcases hs with rfl | rfl <;> cases b <;> simp [imgOf, imgD, img1, img2, lv, up, h4]
  · have q : (s + t / 4) % 2 = s := by omega
    rw [q]
    have e1 : img1 dx dy t = (1 - 2 * (t % 2)) * dx := by unfold img1; rw [if_neg h4]
    have e2 : img2 dx dy t = (1 - 2 * (t / 2 % 2)) * dy := by unfold img2; rw [if_neg h4]
    rw [e1, e2, pm_sg p1, pm_sg p2]
    rcases hs with rfl | rfl <;> cases b <;> simp [imgOf, imgD, img1, img2, lv, up, h4]
theorem unit_mem {s dx dy : Int} {d : D} (h : d ∈ unitD s dx dy) : ∃ x y, d = .tup [.int x, .int y] := by
  unfold unitD at h
  obtain ⟨b, _, rfl⟩ := List.mem_map.mp h
  split
  · exact ⟨_, _, rfl⟩
  · exact ⟨_, _, rfl⟩
theorem unit_len {s dx dy : Int} : (unitD s dx dy).length = (2 * ab dx).toNat := by unfold unitD; simp [arcB_len]
theorem turn_ok {s bend dx dy t : Int} {ns : List Int} {z7 z10 z11 z12 : Option W} (hw : wf h) (hs : s = 0 ∨ s = 1) (ht : 0 ≤ t ∧ t < 8) (he : ab dx = ab dy) (h1 : 0 < ab dx ∧ ab dx ≤ 1000)
    (g1 : h[1]? = some (.lst [.d (.str sFlat), .d (.str sSteep)])) (g3 : h[3]? = some (.lst ((unitD s dx dy).map W.d))) :
    ∃ u7 u10 u11 u12 t2, exec PP.xs (call PP (k + 3)) b11_1 [some (.ro ns), some (.r 0), some (.d (.int s)), some (.d (.int bend)), some (.d (.int dx)), some (.d (.int dy)), some (.r 1), z7, some (.r 3), some (.d (.int t)), z10, z11, z12, none, none] h =
      some (.ok (.nx [some (.ro ns), some (.r 0), some (.d (.int s)), some (.d (.int bend)), some (.d (.int dx)), some (.d (.int dy)), some (.r 1), u7, some (.r 3), some (.d (.int t)), u10, u11, u12, none, none]) (h ++ t2)) ∧ wf (h ++ t2) := by
  have l3 : 3 < h.length := (List.getElem?_eq_some_iff.mp g3).1
  generalize hsq : (s + t / 4) % 2 = s2
  have s2v : s2 = 0 ∨ s2 = 1 := by omega
  have hU : (unitD s dx dy).map (imgOf t) = unitD s2 (img1 dx dy t) (img2 dx dy t) := by rw [← hsq]; exact img_unit hs ht he
  have ia := img_ab (t := t) he
  generalize hi1 : img1 dx dy t = i1 at *
  generalize hi2 : img2 dx dy t = i2 at *
  have bel : ∀ {n : Nat} {l : List D}, O.below n (.lst (l.map W.d)) = true := fun {n l} => below_data
  -- the image of the ends
  have c1 := image_ok (k := k + 2) (x := dx) (y := dy) (t := t) hw
  unfold imgD at c1
  rw [hi1, hi2] at c1
  -- the list of images
  have cm : compL [(3, (unitD s dx dy).map W.d)] (.name 14) (wipe [some (.ro ns), some (.r 0), some (.d (.int s)), some (.d (.int bend)), some (.d (.int dx)), some (.d (.int dy)), some (.r 1), z7, some (.r 3), some (.d (.int t)), some (.d (.tup [.int i1, .int i2])), some (.d (.tup [.str (stn s2), .int i1, .int i2])), z12, none, none] [13, 14]) (fun σ1 => evC (call PP (k + 3)) σ1 .none) (fun σ1 => ev (call PP (k + 3)) σ1 b11_0) h.length (((unitD s dx dy).map W.d).map Item.one) (h ++ [.lst []]) =
      some (.ok () (h ++ [.lst (((unitD s dx dy).map W.d).map fun w => match w with | .d d => .d (imgOf t d) | w => w)])) := by
    refine comp_map rfl (fun acc => ?_) (by simp [unit_len]; omega) fun x hx acc ha => ?_
    · simp [still, hold l3, g3]
    · obtain ⟨d, hd, rfl⟩ := List.mem_map.mp hx
      obtain ⟨x, y, rfl⟩ := unit_mem hd
      have hwa : wf (h ++ [.lst acc]) := wf_push hw (below_lst fun z hz => by
        obtain ⟨u, hu, rfl⟩ := ha z hz
        obtain ⟨d', _, rfl⟩ := List.mem_map.mp hu
        exact ⟨_, rfl⟩)
      have c2 := image_ok (k := k + 2) (x := x) (y := y) (t := t) hwa
      exact ⟨_, rfl, by simp [exec, ev, evT, evs, evo, evC, evI, M.bind, M.ask, M.pure, M.opt, M.fail, onE, binOp, addW, subW, mulW, fdivW, modW, powW, cmpOp, eqW, gtW, ltW, leW, geW, ltD, isNonW, bifn, lenW, absW, intW, max2W, min2W, tupleW, listW, allD, allI, eqOk, D.depth, D.depths, pyEq, pyEqs, getIx, setIx, ixn, augOp, tyAny, tyB, truth, meth, recv, recvL, recvS, isLst, appendW, reverseW, popW, extendW, start, take, setAll, mulOk, ibeq, SZv, log2_nat], by simp [b11_0, exec, ev, evT, evs, evo, evC, evI, M.bind, M.ask, M.pure, M.opt, M.fail, onE, binOp, addW, subW, mulW, fdivW, modW, powW, cmpOp, eqW, gtW, ltW, leW, geW, ltD, isNonW, bifn, lenW, absW, intW, max2W, min2W, tupleW, listW, allD, allI, eqOk, D.depth, D.depths, pyEq, pyEqs, getIx, setIx, ixn, augOp, tyAny, tyB, truth, meth, recv, recvL, recvS, isLst, appendW, reverseW, popW, extendW, start, take, setAll, mulOk, ibeq, SZv, log2_nat, wipe, c2, imgOf]⟩
  have em : ((unitD s dx dy).map W.d).map (fun w => match w with | .d d => .d (imgOf t d) | w => w) = (unitD s2 i1 i2).map W.d := by
    rw [← hU, List.map_map, List.map_map]
    rfl
  rw [em] at cm
  have hw2 : wf (h ++ [.lst ((unitD s2 i1 i2).map W.d)]) := wf_push hw bel
  have c3 := unit_ok (k := k) (s := s2) (dx := i1) (dy := i2) hw2 s2v (by omega)
  have hw3 : wf (h ++ [.lst ((unitD s2 i1 i2).map W.d), .lst ((unitD s2 i1 i2).map W.d)]) := by
    have := wf_push (o := .lst ((unitD s2 i1 i2).map W.d)) hw2 bel
    simpa using this
  have gn : (h ++ [.lst ((unitD s2 i1 i2).map W.d), .lst ((unitD s2 i1 i2).map W.d)])[h.length]? = some (.lst ((unitD s2 i1 i2).map W.d)) := hget0 rfl
  have gn1 : (h ++ [.lst ((unitD s2 i1 i2).map W.d), .lst ((unitD s2 i1 i2).map W.d)])[h.length + 1]? = some (.lst ((unitD s2 i1 i2).map W.d)) := hget rfl
  have c4 := chk_ok (k := k + 1) (s := s2) (dx := i1) (dy := i2) hw3 s2v gn1 (by omega) (by omega)
  have c5 := eqW_lst gn1 gn (fun d hd => by obtain ⟨x, y, rfl⟩ := unit_mem hd; simp [D.depth, D.depths])
  rw [List.append_assoc, List.length_append] at c3
  have hst : ∀ hh, ([W.d (.str sFlat), W.d (.str sSteep)] : List W)[s2.toNat]'hh = .d (.str (stn s2)) := by rcases s2v with rfl | rfl <;> (intro hh; rfl)
  have q0 : 0 ≤ s2 := by omega
  have q1 : s2 < 2 := by omega
  have hitem : seqWalk (.r 3) h = some ⟨((unitD s dx dy).map W.d).map Item.one, [(3, (unitD s dx dy).map W.d)]⟩ := by unfold seqWalk; simp only [g3]
  refine ⟨some (.r (h.length + 1)), some (.d (.tup [.int i1, .int i2])), some (.d (.tup [.str (stn s2), .int i1, .int i2])), some (.r h.length), [.lst ((unitD s2 i1 i2).map W.d), .lst ((unitD s2 i1 i2).map W.d)], ?_, hw3⟩
  simp at c3
  simp only [evC, List.map_map] at cm
  simp [b11_1, exec, ev, evT, evs, evo, evC, evI, M.bind, M.ask, M.pure, M.opt, M.fail, onE, binOp, addW, subW, mulW, fdivW, modW, powW, cmpOp, gtW, ltW, leW, geW, ltD, isNonW, bifn, lenW, absW, intW, max2W, min2W, tupleW, listW, allD, allI, eqOk, D.depth, D.depths, pyEq, pyEqs, getIx, setIx, ixn, augOp, tyAny, tyB, truth, meth, recv, recvL, recvS, isLst, appendW, reverseW, popW, extendW, start, take, setAll, mulOk, ibeq, SZv, log2_nat, c1, hsq, g1, hst, q0, q1, hitem, cm, c3, c4, c5]
end
end LW

namespace LW
open DI
section
variable {k : Nat} {h : H}
theorem pool0 {N : Nat} {xs : List W} (px : Pool N xs) : wf [.lst xs] := by
  unfold wf
  rw [List.all_cons, px.below]
  rfl
/-- one figure from the pool alone -/
theorem take0 {N : Nat} {xs : List W} {many : Int} (px : Pool N xs) (hN : N < 1000000000000) (h0 : 0 < many) (h1 : many < 18446744073709551616) :
    ∃ r xs', 0 ≤ r ∧ r < many ∧ Pool (N + 1) xs' ∧ callF PP (k + 1) 6 [.r 0, .d (.int many)] [.lst xs] = some (.ok (.d (.int r)) [.lst xs']) := by
  obtain ⟨r, xs', a, b, c, d⟩ := take_ok (P := PP) (k := k) (i := 6) (p := 0) (h := [.lst xs]) rfl (pool0 px) rfl px hN h0 h1
  exact ⟨r, xs', a, b, c, d⟩
theorem gc_zero {x : D} {h : H} : gc 0 (.d x) h = (.d x, []) := by unfold gc; simp
theorem part1_ok {ns : List Int} : callF PP (k + 5) 11 [.ro ns] [] = some (.ok (.d (.bl true)) []) := by
  obtain ⟨xs0, p0, e0⟩ := pool_ok (P := PP) (k := k + 3) (i := 5) (ns := ns) (at_ := 0) (h := []) rfl wf_nil (by omega)
  obtain ⟨s, xs1, a1, b1, p1, e1⟩ := take0 (k := k + 3) (many := 2) p0 (by omega) (by omega) (by omega)
  obtain ⟨q, xs2, a2, b2, p2, e2⟩ := take0 (k := k + 3) (many := 12) p1 (by omega) (by omega) (by omega)
  obtain ⟨u, xs3, a3, b3, p3, e3⟩ := take0 (k := k + 3) (many := 2) p2 (by omega) (by omega) (by omega)
  obtain ⟨v, xs4, a4, b4, p4, e4⟩ := take0 (k := k + 3) (many := 2) p3 (by omega) (by omega) (by omega)
  have hs : s = 0 ∨ s = 1 := by omega
  have nb : (1 + q).natAbs < 18446744073709551616 := by omega
  generalize hdx : (1 + q) * (1 - 2 * u) = dx
  generalize hdy : (1 + q) * (1 - 2 * v) = dy
  have adx : ab dx = 1 + q := by
    rw [← hdx, Int.mul_comm, pm_ab (by omega)]
    unfold ab
    rw [if_neg (by omega)]
  have ady : ab dy = 1 + q := by
    rw [← hdy, Int.mul_comm, pm_ab (by omega)]
    unfold ab
    rw [if_neg (by omega)]
  have bel : ∀ {n : Nat} {l : List D}, O.below n (.lst (l.map W.d)) = true := fun {n l} => below_data
  have w1 : wf [.lst xs4, .lst [.d (.str sFlat), .d (.str sSteep)]] := wf_push (h := [.lst xs4]) (pool0 p4) rfl
  have c1 := unit_ok (k := k + 1) (s := s) (dx := dx) (dy := dy) w1 hs (by omega)
  have w2 : wf [.lst xs4, .lst [.d (.str sFlat), .d (.str sSteep)], .lst ((unitD s dx dy).map W.d)] := wf_push (h := [.lst xs4, .lst [.d (.str sFlat), .d (.str sSteep)]]) w1 bel
  have c2 := chk_ok (k := k + 2) (s := s) (dx := dx) (dy := dy) (p := 2) w2 hs rfl (by omega) (by omega)
  have hst : ∀ hh, ([W.d (.str sFlat), W.d (.str sSteep)] : List W)[s.toNat]'hh = .d (.str (stn s)) := by rcases hs with rfl | rfl <;> (intro hh; rfl)
  have w3 : wf [.lst xs4, .lst [.d (.str sFlat), .d (.str sSteep)], .lst (((unitD s dx dy).map W.d).reverse ++ [W.d (D.tup [D.int 0, D.int 0])]), .lst ((unitD s dx dy).map W.d)] := by
    have w4 := wf_push (h := [.lst xs4, .lst [.d (.str sFlat), .d (.str sSteep)]]) (o := .lst (((unitD s dx dy).map W.d).reverse ++ [W.d (D.tup [D.int 0, D.int 0])])) w1 (below_lst fun x hx => by
      rcases List.mem_append.mp hx with hx | hx
      · obtain ⟨d, _, rfl⟩ := List.mem_map.mp (List.mem_reverse.mp hx)
        exact ⟨_, rfl⟩
      · exact ⟨_, List.mem_singleton.mp hx⟩)
    exact wf_push (h := [.lst xs4, .lst [.d (.str sFlat), .d (.str sSteep)], .lst (((unitD s dx dy).map W.d).reverse ++ [W.d (D.tup [D.int 0, D.int 0])])]) w4 bel
  obtain ⟨σ', h', e, q1⟩ := for_go (gs := []) (tg := .name 9) (b := fun σ h => exec PP.xs (call PP (k + 4)) b11_1 σ h) (rngItems 0 8 1)
    (fun i σ h' => wf h' ∧ h'[1]? = some (.lst [.d (.str sFlat), .d (.str sSteep)]) ∧ h'[3]? = some (.lst ((unitD s dx dy).map W.d)) ∧ ∃ z7 z9 z10 z11 z12, σ = [some (.ro ns), some (.r 0), some (.d (.int s)), some (.d (.int (1 + q))), some (.d (.int dx)), some (.d (.int dy)), some (.r 1), z7, some (.r 3), z9, z10, z11, z12, none, none])
    (fun i x σ h' e ⟨hw, g1, g3, z7, z9, z10, z11, z12, e2⟩ => by
      obtain ⟨hi, rfl⟩ := rng_get e
      subst e2
      obtain ⟨u7, u10, u11, u12, t2, e3, w⟩ := turn_ok (k := k + 1) (s := s) (bend := 1 + q) (dx := dx) (dy := dy) (t := 0 + (i : Int) * 1) (ns := ns) (z7 := z7) (z10 := z10) (z11 := z11) (z12 := z12) hw hs (by omega) (by omega) (by omega) g1 g3
      have l3 : 3 < h'.length := (List.getElem?_eq_some_iff.mp g3).1
      exact ⟨rfl, _, rfl, _, _, .inl e3, w, by rw [hold (by omega)]; exact g1, by rw [hold (by omega)]; exact g3, _, _, _, _, _, rfl⟩)
    (fun σ h' _ => rfl) [some (.ro ns), some (.r 0), some (.d (.int s)), some (.d (.int (1 + q))), some (.d (.int dx)), some (.d (.int dy)), some (.r 1), some (.r 2), some (.r 3), none, none, none, none, none, none] _ ⟨w3, rfl, rfl, _, _, _, _, _, rfl⟩
  have hr : rngWalk 0 8 = some ⟨rngItems 0 8 1, []⟩ := by
    unfold rngWalk big
    rw [if_pos ⟨by omega, by omega, by omega, by omega⟩]
    rfl
  have hl : (unitD s dx dy).length < 16777216 := by rw [unit_len]; omega
  have ex : exec PP.xs (call PP (k + 4)) f11.body (start f11.n [.ro ns]) [] = some (.ok (.rt (.d (.bl true))) h') := by
    unfold sFlat sSteep at *
    simp at c1 c2 e0
    simp [f11, exec, ev, evT, evs, evo, evC, evI, M.bind, M.ask, M.pure, M.opt, M.fail, onE, binOp, addW, subW, mulW, fdivW, modW, powW, cmpOp, eqW, gtW, ltW, leW, geW, ltD, isNonW, bifn, lenW, absW, intW, max2W, min2W, tupleW, listW, allD, allI, eqOk, D.depth, D.depths, pyEq, pyEqs, getIx, setIx, ixn, augOp, tyAny, tyB, truth, meth, recv, recvL, recvS, isLst, appendW, reverseW, popW, extendW, start, take, setAll, mulOk, ibeq, SZv, log2_nat, e0, e1, e2, e3, e4, nb, hdx, hdy, hst, a1, b1, c1, c2, hl, hr, e]
  rw [call_rt (fn := f11) rfl rfl ex, show (([] : H).length) = 0 from rfl, gc_zero]
end
end LW

namespace LW
open DI
section
variable {k : Nat} {h : H}
theorem sign2_ok {x : Int} (hw : wf h) : callF PP (k + 1) 12 [.d (.int x)] h = some (.ok (.d (.int (sg x))) h) := by
  have e : exec PP.xs (call PP k) f12.body (start f12.n [.d (.int x)]) h = some (.ok (.rt (.d (.int (sg x)))) h) := by
    unfold sg
    by_cases h1 : 0 < x
    · have h3 : ¬ x < 0 := by omega
      simp [f12, exec, ev, evT, evs, evo, evC, evI, M.bind, M.ask, M.pure, M.opt, M.fail, onE, binOp, addW, subW, mulW, fdivW, modW, powW, cmpOp, eqW, gtW, ltW, leW, geW, ltD, isNonW, bifn, lenW, absW, intW, max2W, min2W, tupleW, listW, allD, allI, eqOk, D.depth, D.depths, pyEq, pyEqs, getIx, setIx, ixn, augOp, tyAny, tyB, truth, meth, recv, recvL, recvS, isLst, appendW, reverseW, popW, extendW, start, take, setAll, mulOk, ibeq, SZv, log2_nat, h1, h3]
    · by_cases h2 : x < 0
      · simp [f12, exec, ev, evT, evs, evo, evC, evI, M.bind, M.ask, M.pure, M.opt, M.fail, onE, binOp, addW, subW, mulW, fdivW, modW, powW, cmpOp, eqW, gtW, ltW, leW, geW, ltD, isNonW, bifn, lenW, absW, intW, max2W, min2W, tupleW, listW, allD, allI, eqOk, D.depth, D.depths, pyEq, pyEqs, getIx, setIx, ixn, augOp, tyAny, tyB, truth, meth, recv, recvL, recvS, isLst, appendW, reverseW, popW, extendW, start, take, setAll, mulOk, ibeq, SZv, log2_nat, h1, h2]
      · simp [f12, exec, ev, evT, evs, evo, evC, evI, M.bind, M.ask, M.pure, M.opt, M.fail, onE, binOp, addW, subW, mulW, fdivW, modW, powW, cmpOp, eqW, gtW, ltW, leW, geW, ltD, isNonW, bifn, lenW, absW, intW, max2W, min2W, tupleW, listW, allD, allI, eqOk, D.depth, D.depths, pyEq, pyEqs, getIx, setIx, ixn, augOp, tyAny, tyB, truth, meth, recv, recvL, recvS, isLst, appendW, reverseW, popW, extendW, start, take, setAll, mulOk, ibeq, SZv, log2_nat, h1, h2]
  rw [call_rt (fn := f12) rfl rfl e, gc_d0 rfl hw]
theorem line_len {dx dy : Int} : (lineL dx dy).length = (ab dx + ab dy).toNat := by unfold lineL; simp
theorem line_get {dx dy : Int} {i : Nat} (hh : i < (lineL dx dy).length) : (lineL dx dy)[i]'hh = lstep dx dy i := by simp only [lineL, List.getElem_map, List.getElem_range]
/-- the count of level steps -/
def cnt (dx dy : Int) (i : Nat) : Int := i * ab dx / (ab dx + ab dy)
theorem cnt_facts {dx dy : Int} {i : Nat} (hm : 0 < ab dx + ab dy) : 0 ≤ cnt dx dy i ∧ cnt dx dy i ≤ i ∧ (cnt dx dy (i + 1) = cnt dx dy i ∨ cnt dx dy (i + 1) = cnt dx dy i + 1) ∧ cnt dx dy i * (ab dx + ab dy) ≤ i * ab dx ∧ i * ab dx < (cnt dx dy i + 1) * (ab dx + ab dy) := by
  have a1 := ab_nn dx
  have a2 := ab_nn dy
  unfold cnt
  have w0 : 0 ≤ (i : Int) * ab dx := Int.mul_nonneg (by omega) a1
  have e1 : ((i + 1 : Nat) : Int) * ab dx = i * ab dx + ab dx := by rw [Int.natCast_succ, Int.add_mul, Int.one_mul]
  rw [e1]
  have l1 : (i : Int) * ab dx ≤ i * (ab dx + ab dy) := Int.mul_le_mul_of_nonneg_left (by omega) (by omega)
  generalize (i : Int) * ab dx = W at *
  generalize hM : ab dx + ab dy = M at *
  have f1 := Int.ediv_mul_le W (by omega : M ≠ 0)
  have f2 := Int.lt_ediv_add_one_mul_self W hm
  refine ⟨Int.ediv_nonneg w0 (by omega), ?_, ?_, f1, f2⟩
  · exact Int.ediv_le_of_le_mul hm l1
  · have g1 : W / M ≤ (W + ab dx) / M := Int.ediv_le_ediv hm (by omega)
    have g2 : (W + ab dx) / M ≤ (W + 1 * M) / M := Int.ediv_le_ediv hm (by omega)
    rw [Int.add_mul_ediv_right _ _ (by omega : M ≠ 0)] at g2
    omega
theorem sg_ab (x : Int) : ab x * sg x = x := by
  unfold ab sg
  by_cases h1 : x < 0
  · rw [if_pos h1, if_neg (by omega), if_pos h1]; omega
  · rw [if_neg h1]
    by_cases h2 : 0 < x
    · rw [if_pos h2]; omega
    · rw [if_neg h2, if_neg h1]; omega
theorem step2_ok {dx dy : Int} {p i : Nat} {j : Int} (hj : j = i) (hw : wf h) (hp : h[p]? = some (.lst (lineL dx dy))) (hz : ab dx + ab dy ≤ 1000) (hi : i < (ab dx + ab dy).toNat) :
    exec PP.xs (call PP (k + 1)) b13_0 [some (strk sLine dx dy), some (.r p), some (.d (.int (ab dx))), some (.d (.int (ab dx + ab dy))), some (.d (lv (sg dx))), some (.d (up (sg dy))), some (.d (.int (cnt dx dy i))), some (.d (.int (cnt dx dy i * sg dx))), some (.d (.int ((i - cnt dx dy i) * sg dy))), some (.d (.int j))] h =
      some (.ok (.nx [some (strk sLine dx dy), some (.r p), some (.d (.int (ab dx))), some (.d (.int (ab dx + ab dy))), some (.d (lv (sg dx))), some (.d (up (sg dy))), some (.d (.int (cnt dx dy (i + 1)))), some (.d (.int (cnt dx dy (i + 1) * sg dx))), some (.d (.int (((i + 1 : Nat) - cnt dx dy (i + 1)) * sg dy))), some (.d (.int j))]) h) := by
  subst hj
  have a1 := ab_nn dx
  have a2 := ab_nn dy
  have hm : 0 < ab dx + ab dy := by omega
  obtain ⟨f1, f2, f3, f4, f5⟩ := cnt_facts (dx := dx) (dy := dy) (i := i) hm
  obtain ⟨g1, g2, g3, g4, g5⟩ := cnt_facts (dx := dx) (dy := dy) (i := i + 1) hm
  have hg : ∀ hh, (lineL dx dy)[i]'hh = lstep dx dy i := fun hh => line_get hh
  have ls : lstep dx dy i = .d (.tup (if cnt dx dy i < cnt dx dy (i + 1) then [.int (sg dx), .int 0] else [.int 0, .int (sg dy)])) := by
    unfold lstep cnt
    rfl
  have hlen := line_len (dx := dx) (dy := dy)
  rw [ls] at hg
  generalize hC : cnt dx dy i = c at *
  generalize hD : cnt dx dy (i + 1) = c2 at *
  have n1 : c.natAbs < 18446744073709551616 := by omega
  have n2 : (c + 1).natAbs < 18446744073709551616 := by omega
  have n3 : ((i : Int) + 1).natAbs < 18446744073709551616 := by omega
  have n4 : (ab dx + ab dy).natAbs < 18446744073709551616 := by omega
  have n5 : (ab dx).natAbs < 18446744073709551616 := by omega
  have hi2 : (i : Int) < ab dx + ab dy := by omega
  have hcast : (((ab dx + ab dy).toNat : Nat) : Int) = ab dx + ab dy := by omega
  rw [Int.natCast_succ] at g4 g5
  by_cases hc : c < c2
  · have e2 : c2 = c + 1 := by omega
    subst e2
    have st := step_ok (k := k) (x := sg dx) (y := 0) hw
    rw [if_pos hc] at hg
    have m1 : (c + 1) * sg dx = c * sg dx + sg dx := by rw [Int.add_mul, Int.one_mul]
    have m2 : (((i + 1 : Nat) : Int) - (c + 1)) * sg dy = (i - c) * sg dy := by congr 1; omega
    rw [m1, m2]
    simp [b13_0, strk, lv, up, exec, ev, evT, evs, evo, evC, evI, M.bind, M.ask, M.pure, M.opt, M.fail, onE, binOp, addW, subW, mulW, fdivW, modW, powW, cmpOp, eqW, gtW, ltW, leW, geW, ltD, isNonW, bifn, lenW, absW, intW, max2W, min2W, tupleW, listW, allD, allI, eqOk, D.depth, D.depths, pyEq, pyEqs, getIx, setIx, ixn, augOp, tyAny, tyB, truth, meth, recv, recvL, recvS, isLst, appendW, reverseW, popW, extendW, start, take, setAll, mulOk, ibeq, SZv, log2_nat, hp, hlen, hcast, hi2, hg, st, g4, g5, n1, n2, n3, n4, n5]
  · have e2 : c2 = c := by omega
    subst e2
    have st := step_ok (k := k) (x := 0) (y := sg dy) hw
    rw [if_neg hc] at hg
    have m2 : (((i + 1 : Nat) : Int) - c2) * sg dy = (i - c2) * sg dy + sg dy := by
      rw [show ((i + 1 : Nat) : Int) - c2 = (i - c2) + 1 by omega, Int.add_mul, Int.one_mul]
    rw [m2]
    have hne : (decide (0 = sg dx) && decide (sg dy = 0)) = false := by
      by_cases d1 : dx = 0
      · have d2 : dy ≠ 0 := fun e => by subst d1 e; simp [ab] at hm
        have : sg dy ≠ 0 := by unfold sg; split <;> (try split) <;> omega
        simp [this]
      · have : sg dx ≠ 0 := by unfold sg; split <;> (try split) <;> omega
        have : ¬ (0 = sg dx) := fun e => this e.symm
        simp [this]
    simp [b13_0, strk, lv, up, exec, ev, evT, evs, evo, evC, evI, M.bind, M.ask, M.pure, M.opt, M.fail, onE, binOp, addW, subW, mulW, fdivW, modW, powW, cmpOp, eqW, gtW, ltW, leW, geW, ltD, isNonW, bifn, lenW, absW, intW, max2W, min2W, tupleW, listW, allD, allI, eqOk, D.depth, D.depths, pyEq, pyEqs, getIx, setIx, ixn, augOp, tyAny, tyB, truth, meth, recv, recvL, recvS, isLst, appendW, reverseW, popW, extendW, start, take, setAll, mulOk, ibeq, SZv, log2_nat, hp, hlen, hcast, hi2, hg, st, g4, g5, n1, n2, n3, n4, n5, hne]
theorem right2_ok {dx dy : Int} {p : Nat} (hw : wf h) (hp : h[p]? = some (.lst (lineL dx dy))) (hz : ab dx + ab dy ≤ 1000) (hm : 0 < ab dx + ab dy) : callF PP (k + 2) 13 [strk sLine dx dy, .r p] h = some (.ok (.d (.bl true)) h) := by
  have za : ∀ x : Int, (if x < 0 then -x else x) = ab x := fun _ => rfl
  have a1 := ab_nn dx
  have a2 := ab_nn dy
  obtain ⟨σ', h', e, q1, z9, q2⟩ := for_go (gs := []) (tg := .name 9) (b := fun σ h => exec PP.xs (call PP (k + 1)) b13_0 σ h) (rngItems 0 (ab dx + ab dy).toNat 1)
    (fun i σ h' => h' = h ∧ ∃ z9, σ = [some (strk sLine dx dy), some (.r p), some (.d (.int (ab dx))), some (.d (.int (ab dx + ab dy))), some (.d (lv (sg dx))), some (.d (up (sg dy))), some (.d (.int (cnt dx dy i))), some (.d (.int (cnt dx dy i * sg dx))), some (.d (.int ((i - cnt dx dy i) * sg dy))), z9])
    (fun i x σ h' e ⟨e1, z9, e2⟩ => by
      obtain ⟨hi, rfl⟩ := rng_get e
      subst e1 e2
      exact ⟨rfl, _, rfl, _, _, .inl (step2_ok (k := k) (by omega) hw hp hz hi), rfl, _, rfl⟩)
    (fun σ h' _ => rfl) [some (strk sLine dx dy), some (.r p), some (.d (.int (ab dx))), some (.d (.int (ab dx + ab dy))), some (.d (lv (sg dx))), some (.d (up (sg dy))), some (.d (.int 0)), some (.d (.int 0)), some (.d (.int 0)), none] h ⟨rfl, none, by simp [cnt]⟩
  subst q1 q2
  have r3 : rngWalk 0 (ab dx + ab dy) = some ⟨rngItems 0 (ab dx + ab dy).toNat 1, []⟩ := by
    unfold rngWalk big
    rw [if_pos ⟨by omega, by omega, by omega, by omega⟩, Int.sub_zero]
  have hcast : (((ab dx + ab dy).toNat : Nat) : Int) = ab dx + ab dy := by omega
  have c1 : cnt dx dy (ab dx + ab dy).toNat = ab dx := by
    unfold cnt
    rw [hcast, Int.mul_ediv_cancel_left _ (by omega)]
  rw [rng_len, c1, hcast, sg_ab, show ab dx + ab dy - ab dx = ab dy by omega, sg_ab] at e
  have s1 := sign2_ok (k := k) (x := dx) hw
  have s2 := sign2_ok (k := k) (x := dy) hw
  have ex : exec PP.xs (call PP (k + 1)) f13.body (start f13.n [strk sLine dx dy, .r p]) h' = some (.ok (.rt (.d (.bl true))) h') := by
    unfold strk at e ⊢
    unfold lv up at e
    simp [f13, exec, ev, evT, evs, evo, evC, evI, M.bind, M.ask, M.pure, M.opt, M.fail, onE, binOp, addW, subW, mulW, fdivW, modW, powW, cmpOp, eqW, gtW, ltW, leW, geW, ltD, isNonW, bifn, lenW, absW, intW, max2W, min2W, tupleW, listW, allD, allI, eqOk, D.depth, D.depths, pyEq, pyEqs, getIx, setIx, ixn, augOp, tyAny, tyB, truth, meth, recv, recvL, recvS, isLst, appendW, reverseW, popW, extendW, start, take, setAll, mulOk, ibeq, SZv, log2_nat, za, s1, s2, hp, line_len, hcast, r3, e]
  rw [call_rt (fn := f13) rfl rfl ex, gc_d0 rfl hw]

/-! ### part two -/
/-- a pair that makes a stroke -/
def okP (d : D) : Prop := ∃ x y : Int, d = .tup [.int x, .int y] ∧ 0 < ab x + ab y ∧ ab x + ab y ≤ 1000
theorem ab_neg (x : Int) : ab (-x) = ab x := by unfold ab; split <;> split <;> omega
theorem ab_le {x : Int} {n : Int} (h : -n ≤ x ∧ x ≤ n) : ab x ≤ n := by unfold ab; split <;> omega
theorem ab_pos {x : Int} (h : x ≠ 0) : 0 < ab x := by unfold ab; split <;> omega
theorem pairs_ok {xs : List W} (px : Pool 0 xs) : ∃ (ds : List D) (xs' : List W), (∀ d ∈ ds, okP d) ∧ ds.length ≤ 10 ∧ Pool 10 xs' ∧ callF PP (k + 2) 14 [.r 0] [.lst xs] = some (.ok (.r 1) [.lst xs', .lst (ds.map W.d)]) := by
  obtain ⟨x, xs1, a1, b1, p1, e1⟩ := take0 (k := k) (many := 41) px (by omega) (by omega) (by omega)
  obtain ⟨y, xs2, a2, b2, p2, e2⟩ := take0 (k := k) (many := 41) p1 (by omega) (by omega) (by omega)
  obtain ⟨z, xs3, a3, b3, p3, e3⟩ := take0 (k := k) (many := 8) p2 (by omega) (by omega) (by omega)
  by_cases hz : z = 0
  · obtain ⟨r, xs4, a4, b4, p4, e4⟩ := take0 (k := k) (many := 380) p3 (by omega) (by omega) (by omega)
    obtain ⟨v, xs5, a5, b5, p5, e5⟩ := take_ok (P := PP) (k := k) (i := 6) (p := 0) (many := 4) (h := [.lst xs4, .lst [.d (.tup [.int (21 + r), .int 0]), .d (.tup [.int (-(21 + r)), .int 0]), .d (.tup [.int 0, .int (21 + r)]), .d (.tup [.int 0, .int (-(21 + r))])]]) rfl (wf_push (h := [.lst xs4]) (pool0 p4) rfl) rfl p4 (by omega) (by omega) (by omega)
    have hR := ab_pos (x := 21 + r) (by omega)
    have hR2 := ab_le (x := 21 + r) (n := 1000) (by omega)
    have k0 : ab 0 = 0 := rfl
    have o1 : okP (.tup [.int (21 + r), .int 0]) := ⟨_, _, rfl, by rw [k0]; omega, by rw [k0]; omega⟩
    have o2 : okP (.tup [.int (-(21 + r)), .int 0]) := ⟨_, _, rfl, by rw [k0, ab_neg]; omega, by rw [k0, ab_neg]; omega⟩
    have o3 : okP (.tup [.int 0, .int (21 + r)]) := ⟨_, _, rfl, by rw [k0]; omega, by rw [k0]; omega⟩
    have o4 : okP (.tup [.int 0, .int (-(21 + r))]) := ⟨_, _, rfl, by rw [k0, ab_neg]; omega, by rw [k0, ab_neg]; omega⟩
    have fin : ∀ {d1 d2 : D}, okP d1 → okP d2 → exec PP.xs (call PP (k + 1)) f14.body (start f14.n [.r 0]) [.lst xs] = some (.ok (.rt (.r 2)) [.lst xs5, .lst [.d (.tup [.int (21 + r), .int 0]), .d (.tup [.int (-(21 + r)), .int 0]), .d (.tup [.int 0, .int (21 + r)]), .d (.tup [.int 0, .int (-(21 + r))])], .lst [.d d1, .d d2]]) →
        ∃ (ds : List D) (xs' : List W), (∀ d ∈ ds, okP d) ∧ ds.length ≤ 10 ∧ Pool 10 xs' ∧ callF PP (k + 2) 14 [.r 0] [.lst xs] = some (.ok (.r 1) [.lst xs', .lst (ds.map W.d)]) := fun {d1 d2} h1 h2 e => by
      refine ⟨[d1, d2], xs5, fun d hd => ?_, by simp, p5.mono (by omega), ?_⟩
      · rcases List.mem_cons.mp hd with rfl | hd
        · exact h1
        · rw [List.mem_singleton.mp hd]; exact h2
      · rw [call_rt (fn := f14) rfl rfl e]
        have q := gc_new (h := [.lst xs5]) (t := [.lst [.d (.tup [.int (21 + r), .int 0]), .d (.tup [.int (-(21 + r)), .int 0]), .d (.tup [.int 0, .int (21 + r)]), .d (.tup [.int 0, .int (-(21 + r))])], .lst [.d d1, .d d2]]) (n := 1) (i := 1) (o := .lst [.d d1, .d d2]) rfl (pool0 p5) rfl rfl
        show some (R.ok (gc 1 (.r (1 + 1)) ([.lst xs5] ++ _)).1 (gc 1 (.r (1 + 1)) ([.lst xs5] ++ _)).2) = _
        rw [q]
        rfl
    subst hz
    rcases (by omega : v = 0 ∨ v = 1 ∨ v = 2 ∨ v = 3) with rfl | rfl | rfl | rfl
    · exact fin o1 o2 (by simp [f14, exec, ev, evT, evs, evo, evC, evI, M.bind, M.ask, M.pure, M.opt, M.fail, onE, binOp, addW, subW, mulW, fdivW, modW, powW, cmpOp, eqW, gtW, ltW, leW, geW, ltD, isNonW, bifn, lenW, absW, intW, max2W, min2W, tupleW, listW, allD, allI, eqOk, D.depth, D.depths, pyEq, pyEqs, getIx, setIx, ixn, augOp, tyAny, tyB, truth, meth, recv, recvL, recvS, isLst, appendW, reverseW, popW, extendW, start, take, setAll, mulOk, ibeq, SZv, log2_nat, e1, e2, e3, e4, e5])
    · exact fin o2 o3 (by simp [f14, exec, ev, evT, evs, evo, evC, evI, M.bind, M.ask, M.pure, M.opt, M.fail, onE, binOp, addW, subW, mulW, fdivW, modW, powW, cmpOp, eqW, gtW, ltW, leW, geW, ltD, isNonW, bifn, lenW, absW, intW, max2W, min2W, tupleW, listW, allD, allI, eqOk, D.depth, D.depths, pyEq, pyEqs, getIx, setIx, ixn, augOp, tyAny, tyB, truth, meth, recv, recvL, recvS, isLst, appendW, reverseW, popW, extendW, start, take, setAll, mulOk, ibeq, SZv, log2_nat, e1, e2, e3, e4, e5])
    · exact fin o3 o4 (by simp [f14, exec, ev, evT, evs, evo, evC, evI, M.bind, M.ask, M.pure, M.opt, M.fail, onE, binOp, addW, subW, mulW, fdivW, modW, powW, cmpOp, eqW, gtW, ltW, leW, geW, ltD, isNonW, bifn, lenW, absW, intW, max2W, min2W, tupleW, listW, allD, allI, eqOk, D.depth, D.depths, pyEq, pyEqs, getIx, setIx, ixn, augOp, tyAny, tyB, truth, meth, recv, recvL, recvS, isLst, appendW, reverseW, popW, extendW, start, take, setAll, mulOk, ibeq, SZv, log2_nat, e1, e2, e3, e4, e5])
    · exact fin o4 o1 (by simp [f14, exec, ev, evT, evs, evo, evC, evI, M.bind, M.ask, M.pure, M.opt, M.fail, onE, binOp, addW, subW, mulW, fdivW, modW, powW, cmpOp, eqW, gtW, ltW, leW, geW, ltD, isNonW, bifn, lenW, absW, intW, max2W, min2W, tupleW, listW, allD, allI, eqOk, D.depth, D.depths, pyEq, pyEqs, getIx, setIx, ixn, augOp, tyAny, tyB, truth, meth, recv, recvL, recvS, isLst, appendW, reverseW, popW, extendW, start, take, setAll, mulOk, ibeq, SZv, log2_nat, e1, e2, e3, e4, e5])
  · have fin : ∀ {u v : Int}, 0 < ab u + ab v → ab u ≤ 20 → ab v ≤ 20 → exec PP.xs (call PP (k + 1)) f14.body (start f14.n [.r 0]) [.lst xs] = some (.ok (.rt (.r 1)) [.lst xs3, .lst [.d (.tup [.int u, .int v]), .d (.tup [.int (-u), .int v]), .d (.tup [.int u, .int (-v)]), .d (.tup [.int (-u), .int (-v)]), .d (.tup [.int v, .int u])]]) →
        ∃ (ds : List D) (xs' : List W), (∀ d ∈ ds, okP d) ∧ ds.length ≤ 10 ∧ Pool 10 xs' ∧ callF PP (k + 2) 14 [.r 0] [.lst xs] = some (.ok (.r 1) [.lst xs', .lst (ds.map W.d)]) := fun {u v} h1 h2 h3 e => by
      refine ⟨[.tup [.int u, .int v], .tup [.int (-u), .int v], .tup [.int u, .int (-v)], .tup [.int (-u), .int (-v)], .tup [.int v, .int u]], xs3, fun d hd => ?_, by simp, p3.mono (by omega), ?_⟩
      · simp only [List.mem_cons, List.not_mem_nil, or_false] at hd
        rcases hd with rfl | rfl | rfl | rfl | rfl
        · exact ⟨_, _, rfl, by omega, by omega⟩
        · exact ⟨_, _, rfl, by rw [ab_neg]; omega, by rw [ab_neg]; omega⟩
        · exact ⟨_, _, rfl, by rw [ab_neg]; omega, by rw [ab_neg]; omega⟩
        · exact ⟨_, _, rfl, by rw [ab_neg, ab_neg]; omega, by rw [ab_neg, ab_neg]; omega⟩
        · exact ⟨_, _, rfl, by omega, by omega⟩
      · rw [call_rt (fn := f14) rfl rfl e]
        have q := gc_new0 (h := [.lst xs3]) (t := [.lst [.d (.tup [.int u, .int v]), .d (.tup [.int (-u), .int v]), .d (.tup [.int u, .int (-v)]), .d (.tup [.int (-u), .int (-v)]), .d (.tup [.int v, .int u])]]) (n := 1) rfl (pool0 p3) rfl rfl
        show some (R.ok (gc 1 (.r 1) ([.lst xs3] ++ _)).1 (gc 1 (.r 1) ([.lst xs3] ++ _)).2) = _
        rw [q]
        rfl
    by_cases h0 : x - 20 = 0 ∧ y - 20 = 0
    · exact fin (u := 1) (v := 0) (by decide) (by decide) (by decide) (by
        obtain ⟨h1, h2⟩ := h0
        simp [f14, exec, ev, evT, evs, evo, evC, evI, M.bind, M.ask, M.pure, M.opt, M.fail, onE, binOp, addW, subW, mulW, fdivW, modW, powW, cmpOp, eqW, gtW, ltW, leW, geW, ltD, isNonW, bifn, lenW, absW, intW, max2W, min2W, tupleW, listW, allD, allI, eqOk, D.depth, D.depths, pyEq, pyEqs, getIx, setIx, ixn, augOp, tyAny, tyB, truth, meth, recv, recvL, recvS, isLst, appendW, reverseW, popW, extendW, start, take, setAll, mulOk, ibeq, SZv, log2_nat, e1, e2, e3, hz, h1, h2])
    · refine fin (u := x - 20) (v := y - 20) ?_ (ab_le (by omega)) (ab_le (by omega)) ?_
      · have n1 := ab_nn (x - 20)
        have n2 := ab_nn (y - 20)
        by_cases h1 : x - 20 = 0
        · have := ab_pos (x := y - 20) (by omega)
          omega
        · have := ab_pos h1
          omega
      · by_cases h1 : x - 20 = 0
        · have h2 : ¬ (y - 20 = 0) := by omega
          simp [f14, exec, ev, evT, evs, evo, evC, evI, M.bind, M.ask, M.pure, M.opt, M.fail, onE, binOp, addW, subW, mulW, fdivW, modW, powW, cmpOp, eqW, gtW, ltW, leW, geW, ltD, isNonW, bifn, lenW, absW, intW, max2W, min2W, tupleW, listW, allD, allI, eqOk, D.depth, D.depths, pyEq, pyEqs, getIx, setIx, ixn, augOp, tyAny, tyB, truth, meth, recv, recvL, recvS, isLst, appendW, reverseW, popW, extendW, start, take, setAll, mulOk, ibeq, SZv, log2_nat, e1, e2, e3, hz, h1, h2]
        · simp [f14, exec, ev, evT, evs, evo, evC, evI, M.bind, M.ask, M.pure, M.opt, M.fail, onE, binOp, addW, subW, mulW, fdivW, modW, powW, cmpOp, eqW, gtW, ltW, leW, geW, ltD, isNonW, bifn, lenW, absW, intW, max2W, min2W, tupleW, listW, allD, allI, eqOk, D.depth, D.depths, pyEq, pyEqs, getIx, setIx, ixn, augOp, tyAny, tyB, truth, meth, recv, recvL, recvS, isLst, appendW, reverseW, popW, extendW, start, take, setAll, mulOk, ibeq, SZv, log2_nat, e1, e2, e3, hz, eq_false h1]
end
end LW

namespace LW
open DI
section
variable {k : Nat} {h : H}
theorem line_bel {n : Nat} {dx dy : Int} : O.below n (.lst (lineL dx dy)) = true := below_lst fun x hx => by
  unfold lineL at hx
  obtain ⟨j, _, rfl⟩ := List.mem_map.mp hx
  exact ⟨_, rfl⟩
theorem rev_bel {n : Nat} {dx dy : Int} {d : D} : O.below n (.lst ((lineL dx dy).reverse ++ [W.d d])) = true := below_lst fun x hx => by
  rcases List.mem_append.mp hx with hx | hx
  · unfold lineL at hx
    obtain ⟨j, _, rfl⟩ := List.mem_map.mp (List.mem_reverse.mp hx)
    exact ⟨_, rfl⟩
  · exact ⟨_, List.mem_singleton.mp hx⟩
theorem t1_ok {x y : Int} {ns : List Int} {z3 : Option W} (hw : wf h) (hm : 0 < ab x + ab y) (hz : ab x + ab y ≤ 1000) :
    exec PP.xs (call PP (k + 3)) b15_1 [some (.ro ns), some (.r 2), some (strk sLine x y), z3, none, none] h = some (.ok (.nx [some (.ro ns), some (.r 2), some (strk sLine x y), some (.r h.length), none, none]) (h ++ [.lst ((lineL x y).reverse ++ [W.d (D.tup [D.int 0, D.int 0])])])) := by
  have c1 := unit_line (k := k) (dx := x) (dy := y) hw (by omega)
  have hw2 : wf (h ++ [.lst (lineL x y)]) := wf_push hw line_bel
  have c2 := right2_ok (k := k + 1) (dx := x) (dy := y) (p := h.length) hw2 (hget0 rfl) hz hm
  have g0 : ∀ t : H, (h ++ t)[h.length]? = t[0]? := fun t => hget0 rfl
  have s0 : ∀ (t : H) (o : O), (h ++ t).set h.length o = h ++ t.set 0 o := fun t o => hset0 rfl
  have hl : (lineL x y).length < 16777216 := by rw [line_len]; omega
  simp [b15_1, exec, ev, evT, evs, evo, evC, evI, M.bind, M.ask, M.pure, M.opt, M.fail, onE, binOp, addW, subW, mulW, fdivW, modW, powW, cmpOp, eqW, gtW, ltW, leW, geW, ltD, isNonW, bifn, lenW, absW, intW, max2W, min2W, tupleW, listW, allD, allI, eqOk, D.depth, D.depths, pyEq, pyEqs, getIx, setIx, ixn, augOp, tyAny, tyB, truth, meth, recv, recvL, recvS, isLst, appendW, reverseW, popW, extendW, start, take, setAll, mulOk, ibeq, SZv, log2_nat, c1, c2, g0, s0, hl]
theorem t2_ok {x y : Int} {ns : List Int} {z3 : Option W} (hw : wf h) (hm : 0 < ab x + ab y) (hz : ab x + ab y ≤ 1000) :
    exec PP.xs (call PP (k + 3)) b15_2 [some (.ro ns), some (.r 2), some (strk sLine x y), z3, none, none] h = some (.ok (.nx [some (.ro ns), some (.r 2), some (strk sLine x y), z3, none, none]) (h ++ [.lst (lineL x y)])) := by
  have c1 := unit_line (k := k) (dx := x) (dy := y) hw (by omega)
  have hw2 : wf (h ++ [.lst (lineL x y)]) := wf_push hw line_bel
  have c2 := right2_ok (k := k + 1) (dx := x) (dy := y) (p := h.length) hw2 (hget0 rfl) hz hm
  simp [b15_2, exec, ev, evT, evs, evo, evC, evI, M.bind, M.ask, M.pure, M.opt, M.fail, onE, binOp, addW, subW, mulW, fdivW, modW, powW, cmpOp, eqW, gtW, ltW, leW, geW, ltD, isNonW, bifn, lenW, absW, intW, max2W, min2W, tupleW, listW, allD, allI, eqOk, D.depth, D.depths, pyEq, pyEqs, getIx, setIx, ixn, augOp, tyAny, tyB, truth, meth, recv, recvL, recvS, isLst, appendW, reverseW, popW, extendW, start, take, setAll, mulOk, ibeq, SZv, log2_nat, c1, c2]
def stOf : W → W
  | .d (.tup [.int x, .int y]) => strk sLine x y
  | w => w
theorem part2_ok {ns : List Int} : callF PP (k + 5) 15 [.ro ns] [] = some (.ok (.d (.bl true)) []) := by
  obtain ⟨xs0, p0, e0⟩ := pool_ok (P := PP) (k := k + 3) (i := 5) (ns := ns) (at_ := 0) (h := []) rfl wf_nil (by omega)
  obtain ⟨ds, xs1, hd, hl, p1, e1⟩ := pairs_ok (k := k + 2) p0
  have w1 : wf [.lst xs1, .lst (ds.map W.d)] := wf_push (h := [.lst xs1]) (pool0 p1) below_data
  have cm : compL [(1, ds.map W.d)] (.name 5) (wipe [some (.ro ns), none, none, none, none, none] [4, 5]) (fun σ1 => evC (call PP (k + 4)) σ1 .none) (fun σ1 => ev (call PP (k + 4)) σ1 b15_0) 2 ((ds.map W.d).map Item.one) ([.lst xs1, .lst (ds.map W.d)] ++ [.lst []]) =
      some (.ok () ([.lst xs1, .lst (ds.map W.d)] ++ [.lst ((ds.map W.d).map stOf)])) := by
    refine comp_map rfl (fun acc => by simp [still]) (by simp; omega) fun w hw acc ha => ?_
    obtain ⟨d, hdm, rfl⟩ := List.mem_map.mp hw
    obtain ⟨x, y, rfl, _, _⟩ := hd d hdm
    exact ⟨_, rfl, by simp [exec, ev, evT, evs, evo, evC, evI, M.bind, M.ask, M.pure, M.opt, M.fail, onE, binOp, addW, subW, mulW, fdivW, modW, powW, cmpOp, eqW, gtW, ltW, leW, geW, ltD, isNonW, bifn, lenW, absW, intW, max2W, min2W, tupleW, listW, allD, allI, eqOk, D.depth, D.depths, pyEq, pyEqs, getIx, setIx, ixn, augOp, tyAny, tyB, truth, meth, recv, recvL, recvS, isLst, appendW, reverseW, popW, extendW, start, take, setAll, mulOk, ibeq, SZv, log2_nat], by simp [b15_0, exec, ev, evT, evs, evo, evC, evI, M.bind, M.ask, M.pure, M.opt, M.fail, onE, binOp, addW, subW, mulW, fdivW, modW, powW, cmpOp, eqW, gtW, ltW, leW, geW, ltD, isNonW, bifn, lenW, absW, intW, max2W, min2W, tupleW, listW, allD, allI, eqOk, D.depth, D.depths, pyEq, pyEqs, getIx, setIx, ixn, augOp, tyAny, tyB, truth, meth, recv, recvL, recvS, isLst, appendW, reverseW, popW, extendW, start, take, setAll, mulOk, ibeq, SZv, log2_nat, wipe, stOf, strk, sLine]⟩
  have w2 : wf [.lst xs1, .lst (ds.map W.d), .lst ((ds.map W.d).map stOf)] := wf_push (h := [.lst xs1, .lst (ds.map W.d)]) w1 (below_lst fun w hw => by
    rw [List.map_map] at hw
    obtain ⟨d, hdm, rfl⟩ := List.mem_map.mp hw
    obtain ⟨x, y, rfl, _, _⟩ := hd d hdm
    exact ⟨_, rfl⟩)
  have item : ∀ {i : Nat} {x : Item}, ((((ds.map W.d).map stOf).map Item.one)[i]? = some x) → ∃ a b : Int, x = .one (strk sLine a b) ∧ 0 < ab a + ab b ∧ ab a + ab b ≤ 1000 := fun {i x} e => by
    obtain ⟨w, hw, rfl⟩ := List.mem_map.mp (List.mem_of_getElem? e)
    rw [List.map_map] at hw
    obtain ⟨d, hdm, rfl⟩ := List.mem_map.mp hw
    obtain ⟨a, b, rfl, h1, h2⟩ := hd d hdm
    exact ⟨a, b, rfl, h1, h2⟩
  obtain ⟨σ1, h1, f1, i1, g1, z2, z3, q1⟩ := for_go (gs := [(2, (ds.map W.d).map stOf)]) (tg := .name 2) (b := fun σ h => exec PP.xs (call PP (k + 4)) b15_1 σ h) (((ds.map W.d).map stOf).map Item.one)
    (fun i σ h' => wf h' ∧ h'[2]? = some (.lst ((ds.map W.d).map stOf)) ∧ ∃ z2 z3, σ = [some (.ro ns), some (.r 2), z2, z3, none, none])
    (fun i x σ h' e ⟨hw, g, z2, z3, e2⟩ => by
      obtain ⟨a, b, rfl, ha, hb⟩ := item e
      subst e2
      have l2 : 2 < h'.length := (List.getElem?_eq_some_iff.mp g).1
      exact ⟨by simp [still, g], _, rfl, _, _, .inl (t1_ok (k := k + 1) hw ha hb), wf_push hw rev_bel, by rw [hold l2]; exact g, _, _, rfl⟩)
    (fun σ h' ⟨_, g, _⟩ => by simp [still, g]) [some (.ro ns), some (.r 2), none, none, none, none] _ ⟨w2, rfl, _, _, rfl⟩
  subst q1
  obtain ⟨σ2, h2, f2, i2, g2, y2, y3, q2⟩ := for_go (gs := [(2, (ds.map W.d).map stOf)]) (tg := .name 2) (b := fun σ h => exec PP.xs (call PP (k + 4)) b15_2 σ h) (((ds.map W.d).map stOf).map Item.one)
    (fun i σ h' => wf h' ∧ h'[2]? = some (.lst ((ds.map W.d).map stOf)) ∧ ∃ z2 z3, σ = [some (.ro ns), some (.r 2), z2, z3, none, none])
    (fun i x σ h' e ⟨hw, g, z2, z3, e2⟩ => by
      obtain ⟨a, b, rfl, ha, hb⟩ := item e
      subst e2
      have l2 : 2 < h'.length := (List.getElem?_eq_some_iff.mp g).1
      exact ⟨by simp [still, g], _, rfl, _, _, .inl (t2_ok (k := k + 1) hw ha hb), wf_push hw line_bel, by rw [hold l2]; exact g, _, _, rfl⟩)
    (fun σ h' ⟨_, g, _⟩ => by simp [still, g]) _ _ ⟨i1, g1, z2, z3, rfl⟩
  have ex : exec PP.xs (call PP (k + 4)) f15.body (start f15.n [.ro ns]) [] = some (.ok (.rt (.d (.bl true))) h2) := by
    simp at e0
    simp only [evC, List.map_map, List.cons_append, List.nil_append] at cm
    simp only [List.map_map] at f1 f2 g1
    simp [f15, exec, ev, evT, evs, evo, evC, evI, M.bind, M.ask, M.pure, M.opt, M.fail, onE, binOp, addW, subW, mulW, fdivW, modW, powW, cmpOp, eqW, gtW, ltW, leW, geW, ltD, isNonW, bifn, lenW, absW, intW, max2W, min2W, tupleW, listW, allD, allI, eqOk, D.depth, D.depths, pyEq, pyEqs, getIx, setIx, ixn, augOp, tyAny, tyB, truth, meth, recv, recvL, recvS, isLst, appendW, reverseW, popW, extendW, start, take, setAll, mulOk, ibeq, SZv, log2_nat, e0, e1, seqWalk, cm, f1, g1, f2]
  rw [call_rt (fn := f15) rfl rfl ex, show (([] : H).length) = 0 from rfl, gc_zero]
end
def kk : Nat := 8
theorem law_ok : LawE ⟨fs, XS⟩ kk 16 := fun ns _ => by
  have e1 := part1_ok (k := 2) (ns := ns)
  have e2 := part2_ok (k := 2) (ns := ns)
  have ex : exec PP.xs (call PP 7) f16.body (start f16.n [.ro ns]) [] = some (.ok (.rt (.d (.bl true))) []) := by
    simp [f16, exec, ev, evT, evs, evo, evC, evI, M.bind, M.ask, M.pure, M.opt, M.fail, onE, binOp, addW, subW, mulW, fdivW, modW, powW, cmpOp, eqW, gtW, ltW, leW, geW, ltD, isNonW, bifn, lenW, absW, intW, max2W, min2W, tupleW, listW, allD, allI, eqOk, D.depth, D.depths, pyEq, pyEqs, getIx, setIx, ixn, augOp, tyAny, tyB, truth, meth, recv, recvL, recvS, isLst, appendW, reverseW, popW, extendW, start, take, setAll, mulOk, ibeq, SZv, log2_nat, e1, e2]
  exact ⟨_, call_rt (fn := f16) rfl rfl ex⟩
end LW

namespace LW
open PySem DI
theorem top_mk {K : PySem.W.Frag} (a0 : DefAt K d0.x d0.st) (a1 : DefAt K d1.x d1.st) (a2 : DefAt K d2.x d2.st) (a3 : DefAt K d3.x d3.st) (a4 : DefAt K d4.x d4.st) (a5 : DefAt K d5.x d5.st) (a6 : DefAt K d6.x d6.st) (a7 : DefAt K d7.x d7.st) (a8 : DefAt K d8.x d8.st) (a9 : DefAt K d9.x d9.st) (a10 : DefAt K d10.x d10.st) (a11 : DefAt K d11.x d11.st) (a12 : DefAt K d12.x d12.st) (a13 : DefAt K d13.x d13.st) (a14 : DefAt K d14.x d14.st) (a15 : DefAt K d15.x d15.st) (a16 : DefAt K d16.x d16.st) (z0 : PySem.W.nsIn K mainGlobals "abs" = some none) (z1 : PySem.W.nsIn K mainGlobals "range" = some none) (z6 : PySem.W.nsIn K mainGlobals "len" = some none) (z7 : PySem.W.nsIn K mainGlobals "int" = some none) (z8 : PySem.W.nsIn K mainGlobals "isinstance" = some none) (z9 : PySem.W.nsIn K mainGlobals "tuple" = some none) (z10 : PySem.W.nsIn K mainGlobals "bool" = some none) (z12 : PySem.W.nsIn K mainGlobals "list" = some none) : TopAt K ds xs G Hd := by
  refine ⟨⟨a0, a1, a2, a3, a4, a5, a6, a7, a8, a9, a10, a11, a12, a13, a14, a15, a16, trivial⟩, ⟨z0, z1, rfl, rfl, rfl, rfl, z6, z7, z8, z9, z10, rfl, z12, rfl, rfl, rfl, rfl, rfl, rfl, rfl, rfl, rfl, rfl, rfl, trivial⟩, trivial⟩
end LW

open PySem PySem.W PyProof.Rows
set_option maxRecDepth 100000 in
set_option maxHeartbeats 0 in
theorem PySem.Challenge.cw_pagestyles_k26_whole_steps_of_strokes_holds : PySem.Challenge.rw_pagestyles_k26_whole_steps_of_strokes.Holds := by
  w_on; o_law; k_head; (case hw => w_witness2)
  k_fill
  refine DI.walk (l := PySem.Challenge.rw_pagestyles_k26_whole_steps_of_strokes) (ds := LW.ds) (xs := LW.xs) (G := LW.G) (Hd := LW.Hd) (fs := LW.fs) (XS := LW.XS) (k := LW.kk) (i := 16) (dl := LW.d16) rfl rfl ⟨rfl, by decide, by decide⟩ LW.oks LW.bds rfl rfl rfl LW.law_ok (fun w h Y => PySem.W.kIn_of Y) ?T
  case T =>
    intro w
    refine' LW.top_mk ?a0 ?a1 ?a2 ?a3 ?a4 ?a5 ?a6 ?a7 ?a8 ?a9 ?a10 ?a11 ?a12 ?a13 ?a14 ?a15 ?a16 ?z0 ?z1 ?z6 ?z7 ?z8 ?z9 ?z10 ?z12
    (case a0 => refine' DI.at_mk (x := "sign") (st := LW.top 1) ?a ?l ?c ?k; (case a => k_is); (case l => k_is); (case c => k_is); (case k => k_is))
    (case a1 => refine' DI.at_mk (x := "line_steps") (st := LW.top 2) ?a ?l ?c ?k; (case a => k_is); (case l => k_is); (case c => k_is); (case k => k_is))
    (case a2 => refine' DI.at_mk (x := "takes_first_move") (st := LW.top 3) ?a ?l ?c ?k; (case a => k_is); (case l => k_is); (case c => k_is); (case k => k_is))
    (case a3 => refine' DI.at_mk (x := "arc_steps") (st := LW.top 4) ?a ?l ?c ?k; (case a => k_is); (case l => k_is); (case c => k_is); (case k => k_is))
    (case a4 => refine' DI.at_mk (x := "unit_steps") (st := LW.top 5) ?a ?l ?c ?k; (case a => k_is); (case l => k_is); (case c => k_is); (case k => k_is))
    (case a5 => refine' DI.at_mk (x := "_law_pool") (st := LW.top 7) ?a ?l ?c ?k; (case a => k_is); (case l => k_is); (case c => k_is); (case k => k_is))
    (case a6 => refine' DI.at_mk (x := "_law_take") (st := LW.top 8) ?a ?l ?c ?k; (case a => k_is); (case l => k_is); (case c => k_is); (case k => k_is))
    (case a7 => refine' DI.at_mk (x := "_law_step") (st := LW.top 9) ?a ?l ?c ?k; (case a => k_is); (case l => k_is); (case c => k_is); (case k => k_is))
    (case a8 => refine' DI.at_mk (x := "_law_moves") (st := LW.top 10) ?a ?l ?c ?k; (case a => k_is); (case l => k_is); (case c => k_is); (case k => k_is))
    (case a9 => refine' DI.at_mk (x := "_law_right") (st := LW.top 11) ?a ?l ?c ?k; (case a => k_is); (case l => k_is); (case c => k_is); (case k => k_is))
    (case a10 => refine' DI.at_mk (x := "_law_image") (st := LW.top 12) ?a ?l ?c ?k; (case a => k_is); (case l => k_is); (case c => k_is); (case k => k_is))
    (case a11 => refine' DI.at_mk (x := "_law_part_one") (st := LW.top 13) ?a ?l ?c ?k; (case a => k_is); (case l => k_is); (case c => k_is); (case k => k_is))
    (case a12 => refine' DI.at_mk (x := "_law_sign") (st := LW.top 14) ?a ?l ?c ?k; (case a => k_is); (case l => k_is); (case c => k_is); (case k => k_is))
    (case a13 => refine' DI.at_mk (x := "_law_right_two") (st := LW.top 15) ?a ?l ?c ?k; (case a => k_is); (case l => k_is); (case c => k_is); (case k => k_is))
    (case a14 => refine' DI.at_mk (x := "_law_pairs") (st := LW.top 16) ?a ?l ?c ?k; (case a => k_is); (case l => k_is); (case c => k_is); (case k => k_is))
    (case a15 => refine' DI.at_mk (x := "_law_part_two") (st := LW.top 17) ?a ?l ?c ?k; (case a => k_is); (case l => k_is); (case c => k_is); (case k => k_is))
    (case a16 => refine' DI.at_mk (x := "law") (st := LW.top 18) ?a ?l ?c ?k; (case a => k_is); (case l => k_is); (case c => k_is); (case k => k_is))
    (case z0 => k_is)
    (case z1 => k_is)
    (case z6 => k_is)
    (case z7 => k_is)
    (case z8 => k_is)
    (case z9 => k_is)
    (case z10 => k_is)
    (case z12 => k_is)
