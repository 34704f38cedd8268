import PyProof.Rows.All
import Wide.All
import OpenK.AllK
import Wide.FinOn
import PySem.Challenge.RW_textshards_k44_ranks_of_bits
import HandS.ForMost
import HandS.ForExc
import HandS.Lambda
import HandS.IsInst
import HandS.TupAny
import HandS.TupMul
import PyProof.NeKinds
import KE.SortData
import KE.DataMinMax
import HandS.Style
import KE.KSortAsk
import HandS.SortInts
import KE.KSortKey
import HandS.Conv
import KE.KTupSum
import KE.KSortedM
import HandS.ExcOwn
import HandS.Call
import HandS.Dict
import HandS.More
import HandS.WordsDict
import HandS.Rev
import HandS.TryOnly
import HandS.ExcIs
import HandS.WordsExc
import HandS.EndTab
import HandS.Iter
set_option Elab.async false
set_option linter.all false
set_option maxRecDepth 100000
/-! data, a small language of its own, and what it means: plain Lean, no machine in sight -/
namespace Mi

inductive D where
  | non | bl (b : Bool) | int (i : Int) | str (s : List Nat)
  | tup (xs : List D) | fls (xs : List D) | rng (lo : Int) (n : Nat)
  | lst (xs : List D) | dct (kvs : List (D × D)) | fdc (kvs : List (D × D))
  | rdn (lo : Int) (n : Nat)
  | obj (c : List Nat) (fs : List (List Nat × D))
  deriving Inhabited

abbrev D.nat (n : Nat) : D := .int (n : Int)
/-- is not a container that may change -/
def D.flat : D → Bool
  | .lst _ => false
  | .dct _ => false
  | _ => true
def SZ : Nat := 16777216
abbrev Env := List (Option D)

/-- data that == looks at, at most n deep -/
def D.okD : Nat → D → Bool
  | _, .non => true
  | _, .bl _ => true
  | _, .int _ => true
  | _, .str _ => true
  | n + 1, .tup xs => xs.all (D.okD n)
  | n + 1, .lst xs => xs.all (D.okD n)
  | n + 1, .fls xs => xs.all (D.okD n)
  | _, _ => false
mutual
/-- == of Python -/
def D.peq : D → D → Bool
  | .non, .non => true
  | .bl a, .bl b => a == b
  | .bl a, .int j => (if a then (1 : Int) else 0) == j
  | .int i, .bl b => i == (if b then (1 : Int) else 0)
  | .int i, .int j => i == j
  | .str x, .str y => x == y
  | .tup xs, .tup ys => D.peqs xs ys
  | .lst xs, .lst ys => D.peqs xs ys
  | .lst xs, .fls ys => D.peqs xs ys
  | .fls xs, .lst ys => D.peqs xs ys
  | .fls xs, .fls ys => D.peqs xs ys
  | _, _ => false
def D.peqs : List D → List D → Bool
  | [], [] => true
  | x :: xs, y :: ys => D.peq x y && D.peqs xs ys
  | _, _ => false
end

/-! order of data -/
mutual
/-- data as a row of signs -/
def D.tks : D → List (Int ⊕ List Nat)
  | .non => []
  | .bl b => [.inl (if b = true then 1 else 0)]
  | .int n => [.inl n]
  | .str x => [.inr x]
  | .tup xs => D.tkss xs
  | .lst xs => D.tkss xs
  | .fls xs => D.tkss xs
  | _ => []
def D.tkss : List D → List (Int ⊕ List Nat)
  | [] => [.inl 0]
  | x :: xs => .inl 1 :: (D.tks x ++ D.tkss xs)
end
def tkLt : Int ⊕ List Nat → Int ⊕ List Nat → Bool
  | .inl a, .inl b => decide (a < b)
  | .inl _, .inr _ => true
  | .inr _, .inl _ => false
  | .inr a, .inr b => decide (a < b)
def tksLt : List (Int ⊕ List Nat) → List (Int ⊕ List Nat) → Bool
  | [], [] => false
  | [], _ :: _ => true
  | _ :: _, [] => false
  | x :: r, y :: t => tkLt x y || (!tkLt y x && tksLt r t)
/-- < of Python, where it is asked -/
def D.lt (a b : D) : Bool := tksLt a.tks b.tks
mutual
/-- whole numbers, texts, tuples of such, place by place of one kind -/
def D.alk : D → D → Bool
  | .int _, .int _ => true
  | .str _, .str _ => true
  | .tup xs, .tup ys => D.alks xs ys
  | _, _ => false
def D.alks : List D → List D → Bool
  | x :: xs, y :: ys => D.alk x y && D.alks xs ys
  | [], _ => true
  | _ :: _, [] => true
end
/-- all can be compared with each other -/
def ordAll (xs : List D) : Bool := xs.all (D.okD 20) && xs.all fun x => xs.all fun y => D.alk x y
def D.tup0 : D → Bool
  | .tup [] => true
  | _ => false
/-- the items of a list or a tuple -/
def D.seq? : D → Option (List D)
  | .tup xs => some xs
  | .lst xs => some xs
  | .fls xs => some xs
  | _ => none
/-- what a for walks -/
def D.items? : D → Option (List D)
  | .tup xs => some xs
  | .lst xs => some xs
  | .fls xs => some xs
  | .str s => some (s.map fun c => .str [c])
  | .rng lo n => some ((List.range n).map fun k => .int (lo + (k : Nat)))
  | .rdn lo n => some ((List.range n).map fun k => .int (lo - (k : Nat)))
  | _ => none

/-- Python's index -/
def ixN (n : Nat) (i : Int) : Option Nat := if 0 ≤ i then (if i < n then some i.toNat else none) else if -(n : Int) ≤ i then some (i + n).toNat else none
def atI {α : Type} (xs : List α) (i : Int) : Option α := (ixN xs.length i).bind fun j => xs[j]?
/-- a slice's bound -/
def sIx (n d : Nat) : Option Int → Nat
  | none => d
  | some i => if i < 0 then (i + n).toNat else min i.toNat n
def cutL {α : Type} (xs : List α) (lo hi : Option Int) : List α := (xs.drop (sIx xs.length 0 lo)).take (sIx xs.length xs.length hi - sIx xs.length 0 lo)
def lexN (x y : List Nat) : Bool := decide (x < y)
/-- the one list stands in the other -/
def hasSub (y x : List Nat) : Bool := (List.range (y.length + 1 - x.length)).any fun p => (y.drop p).take x.length == x

inductive Bop | add | sub | mul | fdiv | mod | pow
  deriving DecidableEq
inductive Cop | eq | ne | lt | le | gt | ge | isin | notin | is_ | isnot
  deriving DecidableEq
inductive Prim | len | tuple | list | sorted | sum | min | max | abs | int | any | all | isTuple | isInt | isBool | isStr | isList | range | reversed | str | ord | gcd | factorial | rev | rangeV
  deriving DecidableEq
inductive Meth | join | count | index | endswith | startswith | split | find | get | pop
  deriving DecidableEq
/-- questions to a dict -/
inductive Dq | get | gtd | isin | notin
  deriving DecidableEq
inductive Op
  | bin (o : Bop) | cmp (o : Cop) | neg | tup | lst | idx | prim (p : Prim)
  | dnew | dlen | dsrt | srtK
  deriving DecidableEq

inductive RF where
  | ok (d : D) (ds : List D) | exc (c : Nat) (ds : List D) | stk
abbrev Fn := List D → RF

/-- a pattern: a name's slot, or slots of a tuple -/
inductive Pat | nm (i : Nat) | tp (is : List Nat)

mutual
inductive E where
  | var (i : Nat) | int (n : Int) | bl (b : Bool) | non | str (s : List Nat) | glob (j : Nat)
  | op (o : Op) (es : Es) | slc (a : E) (lo hi : Es) | mth (m : Meth) (a : E) (bs : Es) | lmt (m : Meth) (i : Nat) (e : E) | dop (q : Dq) (i : Nat) (k v : E)
  | not (a : E) | and (a b : E) | or (a b : E) | ite (c a b : E)
  | chain (o1 o2 : Cop) (a b c : E)
  | call (j : Nat) (es : Es)
  | comp (p : Pat) (it : Es) (cs : Es) (elt : E)
  | fz (i : Nat) | frz (e : E)
  | fld (a : E) (f : List Nat) | mcl (j : Nat) (c m : List Nat) (a : E) (es : Es) | oln (j : Nat) (c : List Nat) (a : E)
inductive Es where
  | nil | cons (e : E) (es : Es)
end
mutual
inductive S where
  | asg (p : Pat) (e : E) | mov (i j : Nat) | app (i : Nat) (e : E) | seti (i : Nat) (ix e : E) | setk (i : Nat) (k e : E)
  | ite (c : E) (a b : Ss) | whl (n : Env → Nat) (c : E) (body : Ss) (kill : List Nat)
  | for_ (p : Pat) (it : Es) (body : Ss) (kill : List Nat)
  | ret (e : E) | retV (i : Nat) | retN | brk | cnt | pass | ex (e : E) | rais (c : Nat)
  | try_ (m : Nat) (body : Ss) (c : Nat) (h : E)
  | tryC (m : Nat) (body : Ss) (c i x : Nat) (outs : List D)
inductive Ss where
  | nil | cons (s : S) (ss : Ss)
end
def E.isVar : E → Bool
  | .var _ => true
  | _ => false

/-! ### operations on data -/
def addD : D → D → Option D
  | .int i, .int j => some (.int (i + j))
  | .str x, .str y => if x.length + y.length ≤ SZ then some (.str (x ++ y)) else none
  | .tup xs, .tup ys => if xs.length + ys.length ≤ SZ then some (.tup (xs ++ ys)) else none
  | .lst xs, .lst ys => if xs.length + ys.length ≤ SZ then some (.lst (xs ++ ys)) else none
  | .lst xs, .fls ys => if xs.length + ys.length ≤ SZ then some (.lst (xs ++ ys)) else none
  | .fls xs, .lst ys => if xs.length + ys.length ≤ SZ then some (.lst (xs ++ ys)) else none
  | .fls xs, .fls ys => if xs.length + ys.length ≤ SZ then some (.lst (xs ++ ys)) else none
  | _, _ => none
def small64 (i : Int) : Bool := decide (-(2 ^ 64) < i ∧ i < 2 ^ 64)
def mulD : D → D → Option D
  | .int i, .int j => if small64 i || small64 j then some (.int (i * j)) else none
  | .str x, .int j => if -1000000 ≤ j ∧ j ≤ 1000000 ∧ x.length * j.toNat ≤ SZ then some (.str (List.replicate j.toNat x).flatten) else none
  | .lst x, .int j => if -1000000 ≤ j ∧ j ≤ 1000000 ∧ x.length * j.toNat ≤ SZ then some (.lst (List.replicate j.toNat x).flatten) else none
  | .tup x, .int j => if 0 < x.length ∧ 2 ≤ j ∧ j ≤ 1000 ∧ x.length ≤ 1000 then some (.tup (List.replicate j.toNat x).flatten) else none
  | _, _ => none
def binD : Bop → D → D → Option D
  | .add, a, b => addD a b
  | .sub, .int i, .int j => some (.int (i - j))
  | .mul, a, b => mulD a b
  | .fdiv, .int i, .int j => if j ≠ 0 ∧ j.natAbs < 1073741824 then some (.int (i.fdiv j)) else none
  | .mod, .int i, .int j => if j ≠ 0 then some (.int (i.fmod j)) else none
  | .pow, .int i, .int j => if 0 ≤ j ∧ j ≤ 1000 ∧ small64 i = true then some (.int (i ^ j.toNat)) else none
  | _, _, _ => none
def ltD (s : Int → Int → Bool) (t : List Nat → List Nat → Bool) (u : D → D → Bool) : D → D → Option D
  | .int i, .int j => some (.bl (s i j))
  | .str x, .str y => some (.bl (t x y))
  | .tup xs, .tup ys => if D.alks xs ys && (D.tup xs).okD 20 && (D.tup ys).okD 20 then some (.bl (u (.tup xs) (.tup ys))) else none
  | _, _ => none
def inD : D → D → Option Bool
  | .str x, .str y => some (hasSub y x)
  | a, .tup xs => if a.okD 20 && xs.all (D.okD 20) then some (xs.any fun y => D.peq y a) else none
  | a, .lst xs => if a.okD 20 && xs.all (D.okD 20) then some (xs.any fun y => D.peq y a) else none
  | a, .fls xs => if a.okD 20 && xs.all (D.okD 20) then some (xs.any fun y => D.peq y a) else none
  | _, _ => none
def isNon : D → Bool
  | .non => true
  | _ => false
def cmpD : Cop → D → D → Option D
  | .eq, a, b => if a.okD 20 && b.okD 20 then some (.bl (D.peq a b)) else none
  | .ne, a, b => if a.okD 20 && b.okD 20 then some (.bl (!D.peq a b)) else none
  | .lt, a, b => ltD (fun i j => decide (i < j)) lexN (fun x y => D.lt x y) a b
  | .le, a, b => ltD (fun i j => decide (i ≤ j)) (fun x y => !lexN y x) (fun x y => !D.lt y x) a b
  | .gt, a, b => ltD (fun i j => decide (j < i)) (fun x y => lexN y x) (fun x y => D.lt y x) a b
  | .ge, a, b => ltD (fun i j => decide (j ≤ i)) (fun x y => !lexN x y) (fun x y => !D.lt x y) a b
  | .isin, a, b => (inD a b).map .bl
  | .notin, a, b => (inD a b).map fun k => .bl (!k)
  | .is_, a, .non => some (.bl (isNon a))
  | .isnot, a, .non => some (.bl (!isNon a))
  | .is_, .bl a, .bl b => some (.bl (decide (a = b)))
  | .isnot, .bl a, .bl b => some (.bl (!decide (a = b)))
  | _, _, _ => none
def idxD : D → D → Option D
  | .str s, .int i => if s.length ≤ SZ then (atI s i).map fun c => .str [c] else none
  | .tup xs, .int i => atI xs i
  | .lst xs, .int i => atI xs i
  | .fls xs, .int i => atI xs i
  | _, _ => none
def slcD (lo hi : Option Int) : D → Option D
  | .str s => if s.length ≤ SZ then some (.str (cutL s lo hi)) else none
  | .tup xs => some (.tup (cutL xs lo hi))
  | .lst xs => some (.lst (cutL xs lo hi))
  | .fls xs => some (.lst (cutL xs lo hi))
  | _ => none
def ints? : List D → Option (List Int)
  | [] => some []
  | .int i :: r => match ints? r with
    | some ns => some (i :: ns)
    | none => none
  | _ :: _ => none
def strs? : List D → Option (List (List Nat))
  | [] => some []
  | .str i :: r => match strs? r with
    | some ns => some (i :: ns)
    | none => none
  | _ :: _ => none
def bls? : List D → Option (List Bool)
  | [] => some []
  | .bl i :: r => match bls? r with
    | some ns => some (i :: ns)
    | none => none
  | _ :: _ => none
@[simp] theorem ints?_map : ∀ ns : List Int, ints? (ns.map D.int) = some ns
  | [] => rfl
  | n :: ns => by simp [ints?, ints?_map ns]
@[simp] theorem strs?_map : ∀ ns : List (List Nat), strs? (ns.map D.str) = some ns
  | [] => rfl
  | n :: ns => by simp [strs?, strs?_map ns]
@[simp] theorem bls?_map : ∀ ns : List Bool, bls? (ns.map D.bl) = some ns
  | [] => rfl
  | n :: ns => by simp [bls?, bls?_map ns]
/-- insertion into a sorted list -/
def insS (x : List Nat) : List (List Nat) → List (List Nat)
  | [] => [x]
  | y :: ys => if lexN x y then x :: y :: ys else y :: insS x ys
def insI (x : Int) : List Int → List Int
  | [] => [x]
  | y :: ys => if x < y then x :: y :: ys else y :: insI x ys
def sortS (xs : List (List Nat)) : List (List Nat) := xs.foldr insS []
def sortI (xs : List Int) : List Int := xs.foldr insI []
def sortG (xs : List D) : List D := xs.mergeSort fun a b => !D.lt b a
def sortedD (xs : List D) : Option D :=
    match ints? xs with
    | some ns => some (.lst ((sortI ns).map .int))
    | none => match strs? xs with
      | some ss => some (.lst ((sortS ss).map .str))
      | none => if ordAll xs && xs.all (fun x => !x.tup0) then some (.lst (sortG xs)) else none
def maxL : List Int → Option Int
  | [] => none
  | x :: xs => some (xs.foldl (fun a b => if a < b then b else a) x)
def minL : List Int → Option Int
  | [] => none
  | x :: xs => some (xs.foldl (fun a b => if b < a then b else a) x)
def minG : List D → Option D
  | [] => none
  | x :: xs => if ordAll (x :: xs) then some (xs.foldl (fun a y => if D.lt y a then y else a) x) else none
def maxG : List D → Option D
  | [] => none
  | x :: xs => if ordAll (x :: xs) then some (xs.foldl (fun a y => if D.lt a y then y else a) x) else none
def minM (xs : List D) : Option D := match ints? xs with
  | some ns => (minL ns).map .int
  | none => minG xs
def maxM (xs : List D) : Option D := match ints? xs with
  | some ns => (maxL ns).map .int
  | none => maxG xs
def primD : Prim → List D → Option D
  | .len, [.str s] => if s.length ≤ SZ then some (.int s.length) else none
  | .len, [.tup xs] => some (.int xs.length)
  | .len, [.lst xs] => some (.int xs.length)
  | .len, [.fls xs] => some (.int xs.length)
  | .tuple, [.tup xs] => some (.tup xs)
  | .tuple, [.lst xs] => some (.tup xs)
  | .tuple, [.fls xs] => some (.tup xs)
  | .list, [.tup xs] => some (.lst xs)
  | .list, [.lst xs] => some (.lst xs)
  | .list, [.fls xs] => some (.lst xs)
  | .sorted, [.lst xs] => sortedD xs
  | .sorted, [.fls xs] => sortedD xs
  | .sorted, [.tup xs] => match ints? xs with
    | some ns => some (.lst ((sortI ns).map .int))
    | none => (strs? xs).map fun ss => .lst ((sortS ss).map .str)
  | .sum, [.lst xs] => (ints? xs).map fun ns => .int ns.sum
  | .sum, [.fls xs] => (ints? xs).map fun ns => .int ns.sum
  | .sum, [.tup xs] => (ints? xs).map fun ns => .int ns.sum
  | .min, [.lst xs] => minM xs
  | .max, [.lst xs] => maxM xs
  | .rev, [.lst xs] => some (.lst xs.reverse)
  | .rev, [.fls xs] => some (.lst xs.reverse)
  | .rev, [.tup xs] => some (.tup xs.reverse)
  | .min, [.int m, .int n] => some (.int (if n < m then n else m))
  | .max, [.int m, .int n] => some (.int (if n > m then n else m))
  | .abs, [.int n] => some (.int (if n < 0 then -n else n))
  | .int, [.int n] => some (.int n)
  | .int, [.bl b] => some (.int (if b then 1 else 0))
  | .any, [.lst xs] => (bls? xs).map fun bs => .bl (bs.any id)
  | .all, [.lst xs] => (bls? xs).map fun bs => .bl (bs.all id)
  | .isTuple, [.tup _] => some (.bl true)
  | .isTuple, [d] => match d with
    | .fdc _ => none
    | .dct _ => none
    | .rng _ _ => none
    | .rdn _ _ => none
    | .obj _ _ => none
    | _ => some (.bl false)
  | .isInt, [d] => match d with
    | .int _ => some (.bl true)
    | .bl _ => some (.bl true)
    | .non => some (.bl false)
    | .str _ => some (.bl false)
    | .tup _ => some (.bl false)
    | _ => none
  | .isBool, [d] => match d with
    | .int _ => some (.bl false)
    | .bl _ => some (.bl true)
    | .non => some (.bl false)
    | .str _ => some (.bl false)
    | .tup _ => some (.bl false)
    | _ => none
  | .isStr, [d] => match d with
    | .int _ => some (.bl false)
    | .bl _ => some (.bl false)
    | .non => some (.bl false)
    | .str _ => some (.bl true)
    | .tup _ => some (.bl false)
    | _ => none
  | .range, [.int j] => if -(2 ^ 62) ≤ j ∧ j < 2 ^ 62 then some (.rng 0 j.toNat) else none
  | .range, [.int i, .int j] => if -(2 ^ 62) ≤ i ∧ i < 2 ^ 62 ∧ -(2 ^ 62) ≤ j ∧ j < 2 ^ 62 then some (.rng i (j - i).toNat) else none
  | .reversed, [.str s] => if s.length ≤ SZ then some (.str s.reverse) else none
  | .rangeV, [.int j] => if -(2 ^ 62) ≤ j ∧ j < 2 ^ 62 then some (.rng 0 j.toNat) else none
  | .rangeV, [.int i, .int j] => if -(2 ^ 62) ≤ i ∧ i < 2 ^ 62 ∧ -(2 ^ 62) ≤ j ∧ j < 2 ^ 62 then some (.rng i (j - i).toNat) else none
  | .range, [.int i, .int j, .int k] => if -(2 ^ 62) ≤ i ∧ i < 2 ^ 62 ∧ -(2 ^ 62) ≤ j ∧ j < 2 ^ 62 ∧ k = -1 then some (.rdn i (i - j).toNat) else none
  | _, _ => none
def joinL (s : List Nat) : List (List Nat) → List Nat
  | [] => []
  | [x] => x
  | x :: y :: r => x ++ (s ++ joinL s (y :: r))
/-- text as a method's object -/
def Meth.kind : Meth → D → Bool
  | .join, .str _ => true
  | .endswith, .str _ => true
  | .startswith, .str _ => true
  | .count, .str _ => true
  | _, _ => false
/-- the one text ends with the other -/
def endsW (s t : List Nat) : Bool := decide (t.length ≤ s.length) && s.drop (s.length - t.length) == t
def methD : Meth → List D → Option D
  | .join, [.str s, .lst xs] => (strs? xs).bind fun ys => if (ys.map List.length).sum + ys.length * s.length ≤ SZ then some (.str (joinL s ys)) else none
  | .join, [.str s, .tup xs] => (strs? xs).bind fun ys => if (ys.map List.length).sum + ys.length * s.length ≤ SZ then some (.str (joinL s ys)) else none
  | .endswith, [.str s, .str t] => some (.bl (endsW s t))
  | .count, [.str s, .str [c]] => some (.int ((s.count c : Nat) : Int))
  | _, _ => none
/-- methods of lists that leave them -/
def lmtD : Meth → List D → D → Option D
  | .count, xs, d => if d.okD 20 && xs.all (D.okD 20) then some (.int ((xs.countP fun y => D.peq y d : Nat) : Int)) else none
  | .index, xs, d => if d.okD 20 && xs.all (D.okD 20) then (xs.findIdx? fun y => D.peq y d).map fun j => .int ((j : Nat) : Int) else none
  | _, _, _ => none
def D.list? : D → Option (List D)
  | .lst xs => some xs
  | .fls xs => some xs
  | _ => none
/-! dicts: keys are whole numbers or texts -/
def keyOk : D → Bool
  | .int _ => true
  | .str _ => true
  | _ => false
def keq : D → D → Bool
  | .int i, .int j => decide (i = j)
  | .str s, .str t => decide (s = t)
  | _, _ => false
def dgetD (kvs : List (D × D)) (k : D) : Option D := (kvs.find? fun p => keq p.1 k).map (·.2)
def dputD (kvs : List (D × D)) (k v : D) : List (D × D) :=
  if kvs.any (fun p => keq p.1 k) then kvs.map fun p => if keq p.1 k then (p.1, v) else p else kvs ++ [(k, v)]
def dsrtD (kvs : List (D × D)) : Option D := match strs? (kvs.map (·.1)) with
  | some ss => if ss.length < 65536 then some (.lst ((sortS ss).map .str)) else none
  | none => none
def dopD : Dq → List (D × D) → D → D → Option D
  | .get, kvs, k, _ => dgetD kvs k
  | .gtd, kvs, k, v => some ((dgetD kvs k).getD v)
  | .isin, kvs, k, _ => some (.bl (dgetD kvs k).isSome)
  | .notin, kvs, k, _ => some (.bl (!(dgetD kvs k).isSome))
/-- positions in the order of the rests of a text -/
def insF (k : Nat → List Nat) (x : Nat) : List Nat → List Nat
  | [] => [x]
  | y :: ys => if lexN (k x) (k y) = true then x :: y :: ys else y :: insF k x ys
def sortF (k : Nat → List Nat) (xs : List Nat) : List Nat := xs.foldr (insF k) []
def sufS (s : List Nat) (n : Nat) : List Nat := sortF (fun p => s.drop p) (List.range n)
def opD : Op → List D → Option D
  | .bin o, [a, b] => binD o a b
  | .cmp o, [a, b] => cmpD o a b
  | .neg, [.int i] => some (.int (-i))
  | .tup, ds => if ds.length ≤ SZ ∧ ds.all D.flat = true then some (.tup ds) else none
  | .lst, ds => if ds.length ≤ SZ ∧ ds.all D.flat = true then some (.lst ds) else none
  | .idx, [a, b] => idxD a b
  | .prim p, ds => primD p ds
  | .dnew, [] => some (.dct [])
  | .dlen, [.dct kvs] => some (.int ((kvs.length : Nat) : Int))
  | .dsrt, [.dct kvs] => dsrtD kvs
  | .srtK, [.str s, .rng lo n] => if lo = 0 ∧ n ≤ s.length + 1 ∧ n ≤ 1000 ∧ s.length ≤ 1000 then some (.lst ((sufS s n).map fun k => .int ((k : Nat) : Int))) else none
  | _, _ => none

/-! ### running -/
inductive R (α : Type) where
  | ok (a : α) (ρ : Env) | exc (c : Nat) (ρ : Env) | stk
/-- the slots that are handed over by reference -/
def refs : Es → List D → List Nat
  | .cons (.var i) es, d :: ds => if d.flat then refs es ds else i :: refs es ds
  | .cons _ es, _ :: ds => refs es ds
  | _, _ => []
def wb : Es → List D → List D → Env → Env
  | .cons (.var i) es, d :: ds, d' :: ds', ρ => wb es ds ds' (if d.flat then ρ else ρ.set i (some d'))
  | .cons _ es, _ :: ds, _ :: ds', ρ => wb es ds ds' ρ
  | _, _, _, ρ => ρ
def runF (F : List D → RF) (es : Es) (ds : List D) (ρ : Env) : R D :=
  if (refs es ds).Nodup then
    match F ds with
    | .ok d ds' => .ok d (wb es ds ds' ρ)
    | .exc c ds' => match es with
      | .nil => .stk
      | _ => .exc c (wb es ds ds' ρ)
    | .stk => .stk
  else .stk
def kills (ks : List Nat) (ρ : Env) : Env := ks.foldl (fun ρ i => ρ.set i none) ρ
def setAll : List Nat → List D → Env → Env
  | i :: is, d :: ds, ρ => setAll is ds (ρ.set i (some d))
  | _, _, ρ => ρ
def Pat.slots : Pat → List Nat
  | .nm i => [i]
  | .tp is => is
/-- the target takes a value that is no container -/
def Pat.bind : Pat → D → Env → Option Env
  | .nm i, d, ρ => if d.flat then some (ρ.set i (some d)) else none
  | .tp is, .tup ds, ρ => if ds.length = is.length then some (setAll is ds ρ) else none
  | .tp _, _, _ => none
def compLoop (chk : Env → Prop) [DecidablePred chk] (p : Pat) (c f : Env → R D) : List D → List D → Env → R (List D)
  | [], acc, ρ => if chk ρ then .ok acc ρ else .stk
  | x :: xs, acc, ρ => if chk ρ then
      match p.bind x (kills p.slots ρ) with
      | none => .stk
      | some ρ1 => match c ρ1 with
        | .ok (.bl true) ρ2 => match f ρ2 with
          | .ok d ρ3 => if d.flat = true ∧ acc.length < SZ then compLoop chk p c f xs (acc ++ [d]) (kills p.slots ρ3) else .stk
          | _ => .stk
        | .ok (.bl false) ρ2 => compLoop chk p c f xs acc (kills p.slots ρ2)
        | _ => .stk
    else .stk
open Classical in
/-- does the walked thing still stand -/
noncomputable def still (it : Es) (d : D) (ρ : Env) : Prop := match it with
  | .cons (.var i) _ => ρ[i]? = some (some d)
  | _ => True
noncomputable instance (it : Es) (d : D) : DecidablePred (still it d) := fun _ => Classical.propDecidable _

section
variable (G : List Fn) (C : List D)
mutual
noncomputable def evalE : E → Env → R D
  | .var i, ρ => match ρ[i]? with
    | some (some d) => if d.flat then .ok d ρ else .stk
    | _ => .stk
  | .int n, ρ => .ok (.int n) ρ
  | .bl b, ρ => .ok (.bl b) ρ
  | .non, ρ => .ok .non ρ
  | .str s, ρ => .ok (.str s) ρ
  | .glob j, ρ => match C[j]? with
    | some d => .ok d ρ
    | none => .stk
  | .op o es, ρ => match evalL es ρ with
    | .ok ds ρ1 => match opD o ds with
      | some d => .ok d ρ1
      | none => .stk
    | .exc c ρ1 => .exc c ρ1
    | .stk => .stk
  | .slc a lo hi, ρ => if a.isVar then
      match a with
      | .var i => match ρ[i]? with
        | some (some _) => match evalP lo ρ with
          | .ok l ρ1 => match evalP hi ρ1 with
            | .ok h ρ2 => match ρ2[i]? with
              | some (some d) => match slcD l h d with
                | some d' => .ok d' ρ2
                | none => .stk
              | _ => .stk
            | .exc c ρ2 => .exc c ρ2
            | .stk => .stk
          | .exc c ρ1 => .exc c ρ1
          | .stk => .stk
        | _ => .stk
      | _ => .stk
    else match evalE a ρ with
      | .ok d ρ0 => match evalP lo ρ0 with
        | .ok l ρ1 => match evalP hi ρ1 with
          | .ok h ρ2 => match slcD l h d with
            | some d' => .ok d' ρ2
            | none => .stk
          | .exc c ρ2 => .exc c ρ2
          | .stk => .stk
        | .exc c ρ1 => .exc c ρ1
        | .stk => .stk
      | .exc c ρ0 => .exc c ρ0
      | .stk => .stk
  | .mth m a bs, ρ => match evalE a ρ with
    | .ok d ρ1 => if m.kind d then match evalL bs ρ1 with
        | .ok ds ρ2 => match methD m (d :: ds) with
          | some d' => .ok d' ρ2
          | none => .stk
        | .exc c ρ2 => .exc c ρ2
        | .stk => .stk
      else .stk
    | .exc c ρ1 => .exc c ρ1
    | .stk => .stk
  | .dop q i k v, ρ => match ρ[i]? with
    | some (some (.dct _)) => match evalE k ρ with
      | .ok kd ρ1 => match evalE v ρ1 with
        | .ok d ρ2 => match ρ2[i]? with
          | some (some (.dct kvs)) => if keyOk kd = true ∧ d.flat = true then (match dopD q kvs kd d with
            | some r => .ok r ρ2
            | none => .stk) else .stk
          | _ => .stk
        | .exc c ρ2 => .exc c ρ2
        | .stk => .stk
      | .exc c ρ1 => .exc c ρ1
      | .stk => .stk
    | _ => .stk
  | .lmt m i e, ρ => match ρ[i]? with
    | some (some d0) => match d0.list? with
      | some _ => match evalE e ρ with
        | .ok d ρ1 => match ρ1[i]? with
          | some (some d1) => match d1.list? with
            | some xs => match lmtD m xs d with
              | some r => .ok r ρ1
              | none => .stk
            | none => .stk
          | _ => .stk
        | .exc c ρ1 => .exc c ρ1
        | .stk => .stk
      | none => .stk
    | _ => .stk
  | .not a, ρ => match evalE a ρ with
    | .ok (.bl b) ρ1 => .ok (.bl (!b)) ρ1
    | .exc c ρ1 => .exc c ρ1
    | _ => .stk
  | .and a b, ρ => match evalE a ρ with
    | .ok (.bl true) ρ1 => match evalE b ρ1 with
      | .ok (.bl k) ρ2 => .ok (.bl k) ρ2
      | .exc c ρ2 => .exc c ρ2
      | _ => .stk
    | .ok (.bl false) ρ1 => .ok (.bl false) ρ1
    | .exc c ρ1 => .exc c ρ1
    | _ => .stk
  | .or a b, ρ => match evalE a ρ with
    | .ok (.bl false) ρ1 => match evalE b ρ1 with
      | .ok (.bl k) ρ2 => .ok (.bl k) ρ2
      | .exc c ρ2 => .exc c ρ2
      | _ => .stk
    | .ok (.bl true) ρ1 => .ok (.bl true) ρ1
    | .exc c ρ1 => .exc c ρ1
    | _ => .stk
  | .ite c a b, ρ => match evalE c ρ with
    | .ok (.bl true) ρ1 => evalE a ρ1
    | .ok (.bl false) ρ1 => evalE b ρ1
    | .exc x ρ1 => .exc x ρ1
    | _ => .stk
  | .chain o1 o2 a b c, ρ => match evalE a ρ with
    | .ok x ρ1 => match evalE b ρ1 with
      | .ok y ρ2 => match cmpD o1 x y with
        | some (.bl true) => match evalE c ρ2 with
          | .ok z ρ3 => match cmpD o2 y z with
            | some (.bl k) => .ok (.bl k) ρ3
            | _ => .stk
          | .exc x ρ3 => .exc x ρ3
          | .stk => .stk
        | some (.bl false) => .ok (.bl false) ρ2
        | _ => .stk
      | .exc x ρ2 => .exc x ρ2
      | .stk => .stk
    | .exc x ρ1 => .exc x ρ1
    | .stk => .stk
  | .call j es, ρ => match evalL es ρ with
    | .ok ds ρ1 => match G[j]? with
      | some f => runF f es ds ρ1
      | none => .stk
    | .exc c ρ1 => .exc c ρ1
    | .stk => .stk
  | .comp p it cs elt, ρ => match evalL it ρ with
    | .ok [d] ρ1 => match d.items? with
      | some xs => match compLoop (still it d) p (evalC cs) (evalE elt) xs [] (kills p.slots ρ1) with
        | .ok acc ρ2 => .ok (.lst acc) ρ2
        | _ => .stk
      | none => .stk
    | .ok _ _ => .stk
    | .exc c ρ1 => .exc c ρ1
    | .stk => .stk
  | .fz i, ρ => match ρ[i]? with
    | some (some (.lst xs)) => .ok (.fls xs) (ρ.set i (some (.fls xs)))
    | _ => .stk
  | .frz e, ρ => match evalE e ρ with
    | .ok (.lst xs) ρ1 => .ok (.fls xs) ρ1
    | .exc c ρ1 => .exc c ρ1
    | _ => .stk
  | .fld a f, ρ => match evalE a ρ with
    | .ok (.obj _ fs) ρ1 => match fs.lookup f with
      | some d => .ok d ρ1
      | none => .stk
    | .exc c ρ1 => .exc c ρ1
    | _ => .stk
  | .mcl j c m a es, ρ => match evalE a ρ with
    | .ok (.obj c0 fs) ρ1 => if c0 = c ∧ fs.lookup m = none then (match evalL es ρ1 with
      | .ok ds ρ2 => match G[j]? with
        | some f => runF f (.cons .non es) (.obj c0 fs :: ds) ρ2
        | none => .stk
      | .exc c ρ2 => .exc c ρ2
      | .stk => .stk) else .stk
    | .exc c ρ1 => .exc c ρ1
    | _ => .stk
  | .oln j c a, ρ => match evalE a ρ with
    | .ok (.obj c0 fs) ρ1 => if c0 = c then (match G[j]? with
      | some f => match runF f (.cons .non .nil) [.obj c0 fs] ρ1 with
        | .ok (.int n) ρ2 => if 0 ≤ n ∧ n < 2 ^ 62 then .ok (.int n) ρ2 else .stk
        | _ => .stk
      | none => .stk) else .stk
    | .exc c ρ1 => .exc c ρ1
    | _ => .stk
/-- operands: what a name holds is looked up when all others are there -/
noncomputable def evalL : Es → Env → R (List D)
  | .nil, ρ => .ok [] ρ
  | .cons e es, ρ => if e.isVar then
      match e with
      | .var i => match ρ[i]? with
        | some (some _) => match evalL es ρ with
          | .ok ds ρ1 => match ρ1[i]? with
            | some (some d) => .ok (d :: ds) ρ1
            | _ => .stk
          | .exc c ρ1 => .exc c ρ1
          | .stk => .stk
        | _ => .stk
      | _ => .stk
    else match evalE e ρ with
      | .ok d ρ1 => match evalL es ρ1 with
        | .ok ds ρ2 => .ok (d :: ds) ρ2
        | .exc c ρ2 => .exc c ρ2
        | .stk => .stk
      | .exc c ρ1 => .exc c ρ1
      | .stk => .stk
/-- a slice's part -/
noncomputable def evalP : Es → Env → R (Option Int)
  | .nil, ρ => .ok none ρ
  | .cons e .nil, ρ => match evalE e ρ with
    | .ok (.int i) ρ1 => .ok (some i) ρ1
    | .ok _ _ => .stk
    | .exc c ρ1 => .exc c ρ1
    | .stk => .stk
  | .cons _ (.cons _ _), _ => .stk
/-- a comprehension's tests: none, or one -/
noncomputable def evalC : Es → Env → R D
  | .nil, ρ => .ok (.bl true) ρ
  | .cons e .nil, ρ => evalE e ρ
  | .cons _ (.cons _ _), _ => .stk
end
end

inductive O where
  | nx (ρ : Env) | rt (d : D) (ρ : Env) | bk (ρ : Env) | ct (ρ : Env) | exc (c : Nat) (ρ : Env) | stk
def catches (c k : Nat) : Bool := c == k || k == 0
def constE : E → Option D
  | .int n => some (.int n)
  | .bl b => some (.bl b)
  | .non => some .non
  | .str s => some (.str s)
  | _ => none
def forLoop (chk : Env → Prop) [DecidablePred chk] (p : Pat) (body : Env → O) (ks : List Nat) : List D → Env → O
  | [], ρ => if chk ρ then .nx ρ else .stk
  | x :: xs, ρ => if chk ρ then
      match p.bind x ρ with
      | none => .stk
      | some ρ1 => match body ρ1 with
        | .nx ρ2 => forLoop chk p body ks xs (kills ks ρ2)
        | .ct ρ2 => forLoop chk p body ks xs (kills ks ρ2)
        | .bk ρ2 => .nx (kills ks ρ2)
        | .rt d ρ2 => .rt d ρ2
        | .exc c ρ2 => .exc c ρ2
        | .stk => .stk
    else .stk
def whlLoop (c : Env → R D) (body : Env → O) (ks : List Nat) : Nat → Env → O
  | 0, _ => .stk
  | n + 1, ρ => match c ρ with
    | .ok (.bl true) ρ1 => match body ρ1 with
      | .nx ρ2 => whlLoop c body ks n (kills ks ρ2)
      | .ct ρ2 => whlLoop c body ks n (kills ks ρ2)
      | .bk ρ2 => .nx (kills ks ρ2)
      | .rt d ρ2 => .rt d ρ2
      | .exc c ρ2 => .exc c ρ2
      | .stk => .stk
    | .ok (.bl false) ρ1 => .nx ρ1
    | .exc x ρ1 => .exc x ρ1
    | _ => .stk
def itRoot : Es → List Nat
  | .cons (.var i) _ => [i]
  | _ => []
section
variable (G : List Fn) (C : List D)
mutual
noncomputable def exec : S → List Nat → Env → O
  | .asg (.nm i) e, pr, ρ => if i ∈ pr then .stk else match evalE G C e ρ with
    | .ok d ρ1 => .nx (ρ1.set i (some d))
    | .exc c ρ1 => .exc c ρ1
    | .stk => .stk
  | .asg (.tp is) e, pr, ρ => if is.any fun i => decide (i ∈ pr) then .stk else match evalE G C e ρ with
    | .ok d ρ1 => match (Pat.tp is).bind d ρ1 with
      | some ρ2 => .nx ρ2
      | none => .stk
    | .exc c ρ1 => .exc c ρ1
    | .stk => .stk
  | .mov i j, pr, ρ => if i ∈ pr ∨ j ∈ pr then .stk else match ρ[j]? with
    | some (some d) => .nx ((ρ.set j none).set i (some d))
    | _ => .stk
  | .app i e, pr, ρ => match ρ[i]? with
    | some (some (.lst _)) => match evalE G C e ρ with
      | .ok d ρ1 => match ρ1[i]? with
        | some (some (.lst xs)) => if d.flat = true ∧ xs.length < SZ then .nx (ρ1.set i (some (.lst (xs ++ [d])))) else .stk
        | _ => .stk
      | .exc c ρ1 => .exc c ρ1
      | .stk => .stk
    | _ => .stk
  | .seti i ix e, pr, ρ => match evalE G C e ρ with
    | .ok d ρ0 => match ρ0[i]? with
      | some (some (.lst _)) => match evalE G C ix ρ0 with
        | .ok (.int k) ρ1 => match ρ1[i]? with
          | some (some (.lst xs)) => match ixN xs.length k with
            | some j => if d.flat = true then .nx (ρ1.set i (some (.lst (xs.set j d)))) else .stk
            | none => .stk
          | _ => .stk
        | .ok _ _ => .stk
        | .exc c ρ1 => .exc c ρ1
        | .stk => .stk
      | _ => .stk
    | .exc c ρ1 => .exc c ρ1
    | .stk => .stk
  | .setk i k e, pr, ρ => match evalE G C e ρ with
    | .ok d ρ0 => match ρ0[i]? with
      | some (some (.dct _)) => match evalE G C k ρ0 with
        | .ok kd ρ1 => match ρ1[i]? with
          | some (some (.dct kvs)) => if d.flat = true ∧ keyOk kd = true ∧ kvs.length < SZ then .nx (ρ1.set i (some (.dct (dputD kvs kd d)))) else .stk
          | _ => .stk
        | .exc c ρ1 => .exc c ρ1
        | .stk => .stk
      | _ => .stk
    | .exc c ρ1 => .exc c ρ1
    | .stk => .stk
  | .ite c a b, pr, ρ => match evalE G C c ρ with
    | .ok (.bl true) ρ1 => execs a pr ρ1
    | .ok (.bl false) ρ1 => execs b pr ρ1
    | .exc x ρ1 => .exc x ρ1
    | _ => .stk
  | .whl n c body ks, pr, ρ => if ks.any fun i => decide (i ∈ pr) then .stk else whlLoop (evalE G C c) (fun ρ => execs body pr ρ) ks (n (kills ks ρ)) (kills ks ρ)
  | .for_ p it body ks, pr, ρ => if (ks ++ p.slots).any fun i => decide (i ∈ itRoot it ++ pr) then .stk else match evalL G C it ρ with
    | .ok [d] ρ1 => match d.items? with
      | some xs => forLoop (still it d) p (fun ρ => execs body (itRoot it ++ pr) ρ) ks xs (kills ks ρ1)
      | none => .stk
    | .ok _ _ => .stk
    | .exc c ρ1 => .exc c ρ1
    | .stk => .stk
  | .ret e, pr, ρ => match evalE G C e ρ with
    | .ok d ρ1 => .rt d ρ1
    | .exc c ρ1 => .exc c ρ1
    | .stk => .stk
  | .retV i, pr, ρ => if i ∈ pr then .stk else match ρ[i]? with
    | some (some d) => .rt d (ρ.set i none)
    | _ => .stk
  | .retN, pr, ρ => .rt .non ρ
  | .brk, pr, ρ => .bk ρ
  | .cnt, pr, ρ => .ct ρ
  | .pass, pr, ρ => .nx ρ
  | .ex e, pr, ρ => match evalE G C e ρ with
    | .ok _ ρ1 => .nx ρ1
    | .exc c ρ1 => .exc c ρ1
    | .stk => .stk
  | .rais c, pr, ρ => .exc c ρ
  | .try_ m body k h, pr, ρ => match execs body pr ρ with
    | .exc c ρ1 => if m ≤ c then .stk else if catches c k then (match constE h with
      | some d => .rt d ρ1
      | none => .stk) else .exc c ρ1
    | o => o
  | .tryC m body k i x outs, pr, ρ => if i ∈ pr ∨ x ∈ pr then .stk else match execs body pr ρ with
    | .exc c ρ1 => if m ≤ c then .stk else if catches c k then (match outs[c]? with
      | some d => .rt d (kills [i, x] ρ1)
      | none => .stk) else .exc c ρ1
    | o => o
noncomputable def execs : Ss → List Nat → Env → O
  | .nil, pr, ρ => .nx ρ
  | .cons s ss, pr, ρ => match exec s pr ρ with
    | .nx ρ1 => execs ss pr ρ1
    | o => o
end
/-- what stands in the parameters that were handed over by reference -/
def finals : List D → Env → Option (List D)
  | [], _ => some []
  | d :: ds, o :: ρ => match finals ds ρ with
    | some ds' => if d.flat then some (d :: ds') else match o with
      | some d' => if d'.flat then none else some (d' :: ds')
      | none => none
    | none => none
  | _ :: _, [] => none
/-- the parameters that hold a container are those at pr -/
def fits (pr : List Nat) : Nat → List D → Bool
  | _, [] => true
  | i, d :: ds => (d.flat || decide (i ∈ pr)) && fits pr (i + 1) ds
noncomputable def runDef (body : Ss) (n : Nat) (pr : List Nat) (ds : List D) : RF :=
  if fits pr 0 ds then
    match execs G C body pr (ds.map some ++ List.replicate (n - ds.length) none) with
    | .nx ρ => match finals ds ρ with
      | some ds' => .ok .non ds'
      | none => .stk
    | .rt d ρ => match finals ds ρ with
      | some ds' => .ok d ds'
      | none => .stk
    | .exc c ρ => match finals ds ρ with
      | some ds' => .exc c ds'
      | none => .stk
    | _ => .stk
  else .stk
end
end Mi

/-! positions of a text in the order of its rests (for M1, when the language gets sorted by a key) -/
namespace Mi
theorem insF_perm (k : Nat → List Nat) (x : Nat) : ∀ ys, (insF k x ys).Perm (x :: ys)
  | [] => .refl _
  | y :: ys => by
    unfold insF
    split
    · exact .refl _
    · exact ((insF_perm k x ys).cons y).trans (.swap x y ys)
theorem sortF_perm (k : Nat → List Nat) : ∀ xs, (sortF k xs).Perm xs
  | [] => .refl _
  | x :: xs => (insF_perm k x (sortF k xs)).trans ((sortF_perm k xs).cons x)
theorem insF_sorted (k : Nat → List Nat) (x : Nat) : ∀ ys, ys.Pairwise (fun a b => k a ≤ k b) → (insF k x ys).Pairwise (fun a b => k a ≤ k b)
  | [], _ => by unfold insF; simp
  | y :: ys, h => by
    have h2 := List.pairwise_cons.mp h
    unfold insF
    split
    · rename_i hlt
      have hxy : k x ≤ k y := List.le_of_lt (by unfold lexN at hlt; exact of_decide_eq_true hlt)
      refine List.pairwise_cons.mpr ⟨fun z hz => ?_, h⟩
      rcases List.mem_cons.mp hz with e | hz
      · rw [e]; exact hxy
      · exact List.le_trans hxy (h2.1 z hz)
    · rename_i hlt
      have hyx : k y ≤ k x := List.not_lt.mp fun z => hlt (by unfold lexN; exact decide_eq_true z)
      refine List.pairwise_cons.mpr ⟨fun z hz => ?_, insF_sorted k x ys h2.2⟩
      rcases List.mem_cons.mp ((insF_perm k x ys).mem_iff.mp hz) with e | hz
      · rw [e]; exact hyx
      · exact h2.1 z hz
theorem sortF_sorted (k : Nat → List Nat) : ∀ xs, (sortF k xs).Pairwise (fun a b => k a ≤ k b)
  | [] => .nil
  | x :: xs => insF_sorted k x _ (sortF_sorted k xs)
theorem drop_inj {s : List Nat} {a b : Nat} (ha : a ≤ s.length) (hb : b ≤ s.length) (h : s.drop a = s.drop b) : a = b := by
  have := congrArg List.length h
  rw [List.length_drop, List.length_drop] at this
  omega
/-- the order is the only one -/
theorem sufS_eq {s : List Nat} {n : Nat} {ns : List Nat} (hn : n ≤ s.length + 1) (hp : ns.Perm (List.range n)) (hs : ns.Pairwise fun a b => s.drop a ≤ s.drop b) : ns = sufS s n := by
  have p2 := sortF_perm (fun p => s.drop p) (List.range n)
  have lt : ∀ x ∈ ns, x < n := fun x hx => List.mem_range.mp (hp.mem_iff.mp hx)
  refine List.Perm.eq_of_pairwise (fun x y hx hy h1 h2 => ?_) hs (sortF_sorted _ _) (hp.trans p2.symm)
  have hx := lt x hx
  have hy : y < n := List.mem_range.mp (p2.mem_iff.mp hy)
  exact drop_inj (by omega) (by omega) (List.le_antisymm h1 h2)
end Mi

/-! how data lie in the heap, and what a step of the run keeps -/
namespace Mi
open PySem PySem.Spec PyProof.Rows L2

abbrev strV (s : List Nat) : Str := ⟨s.toArray⟩
/-- a list that the top has written -/
def SqK (K : PySem.W.Frag) (a : Addr) (xs : List V) : Prop := ∃ (o : Obj) (its : Array Value) (n : Nat), K.lookup a = some o ∧ o.cls = .type "list" ∧ o.dict = none ∧ o.data = .seq its n ∧ its.size ≤ sizeLine ∧ Vals xs its.toList
/-- a class of the text, its attributes ns no names of its own -/
def ClsOk (K : PySem.W.Frag) (c : List Nat) (C : Addr) (ns : List (List Nat)) : Prop := (PySem.W.clsIn K C).map (·.name) = some (strV c) ∧ PySem.W.nsIn K mainGlobals (strV c) = some (some (.ref C)) ∧ L2.Cls K C ∧ ∀ f ∈ ns, L2.NoAttr K C (strV f)
mutual
inductive Rp (K : PySem.W.Frag) (H : Hp) (Z : Addr → Prop) : V → D → Prop
  | non : Rp K H Z .non .non
  | bl (b : Bool) : Rp K H Z (.bl b) (.bl b)
  | int (i : Int) : Rp K H Z (.int i) (.int i)
  | str (s : List Nat) : Rp K H Z (.str (strV s)) (.str s)
  | tup {a : Addr} {vs : List V} {xs : List D} : SqT K H a vs → Rps K H Z vs xs → Rp K H Z (.ref a) (.tup xs)
  | fls {a : Addr} {vs : List V} {xs : List D} : (Z a ∨ SqK K a vs) → SqL K H a vs → Rps K H Z vs xs → Rp K H Z (.ref a) (.fls xs)
  | rng {a : Addr} {lo hi : Int} {n : Nat} : H a = some (.rng lo hi) → n = (hi - lo).toNat → (-(2 ^ 62) ≤ lo ∧ lo < 2 ^ 62 ∧ -(2 ^ 62) ≤ hi ∧ hi < 2 ^ 62) → Rp K H Z (.ref a) (.rng lo n)
  | obj {a dx C : Addr} {c : List Nat} {ns : List (List Nat)} {vs : List V} {ds : List D} : ClsOk K c C ns → H a = some (.ins C dx ((ns.map strV).zip vs)) → ns.length = vs.length → Rps K H Z vs ds → Rp K H Z (.ref a) (.obj c (ns.zip ds))
inductive Rps (K : PySem.W.Frag) (H : Hp) (Z : Addr → Prop) : List V → List D → Prop
  | nil : Rps K H Z [] []
  | cons {v : V} {d : D} {vs : List V} {ds : List D} : Rp K H Z v d → Rps K H Z vs ds → Rps K H Z (v :: vs) (d :: ds)
end
def RepL (K : PySem.W.Frag) (H : Hp) (Z : Addr → Prop) (v : V) (xs : List D) : Prop := ∃ a vs, v = .ref a ∧ ¬ Z a ∧ H a = some (.lst vs) ∧ Rps K H Z vs xs
/-- keys of dicts -/
def keyV : Key → D
  | .inl i => .int i
  | .inr s => .str s.cps.toList
inductive Kvs (K : PySem.W.Frag) (H : Hp) (Z : Addr → Prop) : List (Key × V) → List (D × D) → Prop
  | nil : Kvs K H Z [] []
  | cons {k : Key} {v : V} {d : D} {r : List (Key × V)} {s : List (D × D)} : Rp K H Z v d → Kvs K H Z r s → Kvs K H Z ((k, v) :: r) ((keyV k, d) :: s)
def RepM (K : PySem.W.Frag) (H : Hp) (Z : Addr → Prop) (v : V) (kvs : List (D × D)) : Prop := ∃ a kv, v = .ref a ∧ ¬ Z a ∧ H a = some (.dK kv) ∧ Kvs K H Z kv kvs
def RepD (K : PySem.W.Frag) (H : Hp) (Z : Addr → Prop) (v : V) : D → Prop
  | .lst xs => RepL K H Z v xs
  | .dct kvs => RepM K H Z v kvs
  | .fdc _ => False
  | .rdn _ _ => False
  | d => Rp K H Z v d
section
variable {K : PySem.W.Frag} {H H' : Hp} {Z Z' W : Addr → Prop} {v : V} {d : D} {vs : List V} {ds : List D}
theorem Rps.length : ∀ {vs : List V} {ds : List D}, Rps K H Z vs ds → vs.length = ds.length
  | _, _, .nil => rfl
  | _, _, .cons _ h => by rw [List.length_cons, List.length_cons, h.length]
theorem Rp.flat (h : Rp K H Z v d) : d.flat = true := by cases h <;> rfl
theorem RepD.of (h : Rp K H Z v d) : RepD K H Z v d := by cases h <;> (constructor <;> assumption)
theorem RepD.rp (h : RepD K H Z v d) (f : d.flat = true) : Rp K H Z v d := by
  cases d <;> first | exact h | exact absurd f (by decide) | exact False.elim h | (exact absurd (show false = true from f) Bool.false_ne_true)
/-- what may change: lists and dicts that are not locked -/
def Cont (o : HO) : Prop := (∃ vs, o = .lst vs) ∨ ∃ kv, o = .dK kv
abbrev CO := { o : HO // Cont o }
def CO.lst (vs : List V) : CO := ⟨.lst vs, .inl ⟨vs, rfl⟩⟩
def CO.dct (kv : List (Key × V)) : CO := ⟨.dK kv, .inr ⟨kv, rfl⟩⟩
theorem CO.tup {u : CO} {vs : List V} (h : some (HO.tup vs) = some u.1) : False := by
  obtain ⟨o, ⟨_, rfl⟩ | ⟨_, rfl⟩⟩ := u <;> cases h
theorem CO.frz {u : CO} {o : Obj} {x : HO} (h : some (HO.frz o x) = some u.1) : False := by
  obtain ⟨o, ⟨_, rfl⟩ | ⟨_, rfl⟩⟩ := u <;> cases h
theorem CO.rng {u : CO} {lo hi : Int} (h : some (HO.rng lo hi) = some u.1) : False := by
  obtain ⟨o, ⟨_, rfl⟩ | ⟨_, rfl⟩⟩ := u <;> cases h
theorem CO.ins {u : CO} {C dx : Addr} {fs : List (Str × V)} (h : some (HO.ins C dx fs) = some u.1) : False := by
  obtain ⟨o, ⟨_, rfl⟩ | ⟨_, rfl⟩⟩ := u <;> cases h
def Loose (H : Hp) (Z W : Addr → Prop) : Prop := ∀ a, W a → ¬ Z a ∧ ∃ u : CO, H a = some u.1
/-- the defs of the program that make a lambda -/
def lamDefs : List Str := ["suffix_array", "rows_of"]
/-- code objects of such defs: the object, its table, its name -/
def TabC (K : PySem.W.Frag) : List (Addr × Addr × Str) := List.filterMap (fun (x : Addr × Obj) => match x.2.data with
  | .fields vs => (match vs[11]?, vs[1]? with
    | some (Value.ref P), some (Value.str q _) => if q ∈ lamDefs then some (x.1, P, q) else none
    | _, _ => none)
  | _ => none) K
def TabK (K : PySem.W.Frag) : List (Addr × Str) := (TabC K).map fun x => (x.2.1, x.2.2 ++ ".<locals>." ++ "<lambda>")
/-- all but W stays; tables of code objects may grow -/
structure Stay (K : PySem.W.Frag) (H H' : Hp) (W : Addr → Prop) : Prop where
  on : ∀ a o, H a = some o → (∀ ps, o ≠ .tbl ps) → ¬ W a → H' a = some o
  tb : ∀ a ps, H a = some (.tbl ps) → ∃ ps', H' a = some (.tbl ps')
  tabs : LamX.Tabs (TabK K) H → LamX.Tabs (TabK K) H'
theorem Stay.of {W : Addr → Prop} (k : ∀ a o, H a = some o → H' a = some o) : Stay K H H' W := ⟨fun a o h _ _ => k a o h, fun a ps h => ⟨ps, k a _ h⟩, fun t => t.ext k⟩
theorem CO.tbl {u : CO} {ps : Array Value} (h : u.1 = HO.tbl ps) : False := by
  obtain ⟨o, ⟨_, rfl⟩ | ⟨_, rfl⟩⟩ := u <;> cases h
theorem CO.code {u : CO} {c : Addr} {q : Str} (h : u.1 = LamX.CodeO c q) : False := by
  unfold LamX.CodeO at h
  obtain ⟨o, ⟨_, rfl⟩ | ⟨_, rfl⟩⟩ := u <;> cases h
theorem tabs_upd {T : List (Addr × Str)} {a : Addr} {u : CO} {o : HO} (ha : H a = some u.1) (t : LamX.Tabs T H) : LamX.Tabs T (upd H a o) := fun p hp => by
  obtain ⟨ps, h1, h2, h3⟩ := t p hp
  refine ⟨ps, ?_, h2, fun pos cv hc => ?_⟩
  · rw [upd_ne (fun z => by rw [z, ha] at h1; exact CO.tbl (Option.some.inj h1))]; exact h1
  · obtain ⟨c, e1, e2⟩ := h3 pos cv hc
    exact ⟨c, e1, by rw [upd_ne (fun z => by rw [z, ha] at e2; exact CO.code (Option.some.inj e2))]; exact e2⟩
theorem Stay.upd {W : Addr → Prop} {a : Addr} (u : CO) {o : HO} (ha : H a = some u.1) (hw : W a) : Stay K H (upd H a o) W :=
  ⟨fun b v h _ w => by rw [upd_ne (fun z => w (by rw [z]; exact hw))]; exact h, fun b ps h => ⟨ps, by rw [upd_ne (fun z => by rw [z, ha] at h; exact CO.tbl (Option.some.inj h))]; exact h⟩, fun t => tabs_upd ha t⟩
theorem Stay.upd_new {W : Addr → Prop} {p : Addr} (u : CO) {o : HO} (st : Stay K H H' W) (hn : H p = none) (hp : H' p = some u.1) : Stay K H (L2.upd H' p o) W :=
  ⟨fun b v h n w => by rw [upd_ne (ne_of_none h hn)]; exact st.on b v h n w, fun b ps h => by
    obtain ⟨ps', h2⟩ := st.tb b ps h
    exact ⟨ps', by rw [upd_ne (ne_of_none h hn)]; exact h2⟩, fun t => tabs_upd hp (st.tabs t)⟩
theorem Stay.mono {W W' : Addr → Prop} (st : Stay K H H' W) (h : ∀ a, W a → W' a) : Stay K H H' W' := ⟨fun a o e n w => st.on a o e n fun z => w (h a z), st.tb, st.tabs⟩
theorem Stay.comp {H1 : Hp} {W W1 W2 : Addr → Prop} (st : Stay K H H1 W1) (cs : Stay K H1 H' W2) (h1 : ∀ a, W1 a → W a) (h2 : ∀ a o, H a = some o → ¬ W a → ¬ W2 a) : Stay K H H' W :=
  ⟨fun a o e n w => cs.on a o (st.on a o e n fun z => w (h1 a z)) n (h2 a o e w), fun a ps e => by
    obtain ⟨ps', e2⟩ := st.tb a ps e
    exact cs.tb a ps' e2, fun t => cs.tabs (st.tabs t)⟩
theorem SqT.stay {a : Addr} (l : Loose H Z W) (st : Stay K H H' W) (h : SqT K H a vs) : SqT K H' a vs := by
  rcases h with (h | ⟨o, h⟩) | h
  · exact .inl (.inl (st.on _ _ h (fun _ z => nomatch z) fun w => by obtain ⟨_, u, e⟩ := l a w; rw [h] at e; exact CO.tup e))
  · exact .inl (.inr ⟨o, st.on _ _ h (fun _ z => nomatch z) fun w => by obtain ⟨_, u, e⟩ := l a w; rw [h] at e; exact CO.frz e⟩)
  · exact .inr h
theorem SqL.stayZ {a : Addr} (l : Loose H Z W) (st : Stay K H H' W) (z : ¬ W a) (h : SqL K H a vs) : SqL K H' a vs := by
  rcases h with (h | ⟨o, h⟩) | h
  · exact .inl (.inl (st.on _ _ h (fun _ z => nomatch z) z))
  · exact .inl (.inr ⟨o, st.on _ _ h (fun _ z => nomatch z) z⟩)
  · exact .inr h
mutual
theorem Rp.stay (l : Loose H Z W) (st : Stay K H H' W) (z : ∀ a, Z a → Z' a) : ∀ {v : V} {d : D}, Rp K H Z v d → Rp K H' Z' v d
  | _, _, .non => .non
  | _, _, .bl b => .bl b
  | _, _, .int i => .int i
  | _, _, .str s => .str s
  | _, _, .tup h r => .tup (SqT.stay l st h) (r.stay l st z)
  | _, _, .fls (.inl hz) h r => .fls (.inl (z _ hz)) (SqL.stayZ l st (fun w => (l _ w).1 hz) h) (r.stay l st z)
  | _, _, .fls (.inr hz) h r => .fls (.inr hz) (.inr hz) (r.stay l st z)
  | _, _, .rng h e b => .rng (st.on _ _ h (fun _ z => nomatch z) fun w => by obtain ⟨_, u, e⟩ := l _ w; rw [h] at e; exact CO.rng e) e b
  | _, _, .obj k h n r => .obj k (st.on _ _ h (fun _ z => nomatch z) fun w => by obtain ⟨_, u, e⟩ := l _ w; rw [h] at e; exact CO.ins e) n (r.stay l st z)
theorem Rps.stay (l : Loose H Z W) (st : Stay K H H' W) (z : ∀ a, Z a → Z' a) : ∀ {vs : List V} {ds : List D}, Rps K H Z vs ds → Rps K H' Z' vs ds
  | _, _, .nil => .nil
  | _, _, .cons h r => .cons (h.stay l st z) (r.stay l st z)
end
theorem Kvs.stay (l : Loose H Z W) (st : Stay K H H' W) (z : ∀ a, Z a → Z' a) : ∀ {kv : List (Key × V)} {kvs : List (D × D)}, Kvs K H Z kv kvs → Kvs K H' Z' kv kvs
  | _, _, .nil => .nil
  | _, _, .cons h r => .cons (h.stay l st z) (r.stay l st z)
theorem Rps.get : ∀ {vs : List V} {ds : List D} {i : Nat} {v : V}, Rps K H Z vs ds → vs[i]? = some v → ∃ d, ds[i]? = some d ∧ Rp K H Z v d
  | _, _, _, _, .nil, e => by simp at e
  | _, _, 0, _, .cons h _, e => by simp at e; subst e; exact ⟨_, rfl, h⟩
  | _, _, i + 1, _, .cons _ r, e => by
    obtain ⟨d, e1, h⟩ := Rps.get (i := i) r (by simpa using e)
    exact ⟨d, by simpa using e1, h⟩
theorem Rps.getD : ∀ {vs : List V} {ds : List D} {i : Nat} {d : D}, Rps K H Z vs ds → ds[i]? = some d → ∃ v, vs[i]? = some v ∧ Rp K H Z v d
  | _, _, _, _, .nil, e => by simp at e
  | _, _, 0, _, .cons h _, e => by simp at e; subst e; exact ⟨_, rfl, h⟩
  | _, _, i + 1, _, .cons _ r, e => by
    obtain ⟨d, e1, h⟩ := Rps.getD (i := i) r (by simpa using e)
    exact ⟨d, by simpa using e1, h⟩
theorem Rps.append : ∀ {vs ws : List V} {ds es : List D}, Rps K H Z vs ds → Rps K H Z ws es → Rps K H Z (vs ++ ws) (ds ++ es)
  | _, _, _, _, .nil, r => r
  | _, _, _, _, .cons h t, r => .cons h (t.append r)
theorem Rps.take : ∀ {vs : List V} {ds : List D} (n : Nat), Rps K H Z vs ds → Rps K H Z (vs.take n) (ds.take n)
  | _, _, 0, _ => .nil
  | _, _, _ + 1, .nil => .nil
  | _, _, n + 1, .cons h r => .cons h (r.take n)
theorem Rps.drop : ∀ {vs : List V} {ds : List D} (n : Nat), Rps K H Z vs ds → Rps K H Z (vs.drop n) (ds.drop n)
  | _, _, 0, r => r
  | _, _, _ + 1, .nil => .nil
  | _, _, n + 1, .cons h r => r.drop n
theorem Rps.set {v : V} {d : D} (h : Rp K H Z v d) : ∀ {vs : List V} {ds : List D} (i : Nat), Rps K H Z vs ds → Rps K H Z (vs.set i v) (ds.set i d)
  | _, _, _, .nil => .nil
  | _, _, 0, .cons _ r => .cons h r
  | _, _, i + 1, .cons q r => .cons q (r.set h i)
theorem Rps.ints : ∀ {vs : List V} {ds : List D} {ns : List Int}, Rps K H Z vs ds → ints? ds = some ns → vs = ns.map V.int ∧ ds = ns.map D.int
  | _, _, ns, .nil, e => by cases e; exact ⟨rfl, rfl⟩
  | _, _, ns, .cons (d := d) (ds := ds) h r, e => by
    cases d with
    | int i =>
      simp only [ints?] at e
      cases q : ints? ds with
      | none => rw [q] at e; cases e
      | some ms =>
        rw [q] at e
        cases e
        obtain ⟨e1, e2⟩ := r.ints q
        cases h
        exact ⟨by rw [e1]; rfl, by rw [e2]; rfl⟩
    | _ => cases e
theorem Rps.strs : ∀ {vs : List V} {ds : List D} {ns : List (List Nat)}, Rps K H Z vs ds → strs? ds = some ns → vs = (ns.map strV).map V.str ∧ ds = ns.map D.str
  | _, _, ns, .nil, e => by cases e; exact ⟨rfl, rfl⟩
  | _, _, ns, .cons (d := d) (ds := ds) h r, e => by
    cases d with
    | str i =>
      simp only [strs?] at e
      cases q : strs? ds with
      | none => rw [q] at e; cases e
      | some ms =>
        rw [q] at e
        cases e
        obtain ⟨e1, e2⟩ := r.strs q
        cases h
        exact ⟨by rw [e1]; rfl, by rw [e2]; rfl⟩
    | _ => cases e
theorem Rps.bls : ∀ {vs : List V} {ds : List D} {ns : List Bool}, Rps K H Z vs ds → bls? ds = some ns → vs = ns.map V.bl ∧ ds = ns.map D.bl
  | _, _, ns, .nil, e => by cases e; exact ⟨rfl, rfl⟩
  | _, _, ns, .cons (d := d) (ds := ds) h r, e => by
    cases d with
    | bl i =>
      simp only [bls?] at e
      cases q : bls? ds with
      | none => rw [q] at e; cases e
      | some ms =>
        rw [q] at e
        cases e
        obtain ⟨e1, e2⟩ := r.bls q
        cases h
        exact ⟨by rw [e1]; rfl, by rw [e2]; rfl⟩
    | _ => cases e
theorem Rps.of_ints : ∀ ns : List Int, Rps K H Z (ns.map V.int) (ns.map D.int)
  | [] => .nil
  | n :: ns => .cons (.int n) (Rps.of_ints ns)
theorem Rps.of_strs : ∀ ns : List (List Nat), Rps K H Z ((ns.map strV).map V.str) (ns.map D.str)
  | [] => .nil
  | n :: ns => .cons (.str n) (Rps.of_strs ns)
theorem Rps.rp_all : ∀ {vs : List V} {ds : List D}, Rps K H Z vs ds → ds.all D.flat = true
  | _, _, .nil => rfl
  | _, _, .cons h r => by rw [List.all_cons, h.flat, r.rp_all]; rfl
end

/-! ### states -/
/-- the slot's value is a container at a -/
def Owns (σ : L2.St) (ρ : Env) (a : Addr) : Prop := ∃ (i : Nat) (d : D), ρ[i]? = some (some d) ∧ d.flat = false ∧ σ[i]? = some (some (.ref a))
structure Sat (K : PySem.W.Frag) (H : Hp) (Z : Addr → Prop) (σ : L2.St) (ρ : Env) : Prop where
  len : ρ.length = σ.length
  rep : ∀ (i : Nat) (d : D), ρ[i]? = some (some d) → ∃ v, σ[i]? = some (some v) ∧ RepD K H Z v d
  sep : ∀ (i j : Nat) (d e : D) (a : Addr), ρ[i]? = some (some d) → ρ[j]? = some (some e) → d.flat = false → e.flat = false → σ[i]? = some (some (.ref a)) → σ[j]? = some (some (.ref a)) → i = j
  zok : ∀ a, Z a → H a ≠ none
  tabs : LamX.Tabs (TabK K) H
structure Step (K : PySem.W.Frag) (σ : L2.St) (H : Hp) (Z : Addr → Prop) (ρ : Env) (σ' : L2.St) (H' : Hp) (Z' : Addr → Prop) (ρ' : Env) : Prop where
  sat : Sat K H' Z' σ' ρ'
  stay : Stay K H H' (Owns σ ρ)
  z1 : ∀ a, Z a → Z' a
  z2 : ∀ a, Z' a → Z a ∨ H a = none ∨ Owns σ ρ a
  own : ∀ a, Owns σ' ρ' a → Owns σ ρ a ∨ H a = none
  trk : ∀ a o, H a = some o → ∃ o', H' a = some o'
section
variable {K : PySem.W.Frag} {H H' H0 H1 H2 : Hp} {Z Z' Z1 Z2 : Addr → Prop} {σ σ' σ1 σ2 : L2.St} {ρ ρ' ρ1 ρ2 : Env} {v : V} {d : D}
theorem Sat.loose (s : Sat K H Z σ ρ) : Loose H Z (Owns σ ρ) := fun a ⟨i, d, e, f, e2⟩ => by
  obtain ⟨v, e3, r⟩ := s.rep i d e
  rw [e2] at e3
  cases e3
  cases d with
  | lst xs => obtain ⟨b, vs, e4, nz, hb, _⟩ := r; cases e4; exact ⟨nz, CO.lst vs, hb⟩
  | dct _ => obtain ⟨b, vs, e4, nz, hb, _⟩ := r; cases e4; exact ⟨nz, CO.dct vs, hb⟩
  | _ => exact absurd (show true = false from f) (by decide)
theorem Step.refl (s : Sat K H Z σ ρ) : Step K σ H Z ρ σ H Z ρ := ⟨s, .of fun _ _ h => h, fun _ h => h, fun _ h => .inl h, fun _ h => .inl h, fun _ o h => ⟨o, h⟩⟩
theorem Stay.free {W : Addr → Prop} (st : Stay K H H' W) {a : Addr} (h : H' a = none) : H a = none ∨ W a := by
  cases e : H a with
  | none => exact .inl rfl
  | some o =>
    by_cases w : W a
    · exact .inr w
    · by_cases t : ∀ ps, o ≠ .tbl ps
      · rw [st.on a o e t w] at h; cases h
      · obtain ⟨ps, z⟩ := Classical.not_forall.mp t
        have z := Classical.not_not.mp z
        subst z
        obtain ⟨ps', z⟩ := st.tb a ps e
        rw [z] at h; cases h
theorem Step.trans (p : Step K σ H Z ρ σ1 H1 Z1 ρ1) (q : Step K σ1 H1 Z1 ρ1 σ2 H2 Z2 ρ2) : Step K σ H Z ρ σ2 H2 Z2 ρ2 where
  sat := q.sat
  stay := p.stay.comp q.stay (fun _ z => z) fun a o h w z => (p.own a z).elim w fun n => by rw [h] at n; cases n
  z1 := fun a z => q.z1 a (p.z1 a z)
  z2 := fun a z => by
    rcases q.z2 a z with z | z | z
    · exact p.z2 a z
    · exact .inr (p.stay.free z)
    · exact (p.own a z).elim (fun z => .inr (.inr z)) fun z => .inr (.inl z)
  own := fun a z => by
    rcases q.own a z with z | z
    · exact p.own a z
    · exact (p.stay.free z).symm
  trk := fun a o h => by
    obtain ⟨o1, h1⟩ := p.trk a o h
    exact q.trk a o1 h1
/-- what is no container of a name's, behind a step -/
theorem Step.rp (s : Sat K H Z σ ρ) (p : Step K σ H Z ρ σ' H' Z' ρ') (h : Rp K H Z v d) : Rp K H' Z' v d := h.stay s.loose p.stay p.z1
/-- a container that no name holds, behind a step -/
theorem Step.lst {a : Addr} {vs : List V} {xs : List D} (s : Sat K H Z σ ρ) (p : Step K σ H Z ρ σ' H' Z' ρ') (no : ¬ Owns σ ρ a) (nz : ¬ Z a) (h : H a = some (.lst vs)) (r : Rps K H Z vs xs) :
    ¬ Owns σ' ρ' a ∧ ¬ Z' a ∧ H' a = some (.lst vs) ∧ Rps K H' Z' vs xs := by
  refine ⟨fun z => ?_, fun z => ?_, p.stay.on a _ h (fun _ z => nomatch z) no, r.stay s.loose p.stay p.z1⟩
  · rcases p.own a z with z | z
    · exact no z
    · rw [h] at z; cases z
  · rcases p.z2 a z with z | z | z
    · exact nz z
    · rw [h] at z; cases z
    · exact no z
theorem Step.dct {a : Addr} {kv : List (Key × V)} {kvs : List (D × D)} (s : Sat K H Z σ ρ) (p : Step K σ H Z ρ σ' H' Z' ρ') (no : ¬ Owns σ ρ a) (nz : ¬ Z a) (h : H a = some (.dK kv)) (r : Kvs K H Z kv kvs) :
    ¬ Owns σ' ρ' a ∧ ¬ Z' a ∧ H' a = some (.dK kv) ∧ Kvs K H' Z' kv kvs := by
  refine ⟨fun z => ?_, fun z => ?_, p.stay.on a _ h (fun _ z => nomatch z) no, r.stay s.loose p.stay p.z1⟩
  · rcases p.own a z with z | z
    · exact no z
    · rw [h] at z; cases z
  · rcases p.z2 a z with z | z | z
    · exact nz z
    · rw [h] at z; cases z
    · exact no z
/-- a value that no name holds: flat, or a container of its own; H0: the heap ahead -/
def Free (K : PySem.W.Frag) (H0 H : Hp) (Z : Addr → Prop) (σ : L2.St) (ρ : Env) (v : V) (d : D) : Prop :=
  RepD K H Z v d ∧ (d.flat = false → ∃ a, v = .ref a ∧ ¬ Owns σ ρ a ∧ (H0 a = none))
theorem Free.step (s : Sat K H Z σ ρ) (p : Step K σ H Z ρ σ' H' Z' ρ') (h : Free K H0 H Z σ ρ v d) : Free K H0 H' Z' σ' ρ' v d := by
  obtain ⟨r, f⟩ := h
  cases d with
  | lst xs =>
    obtain ⟨a, e, no, n⟩ := f rfl
    obtain ⟨b, vs, e2, nz, hb, rs⟩ := r
    rw [e] at e2; cases e2
    obtain ⟨q1, q2, q3, q4⟩ := Step.lst s p no nz hb rs
    exact ⟨⟨a, vs, e, q2, q3, q4⟩, fun _ => ⟨a, e, q1, n⟩⟩
  | dct xs =>
    obtain ⟨a, e, no, n⟩ := f rfl
    obtain ⟨b, vs, e2, nz, hb, rs⟩ := r
    rw [e] at e2; cases e2
    obtain ⟨q1, q2, q3, q4⟩ := Step.dct s p no nz hb rs
    exact ⟨⟨a, vs, e, q2, q3, q4⟩, fun _ => ⟨a, e, q1, n⟩⟩
  | fdc _ => exact False.elim r
  | rdn _ _ => exact False.elim r
  | _ => exact ⟨Step.rp s p r, fun z => absurd (show true = false from z) (by decide)⟩
theorem Free.imp (h : Free K H1 H Z σ ρ v d) (k : ∀ a o, H0 a = some o → ∃ o', H1 a = some o') : Free K H0 H Z σ ρ v d :=
  ⟨h.1, fun z => by
    obtain ⟨a, e, no, n⟩ := h.2 z
    refine ⟨a, e, no, ?_⟩
    cases q : H0 a with
    | none => rfl
    | some o => obtain ⟨o', z⟩ := k a o q; rw [n] at z; cases z⟩
end

section
variable {K : PySem.W.Frag} {H H' H0 H1 H2 : Hp} {Z Z' Z1 Z2 : Addr → Prop} {σ σ' σ1 σ2 : L2.St} {ρ ρ' ρ1 ρ2 : Mi.Env} {v : V} {d : D}
theorem RepD.keep (k : ∀ a o, H a = some o → H' a = some o) (h : RepD K H Z v d) : RepD K H' Z v d := by
  have st : Stay K H H' fun _ => False := .of k
  have l : Loose H Z fun _ => False := fun _ w => w.elim
  cases d with
  | lst xs => obtain ⟨a, vs, e, nz, ha, r⟩ := h; exact ⟨a, vs, e, nz, k _ _ ha, r.stay l st fun _ z => z⟩
  | dct xs => obtain ⟨a, vs, e, nz, ha, r⟩ := h; exact ⟨a, vs, e, nz, k _ _ ha, r.stay l st fun _ z => z⟩
  | fdc _ => exact False.elim h
  | rdn _ _ => exact False.elim h
  | _ => exact Rp.stay l st (fun _ z => z) h
theorem Sat.keep (k : ∀ a o, H a = some o → H' a = some o) (s : Sat K H Z σ ρ) : Sat K H' Z σ ρ :=
  ⟨s.len, fun i d e => by obtain ⟨v, e2, r⟩ := s.rep i d e; exact ⟨v, e2, r.keep k⟩, s.sep, fun a z n => (by
    cases q : H a with
    | none => exact s.zok a z q
    | some o => rw [k a o q] at n; cases n), s.tabs.ext k⟩
theorem Step.keep (s : Sat K H Z σ ρ) (k : ∀ a o, H a = some o → H' a = some o) : Step K σ H Z ρ σ H' Z ρ :=
  ⟨s.keep k, .of k, fun _ z => z, fun _ z => .inl z, fun _ w => .inl w, fun a o h => ⟨o, k a o h⟩⟩
/-- no tracked thing but tables of code objects has changed -/
def Mid (K : PySem.W.Frag) (H H1 : Hp) : Prop := Stay K H H1 (fun _ => False) ∧ ∀ a o, H a = some o → ∃ o', H1 a = some o'
theorem RepD.mid (m : Mid K H H') (h : RepD K H Z v d) : RepD K H' Z v d := by
  have st := m.1
  have l : Loose H Z fun _ => False := fun _ w => w.elim
  cases d with
  | lst xs => obtain ⟨a, vs, e, nz, ha, r⟩ := h; exact ⟨a, vs, e, nz, st.on _ _ ha (fun _ z => nomatch z) id, r.stay l st fun _ z => z⟩
  | dct xs => obtain ⟨a, vs, e, nz, ha, r⟩ := h; exact ⟨a, vs, e, nz, st.on _ _ ha (fun _ z => nomatch z) id, r.stay l st fun _ z => z⟩
  | fdc _ => exact False.elim h
  | rdn _ _ => exact False.elim h
  | _ => exact Rp.stay l st (fun _ z => z) h
theorem Sat.mid (m : Mid K H H') (s : Sat K H Z σ ρ) : Sat K H' Z σ ρ :=
  ⟨s.len, fun i d e => by obtain ⟨v, e2, r⟩ := s.rep i d e; exact ⟨v, e2, r.mid m⟩, s.sep, fun a z n => (by
    cases q : H a with
    | none => exact s.zok a z q
    | some o => obtain ⟨o', q'⟩ := m.2 a o q; rw [q'] at n; cases n), m.1.tabs s.tabs⟩
theorem Step.mid (s : Sat K H Z σ ρ) (m : Mid K H H') : Step K σ H Z ρ σ H' Z ρ :=
  ⟨s.mid m, m.1.mono fun _ w => w.elim, fun _ z => z, fun _ z => .inl z, fun _ w => .inl w, m.2⟩
theorem keep_upd {p : Addr} {o : HO} (n : H p = none) : ∀ a u, H a = some u → upd H p o a = some u := fun a u h => by
  rw [upd_ne (ne_of_none h n)]
  exact h
/-- what an operation hands back: a flat value as things stand, or a new object -/
def New (K : PySem.W.Frag) (H : Hp) (Z : Addr → Prop) (v : V) (d : D) (H' : Hp) : Prop :=
  (H' = H ∧ Rp K H Z v d) ∨ (∃ p o, H p = none ∧ H' = upd H p o ∧ v = .ref p ∧ RepD K H' Z v d) ∨ ∃ H1 p o, Mid K H H1 ∧ H p = none ∧ H1 p = none ∧ H' = upd H1 p o ∧ v = .ref p ∧ RepD K H' Z v d
theorem New.step (s : Sat K H Z σ ρ) (n : New K H Z v d H') : Step K σ H Z ρ σ H' Z ρ ∧ Free K H H' Z σ ρ v d := by
  rcases n with ⟨rfl, r⟩ | ⟨p, o, hp, rfl, rfl, r⟩ | ⟨H1, p, o, m, hp, hp1, rfl, rfl, r⟩
  · exact ⟨Step.refl s, .of r, fun z => by rw [r.flat] at z; cases z⟩
  · refine ⟨Step.keep s (keep_upd hp), r, fun _ => ⟨p, rfl, fun w => ?_, hp⟩⟩
    obtain ⟨_, vs, e⟩ := s.loose p w
    rw [hp] at e; cases e
  · refine ⟨(Step.mid s m).trans (Step.keep (s.mid m) (keep_upd hp1)), r, fun _ => ⟨p, rfl, fun w => ?_, hp⟩⟩
    obtain ⟨_, vs, e⟩ := s.loose p w
    rw [hp] at e; cases e
inductive Rds (K : PySem.W.Frag) (H : Hp) (Z : Addr → Prop) : List V → List D → Prop
  | nil : Rds K H Z [] []
  | cons {v : V} {d : D} {vs : List V} {ds : List D} : RepD K H Z v d → Rds K H Z vs ds → Rds K H Z (v :: vs) (d :: ds)
theorem Rds.rps : ∀ {vs : List V} {ds : List D}, Rds K H Z vs ds → ds.all D.flat = true → Rps K H Z vs ds
  | _, _, .nil, _ => .nil
  | _, _, .cons h r, f => by
    rw [List.all_cons, Bool.and_eq_true] at f
    exact .cons (h.rp f.1) (r.rps f.2)
theorem Rds.length : ∀ {vs : List V} {ds : List D}, Rds K H Z vs ds → vs.length = ds.length
  | _, _, .nil => rfl
  | _, _, .cons _ h => by rw [List.length_cons, List.length_cons, h.length]

/-! ### operands -/
inductive LRes (K : PySem.W.Frag) (H0 H : Hp) (Z : Addr → Prop) (σ : L2.St) (ρ : Mi.Env) : Es → List V → List D → Prop
  | nil : LRes K H0 H Z σ ρ .nil [] []
  | var {i : Nat} {v : V} {d : D} {es : Es} {vs : List V} {ds : List D} : σ[i]? = some (some v) → ρ[i]? = some (some d) → LRes K H0 H Z σ ρ es vs ds → LRes K H0 H Z σ ρ (.cons (.var i) es) (v :: vs) (d :: ds)
  | val {e : E} {v : V} {d : D} {es : Es} {vs : List V} {ds : List D} : e.isVar = false → Free K H0 H Z σ ρ v d →
      (d.flat = false → ∀ (k : Nat) (w : V) (x : D), vs[k]? = some w → ds[k]? = some x → x.flat = false → w ≠ v) → LRes K H0 H Z σ ρ es vs ds → LRes K H0 H Z σ ρ (.cons e es) (v :: vs) (d :: ds)
theorem LRes.imp (k : ∀ a o, H0 a = some o → ∃ o', H1 a = some o') : ∀ {es : Es} {vs : List V} {ds : List D}, LRes K H1 H Z σ ρ es vs ds → LRes K H0 H Z σ ρ es vs ds
  | _, _, _, .nil => .nil
  | _, _, _, .var a b r => .var a b (r.imp k)
  | _, _, _, .val a f b r => .val a (f.imp k) b (r.imp k)
theorem LRes.rds (s : Sat K H Z σ ρ) : ∀ {es : Es} {vs : List V} {ds : List D}, LRes K H0 H Z σ ρ es vs ds → Rds K H Z vs ds
  | _, _, _, .nil => .nil
  | _, _, _, .var a b r => by
    obtain ⟨v, e, q⟩ := s.rep _ _ b
    rw [a] at e; cases e
    exact .cons q (r.rds s)
  | _, _, _, .val _ f _ r => .cons f.1 (r.rds s)
/-- a container that no name holds and that stood ahead is none of these -/
theorem LRes.apart {a : Addr} (no : ¬ Owns σ ρ a) (st : H0 a ≠ none) : ∀ {es : Es} {vs : List V} {ds : List D}, LRes K H0 H Z σ ρ es vs ds →
    ∀ (k : Nat) (w : V) (x : D), vs[k]? = some w → ds[k]? = some x → x.flat = false → w ≠ .ref a
  | _, _, _, .nil, k, w, x, h, _, _ => by simp at h
  | _, _, _, .var (i := i) p q r, 0, w, x, h1, h2, f => fun e => by
    simp at h1 h2
    subst h1 h2 e
    exact no ⟨i, _, q, f, p⟩
  | _, _, _, .val _ fr _ r, 0, w, x, h1, h2, f => fun e => by
    simp at h1 h2
    subst h1 h2
    obtain ⟨b, e2, _, n⟩ := fr.2 f
    rw [e] at e2; cases e2
    exact st n
  | _, _, _, .var _ _ r, k + 1, w, x, h1, h2, f => r.apart no st k w x (by simpa using h1) (by simpa using h2) f
  | _, _, _, .val _ _ _ r, k + 1, w, x, h1, h2, f => r.apart no st k w x (by simpa using h1) (by simpa using h2) f
end

def Es.len : Es → Nat
  | .nil => 0
  | .cons _ es => es.len + 1
theorem LRes.len {K : PySem.W.Frag} {H H0 : Hp} {Z : Addr → Prop} {σ : L2.St} {ρ : Mi.Env} : ∀ {es : Es} {vs : List V} {ds : List D}, LRes K H0 H Z σ ρ es vs ds → ds.length = es.len
  | _, _, _, .nil => rfl
  | _, _, _, .var _ _ r => by rw [List.length_cons, r.len]; rfl
  | _, _, _, .val _ _ _ r => by rw [List.length_cons, r.len]; rfl
end Mi

/-! expressions: from the machine's rules to the small language -/
namespace Mi
open PySem PySem.Spec PyProof.Rows L2

section
variable (K : PySem.W.Frag) (W : WX) (ex : Nat → Addr)
def PostE (σ : L2.St) (H : Hp) (Z : Addr → Prop) (ρ : Mi.Env) (r : R D) (Q : VK) : Prop := match r with
  | .ok d ρ' => ∀ v H' Z', Step K σ H Z ρ σ H' Z' ρ' → Free K H H' Z' σ ρ' v d → Q v H'
  | .exc c ρ' => ∀ H' Z', Step K σ H Z ρ σ H' Z' ρ' → W (.ref (ex c)) none σ H'
  | .stk => False
def PostL (σ : L2.St) (H : Hp) (Z : Addr → Prop) (ρ : Mi.Env) (es : Es) (r : R (List D)) (k : List V → Hp → Prop) : Prop := match r with
  | .ok ds ρ' => ∀ vs H' Z', Step K σ H Z ρ σ H' Z' ρ' → LRes K H H' Z' σ ρ' es vs ds → k vs H'
  | .exc c ρ' => ∀ H' Z', Step K σ H Z ρ σ H' Z' ρ' → W (.ref (ex c)) none σ H'
  | .stk => False
variable (G : List Fn) (C : List D)
def tE (e : E) : TE := fun σ H Q => ∃ Z ρ, Sat K H Z σ ρ ∧ PostE K W ex σ H Z ρ (evalE G C e ρ) Q
def tOpd : E → TE
  | .var i => tVar i
  | e => tE K W ex G C e
def tPA : Es → TA
  | .nil => tNil
  | .cons e es => tCons (tOpd K W ex G C e) (tPA es)
end
section
variable {K : PySem.W.Frag} {W : WX} {ex : Nat → Addr} {G : List Fn} {C : List D}
theorem tOpd_val {e : E} (h : e.isVar = false) : tOpd K W ex G C e = tE K W ex G C e := by
  cases e <;> first | rfl | cases h
theorem PostE.mono {σ : L2.St} {H : Hp} {Z : Addr → Prop} {ρ : Mi.Env} {r : R D} {Q Q' : VK} (h : PostE K W ex σ H Z ρ r Q) (q : ∀ v H, Q v H → Q' v H) : PostE K W ex σ H Z ρ r Q' := by
  cases r with
  | ok d ρ' => exact fun v H' Z' s f => q _ _ (h v H' Z' s f)
  | exc c ρ' => exact h
  | stk => exact h
theorem tPA_of : ∀ (es : Es) (σ : L2.St) (H : Hp) (Z : Addr → Prop) (ρ : Mi.Env) (k : List V → Hp → Prop), Sat K H Z σ ρ → PostL K W ex σ H Z ρ es (evalL G C es ρ) k → tPA K W ex G C es σ H k
  | .nil, σ, H, Z, ρ, k, s, h => by
    unfold evalL at h
    exact h [] H Z (Step.refl s) .nil
  | .cons e es, σ, H, Z, ρ, k, s, h => by
    unfold evalL at h
    by_cases hv : e.isVar = true
    · cases e with
      | var i =>
        rw [if_pos hv] at h
        dsimp only at h
        unfold tPA
        show ∃ v, σ[i]? = some (some v) ∧ tPA K W ex G C es σ H fun xs H2 => k (v :: xs) H2
        cases q : ρ[i]? with
        | none => rw [q] at h; exact h.elim
        | some o =>
          cases o with
          | none => rw [q] at h; exact h.elim
          | some d0 =>
            obtain ⟨v, e2, _⟩ := s.rep i d0 q
            rw [q] at h
            dsimp only at h
            refine ⟨v, e2, tPA_of es σ H Z ρ _ s ?_⟩
            cases r : evalL G C es ρ with
            | ok ds ρ1 =>
              rw [r] at h
              dsimp only at h
              intro vs H' Z' st lr
              cases q1 : ρ1[i]? with
              | none => rw [q1] at h; exact h.elim
              | some o1 =>
                cases o1 with
                | none => rw [q1] at h; exact h.elim
                | some d =>
                  rw [q1] at h
                  exact h (v :: vs) H' Z' st (.var e2 q1 lr)
            | exc c ρ1 => rw [r] at h; exact h
            | stk => rw [r] at h; exact h
      | _ => cases hv
    · have hv' : e.isVar = false := by cases x : e.isVar <;> first | rfl | exact absurd x hv
      rw [if_neg hv] at h
      unfold tPA
      show tOpd K W ex G C e σ H fun x H1 => tPA K W ex G C es σ H1 fun xs H2 => k (x :: xs) H2
      rw [tOpd_val hv']
      refine ⟨Z, ρ, s, ?_⟩
      cases r : evalE G C e ρ with
      | ok d ρ1 =>
        rw [r] at h
        dsimp only at h
        intro v H1 Z1 st1 fr1
        refine tPA_of es σ H1 Z1 ρ1 _ st1.sat ?_
        cases r2 : evalL G C es ρ1 with
        | ok ds ρ2 =>
          rw [r2] at h
          intro vs H2 Z2 st2 lr
          refine h (v :: vs) H2 Z2 (st1.trans st2) (.val hv' (Free.step st1.sat st2 fr1) (fun f => ?_) (lr.imp st1.trk))
          obtain ⟨a, ea, no, _⟩ := (Free.step st1.sat st2 fr1).2 f
          rw [ea]
          refine lr.apart no ?_
          cases d with
          | lst xs =>
            obtain ⟨b, us, eb, _, hb, _⟩ := fr1.1
            rw [ea] at eb; cases eb
            rw [hb]
            exact fun z => by cases z
          | dct kvs =>
            obtain ⟨b, us, eb, _, hb, _⟩ := fr1.1
            rw [ea] at eb; cases eb
            rw [hb]
            exact fun z => by cases z
          | _ => cases f
        | exc c ρ2 =>
          rw [r2] at h
          exact fun H2 Z2 st2 => h H2 Z2 (st1.trans st2)
        | stk => rw [r2] at h; exact h.elim
      | exc c ρ1 => rw [r] at h; exact h
      | stk => rw [r] at h; exact h.elim
theorem op_use {o : Op} {es : Es} {σ : L2.St} {H : Hp} {Q : VK} {k : List V → Hp → Prop} (h : tE K W ex G C (.op o es) σ H Q)
    (hk : ∀ vs H1 Z1 ds d, (∀ a, Z1 a → H1 a ≠ none) → ds.length = es.len → Rds K H1 Z1 vs ds → opD o ds = some d → (∀ v H', New K H1 Z1 v d H' → Q v H') → k vs H1) : tPA K W ex G C es σ H k := by
  obtain ⟨Z, ρ, s, h⟩ := h
  refine tPA_of es σ H Z ρ k s ?_
  unfold evalE at h
  cases r : evalL G C es ρ with
  | ok ds ρ1 =>
    rw [r] at h
    dsimp only at h
    intro vs H1 Z1 st lr
    cases q : opD o ds with
    | none => rw [q] at h; exact h.elim
    | some d =>
      rw [q] at h
      refine hk vs H1 Z1 ds d st.sat.zok lr.len (lr.rds st.sat) q fun v H' n => ?_
      obtain ⟨st2, fr⟩ := New.step st.sat n
      exact h v H' Z1 (st.trans st2) (fr.imp st.trk)
  | exc c ρ1 => rw [r] at h; exact h
  | stk => rw [r] at h; exact h.elim
end
theorem pe_weak {X : Cx} {e : Expr} {t t' : TE} (h : PE X e t) (w : ∀ σ H Q, t' σ H Q → t σ H Q) : PE X e t' := ⟨fun pins s σ H Q I q => h.run pins s σ H Q I (w σ H Q q)⟩
theorem pt_weak {X : Cx} {e : Expr} {t t' : TT} (h : PT X e t) (w : ∀ σ H Q, t' σ H Q → t σ H Q) : PT X e t' := ⟨fun pins s σ H Q I q => h.run pins s σ H Q I (w σ H Q q)⟩
theorem ps_weak {X : Cx} {e : Stmt} {t t' : TS} (h : PS X e t) (w : ∀ D σ H, t' D σ H → t D σ H) : PS X e t' := ⟨fun pins s σ H D I q => h.run pins s σ H D I (w D σ H q)⟩
theorem pss_weak {X : Cx} {e : List Stmt} {t t' : TS} (h : PSs X e t) (w : ∀ D σ H, t' D σ H → t D σ H) : PSs X e t' := ⟨fun pins s σ H D I q => h.run pins s σ H D I (w D σ H q)⟩

theorem sz_line : SZ = sizeLine := by rw [sizeLine_eq]; rfl
theorem rng_line {n : Nat} (h : n ≤ SZ) : n ≤ sizeLine := by rw [← sz_line]; exact h

/-! ### what holds around -/
/-- two operands: the rule of an operation by values, at data -/
def BinOk (X : Cx) (o : Op) (r : R2) : Prop := ∀ (x y : V) (H : Hp) (Z : Addr → Prop) (a b d : D) (Q : VK), (∀ a, Z a → H a ≠ none) → RepD X.K H Z x a → RepD X.K H Z y b → opD o [a, b] = some d → (∀ v H', New X.K H Z v d H' → Q v H') → r x y H Q
section
variable {X : Cx} {W : WX} {ex : Nat → Addr} {G : List Fn} {C : List D} {a b : Expr} {ea eb : E} {pos : Pos}
theorem two {o : Op} {r : R2} (ok : BinOk X o r) {σ : L2.St} {H : Hp} {Q : VK} (h : tE X.K W ex G C (.op o (.cons ea (.cons eb .nil))) σ H Q) : tOp r (tOpd X.K W ex G C ea) (tOpd X.K W ex G C eb) σ H Q := by
  exact op_use (k := fun vs H2 => match vs with
    | [x, y] => r x y H2 Q
    | _ => False) h fun vs H1 Z1 ds d zk hl rd e q => by
      match rd with
      | .nil => simp [Es.len] at hl
      | .cons h1 .nil => simp [Es.len] at hl
      | .cons h1 (.cons h2 .nil) => exact ok _ _ _ _ _ _ _ _ zk h1 h2 e q
      | .cons h1 (.cons h2 (.cons h3 rd)) => simp [Es.len] at hl
theorem rep_int {K : PySem.W.Frag} {H : Hp} {Z : Addr → Prop} {x : V} {i : Int} (h : RepD K H Z x (.int i)) : x = .int i := by cases h; rfl
theorem rep_bl {K : PySem.W.Frag} {H : Hp} {Z : Addr → Prop} {x : V} {i : Bool} (h : RepD K H Z x (.bl i)) : x = .bl i := by cases h; rfl
theorem rep_str {K : PySem.W.Frag} {H : Hp} {Z : Addr → Prop} {x : V} {i : List Nat} (h : RepD K H Z x (.str i)) : x = .str (strV i) := by cases h; rfl
theorem rep_non {K : PySem.W.Frag} {H : Hp} {Z : Addr → Prop} {x : V} (h : RepD K H Z x .non) : x = .non := by cases h; rfl
theorem rep_tup {K : PySem.W.Frag} {H : Hp} {Z : Addr → Prop} {x : V} {xs : List D} (h : RepD K H Z x (.tup xs)) : ∃ a vs, x = .ref a ∧ SqT K H a vs ∧ Rps K H Z vs xs := by
  cases h with | tup h r => exact ⟨_, _, rfl, h, r⟩
theorem rep_fls {K : PySem.W.Frag} {H : Hp} {Z : Addr → Prop} {x : V} {xs : List D} (h : RepD K H Z x (.fls xs)) : ∃ a vs, x = .ref a ∧ (Z a ∨ SqK K a vs) ∧ SqL K H a vs ∧ Rps K H Z vs xs := by
  cases h with | fls z h r => exact ⟨_, _, rfl, z, h, r⟩
theorem rep_lst {K : PySem.W.Frag} {H : Hp} {Z : Addr → Prop} {x : V} {xs : List D} (h : RepD K H Z x (.lst xs)) : ∃ a vs, x = .ref a ∧ ¬ Z a ∧ H a = some (.lst vs) ∧ Rps K H Z vs xs := h
theorem new_flat {K : PySem.W.Frag} {H : Hp} {Z : Addr → Prop} {v : V} {d : D} (h : Rp K H Z v d) : New K H Z v d H := .inl ⟨rfl, h⟩
theorem Rps.upd {K : PySem.W.Frag} {H : Hp} {Z : Addr → Prop} {vs : List V} {ds : List D} {p : Addr} {o : HO} (n : H p = none) (r : Rps K H Z vs ds) : Rps K (upd H p o) Z vs ds :=
  r.stay (W := fun _ => False) (fun _ w => w.elim) (.of (keep_upd n)) fun _ z => z
theorem new_tup {K : PySem.W.Frag} {H : Hp} {Z : Addr → Prop} {vs : List V} {ds : List D} {p : Addr} (n : H p = none) (r : Rps K H Z vs ds) : New K H Z (.ref p) (.tup ds) (upd H p (.tup vs)) :=
  .inr (.inl ⟨p, _, n, rfl, rfl, Rp.tup (.of upd_same) (r.upd n)⟩)
theorem new_lst {K : PySem.W.Frag} {H : Hp} {Z : Addr → Prop} {vs : List V} {ds : List D} {p : Addr} (z : ∀ a, Z a → H a ≠ none) (n : H p = none) (r : Rps K H Z vs ds) : New K H Z (.ref p) (.lst ds) (upd H p (.lst vs)) :=
  .inr (.inl ⟨p, _, n, rfl, rfl, ⟨p, vs, rfl, fun h => z p h n, upd_same, r.upd n⟩⟩)
end
end Mi

/-! operations on values, at data -/
namespace Mi
open PySem PySem.Spec PyProof.Rows L2
section
variable {X : Cx} {W : WX} {ex : Nat → Addr} {G : List Fn} {C : List D} {a b : Expr} {ea eb : E} {pos : Pos}
theorem strV_append (x y : List Nat) : strV x ++ strV y = strV (x ++ y) := by
  show (⟨x.toArray ++ y.toArray⟩ : Str) = ⟨(x ++ y).toArray⟩
  rw [List.append_toArray]
theorem strV_len (x : List Nat) : (strV x).length = x.length := by simp [Str.length]
/-- a list and a list, frozen ones too -/
def rCatF (K : PySem.W.Frag) : R2 := fun x y H Q => ∃ l b xs zs, x = .ref l ∧ y = .ref b ∧ SqL K H l xs ∧ SqL K H b zs ∧ xs.length + zs.length ≤ sizeLine ∧ ∀ p, H p = none → Q (.ref p) (upd H p (.lst (xs ++ zs)))
theorem op_catF : OpR X (binaryOp .Add) (rCatF X.K) := by
  intro pins s σ H x y v u Q I rx ry h
  obtain ⟨l, b, xs, zs, rfl, rfl, hH, hB, hz, q⟩ := h
  cases rx
  cases ry
  obtain ⟨its, r, ⟨⟨cls, dd, data, sl⟩, n, e, hc, _, hd⟩, _⟩ := I.list hH
  obtain ⟨its2, r2, ⟨⟨cls2, dd2, data2, sl2⟩, n2, e2, hc2, _, hd2⟩, _⟩ := I.list hB
  simp only at hc hd hc2 hd2
  subst hc hd hc2 hd2
  have l1 := r.length
  have l2 := r2.length
  have ea : its.toArray ++ its2.toArray = (its ++ its2).toArray := by simp
  refine concat_meets ⟨_, e, rfl⟩ ⟨_, e2, rfl⟩ noFill_list_add seq_list_add PySem.F.slot_list_add PySem.F.entry_list_add (PySem.F.args_list_add_2 _ _) (list_addW l b its.toArray its2.toArray n n2 dd dd2 sl sl2 (by rw [List.size_toArray, List.size_toArray]; omega)) ⟨e, e2, ?_⟩
  rw [ea]
  exact ⟨.ref _, _, I.lnew (t' := s.toks) (r.append r2) (by rw [List.length_append]; omega), rfl, q _ I.fresh⟩
theorem rep_fls4 {K : PySem.W.Frag} {H : Hp} {Z : Addr → Prop} {v : V} {xs : List D} (h : RepD K H Z v (.fls xs)) : ∃ a vs, v = .ref a ∧ SqL K H a vs ∧ Rps K H Z vs xs := by
  have h : Rp K H Z v (.fls xs) := h
  cases h with
  | fls h1 h2 h3 => exact ⟨_, _, rfl, h2, h3⟩
theorem ok_add : BinOk X (.bin .add) (fun x y H Q => rI0 (fun i j => .int (i + j)) x y H Q ∨ ((∃ i j, x = .str i ∧ y = .str j ∧ i.length + j.length ≤ sizeLine ∧ Q (.str (i ++ j)) H) ∨ (rCatA X.K x y H Q ∨ rCatF X.K x y H Q))) := by
  intro x y H Z a b d Q zk ra rb e q
  cases a <;> cases b <;> try (cases e)
  case int.int.refl i j => exact .inl ⟨i, j, rep_int ra, rep_int rb, q _ _ (new_flat (.int _))⟩
  case str.str i j =>
    have e' : (if i.length + j.length ≤ SZ then some (D.str (i ++ j)) else none) = some d := e
    split at e'
    · rename_i hz
      cases e'
      refine .inr (.inl ⟨strV i, strV j, rep_str ra, rep_str rb, ?_, ?_⟩)
      · rw [strV_len, strV_len]; exact rng_line hz
      · rw [strV_append]; exact q _ _ (new_flat (.str _))
    · cases e'
  case tup.tup xs ys =>
    have e' : (if xs.length + ys.length ≤ SZ then some (D.tup (xs ++ ys)) else none) = some d := e
    split at e'
    · rename_i hz
      cases e'
      obtain ⟨p, vs, rfl, hp, r1⟩ := rep_tup ra
      obtain ⟨p2, ws, rfl, hp2, r2⟩ := rep_tup rb
      have l1 := r1.length
      have l2 := r2.length
      refine .inr (.inr (.inl ⟨p, p2, vs, ws, rfl, rfl, hp, hp2, ?_, fun z => ?_, fun _ z => ?_, fun _ _ p3 n => q _ _ (new_tup n (r1.append r2))⟩))
      · rw [l1, l2]; exact rng_line hz
      · subst z
        have z2 : xs = [] := List.length_eq_zero_iff.mp l1.symm
        subst z2
        exact q _ _ (new_flat (.tup hp2 r2))
      · subst z
        have z2 : ys = [] := List.length_eq_zero_iff.mp l2.symm
        subst z2
        rw [List.append_nil] at q
        exact q _ _ (new_flat (.tup hp r1))
    · cases e'
  case lst.lst xs ys =>
    have e' : (if xs.length + ys.length ≤ SZ then some (D.lst (xs ++ ys)) else none) = some d := e
    split at e'
    · rename_i hz
      cases e'
      obtain ⟨p, vs, rfl, z1, hp, r1⟩ := rep_lst ra
      obtain ⟨p2, ws, rfl, z2, hp2, r2⟩ := rep_lst rb
      have l1 := r1.length
      have l2 := r2.length
      refine .inr (.inr (.inr ⟨p, p2, vs, ws, rfl, rfl, SqL.of hp, SqL.of hp2, ?_, fun p3 n => q _ _ (new_lst zk n (r1.append r2))⟩))
      rw [l1, l2]; exact rng_line hz
    · cases e'
  case lst.fls xs ys =>
    have e' : (if xs.length + ys.length ≤ SZ then some (D.lst (xs ++ ys)) else none) = some d := e
    split at e'
    · rename_i hz
      cases e'
      obtain ⟨p, vs, rfl, z1, hp, r1⟩ := rep_lst ra
      obtain ⟨p2, ws, rfl, hp2, r2⟩ := rep_fls4 rb
      have l1 := r1.length
      have l2 := r2.length
      refine .inr (.inr (.inr ⟨p, p2, vs, ws, rfl, rfl, SqL.of hp, hp2, ?_, fun p3 n => q _ _ (new_lst zk n (r1.append r2))⟩))
      rw [l1, l2]; exact rng_line hz
    · cases e'
  case fls.lst xs ys =>
    have e' : (if xs.length + ys.length ≤ SZ then some (D.lst (xs ++ ys)) else none) = some d := e
    split at e'
    · rename_i hz
      cases e'
      obtain ⟨p, vs, rfl, hp, r1⟩ := rep_fls4 ra
      obtain ⟨p2, ws, rfl, z2, hp2, r2⟩ := rep_lst rb
      have l1 := r1.length
      have l2 := r2.length
      refine .inr (.inr (.inr ⟨p, p2, vs, ws, rfl, rfl, hp, SqL.of hp2, ?_, fun p3 n => q _ _ (new_lst zk n (r1.append r2))⟩))
      rw [l1, l2]; exact rng_line hz
    · cases e'
  case fls.fls xs ys =>
    have e' : (if xs.length + ys.length ≤ SZ then some (D.lst (xs ++ ys)) else none) = some d := e
    split at e'
    · rename_i hz
      cases e'
      obtain ⟨p, vs, rfl, hp, r1⟩ := rep_fls4 ra
      obtain ⟨p2, ws, rfl, hp2, r2⟩ := rep_fls4 rb
      have l1 := r1.length
      have l2 := r2.length
      refine .inr (.inr (.inr ⟨p, p2, vs, ws, rfl, rfl, hp, hp2, ?_, fun p3 n => q _ _ (new_lst zk n (r1.append r2))⟩))
      rw [l1, l2]; exact rng_line hz
    · cases e'
theorem pe_addD (ha : PE X a (tOpd X.K W ex G C ea)) (hb : PE X b (tOpd X.K W ex G C eb)) : PE X (.BinOp a .Add b pos) (tE X.K W ex G C (.op (.bin .add) (.cons ea (.cons eb .nil)))) :=
  pe_weak (pe_op (op_add.or (op_add_str.or (op_catA.or op_catF))) ha hb) fun σ H Q h => two ok_add h
theorem ok_sub : BinOk X (.bin .sub) (rI0 fun i j => .int (i - j)) := by
  intro x y H Z a b d Q zk ra rb e q
  cases a <;> cases b <;> try (cases e)
  case int.int.refl i j => exact ⟨i, j, rep_int ra, rep_int rb, q _ _ (new_flat (.int _))⟩
theorem pe_subD (ha : PE X a (tOpd X.K W ex G C ea)) (hb : PE X b (tOpd X.K W ex G C eb)) : PE X (.BinOp a .Sub b pos) (tE X.K W ex G C (.op (.bin .sub) (.cons ea (.cons eb .nil)))) :=
  pe_weak (pe_op op_sub ha hb) fun σ H Q h => two ok_sub h
theorem ok_fdiv : BinOk X (.bin .fdiv) (rI CDivN fun i j => .int (i.fdiv j)) := by
  intro x y H Z a b d Q zk ra rb e q
  cases a <;> cases b <;> try (cases e)
  case int.int i j =>
    have e' : (if j ≠ 0 ∧ j.natAbs < 1073741824 then some (D.int (i.fdiv j)) else none) = some d := e
    split at e'
    · rename_i hz
      cases e'
      exact ⟨i, j, rep_int ra, rep_int rb, hz, q _ _ (new_flat (.int _))⟩
    · cases e'
theorem pe_fdivD (ha : PE X a (tOpd X.K W ex G C ea)) (hb : PE X b (tOpd X.K W ex G C eb)) : PE X (.BinOp a .FloorDiv b pos) (tE X.K W ex G C (.op (.bin .fdiv) (.cons ea (.cons eb .nil)))) :=
  pe_weak (pe_op op_fdivN ha hb) fun σ H Q h => two ok_fdiv h
theorem ok_mod : BinOk X (.bin .mod) (rI (fun _ j => j ≠ 0) fun i j => .int (i.fmod j)) := by
  intro x y H Z a b d Q zk ra rb e q
  cases a <;> cases b <;> try (cases e)
  case int.int i j =>
    have e' : (if j ≠ 0 then some (D.int (i.fmod j)) else none) = some d := e
    split at e'
    · rename_i hz
      cases e'
      exact ⟨i, j, rep_int ra, rep_int rb, hz, q _ _ (new_flat (.int _))⟩
    · cases e'
theorem pe_modD (ha : PE X a (tOpd X.K W ex G C ea)) (hb : PE X b (tOpd X.K W ex G C eb)) : PE X (.BinOp a .Mod b pos) (tE X.K W ex G C (.op (.bin .mod) (.cons ea (.cons eb .nil)))) :=
  pe_weak (pe_op op_modN ha hb) fun σ H Q h => two ok_mod h
theorem ok_pow : BinOk X (.bin .pow) (rI CPow fun i j => .int (i ^ j.toNat)) := by
  intro x y H Z a b d Q zk ra rb e q
  cases a <;> cases b <;> try (cases e)
  case int.int i j =>
    have e' : (if 0 ≤ j ∧ j ≤ 1000 ∧ small64 i = true then some (D.int (i ^ j.toNat)) else none) = some d := e
    split at e'
    · rename_i hz
      cases e'
      have h2 := of_decide_eq_true hz.2.2
      exact ⟨i, j, rep_int ra, rep_int rb, ⟨hz.1, by omega, by omega⟩, q _ _ (new_flat (.int _))⟩
    · cases e'
theorem pe_powD (ha : PE X a (tOpd X.K W ex G C ea)) (hb : PE X b (tOpd X.K W ex G C eb)) : PE X (.BinOp a .Pow b pos) (tE X.K W ex G C (.op (.bin .pow) (.cons ea (.cons eb .nil)))) :=
  pe_weak (pe_op op_pow ha hb) fun σ H Q h => two ok_pow h

theorem foldl_app (x : Array Nat) : ∀ (n : Nat) (acc : Array Nat), ((List.replicate n x).foldl (· ++ ·) acc).toList = acc.toList ++ (List.replicate n x.toList).flatten
  | 0, acc => by simp
  | n + 1, acc => by
    rw [List.replicate_succ, List.foldl_cons, foldl_app x n, List.replicate_succ, List.flatten_cons]
    simp
theorem txt_mul (x : List Nat) (j : Int) : Txt.mul (strV x) j = strV (List.replicate j.toNat x).flatten := by
  unfold Txt.mul
  by_cases h : j < 1
  · rw [if_pos h]
    have e : j.toNat = 0 := by omega
    rw [e]
    rfl
  · rw [if_neg h]
    by_cases h2 : (j == 1 || (strV x).length == 0) = true
    · rw [if_pos h2]
      rw [Bool.or_eq_true, beq_iff_eq, beq_iff_eq] at h2
      rcases h2 with h2 | h2
      · subst h2
        have e : (List.replicate (1 : Int).toNat x).flatten = x := by
          show (List.replicate 1 x).flatten = x
          simp
        rw [e]
      · rw [strV_len] at h2
        have e : x = [] := List.length_eq_zero_iff.mp h2
        subst e
        simp
    · rw [if_neg h2]
      have e := foldl_app (strV x).cps j.toNat #[]
      have e2 : ((List.replicate j.toNat (strV x).cps).foldl (· ++ ·) #[]) = ((List.replicate j.toNat x).flatten).toArray := by
        apply Array.toList_inj.mp
        rw [e]
        simp
      rw [e2]
def rRepS : R2 := fun x y H Q => ∃ z j, x = .str z ∧ y = .int j ∧ MulOk z j ∧ Q (.str (Txt.mul z j)) H
theorem op_rep_str : OpR X (binaryOp .Mult) rRepS := by
  intro pins s σ H x y v u Q I rx ry h
  obtain ⟨z, j, rfl, rfl, ok, q⟩ := h
  obtain ⟨t, rfl⟩ := rx
  obtain ⟨t', rfl⟩ := ry
  exact SB.mul ok fun t' k => ⟨.str (Txt.mul z j), H, I.tok k, ⟨_, rfl⟩, q⟩
theorem Rps.rep {K : PySem.W.Frag} {H : Hp} {Z : Addr → Prop} {vs : List V} {ds : List D} (r : Rps K H Z vs ds) : ∀ n : Nat, Rps K H Z (List.replicate n vs).flatten (List.replicate n ds).flatten
  | 0 => .nil
  | n + 1 => by
    rw [List.replicate_succ, List.replicate_succ, List.flatten_cons, List.flatten_cons]
    exact r.append (r.rep n)
theorem ok_mul : BinOk X (.bin .mul) (fun x y H Q => rI CMul (fun i j => .int (i * j)) x y H Q ∨ (rRepS x y H Q ∨ (rRep x y H Q ∨ rRepT X.K x y H Q))) := by
  intro x y H Z a b d Q zk ra rb e q
  cases a <;> cases b <;> try (cases e)
  case int.int i j =>
    have e' : (if small64 i || small64 j then some (D.int (i * j)) else none) = some d := e
    split at e'
    · rename_i hz
      cases e'
      refine .inl ⟨i, j, rep_int ra, rep_int rb, ?_, q _ _ (new_flat (.int _))⟩
      rw [Bool.or_eq_true] at hz
      rcases hz with hz | hz
      · exact .inl (of_decide_eq_true hz)
      · exact .inr (of_decide_eq_true hz)
    · cases e'
  case str.int z j =>
    have e' : (if -1000000 ≤ j ∧ j ≤ 1000000 ∧ z.length * j.toNat ≤ SZ then some (D.str (List.replicate j.toNat z).flatten) else none) = some d := e
    split at e'
    · rename_i hz
      cases e'
      refine .inr (.inl ⟨strV z, j, rep_str ra, rep_int rb, ?_, ?_⟩)
      · exact mulOk_of z.length j.toNat (by rw [strV_len]; exact Nat.le_refl _) (by omega) (by omega) (by omega) (by have := hz.2.2; unfold SZ at this; exact this)
      · rw [txt_mul]; exact q _ _ (new_flat (.str _))
    · cases e'
  case lst.int z j =>
    have e' : (if -1000000 ≤ j ∧ j ≤ 1000000 ∧ z.length * j.toNat ≤ SZ then some (D.lst (List.replicate j.toNat z).flatten) else none) = some d := e
    split at e'
    · rename_i hz
      cases e'
      obtain ⟨p, vs, rfl, z1, hp, r1⟩ := rep_lst ra
      refine .inr (.inr (.inl ⟨p, j, vs, rfl, rep_int rb, hp, by omega, by omega, ?_, fun p2 n => q _ _ (new_lst zk n (r1.rep _))⟩))
      rw [r1.length]; exact rng_line hz.2.2
    · cases e'
  case tup.int z j =>
    have e' : (if 0 < z.length ∧ 2 ≤ j ∧ j ≤ 1000 ∧ z.length ≤ 1000 then some (D.tup (List.replicate j.toNat z).flatten) else none) = some d := e
    split at e'
    · rename_i hz
      cases e'
      obtain ⟨p, vs, rfl, hp, r1⟩ := rep_tup ra
      have hl := r1.length
      refine .inr (.inr (.inr ⟨p, j, vs, rfl, rep_int rb, hp, fun z => ?_, hz.2.1, hz.2.2.1, by omega, fun p2 n => q _ _ (new_tup n (r1.rep _))⟩))
      rw [z] at hl
      have := hz.1
      rw [← hl] at this
      cases this
    · cases e'
theorem pe_mulD (ha : PE X a (tOpd X.K W ex G C ea)) (hb : PE X b (tOpd X.K W ex G C eb)) : PE X (.BinOp a .Mult b pos) (tE X.K W ex G C (.op (.bin .mul) (.cons ea (.cons eb .nil)))) :=
  pe_weak (pe_op (op_mul.or (op_rep_str.or (op_rep.or op_repT))) ha hb) fun σ H Q h => two ok_mul h

/-! ### == -/
theorem strV_inj {x y : List Nat} (h : strV x = strV y) : x = y := by
  have h2 : x.toArray = y.toArray := congrArg Str.cps h
  exact congrArg Array.toList h2
theorem strV_beq (x y : List Nat) : (strV x == strV y) = (x == y) := by
  rw [Bool.eq_iff_iff, beq_iff_eq, beq_iff_eq]
  exact ⟨strV_inj, fun e => by rw [e]⟩
theorem Inv.isTuple {pins : List (Addr × Obj)} {σ : L2.St} {H : Hp} {s : Shared} {a : Addr} {vs : List V} (I : Inv X pins σ H s) (h : SqT X.K H a vs) : ∃ its : List Value, Vals vs its ∧ s.heap.IsTuple a its.toArray := by
  obtain ⟨its, rv, ⟨o, ho, hc, n, hd⟩, _⟩ := I.tuple h
  exact ⟨its, rv, o, ho, hc, n, hd⟩
mutual
theorem D.peq_self (n : Nat) : ∀ d : D, d.okD n = true → D.peq d d = true
  | .non, _ => rfl
  | .bl b, _ => by simp [D.peq]
  | .int b, _ => by simp [D.peq]
  | .str b, _ => by simp [D.peq]
  | .tup xs, h => by
    cases n with
    | zero => cases h
    | succ n => unfold D.peq; exact D.peqs_self n xs h
  | .lst xs, h => by
    cases n with
    | zero => cases h
    | succ n => unfold D.peq; exact D.peqs_self n xs h
  | .fls xs, h => by
    cases n with
    | zero => cases h
    | succ n => unfold D.peq; exact D.peqs_self n xs h
  | .rng _ _, h => by cases n <;> cases h
  | .dct _, h => by cases n <;> cases h
  | .fdc _, h => by cases n <;> cases h
  | .rdn _ _, h => by cases n <;> cases h
  | .obj _ _, h => by cases n <;> cases h
theorem D.peqs_self (n : Nat) : ∀ xs : List D, xs.all (D.okD n) = true → D.peqs xs xs = true
  | [], _ => rfl
  | x :: xs, h => by
    rw [List.all_cons, Bool.and_eq_true] at h
    unfold D.peqs
    rw [D.peq_self n x h.1, D.peqs_self n xs h.2]
    rfl
end
end
end Mi

/-! == of data -/
namespace Mi
open PySem PySem.Spec PyProof.Rows L2
theorem okD_succ (n : Nat) : ∀ (m : Nat) (d : D), m ≤ n → d.okD m = true → d.okD n = true := by
  induction n with
  | zero =>
    intro m d h e
    have : m = 0 := by omega
    subst this; exact e
  | succ n ih =>
    intro m d h e
    cases d with
    | tup xs =>
      cases m with
      | zero => cases e
      | succ m =>
        unfold D.okD at e ⊢
        rw [List.all_eq_true] at e ⊢
        exact fun x hx => ih m x (by omega) (e x hx)
    | lst xs =>
      cases m with
      | zero => cases e
      | succ m =>
        unfold D.okD at e ⊢
        rw [List.all_eq_true] at e ⊢
        exact fun x hx => ih m x (by omega) (e x hx)
    | fls xs =>
      cases m with
      | zero => cases e
      | succ m =>
        unfold D.okD at e ⊢
        rw [List.all_eq_true] at e ⊢
        exact fun x hx => ih m x (by omega) (e x hx)
    | rng _ _ => cases m <;> cases e
    | dct _ => cases m <;> cases e
    | fdc _ => cases m <;> cases e
    | rdn _ _ => cases m <;> cases e
    | obj _ _ => cases m <;> cases e
    | _ => rfl
def pj (xs ys : List D) (j : Nat) : Bool := match xs[j]?, ys[j]? with
  | some a, some b => D.peq a b
  | _, _ => false
theorem peqs_range : ∀ xs ys : List D, xs.length = ys.length → D.peqs xs ys = (List.range xs.length).all (pj xs ys)
  | [], [], _ => by unfold D.peqs; rfl
  | x :: xs, y :: ys, h => by
    unfold D.peqs
    rw [peqs_range xs ys (by simpa using h), List.length_cons, List.range_succ_eq_map, List.all_cons, List.all_map]
    rfl
  | [], _ :: _, h => by simp at h
  | _ :: _, [], h => by simp at h
theorem peqs_len : ∀ xs ys : List D, xs.length ≠ ys.length → D.peqs xs ys = false
  | [], [], h => absurd rfl h
  | x :: xs, y :: ys, h => by
    unfold D.peqs
    rw [peqs_len xs ys (fun e => h (by simp [e])), Bool.and_false]
  | [], _ :: _, _ => by unfold D.peqs; rfl
  | _ :: _, [], _ => by unfold D.peqs; rfl
/-- a list, to be read -/
def RepQ (K : PySem.W.Frag) (H : Hp) (Z : Addr → Prop) (v : V) (xs : List D) : Prop := ∃ a vs, v = .ref a ∧ SqL K H a vs ∧ Rps K H Z vs xs
section
variable {K : PySem.W.Frag} {H : Hp} {Z : Addr → Prop} {v u : V} {d e : D} {xs ys : List D}
theorem RepQ.of_lst (h : RepD K H Z v (.lst xs)) : RepQ K H Z v xs := by
  obtain ⟨a, vs, e, _, ha, r⟩ := h
  exact ⟨a, vs, e, .of ha, r⟩
theorem RepQ.of_fls (h : RepD K H Z v (.fls xs)) : RepQ K H Z v xs := by
  obtain ⟨a, vs, e, _, ha, r⟩ := rep_fls h
  exact ⟨a, vs, e, ha, r⟩
variable {X : Cx} {pins : List (Addr × Obj)} {σ : L2.St} {s : Shared}
theorem same_list {a : Addr} {vs ws : List V} (I : Inv X pins σ H s) (h : SqL X.K H a vs) (h' : SqL X.K H a ws) : vs = ws := I.list_inj h h'
theorem no_both {a : Addr} {vs ws : List V} (I : Inv X pins σ H s) (h : SqL X.K H a vs) (h' : SqT X.K H a ws) : False := by
  obtain ⟨its, _, hl, _⟩ := I.list h
  obtain ⟨its2, _, ht⟩ := Inv.isTuple I h'
  exact SeqAt.ne_of_list_tuple hl.isList ht rfl
theorem peqs_same (f : ∀ (v : V) (d e : D), Rp X.K H Z v d → Rp X.K H Z v e → d ∈ xs → e ∈ ys → D.peq d e = true) : ∀ {vs : List V}, Rps X.K H Z vs xs → Rps X.K H Z vs ys → D.peqs xs ys = true := by
  intro vs r1 r2
  rw [peqs_range _ _ (r1.length.symm.trans r2.length), List.all_eq_true]
  intro j hj
  have hj' : j < xs.length := by simpa using hj
  have hj2 : j < ys.length := by rw [← r2.length, r1.length]; exact hj'
  have hjv : j < vs.length := by rw [r1.length]; exact hj'
  obtain ⟨d, e1, h1⟩ := r1.get (List.getElem?_eq_getElem hjv)
  obtain ⟨e, e2, h2⟩ := r2.get (List.getElem?_eq_getElem hjv)
  unfold pj
  rw [e1, e2]
  exact f _ _ _ h1 h2 (List.mem_of_getElem? e1) (List.mem_of_getElem? e2)
theorem peq_same (I : Inv X pins σ H s) : ∀ (n : Nat) (v : V) (d e : D), RepD X.K H Z v d → RepD X.K H Z v e → d.okD n = true → e.okD n = true → D.peq d e = true := by
  intro n
  induction n with
  | zero =>
    intro v d e h1 h2 o1 o2
    cases d <;> first | (cases o1; done) | skip
    all_goals (cases e <;> first | (cases o2; done) | skip)
    all_goals first
      | (cases rep_int h1; cases rep_int h2; simp [D.peq]; done)
      | (cases rep_bl h1; cases rep_bl h2; simp [D.peq]; done)
      | (cases rep_non h1; cases rep_non h2; simp [D.peq]; done)
      | (have e1 := rep_str h1; have e2 := rep_str h2; rw [e1] at e2; have e3 := strV_inj (V.str.inj e2); subst e3; simp [D.peq]; done)
      | (cases h1; cases h2; done)
      | (cases h1; done)
  | succ n ih =>
    intro v d e h1 h2 o1 o2
    have lists : ∀ xs ys : List D, RepQ X.K H Z v xs → RepQ X.K H Z v ys → xs.all (D.okD n) = true → ys.all (D.okD n) = true → D.peqs xs ys = true := by
      intro xs ys q1 q2 p1 p2
      obtain ⟨a, vs, rfl, l1, r1⟩ := q1
      obtain ⟨b, ws, eb, l2, r2⟩ := q2
      cases eb
      have ev := same_list I l1 l2
      subst ev
      rw [List.all_eq_true] at p1 p2
      exact peqs_same (fun v d e k1 k2 m1 m2 => ih v d e (.of k1) (.of k2) (p1 d m1) (p2 e m2)) r1 r2
    cases d with
    | tup xs =>
      obtain ⟨a, vs, rfl, l1, r1⟩ := rep_tup h1
      cases e with
      | tup ys =>
        obtain ⟨b, ws, eb, l2, r2⟩ := rep_tup h2
        cases eb
        have ev := I.tuple_inj l1 l2
        subst ev
        unfold D.okD at o1 o2
        rw [List.all_eq_true] at o1 o2
        unfold D.peq
        exact peqs_same (fun v d e k1 k2 m1 m2 => ih v d e (.of k1) (.of k2) (o1 d m1) (o2 e m2)) r1 r2
      | lst ys => obtain ⟨b, ws, eb, l2, r2⟩ := RepQ.of_lst h2; cases eb; exact (no_both I l2 l1).elim
      | fls ys => obtain ⟨b, ws, eb, l2, r2⟩ := RepQ.of_fls h2; cases eb; exact (no_both I l2 l1).elim
      | rng _ _ => cases o2
      | dct _ => cases o2
      | obj _ _ => cases o2
      | fdc _ => exact False.elim h2
      | rdn _ _ => exact False.elim h2
      | _ => cases h2
    | lst xs =>
      have q1 := RepQ.of_lst h1
      cases e with
      | lst ys => exact lists _ _ q1 (RepQ.of_lst h2) o1 o2
      | fls ys => exact lists _ _ q1 (RepQ.of_fls h2) o1 o2
      | tup ys => obtain ⟨b, ws, eb, l2, r2⟩ := rep_tup h2; obtain ⟨a, vs, ea, l1, r1⟩ := q1; rw [ea] at eb; cases eb; exact (no_both I l1 l2).elim
      | rng _ _ => cases o2
      | dct _ => cases o2
      | obj _ _ => cases o2
      | fdc _ => exact False.elim h2
      | rdn _ _ => exact False.elim h2
      | _ => obtain ⟨a, vs, ea, l1, r1⟩ := q1; subst ea; cases h2
    | fls xs =>
      have q1 := RepQ.of_fls h1
      cases e with
      | lst ys => exact lists _ _ q1 (RepQ.of_lst h2) o1 o2
      | fls ys => exact lists _ _ q1 (RepQ.of_fls h2) o1 o2
      | tup ys => obtain ⟨b, ws, eb, l2, r2⟩ := rep_tup h2; obtain ⟨a, vs, ea, l1, r1⟩ := q1; rw [ea] at eb; cases eb; exact (no_both I l1 l2).elim
      | rng _ _ => cases o2
      | dct _ => cases o2
      | obj _ _ => cases o2
      | fdc _ => exact False.elim h2
      | rdn _ _ => exact False.elim h2
      | _ => obtain ⟨a, vs, ea, l1, r1⟩ := q1; subst ea; cases h2
    | rng _ _ => cases o1
    | dct _ => cases o1
    | obj _ _ => cases o1
    | fdc _ => exact False.elim h1
    | rdn _ _ => exact False.elim h1
    | non =>
      cases rep_non h1
      cases e <;> first | rfl | (exact False.elim h2) | (cases o2; done) | (cases h2; done) | (obtain ⟨_, _, z, _⟩ := RepQ.of_lst h2; cases z)
    | bl b =>
      cases rep_bl h1
      cases e <;> first | (exact False.elim h2) | (cases o2; done) | (cases h2; done) | (cases h2; simp [D.peq]; done) | (obtain ⟨_, _, z, _⟩ := RepQ.of_lst h2; cases z)
    | int b =>
      cases rep_int h1
      cases e <;> first | (exact False.elim h2) | (cases o2; done) | (cases h2; done) | (cases h2; simp [D.peq]; done) | (obtain ⟨_, _, z, _⟩ := RepQ.of_lst h2; cases z)
    | str b =>
      have e1 := rep_str h1
      subst e1
      cases e <;> first | (have e2 := strV_inj (V.str.inj (rep_str h2)); subst e2; simp [D.peq]; done) | (exact False.elim h2) | (cases o2; done) | (cases h2; done) | (obtain ⟨_, _, z, _⟩ := RepQ.of_lst h2; cases z)

theorem pj_get {xs ys : List D} {j : Nat} {a b : D} (h1 : xs[j]? = some a) (h2 : ys[j]? = some b) : pj xs ys j = D.peq a b := by unfold pj; rw [h1, h2]
theorem all_min {xs ys : List D} : ((List.range (min xs.length ys.length)).all (pj xs ys) && xs.length == ys.length) = D.peqs xs ys := by
  by_cases h : xs.length = ys.length
  · rw [peqs_range xs ys h, h, Nat.min_self]
    simp
  · rw [peqs_len xs ys h]
    simp [h]
theorem eq_strs {A : Around} (x y : List Nat) (t t' : Tok) : SeqAt.EqAt A s (.str (strV x) t) (.str (strV y) t') (D.peq (.str x) (.str y)) := by
  have q := SeqAt.EqAt.str_str (A := A) (s := s) (strV x) t (strV y) t'
  rw [strV_beq] at q
  unfold D.peq
  exact q
theorem eqAt_D (I : Inv X pins σ H s) : ∀ (n : Nat) (A : Around), A.units + n < cLine → ∀ (d e : D) (v u : V) (x y : Value), RepD X.K H Z v d → RepD X.K H Z u e → RelV v x → RelV u y → d.okD n = true → e.okD n = true → SeqAt.EqAt A s x y (D.peq d e) := by
  intro n
  induction n with
  | zero =>
    intro A hA d e v u x y h1 h2 r1 r2 o1 o2
    cases d <;> first | (cases o1; done) | skip
    all_goals (cases e <;> first | (cases o2; done) | skip)
    all_goals first
      | (cases rep_non h1; cases rep_non h2; cases r1; cases r2; exact SeqAt.EqAt.same _)
      | (cases rep_non h1; cases rep_bl h2; cases r1; cases r2; exact SeqAt.EqAt.none_bool _)
      | (cases rep_non h1; cases rep_int h2; cases r1; obtain ⟨t, rfl⟩ := r2; exact SeqAt.EqAt.none_int _ _)
      | (cases rep_non h1; cases rep_str h2; cases r1; obtain ⟨t, rfl⟩ := r2; exact SeqAt.EqAt.none_str _ _)
      | (cases rep_bl h1; cases rep_non h2; cases r1; cases r2; exact SeqAt.EqAt.bool_none _)
      | (cases rep_bl h1; cases rep_bl h2; cases r1; cases r2; exact SeqAt.EqAt.bool_bool _ _)
      | (cases rep_bl h1; cases rep_int h2; cases r1; obtain ⟨t, rfl⟩ := r2; exact SeqAt.EqAt.bool_int _ _ _)
      | (cases rep_bl h1; cases rep_str h2; cases r1; obtain ⟨t, rfl⟩ := r2; exact SeqAt.EqAt.bool_str _ _ _)
      | (cases rep_int h1; cases rep_non h2; obtain ⟨t, rfl⟩ := r1; cases r2; exact SeqAt.EqAt.int_none _ _)
      | (cases rep_int h1; cases rep_bl h2; obtain ⟨t, rfl⟩ := r1; cases r2; exact SeqAt.EqAt.int_bool _ _ _)
      | (cases rep_int h1; cases rep_int h2; obtain ⟨t, rfl⟩ := r1; obtain ⟨t', rfl⟩ := r2; exact SeqAt.EqAt.int_int _ _ _ _)
      | (cases rep_int h1; cases rep_str h2; obtain ⟨t, rfl⟩ := r1; obtain ⟨t', rfl⟩ := r2; exact SeqAt.EqAt.int_str _ _ _ _)
      | (cases rep_str h1; cases rep_non h2; obtain ⟨t, rfl⟩ := r1; cases r2; exact SeqAt.EqAt.str_none _ _)
      | (cases rep_str h1; cases rep_bl h2; obtain ⟨t, rfl⟩ := r1; cases r2; exact SeqAt.EqAt.str_bool _ _ _)
      | (cases rep_str h1; cases rep_int h2; obtain ⟨t, rfl⟩ := r1; obtain ⟨t', rfl⟩ := r2; exact SeqAt.EqAt.str_int _ _ _ _)
      | (cases rep_str h1; cases rep_str h2; obtain ⟨t, rfl⟩ := r1; obtain ⟨t', rfl⟩ := r2; exact eq_strs _ _ _ _)
  | succ n ih =>
    intro A hA d e v u x y h1 h2 r1 r2 o1 o2
    have hA0 : A.units < cLine := by omega
    have lists : ∀ xs ys : List D, RepQ X.K H Z v xs → RepQ X.K H Z u ys → xs.all (D.okD n) = true → ys.all (D.okD n) = true → SeqAt.EqAt A s x y (D.peqs xs ys) := by
      intro xs ys q1 q2 p1 p2
      obtain ⟨a, vs, rfl, l1, g1⟩ := q1
      obtain ⟨b, ws, rfl, l2, g2⟩ := q2
      cases r1
      cases r2
      rw [List.all_eq_true] at p1 p2
      by_cases eab : a = b
      · subst eab
        have ev := same_list I l1 l2
        subst ev
        rw [peqs_same (fun v d e k1 k2 m1 m2 => peq_same I n v d e (.of k1) (.of k2) (p1 d m1) (p2 e m2)) g1 g2]
        exact SeqAt.EqAt.same _
      · obtain ⟨its, rv, hl, _⟩ := I.list l1
        obtain ⟨its2, rv2, hl2, _⟩ := I.list l2
        have n1 : its.length = xs.length := rv.length.symm.trans g1.length
        have n2 : its2.length = ys.length := rv2.length.symm.trans g2.length
        by_cases hlen : xs.length = ys.length
        · rw [peqs_range xs ys hlen, ← n1]
          refine SeqAt.EqAt.of_refs eab ?_
          have q := SeqAt.RcAt.lists (e := pj xs ys) (A := A) hl.isList hl2.isList (by rw [List.size_toArray, List.size_toArray]; omega) hA0 (fun j g3 g4 => ?_)
          · rw [List.size_toArray] at q; exact q
          · have j1 : j < its.length := by simpa using g3
            have j2 : j < its2.length := by simpa using g4
            have jv : j < vs.length := by rw [rv.length]; exact j1
            have jw : j < ws.length := by rw [rv2.length]; exact j2
            obtain ⟨d', e1, k1⟩ := g1.get (List.getElem?_eq_getElem jv)
            obtain ⟨e', e2, k2⟩ := g2.get (List.getElem?_eq_getElem jw)
            obtain ⟨u1, f1, w1⟩ := rv.get (List.getElem?_eq_getElem jv)
            obtain ⟨u2, f2, w2⟩ := rv2.get (List.getElem?_eq_getElem jw)
            rw [pj_get e1 e2]
            have z1 : its.toArray[j] = u1 := by
              obtain ⟨_, z⟩ := List.getElem?_eq_some_iff.mp f1
              simpa using z
            have z2 : its2.toArray[j] = u2 := by
              obtain ⟨_, z⟩ := List.getElem?_eq_some_iff.mp f2
              simpa using z
            rw [z1, z2]
            exact ih A.in1 (by show A.units + 1 + n < cLine; omega) d' e' _ _ _ _ (.of k1) (.of k2) w1 w2 (p1 _ (List.mem_of_getElem? e1)) (p2 _ (List.mem_of_getElem? e2))
        · rw [peqs_len xs ys hlen]
          exact SeqAt.EqAt.of_refs eab (SeqAt.RcAt.lists_lengths hl.isList hl2.isList (by rw [List.size_toArray, List.size_toArray, bne_iff_ne]; omega) hA0)
    have lt : ∀ xs ys : List D, RepQ X.K H Z v xs → RepD X.K H Z u (.tup ys) → SeqAt.EqAt A s x y false := by
      intro xs ys q1 q2
      obtain ⟨a, vs, rfl, l1, g1⟩ := q1
      obtain ⟨b, ws, rfl, l2, g2⟩ := rep_tup q2
      cases r1
      cases r2
      obtain ⟨its, rv, hl, _⟩ := I.list l1
      obtain ⟨its2, rv2, ht⟩ := Inv.isTuple I l2
      exact SeqAt.EqAt.list_tuple hl.isList ht hA0
    have tl : ∀ xs ys : List D, RepD X.K H Z v (.tup xs) → RepQ X.K H Z u ys → SeqAt.EqAt A s x y false := by
      intro xs ys q1 q2
      obtain ⟨a, vs, rfl, l1, g1⟩ := rep_tup q1
      obtain ⟨b, ws, rfl, l2, g2⟩ := q2
      cases r1
      cases r2
      obtain ⟨its, rv, ht⟩ := Inv.isTuple I l1
      obtain ⟨its2, rv2, hl, _⟩ := I.list l2
      exact SeqAt.EqAt.tuple_list ht hl.isList hA0
    have ln : ∀ xs : List D, RepQ X.K H Z v xs → ∃ (l : Addr) (items : Array Value), x = .ref l ∧ s.heap.IsList l items := by
      intro xs q1
      obtain ⟨a, vs, rfl, l1, g1⟩ := q1
      cases r1
      obtain ⟨its, rv, hl, _⟩ := I.list l1
      exact ⟨a, _, rfl, hl.isList⟩
    have ln2 : ∀ xs : List D, RepQ X.K H Z u xs → ∃ (l : Addr) (items : Array Value), y = .ref l ∧ s.heap.IsList l items := by
      intro xs q1
      obtain ⟨a, vs, rfl, l1, g1⟩ := q1
      cases r2
      obtain ⟨its, rv, hl, _⟩ := I.list l1
      exact ⟨a, _, rfl, hl.isList⟩
    have tn : ∀ xs : List D, RepD X.K H Z v (.tup xs) → ∃ (l : Addr) (items : Array Value), x = .ref l ∧ s.heap.IsTuple l items := by
      intro xs q1
      obtain ⟨a, vs, rfl, l1, g1⟩ := rep_tup q1
      cases r1
      obtain ⟨its, rv, hl⟩ := Inv.isTuple I l1
      exact ⟨a, _, rfl, hl⟩
    have tn2 : ∀ xs : List D, RepD X.K H Z u (.tup xs) → ∃ (l : Addr) (items : Array Value), y = .ref l ∧ s.heap.IsTuple l items := by
      intro xs q1
      obtain ⟨a, vs, rfl, l1, g1⟩ := rep_tup q1
      cases r2
      obtain ⟨its, rv, hl⟩ := Inv.isTuple I l1
      exact ⟨a, _, rfl, hl⟩
    cases d with
    | tup xs =>
      cases e with
      | tup ys =>
        obtain ⟨a, vs, rfl, l1, g1⟩ := rep_tup h1
        obtain ⟨b, ws, rfl, l2, g2⟩ := rep_tup h2
        cases r1
        cases r2
        unfold D.okD at o1 o2
        rw [List.all_eq_true] at o1 o2
        unfold D.peq
        by_cases eab : a = b
        · subst eab
          have ev := I.tuple_inj l1 l2
          subst ev
          rw [peqs_same (fun v d e k1 k2 m1 m2 => peq_same I n v d e (.of k1) (.of k2) (o1 d m1) (o2 e m2)) g1 g2]
          exact SeqAt.EqAt.same _
        · obtain ⟨its, rv, hl⟩ := Inv.isTuple I l1
          obtain ⟨its2, rv2, hl2⟩ := Inv.isTuple I l2
          have n1 : its.length = xs.length := rv.length.symm.trans g1.length
          have n2 : its2.length = ys.length := rv2.length.symm.trans g2.length
          refine SeqAt.EqAt.of_refs eab ?_
          have q := SeqAt.RcAt.tuples (e := pj xs ys) (A := A) hl hl2 hA0 (fun j g3 g4 => ?_)
          · rw [List.size_toArray, List.size_toArray, n1, n2, all_min] at q; exact q
          · have j1 : j < its.length := by simpa using g3
            have j2 : j < its2.length := by simpa using g4
            have jv : j < vs.length := by rw [rv.length]; exact j1
            have jw : j < ws.length := by rw [rv2.length]; exact j2
            obtain ⟨d', e1, k1⟩ := g1.get (List.getElem?_eq_getElem jv)
            obtain ⟨e', e2, k2⟩ := g2.get (List.getElem?_eq_getElem jw)
            obtain ⟨u1, f1, w1⟩ := rv.get (List.getElem?_eq_getElem jv)
            obtain ⟨u2, f2, w2⟩ := rv2.get (List.getElem?_eq_getElem jw)
            rw [pj_get e1 e2]
            have z1 : its.toArray[j] = u1 := by
              obtain ⟨_, z⟩ := List.getElem?_eq_some_iff.mp f1
              simpa using z
            have z2 : its2.toArray[j] = u2 := by
              obtain ⟨_, z⟩ := List.getElem?_eq_some_iff.mp f2
              simpa using z
            rw [z1, z2]
            exact ih A.in1 (by show A.units + 1 + n < cLine; omega) d' e' _ _ _ _ (.of k1) (.of k2) w1 w2 (o1 _ (List.mem_of_getElem? e1)) (o2 _ (List.mem_of_getElem? e2))
      | lst ys => exact tl _ _ h1 (RepQ.of_lst h2)
      | fls ys => exact tl _ _ h1 (RepQ.of_fls h2)
      | rng _ _ => cases o2
      | dct _ => cases o2
      | obj _ _ => cases o2
      | fdc _ => exact False.elim h2
      | rdn _ _ => exact False.elim h2
      | non => obtain ⟨l, it, rfl, hl⟩ := tn _ h1; cases rep_non h2; cases r2; exact SeqAt.EqAt.tuple_none hl hA0
      | bl b => obtain ⟨l, it, rfl, hl⟩ := tn _ h1; cases rep_bl h2; cases r2; exact SeqAt.EqAt.tuple_bool _ hl hA0
      | int b => obtain ⟨l, it, rfl, hl⟩ := tn _ h1; cases rep_int h2; obtain ⟨t, rfl⟩ := r2; exact SeqAt.EqAt.tuple_int _ _ hl hA0
      | str b => obtain ⟨l, it, rfl, hl⟩ := tn _ h1; cases rep_str h2; obtain ⟨t, rfl⟩ := r2; exact SeqAt.EqAt.tuple_str _ _ hl hA0
    | lst xs =>
      have q1 := RepQ.of_lst h1
      cases e with
      | tup ys => exact lt _ _ q1 h2
      | lst ys => exact lists _ _ q1 (RepQ.of_lst h2) o1 o2
      | fls ys => exact lists _ _ q1 (RepQ.of_fls h2) o1 o2
      | rng _ _ => cases o2
      | dct _ => cases o2
      | obj _ _ => cases o2
      | fdc _ => exact False.elim h2
      | rdn _ _ => exact False.elim h2
      | non => obtain ⟨l, it, rfl, hl⟩ := ln _ q1; cases rep_non h2; cases r2; exact SeqAt.EqAt.list_none hl hA0
      | bl b => obtain ⟨l, it, rfl, hl⟩ := ln _ q1; cases rep_bl h2; cases r2; exact SeqAt.EqAt.list_bool _ hl hA0
      | int b => obtain ⟨l, it, rfl, hl⟩ := ln _ q1; cases rep_int h2; obtain ⟨t, rfl⟩ := r2; exact SeqAt.EqAt.list_int _ _ hl hA0
      | str b => obtain ⟨l, it, rfl, hl⟩ := ln _ q1; cases rep_str h2; obtain ⟨t, rfl⟩ := r2; exact SeqAt.EqAt.list_str _ _ hl hA0
    | fls xs =>
      have q1 := RepQ.of_fls h1
      cases e with
      | tup ys => exact lt _ _ q1 h2
      | lst ys => exact lists _ _ q1 (RepQ.of_lst h2) o1 o2
      | fls ys => exact lists _ _ q1 (RepQ.of_fls h2) o1 o2
      | rng _ _ => cases o2
      | dct _ => cases o2
      | obj _ _ => cases o2
      | fdc _ => exact False.elim h2
      | rdn _ _ => exact False.elim h2
      | non => obtain ⟨l, it, rfl, hl⟩ := ln _ q1; cases rep_non h2; cases r2; exact SeqAt.EqAt.list_none hl hA0
      | bl b => obtain ⟨l, it, rfl, hl⟩ := ln _ q1; cases rep_bl h2; cases r2; exact SeqAt.EqAt.list_bool _ hl hA0
      | int b => obtain ⟨l, it, rfl, hl⟩ := ln _ q1; cases rep_int h2; obtain ⟨t, rfl⟩ := r2; exact SeqAt.EqAt.list_int _ _ hl hA0
      | str b => obtain ⟨l, it, rfl, hl⟩ := ln _ q1; cases rep_str h2; obtain ⟨t, rfl⟩ := r2; exact SeqAt.EqAt.list_str _ _ hl hA0
    | rng _ _ => cases o1
    | dct _ => cases o1
    | obj _ _ => cases o1
    | fdc _ => exact False.elim h1
    | rdn _ _ => exact False.elim h1
    | _ =>
      cases e with
      | rng _ _ => cases o2
      | dct _ => cases o2
      | obj _ _ => cases o2
      | fdc _ => exact False.elim h2
      | rdn _ _ => exact False.elim h2
      | tup ys =>
        obtain ⟨l, it, rfl, hl⟩ := tn2 _ h2
        first
          | (cases rep_non h1; cases r1; exact SeqAt.EqAt.none_tuple hl hA0)
          | (cases rep_bl h1; cases r1; exact SeqAt.EqAt.bool_tuple _ hl hA0)
          | (cases rep_int h1; obtain ⟨t, rfl⟩ := r1; exact SeqAt.EqAt.int_tuple _ _ hl hA0)
          | (cases rep_str h1; obtain ⟨t, rfl⟩ := r1; exact SeqAt.EqAt.str_tuple _ _ hl hA0)
      | lst ys =>
        obtain ⟨l, it, rfl, hl⟩ := ln2 _ (RepQ.of_lst h2)
        first
          | (cases rep_non h1; cases r1; exact SeqAt.EqAt.none_list hl hA0)
          | (cases rep_bl h1; cases r1; exact SeqAt.EqAt.bool_list _ hl hA0)
          | (cases rep_int h1; obtain ⟨t, rfl⟩ := r1; exact SeqAt.EqAt.int_list _ _ hl hA0)
          | (cases rep_str h1; obtain ⟨t, rfl⟩ := r1; exact SeqAt.EqAt.str_list _ _ hl hA0)
      | fls ys =>
        obtain ⟨l, it, rfl, hl⟩ := ln2 _ (RepQ.of_fls h2)
        first
          | (cases rep_non h1; cases r1; exact SeqAt.EqAt.none_list hl hA0)
          | (cases rep_bl h1; cases r1; exact SeqAt.EqAt.bool_list _ hl hA0)
          | (cases rep_int h1; obtain ⟨t, rfl⟩ := r1; exact SeqAt.EqAt.int_list _ _ hl hA0)
          | (cases rep_str h1; obtain ⟨t, rfl⟩ := r1; exact SeqAt.EqAt.str_list _ _ hl hA0)
      | _ => exact ih A (by omega) _ _ _ _ _ _ h1 h2 r1 r2 (by first | rfl | (cases n <;> rfl)) (by first | rfl | (cases n <;> rfl))

theorem items_eq (I : Inv X pins σ H s) {n : Nat} {A : Around} (hA : A.units + n < cLine) {vs ws : List V} {its its2 : List Value} (g1 : Rps X.K H Z vs xs) (g2 : Rps X.K H Z ws ys) (rv : Vals vs its) (rv2 : Vals ws its2)
    (p1 : ∀ x ∈ xs, D.okD n x = true) (p2 : ∀ x ∈ ys, D.okD n x = true) : ∀ (j : Nat) (h1 : j < its.toArray.size) (h2 : j < its2.toArray.size), SeqAt.EqAt A s its.toArray[j] its2.toArray[j] (pj xs ys j) := fun j g3 g4 => by
  have j1 : j < its.length := by simpa using g3
  have j2 : j < its2.length := by simpa using g4
  have jv : j < vs.length := by rw [rv.length]; exact j1
  have jw : j < ws.length := by rw [rv2.length]; exact j2
  obtain ⟨d', e1, k1⟩ := g1.get (List.getElem?_eq_getElem jv)
  obtain ⟨e', e2, k2⟩ := g2.get (List.getElem?_eq_getElem jw)
  obtain ⟨u1, f1, w1⟩ := rv.get (List.getElem?_eq_getElem jv)
  obtain ⟨u2, f2, w2⟩ := rv2.get (List.getElem?_eq_getElem jw)
  rw [pj_get e1 e2]
  have z1 : its.toArray[j] = u1 := by
    obtain ⟨_, z⟩ := List.getElem?_eq_some_iff.mp f1
    simpa using z
  have z2 : its2.toArray[j] = u2 := by
    obtain ⟨_, z⟩ := List.getElem?_eq_some_iff.mp f2
    simpa using z
  rw [z1, z2]
  exact eqAt_D I n A hA d' e' _ _ _ _ (.of k1) (.of k2) w1 w2 (p1 _ (List.mem_of_getElem? e1)) (p2 _ (List.mem_of_getElem? e2))

theorem rc_strs {A : Around} (x y : List Nat) (t t' : Tok) : SeqAt.RcAt A s (.str (strV x) t) (.str (strV y) t') (D.peq (.str x) (.str y)) := by
  have q := SeqAt.RcAt.str_str (A := A) (s := s) (strV x) t (strV y) t'
  rw [strV_beq] at q
  unfold D.peq
  exact q
theorem rc_lists (I : Inv X pins σ H s) {n : Nat} {A : Around} (hA : A.units + (n + 1) < cLine) {v u : V} {x y : Value} (q1 : RepQ X.K H Z v xs) (q2 : RepQ X.K H Z u ys) (r1 : RelV v x) (r2 : RelV u y)
    (p1 : xs.all (D.okD n) = true) (p2 : ys.all (D.okD n) = true) : SeqAt.RcAt A s x y (D.peqs xs ys) := by
  obtain ⟨a, vs, rfl, l1, g1⟩ := q1
  obtain ⟨b, ws, rfl, l2, g2⟩ := q2
  cases r1
  cases r2
  rw [List.all_eq_true] at p1 p2
  obtain ⟨its, rv, hl, _⟩ := I.list l1
  obtain ⟨its2, rv2, hl2, _⟩ := I.list l2
  have n1 : its.length = xs.length := rv.length.symm.trans g1.length
  have n2 : its2.length = ys.length := rv2.length.symm.trans g2.length
  by_cases hlen : xs.length = ys.length
  · rw [peqs_range xs ys hlen, ← n1]
    have q := SeqAt.RcAt.lists (e := pj xs ys) (A := A) hl.isList hl2.isList (by rw [List.size_toArray, List.size_toArray]; omega) (by omega) (items_eq I (A := A.in1) (by show A.units + 1 + n < cLine; omega) g1 g2 rv rv2 p1 p2)
    rw [List.size_toArray] at q
    exact q
  · rw [peqs_len xs ys hlen]
    exact SeqAt.RcAt.lists_lengths hl.isList hl2.isList (by rw [List.size_toArray, List.size_toArray, bne_iff_ne]; omega) (by omega)
theorem rc_tups (I : Inv X pins σ H s) {n : Nat} {A : Around} (hA : A.units + (n + 1) < cLine) {v u : V} {x y : Value} (q1 : RepD X.K H Z v (.tup xs)) (q2 : RepD X.K H Z u (.tup ys)) (r1 : RelV v x) (r2 : RelV u y)
    (p1 : xs.all (D.okD n) = true) (p2 : ys.all (D.okD n) = true) : SeqAt.RcAt A s x y (D.peqs xs ys) := by
  obtain ⟨a, vs, rfl, l1, g1⟩ := rep_tup q1
  obtain ⟨b, ws, rfl, l2, g2⟩ := rep_tup q2
  cases r1
  cases r2
  rw [List.all_eq_true] at p1 p2
  obtain ⟨its, rv, hl⟩ := Inv.isTuple I l1
  obtain ⟨its2, rv2, hl2⟩ := Inv.isTuple I l2
  have n1 : its.length = xs.length := rv.length.symm.trans g1.length
  have n2 : its2.length = ys.length := rv2.length.symm.trans g2.length
  have q := SeqAt.RcAt.tuples (e := pj xs ys) (A := A) hl hl2 (by omega) (items_eq I (A := A.in1) (by show A.units + 1 + n < cLine; omega) g1 g2 rv rv2 p1 p2)
  rw [List.size_toArray, List.size_toArray, n1, n2, all_min] at q
  exact q
theorem rc_D (I : Inv X pins σ H s) (n : Nat) (A : Around) (hA : A.units + (n + 1) < cLine) (d e : D) (v u : V) (x y : Value) (h1 : RepD X.K H Z v d) (h2 : RepD X.K H Z u e) (r1 : RelV v x) (r2 : RelV u y) (o1 : d.okD (n + 1) = true) (o2 : e.okD (n + 1) = true) : SeqAt.RcAt A s x y (D.peq d e) := by
  have hA0 : A.units < cLine := by omega
  have ln : ∀ xs : List D, RepQ X.K H Z v xs → ∃ (l : Addr) (items : Array Value), x = .ref l ∧ s.heap.IsList l items := by
    intro xs q1
    obtain ⟨a, vs, rfl, l1, g1⟩ := q1
    cases r1
    obtain ⟨its, rv, hl, _⟩ := I.list l1
    exact ⟨a, _, rfl, hl.isList⟩
  have ln2 : ∀ xs : List D, RepQ X.K H Z u xs → ∃ (l : Addr) (items : Array Value), y = .ref l ∧ s.heap.IsList l items := by
    intro xs q1
    obtain ⟨a, vs, rfl, l1, g1⟩ := q1
    cases r2
    obtain ⟨its, rv, hl, _⟩ := I.list l1
    exact ⟨a, _, rfl, hl.isList⟩
  have tn : ∀ xs : List D, RepD X.K H Z v (.tup xs) → ∃ (l : Addr) (items : Array Value), x = .ref l ∧ s.heap.IsTuple l items := by
    intro xs q1
    obtain ⟨a, vs, rfl, l1, g1⟩ := rep_tup q1
    cases r1
    obtain ⟨its, rv, hl⟩ := Inv.isTuple I l1
    exact ⟨a, _, rfl, hl⟩
  have tn2 : ∀ xs : List D, RepD X.K H Z u (.tup xs) → ∃ (l : Addr) (items : Array Value), y = .ref l ∧ s.heap.IsTuple l items := by
    intro xs q1
    obtain ⟨a, vs, rfl, l1, g1⟩ := rep_tup q1
    cases r2
    obtain ⟨its, rv, hl⟩ := Inv.isTuple I l1
    exact ⟨a, _, rfl, hl⟩
  cases d with
  | tup xs =>
    cases e with
    | tup ys =>
      unfold D.peq
      exact rc_tups I hA h1 h2 r1 r2 o1 o2
    | lst ys => obtain ⟨l, it, rfl, hl⟩ := tn _ h1; obtain ⟨l2, it2, rfl, hl2⟩ := ln2 _ (RepQ.of_lst h2); exact SeqAt.RcAt.tuple_list hl hl2 hA0
    | fls ys => obtain ⟨l, it, rfl, hl⟩ := tn _ h1; obtain ⟨l2, it2, rfl, hl2⟩ := ln2 _ (RepQ.of_fls h2); exact SeqAt.RcAt.tuple_list hl hl2 hA0
    | rng _ _ => cases o2
    | dct _ => cases o2
    | obj _ _ => cases o2
    | fdc _ => exact False.elim h2
    | rdn _ _ => exact False.elim h2
    | non => obtain ⟨l, it, rfl, hl⟩ := tn _ h1; cases rep_non h2; cases r2; exact SeqAt.RcAt.tuple_none hl hA0
    | bl b => obtain ⟨l, it, rfl, hl⟩ := tn _ h1; cases rep_bl h2; cases r2; exact SeqAt.RcAt.tuple_bool _ hl hA0
    | int b => obtain ⟨l, it, rfl, hl⟩ := tn _ h1; cases rep_int h2; obtain ⟨t, rfl⟩ := r2; exact SeqAt.RcAt.tuple_int _ _ hl hA0
    | str b => obtain ⟨l, it, rfl, hl⟩ := tn _ h1; cases rep_str h2; obtain ⟨t, rfl⟩ := r2; exact SeqAt.RcAt.tuple_str _ _ hl hA0
  | lst xs =>
    cases e with
    | tup ys => obtain ⟨l, it, rfl, hl⟩ := ln _ (RepQ.of_lst h1); obtain ⟨l2, it2, rfl, hl2⟩ := tn2 _ h2; exact SeqAt.RcAt.list_tuple hl hl2 hA0
    | lst ys =>
      unfold D.peq
      exact rc_lists I hA (RepQ.of_lst h1) (RepQ.of_lst h2) r1 r2 o1 o2
    | fls ys =>
      unfold D.peq
      exact rc_lists I hA (RepQ.of_lst h1) (RepQ.of_fls h2) r1 r2 o1 o2
    | rng _ _ => cases o2
    | dct _ => cases o2
    | obj _ _ => cases o2
    | fdc _ => exact False.elim h2
    | rdn _ _ => exact False.elim h2
    | non => obtain ⟨l, it, rfl, hl⟩ := ln _ (RepQ.of_lst h1); cases rep_non h2; cases r2; exact SeqAt.RcAt.list_none hl hA0
    | bl b => obtain ⟨l, it, rfl, hl⟩ := ln _ (RepQ.of_lst h1); cases rep_bl h2; cases r2; exact SeqAt.RcAt.list_bool _ hl hA0
    | int b => obtain ⟨l, it, rfl, hl⟩ := ln _ (RepQ.of_lst h1); cases rep_int h2; obtain ⟨t, rfl⟩ := r2; exact SeqAt.RcAt.list_int _ _ hl hA0
    | str b => obtain ⟨l, it, rfl, hl⟩ := ln _ (RepQ.of_lst h1); cases rep_str h2; obtain ⟨t, rfl⟩ := r2; exact SeqAt.RcAt.list_str _ _ hl hA0
  | fls xs =>
    cases e with
    | tup ys => obtain ⟨l, it, rfl, hl⟩ := ln _ (RepQ.of_fls h1); obtain ⟨l2, it2, rfl, hl2⟩ := tn2 _ h2; exact SeqAt.RcAt.list_tuple hl hl2 hA0
    | lst ys =>
      unfold D.peq
      exact rc_lists I hA (RepQ.of_fls h1) (RepQ.of_lst h2) r1 r2 o1 o2
    | fls ys =>
      unfold D.peq
      exact rc_lists I hA (RepQ.of_fls h1) (RepQ.of_fls h2) r1 r2 o1 o2
    | rng _ _ => cases o2
    | dct _ => cases o2
    | obj _ _ => cases o2
    | fdc _ => exact False.elim h2
    | rdn _ _ => exact False.elim h2
    | non => obtain ⟨l, it, rfl, hl⟩ := ln _ (RepQ.of_fls h1); cases rep_non h2; cases r2; exact SeqAt.RcAt.list_none hl hA0
    | bl b => obtain ⟨l, it, rfl, hl⟩ := ln _ (RepQ.of_fls h1); cases rep_bl h2; cases r2; exact SeqAt.RcAt.list_bool _ hl hA0
    | int b => obtain ⟨l, it, rfl, hl⟩ := ln _ (RepQ.of_fls h1); cases rep_int h2; obtain ⟨t, rfl⟩ := r2; exact SeqAt.RcAt.list_int _ _ hl hA0
    | str b => obtain ⟨l, it, rfl, hl⟩ := ln _ (RepQ.of_fls h1); cases rep_str h2; obtain ⟨t, rfl⟩ := r2; exact SeqAt.RcAt.list_str _ _ hl hA0
  | rng _ _ => cases o1
  | dct _ => cases o1
  | obj _ _ => cases o1
  | fdc _ => exact False.elim h1
  | rdn _ _ => exact False.elim h1
  | non =>
    cases rep_non h1; cases r1
    cases e with
    | rng _ _ => cases o2
    | dct _ => cases o2
    | obj _ _ => cases o2
    | fdc _ => exact False.elim h2
    | rdn _ _ => exact False.elim h2
    | tup ys => obtain ⟨l2, it2, rfl, hl2⟩ := tn2 _ h2; exact SeqAt.RcAt.none_tuple hl2 hA0
    | lst ys => obtain ⟨l2, it2, rfl, hl2⟩ := ln2 _ (RepQ.of_lst h2); exact SeqAt.RcAt.none_list hl2 hA0
    | fls ys => obtain ⟨l2, it2, rfl, hl2⟩ := ln2 _ (RepQ.of_fls h2); exact SeqAt.RcAt.none_list hl2 hA0
    | non => cases rep_non h2; cases r2; exact SeqAt.RcAt.none_none
    | bl b1 => cases rep_bl h2; cases r2; exact SeqAt.RcAt.none_bool _
    | int b1 => cases rep_int h2; obtain ⟨t2, rfl⟩ := r2; exact SeqAt.RcAt.none_int _ _
    | str b1 => cases rep_str h2; obtain ⟨t2, rfl⟩ := r2; exact SeqAt.RcAt.none_str _ _
  | bl b0 =>
    cases rep_bl h1; cases r1
    cases e with
    | rng _ _ => cases o2
    | dct _ => cases o2
    | obj _ _ => cases o2
    | fdc _ => exact False.elim h2
    | rdn _ _ => exact False.elim h2
    | tup ys => obtain ⟨l2, it2, rfl, hl2⟩ := tn2 _ h2; exact SeqAt.RcAt.bool_tuple _ hl2 hA0
    | lst ys => obtain ⟨l2, it2, rfl, hl2⟩ := ln2 _ (RepQ.of_lst h2); exact SeqAt.RcAt.bool_list _ hl2 hA0
    | fls ys => obtain ⟨l2, it2, rfl, hl2⟩ := ln2 _ (RepQ.of_fls h2); exact SeqAt.RcAt.bool_list _ hl2 hA0
    | non => cases rep_non h2; cases r2; exact SeqAt.RcAt.bool_none _
    | bl b1 => cases rep_bl h2; cases r2; exact SeqAt.RcAt.bool_bool _ _
    | int b1 => cases rep_int h2; obtain ⟨t2, rfl⟩ := r2; exact SeqAt.RcAt.bool_int _ _ _
    | str b1 => cases rep_str h2; obtain ⟨t2, rfl⟩ := r2; exact SeqAt.RcAt.bool_str _ _ _
  | int b0 =>
    cases rep_int h1; obtain ⟨t, rfl⟩ := r1
    cases e with
    | rng _ _ => cases o2
    | dct _ => cases o2
    | obj _ _ => cases o2
    | fdc _ => exact False.elim h2
    | rdn _ _ => exact False.elim h2
    | tup ys => obtain ⟨l2, it2, rfl, hl2⟩ := tn2 _ h2; exact SeqAt.RcAt.int_tuple _ _ hl2 hA0
    | lst ys => obtain ⟨l2, it2, rfl, hl2⟩ := ln2 _ (RepQ.of_lst h2); exact SeqAt.RcAt.int_list _ _ hl2 hA0
    | fls ys => obtain ⟨l2, it2, rfl, hl2⟩ := ln2 _ (RepQ.of_fls h2); exact SeqAt.RcAt.int_list _ _ hl2 hA0
    | non => cases rep_non h2; cases r2; exact SeqAt.RcAt.int_none _ _
    | bl b1 => cases rep_bl h2; cases r2; exact SeqAt.RcAt.int_bool _ _ _
    | int b1 => cases rep_int h2; obtain ⟨t2, rfl⟩ := r2; exact SeqAt.RcAt.int_int _ _ _ _
    | str b1 => cases rep_str h2; obtain ⟨t2, rfl⟩ := r2; exact SeqAt.RcAt.int_str _ _ _ _
  | str b0 =>
    cases rep_str h1; obtain ⟨t, rfl⟩ := r1
    cases e with
    | rng _ _ => cases o2
    | dct _ => cases o2
    | obj _ _ => cases o2
    | fdc _ => exact False.elim h2
    | rdn _ _ => exact False.elim h2
    | tup ys => obtain ⟨l2, it2, rfl, hl2⟩ := tn2 _ h2; exact SeqAt.RcAt.str_tuple _ _ hl2 hA0
    | lst ys => obtain ⟨l2, it2, rfl, hl2⟩ := ln2 _ (RepQ.of_lst h2); exact SeqAt.RcAt.str_list _ _ hl2 hA0
    | fls ys => obtain ⟨l2, it2, rfl, hl2⟩ := ln2 _ (RepQ.of_fls h2); exact SeqAt.RcAt.str_list _ _ hl2 hA0
    | non => cases rep_non h2; cases r2; exact SeqAt.RcAt.str_none _ _
    | bl b1 => cases rep_bl h2; cases r2; exact SeqAt.RcAt.str_bool _ _ _
    | int b1 => cases rep_int h2; obtain ⟨t2, rfl⟩ := r2; exact SeqAt.RcAt.str_int _ _ _ _
    | str b1 => cases rep_str h2; obtain ⟨t2, rfl⟩ := r2; exact rc_strs _ _ _ _

theorem rn_strs {A : Around} (x y : List Nat) (t t' : Tok) : SeqAt.RcNeAt A s (.str (strV x) t) (.str (strV y) t') (!D.peq (.str x) (.str y)) := by
  have q := SeqAt.RcNeAt.str_str (A := A) (s := s) (strV x) t (strV y) t'
  rw [strV_beq] at q
  unfold D.peq
  exact q
theorem rn_lists (I : Inv X pins σ H s) {n : Nat} {A : Around} (hA : A.units + (n + 1) < cLine) {v u : V} {x y : Value} (q1 : RepQ X.K H Z v xs) (q2 : RepQ X.K H Z u ys) (r1 : RelV v x) (r2 : RelV u y)
    (p1 : xs.all (D.okD n) = true) (p2 : ys.all (D.okD n) = true) : SeqAt.RcNeAt A s x y (!D.peqs xs ys) := by
  obtain ⟨a, vs, rfl, l1, g1⟩ := q1
  obtain ⟨b, ws, rfl, l2, g2⟩ := q2
  cases r1
  cases r2
  rw [List.all_eq_true] at p1 p2
  obtain ⟨its, rv, hl, _⟩ := I.list l1
  obtain ⟨its2, rv2, hl2, _⟩ := I.list l2
  have n1 : its.length = xs.length := rv.length.symm.trans g1.length
  have n2 : its2.length = ys.length := rv2.length.symm.trans g2.length
  by_cases hlen : xs.length = ys.length
  · rw [peqs_range xs ys hlen, ← n1]
    have q := SeqAt.RcNeAt.lists (e := pj xs ys) (A := A) hl.isList hl2.isList (by rw [List.size_toArray, List.size_toArray]; omega) (by omega) (items_eq I (A := A.in1) (by show A.units + 1 + n < cLine; omega) g1 g2 rv rv2 p1 p2)
    rw [List.size_toArray] at q
    exact q
  · rw [peqs_len xs ys hlen]
    exact SeqAt.RcNeAt.lists_lengths hl.isList hl2.isList (by rw [List.size_toArray, List.size_toArray, bne_iff_ne]; omega) (by omega)
theorem rn_tups (I : Inv X pins σ H s) {n : Nat} {A : Around} (hA : A.units + (n + 1) < cLine) {v u : V} {x y : Value} (q1 : RepD X.K H Z v (.tup xs)) (q2 : RepD X.K H Z u (.tup ys)) (r1 : RelV v x) (r2 : RelV u y)
    (p1 : xs.all (D.okD n) = true) (p2 : ys.all (D.okD n) = true) : SeqAt.RcNeAt A s x y (!D.peqs xs ys) := by
  obtain ⟨a, vs, rfl, l1, g1⟩ := rep_tup q1
  obtain ⟨b, ws, rfl, l2, g2⟩ := rep_tup q2
  cases r1
  cases r2
  rw [List.all_eq_true] at p1 p2
  obtain ⟨its, rv, hl⟩ := Inv.isTuple I l1
  obtain ⟨its2, rv2, hl2⟩ := Inv.isTuple I l2
  have n1 : its.length = xs.length := rv.length.symm.trans g1.length
  have n2 : its2.length = ys.length := rv2.length.symm.trans g2.length
  have q := SeqAt.RcNeAt.tuples (e := pj xs ys) (A := A) hl hl2 (by omega) (items_eq I (A := A.in1) (by show A.units + 1 + n < cLine; omega) g1 g2 rv rv2 p1 p2)
  rw [List.size_toArray, List.size_toArray, n1, n2, all_min] at q
  exact q
theorem rn_D (I : Inv X pins σ H s) (n : Nat) (A : Around) (hA : A.units + (n + 1) < cLine) (d e : D) (v u : V) (x y : Value) (h1 : RepD X.K H Z v d) (h2 : RepD X.K H Z u e) (r1 : RelV v x) (r2 : RelV u y) (o1 : d.okD (n + 1) = true) (o2 : e.okD (n + 1) = true) : SeqAt.RcNeAt A s x y (!D.peq d e) := by
  have hA0 : A.units < cLine := by omega
  have ln : ∀ xs : List D, RepQ X.K H Z v xs → ∃ (l : Addr) (items : Array Value), x = .ref l ∧ s.heap.IsList l items := by
    intro xs q1
    obtain ⟨a, vs, rfl, l1, g1⟩ := q1
    cases r1
    obtain ⟨its, rv, hl, _⟩ := I.list l1
    exact ⟨a, _, rfl, hl.isList⟩
  have ln2 : ∀ xs : List D, RepQ X.K H Z u xs → ∃ (l : Addr) (items : Array Value), y = .ref l ∧ s.heap.IsList l items := by
    intro xs q1
    obtain ⟨a, vs, rfl, l1, g1⟩ := q1
    cases r2
    obtain ⟨its, rv, hl, _⟩ := I.list l1
    exact ⟨a, _, rfl, hl.isList⟩
  have tn : ∀ xs : List D, RepD X.K H Z v (.tup xs) → ∃ (l : Addr) (items : Array Value), x = .ref l ∧ s.heap.IsTuple l items := by
    intro xs q1
    obtain ⟨a, vs, rfl, l1, g1⟩ := rep_tup q1
    cases r1
    obtain ⟨its, rv, hl⟩ := Inv.isTuple I l1
    exact ⟨a, _, rfl, hl⟩
  have tn2 : ∀ xs : List D, RepD X.K H Z u (.tup xs) → ∃ (l : Addr) (items : Array Value), y = .ref l ∧ s.heap.IsTuple l items := by
    intro xs q1
    obtain ⟨a, vs, rfl, l1, g1⟩ := rep_tup q1
    cases r2
    obtain ⟨its, rv, hl⟩ := Inv.isTuple I l1
    exact ⟨a, _, rfl, hl⟩
  cases d with
  | tup xs =>
    cases e with
    | tup ys =>
      unfold D.peq
      exact rn_tups I hA h1 h2 r1 r2 o1 o2
    | lst ys => obtain ⟨l, it, rfl, hl⟩ := tn _ h1; obtain ⟨l2, it2, rfl, hl2⟩ := ln2 _ (RepQ.of_lst h2); exact SeqAt.RcNeAt.tuple_list hl hl2 hA0
    | fls ys => obtain ⟨l, it, rfl, hl⟩ := tn _ h1; obtain ⟨l2, it2, rfl, hl2⟩ := ln2 _ (RepQ.of_fls h2); exact SeqAt.RcNeAt.tuple_list hl hl2 hA0
    | rng _ _ => cases o2
    | dct _ => cases o2
    | obj _ _ => cases o2
    | fdc _ => exact False.elim h2
    | rdn _ _ => exact False.elim h2
    | non => obtain ⟨l, it, rfl, hl⟩ := tn _ h1; cases rep_non h2; cases r2; exact SeqAt.RcNeAt.tuple_none hl hA0
    | bl b => obtain ⟨l, it, rfl, hl⟩ := tn _ h1; cases rep_bl h2; cases r2; exact SeqAt.RcNeAt.tuple_bool _ hl hA0
    | int b => obtain ⟨l, it, rfl, hl⟩ := tn _ h1; cases rep_int h2; obtain ⟨t, rfl⟩ := r2; exact SeqAt.RcNeAt.tuple_int _ _ hl hA0
    | str b => obtain ⟨l, it, rfl, hl⟩ := tn _ h1; cases rep_str h2; obtain ⟨t, rfl⟩ := r2; exact SeqAt.RcNeAt.tuple_str _ _ hl hA0
  | lst xs =>
    cases e with
    | tup ys => obtain ⟨l, it, rfl, hl⟩ := ln _ (RepQ.of_lst h1); obtain ⟨l2, it2, rfl, hl2⟩ := tn2 _ h2; exact SeqAt.RcNeAt.list_tuple hl hl2 hA0
    | lst ys =>
      unfold D.peq
      exact rn_lists I hA (RepQ.of_lst h1) (RepQ.of_lst h2) r1 r2 o1 o2
    | fls ys =>
      unfold D.peq
      exact rn_lists I hA (RepQ.of_lst h1) (RepQ.of_fls h2) r1 r2 o1 o2
    | rng _ _ => cases o2
    | dct _ => cases o2
    | obj _ _ => cases o2
    | fdc _ => exact False.elim h2
    | rdn _ _ => exact False.elim h2
    | non => obtain ⟨l, it, rfl, hl⟩ := ln _ (RepQ.of_lst h1); cases rep_non h2; cases r2; exact SeqAt.RcNeAt.list_none hl hA0
    | bl b => obtain ⟨l, it, rfl, hl⟩ := ln _ (RepQ.of_lst h1); cases rep_bl h2; cases r2; exact SeqAt.RcNeAt.list_bool _ hl hA0
    | int b => obtain ⟨l, it, rfl, hl⟩ := ln _ (RepQ.of_lst h1); cases rep_int h2; obtain ⟨t, rfl⟩ := r2; exact SeqAt.RcNeAt.list_int _ _ hl hA0
    | str b => obtain ⟨l, it, rfl, hl⟩ := ln _ (RepQ.of_lst h1); cases rep_str h2; obtain ⟨t, rfl⟩ := r2; exact SeqAt.RcNeAt.list_str _ _ hl hA0
  | fls xs =>
    cases e with
    | tup ys => obtain ⟨l, it, rfl, hl⟩ := ln _ (RepQ.of_fls h1); obtain ⟨l2, it2, rfl, hl2⟩ := tn2 _ h2; exact SeqAt.RcNeAt.list_tuple hl hl2 hA0
    | lst ys =>
      unfold D.peq
      exact rn_lists I hA (RepQ.of_fls h1) (RepQ.of_lst h2) r1 r2 o1 o2
    | fls ys =>
      unfold D.peq
      exact rn_lists I hA (RepQ.of_fls h1) (RepQ.of_fls h2) r1 r2 o1 o2
    | rng _ _ => cases o2
    | dct _ => cases o2
    | obj _ _ => cases o2
    | fdc _ => exact False.elim h2
    | rdn _ _ => exact False.elim h2
    | non => obtain ⟨l, it, rfl, hl⟩ := ln _ (RepQ.of_fls h1); cases rep_non h2; cases r2; exact SeqAt.RcNeAt.list_none hl hA0
    | bl b => obtain ⟨l, it, rfl, hl⟩ := ln _ (RepQ.of_fls h1); cases rep_bl h2; cases r2; exact SeqAt.RcNeAt.list_bool _ hl hA0
    | int b => obtain ⟨l, it, rfl, hl⟩ := ln _ (RepQ.of_fls h1); cases rep_int h2; obtain ⟨t, rfl⟩ := r2; exact SeqAt.RcNeAt.list_int _ _ hl hA0
    | str b => obtain ⟨l, it, rfl, hl⟩ := ln _ (RepQ.of_fls h1); cases rep_str h2; obtain ⟨t, rfl⟩ := r2; exact SeqAt.RcNeAt.list_str _ _ hl hA0
  | rng _ _ => cases o1
  | dct _ => cases o1
  | obj _ _ => cases o1
  | fdc _ => exact False.elim h1
  | rdn _ _ => exact False.elim h1
  | non =>
    cases rep_non h1; cases r1
    cases e with
    | rng _ _ => cases o2
    | dct _ => cases o2
    | obj _ _ => cases o2
    | fdc _ => exact False.elim h2
    | rdn _ _ => exact False.elim h2
    | tup ys => obtain ⟨l2, it2, rfl, hl2⟩ := tn2 _ h2; exact SeqAt.RcNeAt.none_tuple hl2 hA0
    | lst ys => obtain ⟨l2, it2, rfl, hl2⟩ := ln2 _ (RepQ.of_lst h2); exact SeqAt.RcNeAt.none_list hl2 hA0
    | fls ys => obtain ⟨l2, it2, rfl, hl2⟩ := ln2 _ (RepQ.of_fls h2); exact SeqAt.RcNeAt.none_list hl2 hA0
    | non => cases rep_non h2; cases r2; exact SeqAt.RcNeAt.none_none
    | bl b1 => cases rep_bl h2; cases r2; exact SeqAt.RcNeAt.none_bool _
    | int b1 => cases rep_int h2; obtain ⟨t2, rfl⟩ := r2; exact SeqAt.RcNeAt.none_int _ _
    | str b1 => cases rep_str h2; obtain ⟨t2, rfl⟩ := r2; exact SeqAt.RcNeAt.none_str _ _
  | bl b0 =>
    cases rep_bl h1; cases r1
    cases e with
    | rng _ _ => cases o2
    | dct _ => cases o2
    | obj _ _ => cases o2
    | fdc _ => exact False.elim h2
    | rdn _ _ => exact False.elim h2
    | tup ys => obtain ⟨l2, it2, rfl, hl2⟩ := tn2 _ h2; exact SeqAt.RcNeAt.bool_tuple _ hl2 hA0
    | lst ys => obtain ⟨l2, it2, rfl, hl2⟩ := ln2 _ (RepQ.of_lst h2); exact SeqAt.RcNeAt.bool_list _ hl2 hA0
    | fls ys => obtain ⟨l2, it2, rfl, hl2⟩ := ln2 _ (RepQ.of_fls h2); exact SeqAt.RcNeAt.bool_list _ hl2 hA0
    | non => cases rep_non h2; cases r2; exact SeqAt.RcNeAt.bool_none _
    | bl b1 => cases rep_bl h2; cases r2; exact SeqAt.RcNeAt.bool_bool _ _
    | int b1 => cases rep_int h2; obtain ⟨t2, rfl⟩ := r2; exact SeqAt.RcNeAt.bool_int _ _ _
    | str b1 => cases rep_str h2; obtain ⟨t2, rfl⟩ := r2; exact SeqAt.RcNeAt.bool_str _ _ _
  | int b0 =>
    cases rep_int h1; obtain ⟨t, rfl⟩ := r1
    cases e with
    | rng _ _ => cases o2
    | dct _ => cases o2
    | obj _ _ => cases o2
    | fdc _ => exact False.elim h2
    | rdn _ _ => exact False.elim h2
    | tup ys => obtain ⟨l2, it2, rfl, hl2⟩ := tn2 _ h2; exact SeqAt.RcNeAt.int_tuple _ _ hl2 hA0
    | lst ys => obtain ⟨l2, it2, rfl, hl2⟩ := ln2 _ (RepQ.of_lst h2); exact SeqAt.RcNeAt.int_list _ _ hl2 hA0
    | fls ys => obtain ⟨l2, it2, rfl, hl2⟩ := ln2 _ (RepQ.of_fls h2); exact SeqAt.RcNeAt.int_list _ _ hl2 hA0
    | non => cases rep_non h2; cases r2; exact SeqAt.RcNeAt.int_none _ _
    | bl b1 => cases rep_bl h2; cases r2; exact SeqAt.RcNeAt.int_bool _ _ _
    | int b1 => cases rep_int h2; obtain ⟨t2, rfl⟩ := r2; exact SeqAt.RcNeAt.int_int _ _ _ _
    | str b1 => cases rep_str h2; obtain ⟨t2, rfl⟩ := r2; exact SeqAt.RcNeAt.int_str _ _ _ _
  | str b0 =>
    cases rep_str h1; obtain ⟨t, rfl⟩ := r1
    cases e with
    | rng _ _ => cases o2
    | dct _ => cases o2
    | obj _ _ => cases o2
    | fdc _ => exact False.elim h2
    | rdn _ _ => exact False.elim h2
    | tup ys => obtain ⟨l2, it2, rfl, hl2⟩ := tn2 _ h2; exact SeqAt.RcNeAt.str_tuple _ _ hl2 hA0
    | lst ys => obtain ⟨l2, it2, rfl, hl2⟩ := ln2 _ (RepQ.of_lst h2); exact SeqAt.RcNeAt.str_list _ _ hl2 hA0
    | fls ys => obtain ⟨l2, it2, rfl, hl2⟩ := ln2 _ (RepQ.of_fls h2); exact SeqAt.RcNeAt.str_list _ _ hl2 hA0
    | non => cases rep_non h2; cases r2; exact SeqAt.RcNeAt.str_none _ _
    | bl b1 => cases rep_bl h2; cases r2; exact SeqAt.RcNeAt.str_bool _ _ _
    | int b1 => cases rep_int h2; obtain ⟨t2, rfl⟩ := r2; exact SeqAt.RcNeAt.str_int _ _ _ _
    | str b1 => cases rep_str h2; obtain ⟨t2, rfl⟩ := r2; exact rn_strs _ _ _ _
end
end Mi

/-! data that are put in order -/
namespace Mi
open PySem PySem.Spec PyProof.Rows L2
mutual
def toP : D → PyData
  | .non => .none
  | .bl b => .bool b
  | .int i => .int i
  | .str s => .str (strV s)
  | .tup xs => .tuple (toPs xs)
  | .lst xs => .list (toPs xs)
  | .fls xs => .list (toPs xs)
  | _ => .none
def toPs : List D → List PyData
  | [] => []
  | x :: xs => toP x :: toPs xs
end
theorem toPs_map : ∀ xs : List D, toPs xs = xs.map toP
  | [] => rfl
  | x :: xs => by rw [toPs, toPs_map xs]; rfl
mutual
theorem rp_dp {K : PySem.W.Frag} {H : Hp} {Z : Addr → Prop} : ∀ {v : V} {d : D} (n : Nat), Rp K H Z v d → d.okD n = true → Dp K H v (toP d)
  | _, _, _, .non, _ => by rw [toP]; exact .non
  | _, _, _, .bl b, _ => by rw [toP]; exact .bl b
  | _, _, _, .int i, _ => by rw [toP]; exact .int i
  | _, _, _, .str s, _ => by rw [toP]; exact .str _
  | _, _, n + 1, .tup h r, o => by rw [toP]; exact .tup h (rps_dp n r o)
  | _, _, n + 1, .fls _ h r, o => by rw [toP]; exact .lst h (rps_dp n r o)
  | _, _, 0, .tup _ _, o => nomatch o
  | _, _, 0, .fls _ _ _, o => nomatch o
  | _, _, n, .rng _ _ _, o => by cases n <;> cases o
  | _, _, n, .obj _ _ _ _, o => by cases n <;> cases o
theorem rps_dp {K : PySem.W.Frag} {H : Hp} {Z : Addr → Prop} : ∀ {vs : List V} {ds : List D} (n : Nat), Rps K H Z vs ds → ds.all (D.okD n) = true → DpAll K H vs (toPs ds)
  | _, _, _, .nil, _ => by rw [toPs]; exact .nil
  | _, _, n, .cons h r, o => by
    rw [List.all_cons, Bool.and_eq_true] at o
    rw [toPs]; exact .cons (rp_dp n h o.1) (rps_dp n r o.2)
end
mutual
theorem toks_eq : ∀ d : D, PySem.W.keyToks (toP d) = d.tks
  | .non => by rw [toP, D.tks, PySem.W.keyToks]
  | .bl b => by rw [toP, D.tks, PySem.W.keyToks]
  | .int i => by rw [toP, D.tks, PySem.W.keyToks]
  | .str s => by rw [toP, D.tks, PySem.W.keyToks]
  | .tup xs => by rw [toP, D.tks, PySem.W.keyToks]; exact toks_all xs
  | .lst xs => by rw [toP, D.tks, PySem.W.keyToks]; exact toks_all xs
  | .fls xs => by rw [toP, D.tks, PySem.W.keyToks]; exact toks_all xs
  | .rng _ _ => by simp [toP, D.tks, PySem.W.keyToks]
  | .rdn _ _ => by simp [toP, D.tks, PySem.W.keyToks]
  | .obj _ _ => by simp [toP, D.tks, PySem.W.keyToks]
  | .dct _ => by simp [toP, D.tks, PySem.W.keyToks]
  | .fdc _ => by simp [toP, D.tks, PySem.W.keyToks]
theorem toks_all : ∀ xs : List D, PySem.W.keyToksAll (toPs xs) = D.tkss xs
  | [] => by rw [toPs, D.tkss, PySem.W.keyToksAll]
  | x :: xs => by rw [toPs, D.tkss, PySem.W.keyToksAll, toks_eq x, toks_all xs]
end
theorem tkLt_eq (a b : Int ⊕ List Nat) : PyProof.Rows.itemLt a b = tkLt a b := by
  cases a <;> cases b <;> rfl
theorem lex_eq : ∀ a b : List (Int ⊕ List Nat), PyProof.Rows.lexLt PyProof.Rows.itemOrd a b = tksLt a b
  | [], [] => rfl
  | [], _ :: _ => rfl
  | _ :: _, [] => rfl
  | x :: r, y :: t => by
    rw [tksLt, ← lex_eq r t, ← tkLt_eq, ← tkLt_eq]
    rfl
theorem lt_eq (a b : D) : PySem.W.dataLt (toP a) (toP b) = D.lt a b := by
  unfold PySem.W.dataLt D.lt
  rw [toks_eq, toks_eq, lex_eq]
mutual
theorem alike_of : ∀ a b : D, D.alk a b = true → PySem.W.alike (toP a) (toP b) = true
  | .int _, .int _, _ => by rw [toP, toP, PySem.W.alike]
  | .str _, .str _, _ => by rw [toP, toP, PySem.W.alike]
  | .tup xs, .tup ys, h => by
    rw [D.alk] at h
    rw [toP, toP, PySem.W.alike]
    exact alikes_of xs ys h
  | .non, b, h => by cases b <;> cases h
  | .bl _, b, h => by cases b <;> cases h
  | .lst _, b, h => by cases b <;> cases h
  | .fls _, b, h => by cases b <;> cases h
  | .rng _ _, b, h => by cases b <;> cases h
  | .rdn _ _, b, h => by cases b <;> cases h
  | .obj _ _, b, h => by cases b <;> cases h
  | .dct _, b, h => by cases b <;> cases h
  | .fdc _, b, h => by cases b <;> cases h
  | .int _, .non, h => by cases h
  | .int _, .bl _, h => by cases h
  | .int _, .str _, h => by cases h
  | .int _, .tup _, h => by cases h
  | .int _, .lst _, h => by cases h
  | .int _, .fls _, h => by cases h
  | .int _, .rng _ _, h => by cases h
  | .int _, .rdn _ _, h => by cases h
  | .int _, .dct _, h => by cases h
  | .int _, .fdc _, h => by cases h
  | .str _, .non, h => by cases h
  | .str _, .bl _, h => by cases h
  | .str _, .int _, h => by cases h
  | .str _, .tup _, h => by cases h
  | .str _, .lst _, h => by cases h
  | .str _, .fls _, h => by cases h
  | .str _, .rng _ _, h => by cases h
  | .str _, .rdn _ _, h => by cases h
  | .str _, .dct _, h => by cases h
  | .str _, .fdc _, h => by cases h
  | .tup _, .non, h => by cases h
  | .tup _, .bl _, h => by cases h
  | .tup _, .int _, h => by cases h
  | .tup _, .str _, h => by cases h
  | .tup _, .lst _, h => by cases h
  | .tup _, .fls _, h => by cases h
  | .tup _, .rng _ _, h => by cases h
  | .tup _, .rdn _ _, h => by cases h
  | .tup _, .dct _, h => by cases h
  | .tup _, .fdc _, h => by cases h
theorem alikes_of : ∀ xs ys : List D, D.alks xs ys = true → PySem.W.alikeAll (toPs xs) (toPs ys) = true
  | [], _, _ => by rw [toPs, PySem.W.alikeAll]
  | _ :: _, [], _ => by rw [toPs, toPs, PySem.W.alikeAll]
  | x :: xs, y :: ys, h => by
    rw [D.alks, Bool.and_eq_true] at h
    rw [toPs, toPs, PySem.W.alikeAll, alike_of x y h.1, alikes_of xs ys h.2]
    rfl
end
theorem toP_ne {a b : D} (h : D.alk a b = true) : toP a ≠ .none := by
  cases a <;> first | (cases b <;> cases h; done) | simp [toP]
mutual
theorem toP_inj : ∀ a b : D, D.alk a b = true → toP a = toP b → a = b
  | .int i, .int j, _, e => by rw [toP, toP] at e; cases e; rfl
  | .str i, .str j, _, e => by
    rw [toP, toP] at e
    rw [strV_inj (PyData.str.inj e)]
  | .tup xs, .tup ys, h, e => by
    rw [toP, toP] at e
    rw [D.alk] at h
    rw [toPs_inj xs ys h (PyData.tuple.inj e)]
  | .non, b, h, _ => by cases b <;> cases h
  | .bl _, b, h, _ => by cases b <;> cases h
  | .lst _, b, h, _ => by cases b <;> cases h
  | .fls _, b, h, _ => by cases b <;> cases h
  | .rng _ _, b, h, _ => by cases b <;> cases h
  | .rdn _ _, b, h, _ => by cases b <;> cases h
  | .obj _ _, b, h, _ => by cases b <;> cases h
  | .dct _, b, h, _ => by cases b <;> cases h
  | .fdc _, b, h, _ => by cases b <;> cases h
  | .int _, .non, h, _ => by cases h
  | .int _, .bl _, h, _ => by cases h
  | .int _, .str _, h, _ => by cases h
  | .int _, .tup _, h, _ => by cases h
  | .int _, .lst _, h, _ => by cases h
  | .int _, .fls _, h, _ => by cases h
  | .int _, .rng _ _, h, _ => by cases h
  | .int _, .rdn _ _, h, _ => by cases h
  | .int _, .dct _, h, _ => by cases h
  | .int _, .fdc _, h, _ => by cases h
  | .str _, .non, h, _ => by cases h
  | .str _, .bl _, h, _ => by cases h
  | .str _, .int _, h, _ => by cases h
  | .str _, .tup _, h, _ => by cases h
  | .str _, .lst _, h, _ => by cases h
  | .str _, .fls _, h, _ => by cases h
  | .str _, .rng _ _, h, _ => by cases h
  | .str _, .rdn _ _, h, _ => by cases h
  | .str _, .dct _, h, _ => by cases h
  | .str _, .fdc _, h, _ => by cases h
  | .tup _, .non, h, _ => by cases h
  | .tup _, .bl _, h, _ => by cases h
  | .tup _, .int _, h, _ => by cases h
  | .tup _, .str _, h, _ => by cases h
  | .tup _, .lst _, h, _ => by cases h
  | .tup _, .fls _, h, _ => by cases h
  | .tup _, .rng _ _, h, _ => by cases h
  | .tup _, .rdn _ _, h, _ => by cases h
  | .tup _, .dct _, h, _ => by cases h
  | .tup _, .fdc _, h, _ => by cases h
theorem toPs_inj : ∀ xs ys : List D, D.alks xs ys = true → toPs xs = toPs ys → xs = ys
  | [], [], _, _ => rfl
  | [], _ :: _, _, e => by rw [toPs, toPs] at e; cases e
  | _ :: _, [], _, e => by rw [toPs, toPs] at e; cases e
  | x :: xs, y :: ys, h, e => by
    rw [D.alks, Bool.and_eq_true] at h
    rw [toPs, toPs] at e
    rw [toP_inj x y h.1 (List.cons.inj e).1, toPs_inj xs ys h.2 (List.cons.inj e).2]
end
theorem depth_ok : ∀ (n : Nat) (d : D), d.okD n = true → (toP d).depth ≤ n := by
  intro n
  induction n with
  | zero =>
    intro d h
    cases d <;> first | (cases h; done) | (simp [toP, PyData.depth]; done)
  | succ n ih =>
    intro d h
    have all : ∀ xs : List D, xs.all (D.okD n) = true → PyData.depthAll (toPs xs) ≤ n := by
      intro xs
      induction xs with
      | nil => intro _; simp [toPs, PyData.depthAll]
      | cons x xs ihx =>
        intro h
        rw [List.all_cons, Bool.and_eq_true] at h
        rw [toPs]
        simp only [PyData.depthAll]
        exact Nat.max_le.mpr ⟨ih x h.1, ihx h.2⟩
    cases d with
    | tup xs => rw [toP]; simp only [PyData.depth]; exact Nat.succ_le_succ (all xs h)
    | lst xs => rw [toP]; simp only [PyData.depth]; exact Nat.succ_le_succ (all xs h)
    | fls xs => rw [toP]; simp only [PyData.depth]; exact Nat.succ_le_succ (all xs h)
    | _ => simp [toP, PyData.depth]
theorem depths_ok (n : Nat) : ∀ xs : List D, xs.all (D.okD n) = true → PyData.depthAll (toPs xs) ≤ n
  | [], _ => by simp [toPs, PyData.depthAll]
  | x :: xs, h => by
    rw [List.all_cons, Bool.and_eq_true] at h
    rw [toPs]
    simp only [PyData.depthAll]
    exact Nat.max_le.mpr ⟨depth_ok n x h.1, depths_ok n xs h.2⟩
section
variable {X : Cx}
/-- t < u and so on of two tuples -/
def rTupB (X : Cx) (u : D → D → Bool) : R2 := fun x y H Q => ∃ Z xs ys, RepD X.K H Z x (.tup xs) ∧ RepD X.K H Z y (.tup ys) ∧ D.alks xs ys = true ∧ (D.tup xs).okD 20 = true ∧ (D.tup ys).okD 20 = true ∧ Q (.bl (u (.tup xs) (.tup ys))) H
theorem tup_room (hu : X.A.units + 64 < cLine) {xs ys : List D} (o : (D.tup xs).okD 20 = true) : X.A.units + min (toP (.tup xs)).depth (toP (.tup ys)).depth < cLine := by
  have := depth_ok 20 _ o
  have := Nat.min_le_left (toP (.tup xs)).depth (toP (.tup ys)).depth
  omega
theorem tup_ne {xs : List D} : toP (.tup xs) ≠ .none := by rw [toP]; exact fun z => nomatch z
theorem tup_alike {xs ys : List D} (h : D.alks xs ys = true) : PySem.W.alike (toP (.tup xs)) (toP (.tup ys)) = true := alike_of _ _ (by rw [D.alk]; exact h)
theorem op_ltTup (hu : X.A.units + 64 < cLine) : OpR X (compareOp .Lt) (rTupB X fun x y => D.lt x y) := by
  intro pins s σ H x y v u Q I rx ry h
  obtain ⟨Z, xs, ys, hx, hy, al, o1, o2, q⟩ := h
  obtain ⟨as, r1⟩ := Dp.reads I _ x v (rp_dp 20 (hx.rp rfl) o1) rx
  obtain ⟨bs, r2⟩ := Dp.reads I _ y u (rp_dp 20 (hy.rp rfl) o2) ry
  exact PySem.W.lt_data r1 r2 (tup_alike al) tup_ne (tup_room hu o1) ⟨.bl _, H, I, rfl, by rw [lt_eq]; exact q⟩
theorem op_gtTup (hu : X.A.units + 64 < cLine) : OpR X (compareOp .Gt) (rTupB X fun x y => D.lt y x) := by
  intro pins s σ H x y v u Q I rx ry h
  obtain ⟨Z, xs, ys, hx, hy, al, o1, o2, q⟩ := h
  obtain ⟨as, r1⟩ := Dp.reads I _ x v (rp_dp 20 (hx.rp rfl) o1) rx
  obtain ⟨bs, r2⟩ := Dp.reads I _ y u (rp_dp 20 (hy.rp rfl) o2) ry
  exact PySem.W.gt_data r1 r2 (tup_alike al) tup_ne (tup_room hu o1) ⟨.bl _, H, I, rfl, by rw [lt_eq]; exact q⟩
theorem op_leTup (hu : X.A.units + 64 < cLine) : OpR X (compareOp .LtE) (rTupB X fun x y => !D.lt y x) := by
  intro pins s σ H x y v u Q I rx ry h
  obtain ⟨Z, xs, ys, hx, hy, al, o1, o2, q⟩ := h
  obtain ⟨as, r1⟩ := Dp.reads I _ x v (rp_dp 20 (hx.rp rfl) o1) rx
  obtain ⟨bs, r2⟩ := Dp.reads I _ y u (rp_dp 20 (hy.rp rfl) o2) ry
  exact PySem.W.le_data r1 r2 (tup_alike al) tup_ne (tup_room hu o1) ⟨.bl _, H, I, rfl, by rw [lt_eq]; exact q⟩
theorem op_geTup (hu : X.A.units + 64 < cLine) : OpR X (compareOp .GtE) (rTupB X fun x y => !D.lt x y) := by
  intro pins s σ H x y v u Q I rx ry h
  obtain ⟨Z, xs, ys, hx, hy, al, o1, o2, q⟩ := h
  obtain ⟨as, r1⟩ := Dp.reads I _ x v (rp_dp 20 (hx.rp rfl) o1) rx
  obtain ⟨bs, r2⟩ := Dp.reads I _ y u (rp_dp 20 (hy.rp rfl) o2) ry
  exact PySem.W.ge_data r1 r2 (tup_alike al) tup_ne (tup_room hu o1) ⟨.bl _, H, I, rfl, by rw [lt_eq]; exact q⟩
/-! ### sorted, min, max of such -/
theorem all_alike {xs : List D} (h : ordAll xs = true) : PySem.W.AllAlike (xs.map toP) := by
  unfold ordAll at h
  rw [Bool.and_eq_true, List.all_eq_true, List.all_eq_true] at h
  intro d hd e he
  obtain ⟨a, ha, rfl⟩ := List.mem_map.mp hd
  obtain ⟨b, hb, rfl⟩ := List.mem_map.mp he
  exact alike_of a b (List.all_eq_true.mp (h.2 a ha) b hb)
theorem ord_alk {xs : List D} (h : ordAll xs = true) {a b : D} (ha : a ∈ xs) (hb : b ∈ xs) : D.alk a b = true := by
  unfold ordAll at h
  rw [Bool.and_eq_true, List.all_eq_true, List.all_eq_true] at h
  exact List.all_eq_true.mp (h.2 a ha) b hb
theorem ord_ok {xs : List D} (h : ordAll xs = true) : xs.all (D.okD 20) = true := by
  unfold ordAll at h
  rw [Bool.and_eq_true] at h
  exact h.1
theorem all_sortable {xs : List D} (h : ordAll xs = true) (h0 : xs.all (fun x => !x.tup0) = true) : PySem.W.Sortable (xs.map toP) := by
  rw [List.all_eq_true] at h0
  cases xs with
  | nil => exact .inl fun d hd => by simp at hd
  | cons x0 xs =>
    have h00 := h
    revert h00
    cases x0 with
    | tup ys =>
      intro _
      left
      intro d hd
      obtain ⟨a, ha, rfl⟩ := List.mem_map.mp hd
      have k := ord_alk h (List.mem_cons_self) ha
      cases a with
      | tup zs =>
        cases zs with
        | nil => have := h0 _ ha; cases this
        | cons z zs => rw [toP, toPs]; exact ⟨_, _, rfl⟩
      | _ => cases k
    | int i =>
      intro _
      right
      intro d hd
      obtain ⟨a, ha, rfl⟩ := List.mem_map.mp hd
      have k := ord_alk h (List.mem_cons_self) ha
      cases a with
      | int j => rw [toP]; exact ⟨fun z => (nomatch z), fun _ z => (nomatch z)⟩
      | _ => cases k
    | str i =>
      intro _
      right
      intro d hd
      obtain ⟨a, ha, rfl⟩ := List.mem_map.mp hd
      have k := ord_alk h (List.mem_cons_self) ha
      cases a with
      | str j => rw [toP]; exact ⟨fun z => (nomatch z), fun _ z => (nomatch z)⟩
      | _ => cases k
    | _ =>
      intro _
      have k := ord_alk h List.mem_cons_self List.mem_cons_self
      cases k
theorem each_of {K : PySem.W.Frag} {H : Hp} {Z : Addr → Prop} : ∀ {ws : List V} {us : List Value} {xs : List D}, Vals ws us → Rps K H Z ws xs → xs.all (D.okD 20) = true → PySem.W.EachIs (fun v (d : D) => ∃ w, RelV w v ∧ Rp K H Z w d ∧ d.okD 20 = true) us xs
  | _, _, _, .nil, .nil, _ => .nil
  | _, _, _, .cons r t, .cons h g, o => by
    rw [List.all_cons, Bool.and_eq_true] at o
    exact .cons ⟨_, r, h, o.1⟩ (each_of t g o.2)
theorem of_each {K : PySem.W.Frag} {H : Hp} {Z : Addr → Prop} : ∀ {us : List Value} {xs : List D}, PySem.W.EachIs (fun v (d : D) => ∃ w, RelV w v ∧ Rp K H Z w d ∧ d.okD 20 = true) us xs → ∃ ws, Vals ws us ∧ Rps K H Z ws xs
  | _, _, .nil => ⟨[], .nil, .nil⟩
  | _, _, .cons ⟨w, r, h, _⟩ t => by
    obtain ⟨ws, a, b⟩ := of_each t
    exact ⟨w :: ws, .cons r a, .cons h b⟩
def rSortG (K : PySem.W.Frag) : List V → Hp → VK → Prop := fun vs H Q => ∃ (a : Addr) (ws : List V) (Z : Addr → Prop) (xs : List D), vs = [V.ref a] ∧ SqL K H a ws ∧ Rps K H Z ws xs ∧ ordAll xs = true ∧ xs.all (fun x => !x.tup0) = true ∧
  ∀ (ys : List V) (p : Addr), Rps K H Z ys (sortG xs) → H p = none → Q (.ref p) (upd H p (.lst ys))
theorem cr_sortG (hu : X.A.units + 64 < cLine) : CallR X (.builtin "sorted") (rSortG X.K) := by
  intro pins s σ H vs us Q I r h
  obtain ⟨a, ws, Z, xs, rfl, hs, hr, ho, h0, q⟩ := h
  obtain ⟨its, rv, hl, hz⟩ := I.list hs
  rw [Vals.ref1 r]
  have e := each_of rv hr (ord_ok ho)
  have hL : xs.length ≤ sizeLine := by rw [← hr.length]; exact hz
  refine PySem.W.sorted_data (vs := its) (bs := xs) (enc := toP) hl.isList e (e.mono fun v d ⟨w, r, h, o⟩ => Dp.reads I _ w v (rp_dp 20 h o) r) (all_alike ho) (all_sortable ho h0) hL (fun b hb => ?_) fun out hlen eo => ?_
  · have := depth_ok 20 b (List.all_eq_true.mp (ord_ok ho) b hb)
    omega
  · have e2 : xs.mergeSort (PySem.W.dataLe false toP) = sortG xs := by
      unfold sortG
      congr 1
      funext a b
      rw [PySem.W.dataLe_eq]
      show (!PySem.W.dataLt (toP b) (toP a)) = _
      rw [lt_eq]
    rw [e2] at eo
    obtain ⟨ys, rv2, hr2⟩ := of_each eo
    obtain ⟨ep, he'⟩ := PyProof.Rows.sortedAll_at s.heap its out.toArray
    have hlen2 : ys.length ≤ sizeLine := by rw [rv2.length, hlen]; exact hL
    exact ⟨.ref _, upd H (s.heap.objs.size + 1) (.lst ys), I.laid (t' := s.toks) (fun _ _ => PyProof.Rows.sortedAll_old) (Nat.le_succ _) ⟨hlen2, out, ep, rv2, he'⟩, rfl, q _ _ hr2 (I.hok.fresh (Nat.le_succ _))⟩
def minF (x : D) (xs : List D) : D := xs.foldl (fun a y => if D.lt y a then y else a) x
def maxF (x : D) (xs : List D) : D := xs.foldl (fun a y => if D.lt a y then y else a) x
theorem minF_mem : ∀ (xs : List D) (x : D), minF x xs ∈ x :: xs
  | [], x => List.mem_cons_self
  | y :: ys, x => by
    have ih := minF_mem ys (if D.lt y x then y else x)
    show minF (if D.lt y x then y else x) ys ∈ _
    rcases List.mem_cons.mp ih with e | h
    · rw [e]; split <;> simp
    · exact List.mem_cons_of_mem _ (List.mem_cons_of_mem _ h)
theorem maxF_mem : ∀ (xs : List D) (x : D), maxF x xs ∈ x :: xs
  | [], x => List.mem_cons_self
  | y :: ys, x => by
    have ih := maxF_mem ys (if D.lt x y then y else x)
    show maxF (if D.lt x y then y else x) ys ∈ _
    rcases List.mem_cons.mp ih with e | h
    · rw [e]; split <;> simp
    · exact List.mem_cons_of_mem _ (List.mem_cons_of_mem _ h)
theorem minF_eq : ∀ (xs : List D) (x : D), PySem.W.minD (toP x) (xs.map toP) = toP (minF x xs)
  | [], x => rfl
  | y :: ys, x => by
    have ih := minF_eq ys (if D.lt y x then y else x)
    show PySem.W.minD (if PySem.W.dataLt (toP y) (toP x) then toP y else toP x) (ys.map toP) = _
    rw [lt_eq]
    show _ = toP (minF (if D.lt y x then y else x) ys)
    rw [← ih]
    split <;> rfl
theorem maxF_eq : ∀ (xs : List D) (x : D), PySem.W.maxD (toP x) (xs.map toP) = toP (maxF x xs)
  | [], x => rfl
  | y :: ys, x => by
    have ih := maxF_eq ys (if D.lt x y then y else x)
    show PySem.W.maxD (if PySem.W.dataLt (toP x) (toP y) then toP y else toP x) (ys.map toP) = _
    rw [lt_eq]
    show _ = toP (maxF (if D.lt x y then y else x) ys)
    rw [← ih]
    split <;> rfl
def rBest (K : PySem.W.Frag) (f : D → List D → D) : List V → Hp → VK → Prop := fun vs H Q => ∃ (a : Addr) (ws : List V) (Z : Addr → Prop) (x : D) (xs : List D), vs = [V.ref a] ∧ SqL K H a ws ∧ Rps K H Z ws (x :: xs) ∧ ordAll (x :: xs) = true ∧ ∀ w, Rp K H Z w (f x xs) → Q w H
theorem best_at {pins : List (Addr × Obj)} {s : Shared} {σ : L2.St} {H : Hp} {Z : Addr → Prop} {ws : List V} {its : List Value} {x b : D} {xs : List D} {i : Nat} {v : Value} {h' : Heap} {bs : List Addr} (I : Inv X pins σ H s) (rv : Vals ws its) (hr : Rps X.K H Z ws (x :: xs)) (ho : ordAll (x :: xs) = true) (hv : its.toArray[i]? = some v) (rd : Reads h' v (toP b) bs) (hb : b ∈ x :: xs) (hk : ∀ b o, s.heap.get? b = some o → h'.get? b = some o) : ∃ w, RelV w v ∧ Rp X.K H Z w b := by
  have hv' : its[i]? = some v := by simpa using hv
  have go : ∀ {ws : List V} {its : List Value} {ds : List D} {i : Nat}, Vals ws its → Rps X.K H Z ws ds → its[i]? = some v → ∃ w d, RelV w v ∧ Rp X.K H Z w d ∧ d ∈ ds := by
    intro ws its ds i rv
    induction rv generalizing ds i with
    | nil => intro _ h; simp at h
    | cons r t ih =>
      intro hr h
      cases hr with
      | cons h1 h2 =>
        cases i with
        | zero =>
          have e := Option.some.inj (show some _ = some v from h)
          subst e
          exact ⟨_, _, r, h1, List.mem_cons_self⟩
        | succ i =>
          obtain ⟨w, d, a, b, c⟩ := ih (i := i) h2 (by simpa using h)
          exact ⟨w, d, a, b, List.mem_cons_of_mem _ c⟩
  obtain ⟨w, d, r, h1, hd⟩ := go rv hr hv'
  obtain ⟨as, r2⟩ := Dp.reads I _ w v (rp_dp 20 h1 (List.all_eq_true.mp (ord_ok ho) d hd)) r
  have hal := ord_alk ho hb hd
  have e := PySem.W.alike_unique _ _ _ _ _ (alike_of _ _ hal) rd (PyProof.Rows.Reads.keeps hk r2)
  have e2 := toP_inj _ _ hal e
  subst e2
  exact ⟨w, r, h1⟩
theorem alike_all {x : D} {xs : List D} (ho : ordAll (x :: xs) = true) : PySem.W.AlikeAll (toP x :: xs.map toP) :=
  ⟨all_alike ho, fun d hd => by
    obtain ⟨a, ha, rfl⟩ := List.mem_map.mp (show d ∈ (x :: xs).map toP from hd)
    exact toP_ne (ord_alk ho ha ha)⟩
theorem cr_minG (hc : X.calm = true) (hu : X.A.units + 64 < cLine) : CallR X (.builtin "min") (rBest X.K minF) := by
  intro pins s σ H vs us Q I r h
  obtain ⟨a, ws, Z, x, xs, rfl, hs, hr, ho, q⟩ := h
  obtain ⟨its, rv, hl, hz⟩ := I.list hs
  rw [Vals.ref1 r]
  obtain ⟨as, ra⟩ := Dp.readsAll I _ ws its (rps_dp 20 hr (ord_ok ho)) rv
  rw [toPs_map] at ra
  refine PySem.W.min_list_data (I.ok.hd hc) hl.isList (x := toP x) (xs := xs.map toP) (as := as) (by simpa using ra) (alike_all ho) ?_ fun i v h' tk bs hv rd hk => ?_
  · have := depths_ok 20 _ (ord_ok ho)
    rw [toPs_map] at this
    show X.A.units + 1 + PyData.depthAll ((x :: xs).map toP) < cLine
    omega
  · rw [minF_eq] at rd
    obtain ⟨w, rw', rp⟩ := best_at I rv hr ho hv rd (minF_mem xs x) hk
    exact ⟨w, H, I.kept hk, rw', q w rp⟩
theorem cr_maxG (hc : X.calm = true) (hu : X.A.units + 64 < cLine) : CallR X (.builtin "max") (rBest X.K maxF) := by
  intro pins s σ H vs us Q I r h
  obtain ⟨a, ws, Z, x, xs, rfl, hs, hr, ho, q⟩ := h
  obtain ⟨its, rv, hl, hz⟩ := I.list hs
  rw [Vals.ref1 r]
  obtain ⟨as, ra⟩ := Dp.readsAll I _ ws its (rps_dp 20 hr (ord_ok ho)) rv
  rw [toPs_map] at ra
  refine PySem.W.max_list_data (I.ok.hd hc) hl.isList (x := toP x) (xs := xs.map toP) (as := as) (by simpa using ra) (alike_all ho) ?_ fun i v h' tk bs hv rd hk => ?_
  · have := depths_ok 20 _ (ord_ok ho)
    rw [toPs_map] at this
    show X.A.units + 1 + PyData.depthAll ((x :: xs).map toP) < cLine
    omega
  · rw [maxF_eq] at rd
    obtain ⟨w, rw', rp⟩ := best_at I rv hr ho hv rd (maxF_mem xs x) hk
    exact ⟨w, H, I.kept hk, rw', q w rp⟩
end
end Mi

/-! comparisons, items, slices, displays -/
namespace Mi
open PySem PySem.Spec PyProof.Rows L2
section
variable {X : Cx} {W : WX} {ex : Nat → Addr} {G : List Fn} {C : List D} {a b : Expr} {ea eb : E} {pos : Pos}
section
variable {pins : List (Addr × Obj)} {σ : L2.St} {s : Shared} {H : Hp} {Z : Addr → Prop}
theorem no_rng_l (I : Inv X pins σ H s) {a : Addr} {vs : List V} {lo hi : Int} (h : SqL X.K H a vs) (h' : H a = some (.rng lo hi)) : False := by
  obtain ⟨its, _, hl, _⟩ := I.list h
  obtain ⟨o, ho, hc, _⟩ := hl.isList
  obtain ⟨t, u, w, ho'⟩ := I.hok a _ h'
  rw [ho] at ho'
  rw [Option.some.inj ho'] at hc
  exact absurd hc (by simp)
theorem no_rng_t (I : Inv X pins σ H s) {a : Addr} {vs : List V} {lo hi : Int} (h : SqT X.K H a vs) (h' : H a = some (.rng lo hi)) : False := by
  obtain ⟨its, _, hl⟩ := Inv.isTuple I h
  obtain ⟨o, ho, hc, _⟩ := hl
  obtain ⟨t, u, w, ho'⟩ := I.hok a _ h'
  rw [ho] at ho'
  rw [Option.some.inj ho'] at hc
  exact absurd hc (by simp)
theorem no_ins_l (I : Inv X pins σ H s) {a C dx : Addr} {vs : List V} {fs : List (Str × V)} (h : SqL X.K H a vs) (h' : H a = some (.ins C dx fs)) : False := by
  obtain ⟨its, _, hl, _⟩ := I.list h
  obtain ⟨o, ho, hc, _⟩ := hl.isList
  obtain ⟨mA, O, _⟩ := ins_get I.hok h'
  have e := O.obj
  rw [ho] at e
  rw [Option.some.inj e] at hc
  cases hc
theorem no_ins_t (I : Inv X pins σ H s) {a C dx : Addr} {vs : List V} {fs : List (Str × V)} (h : SqT X.K H a vs) (h' : H a = some (.ins C dx fs)) : False := by
  obtain ⟨its, _, hl⟩ := Inv.isTuple I h
  obtain ⟨o, ho, hc, _⟩ := hl
  obtain ⟨mA, O, _⟩ := ins_get I.hok h'
  have e := O.obj
  rw [ho] at e
  rw [Option.some.inj e] at hc
  cases hc
theorem zip_inj {α β : Type} : ∀ {xs ys : List α} {us vs : List β}, xs.length = us.length → ys.length = vs.length → xs.zip us = ys.zip vs → xs = ys ∧ us = vs
  | [], [], [], [], _, _, _ => ⟨rfl, rfl⟩
  | [], _ :: _, [], [], _, h, _ => by simp at h
  | [], [], [], _ :: _, _, h, _ => by simp at h
  | [], y :: ys, [], v :: vs, _, _, h => by cases h
  | x :: xs, [], u :: us, [], _, _, h => by cases h
  | x :: xs, [], u :: us, _ :: _, _, h, _ => by simp at h
  | x :: xs, y :: ys, u :: us, [], _, h, _ => by simp at h
  | [], _, _ :: _, _, h, _, _ => by simp at h
  | _ :: _, _, [], _, h, _, _ => by simp at h
  | x :: xs, y :: ys, u :: us, v :: vs, h1, h2, h => by
    rw [List.zip_cons_cons, List.zip_cons_cons] at h
    injection h with h3 h4
    obtain ⟨e1, e2⟩ := zip_inj (by simpa using h1) (by simpa using h2) h4
    cases h3
    exact ⟨by rw [e1], by rw [e2]⟩
theorem map_strV_inj : ∀ {xs ys : List (List Nat)}, xs.map strV = ys.map strV → xs = ys
  | [], [], _ => rfl
  | [], _ :: _, h => by cases h
  | _ :: _, [], h => by cases h
  | x :: xs, y :: ys, h => by
    injection h with h1 h2
    rw [strV_inj h1, map_strV_inj h2]
mutual
theorem rp_one (I : Inv X pins σ H s) : ∀ {v : V} {d d' : D}, Rp X.K H Z v d → Rp X.K H Z v d' → d = d'
  | _, _, _, .non, .non => rfl
  | _, _, _, .bl _, .bl _ => rfl
  | _, _, _, .int _, .int _ => rfl
  | _, _, _, .str x, h => by
    generalize hv : V.str (strV x) = v at h
    cases h with
    | str y => rw [strV_inj (V.str.inj hv)]
    | _ => cases hv
  | _, _, _, .tup l1 r1, .tup l2 r2 => by
    have e := I.tuple_inj l1 l2
    subst e
    rw [rps_one I r1 r2]
  | _, _, _, .tup l1 r1, .fls _ l2 r2 => (no_both I l2 l1).elim
  | _, _, _, .fls _ l1 r1, .tup l2 r2 => (no_both I l1 l2).elim
  | _, _, _, .fls _ l1 r1, .fls _ l2 r2 => by
    have e := same_list I l1 l2
    subst e
    rw [rps_one I r1 r2]
  | _, _, _, .rng h e _, .rng h' e' _ => by rw [h] at h'; cases h'; rw [e, e']
  | _, _, _, .rng h _ _, .tup l _ => (no_rng_t I l h).elim
  | _, _, _, .rng h _ _, .fls _ l _ => (no_rng_l I l h).elim
  | _, _, _, .tup l _, .rng h _ _ => (no_rng_t I l h).elim
  | _, _, _, .fls _ l _, .rng h _ _ => (no_rng_l I l h).elim
  | _, _, _, .obj _ h _ _, .rng h' _ _ => by rw [h] at h'; cases h'
  | _, _, _, .rng h' _ _, .obj _ h _ _ => by rw [h] at h'; cases h'
  | _, _, _, .obj _ h _ _, .tup l _ => (no_ins_t I l h).elim
  | _, _, _, .tup l _, .obj _ h _ _ => (no_ins_t I l h).elim
  | _, _, _, .obj _ h _ _, .fls _ l _ => (no_ins_l I l h).elim
  | _, _, _, .fls _ l _, .obj _ h _ _ => (no_ins_l I l h).elim
  | _, _, _, .obj k h n r, .obj k' h' n' r' => by
    rw [h] at h'
    injection h' with h'
    injection h' with e1 e2 e3
    subst e1
    obtain ⟨q1, q2⟩ := zip_inj (by rw [List.length_map]; exact n) (by rw [List.length_map]; exact n') e3
    have q1 := map_strV_inj q1
    subst q1 q2
    have e5 := k.1.symm.trans k'.1
    rw [strV_inj (Option.some.inj e5), rps_one I r r']
theorem rps_one (I : Inv X pins σ H s) : ∀ {vs : List V} {ds ds' : List D}, Rps X.K H Z vs ds → Rps X.K H Z vs ds' → ds = ds'
  | _, _, _, .nil, .nil => rfl
  | _, _, _, .cons h r, .cons h' r' => by rw [rp_one I h h', rps_one I r r']
end
open Classical in
/-- is the value y one of xs that is == to a -/
noncomputable def eqOf (K : PySem.W.Frag) (H : Hp) (Z : Addr → Prop) (a : D) (y : Value) : Bool := if h : ∃ d v, Rp K H Z v d ∧ RelV v y then D.peq h.choose a else false
theorem eqOf_at (I : Inv X pins σ H s) {v : V} {d : D} {y : Value} (a : D) (h : Rp X.K H Z v d) (r : RelV v y) : eqOf X.K H Z a y = D.peq d a := by
  have hx : ∃ d v, Rp X.K H Z v d ∧ RelV v y := ⟨d, v, h, r⟩
  unfold eqOf
  rw [dif_pos hx]
  obtain ⟨v', h', r'⟩ := hx.choose_spec
  have ev := RelV.inj r r'
  subst ev
  rw [rp_one I h h']
theorem eqOf_any (I : Inv X pins σ H s) (a : D) : ∀ {vs : List V} {xs : List D} {its : List Value}, Rps X.K H Z vs xs → Vals vs its → its.any (eqOf X.K H Z a) = xs.any fun y => D.peq y a
  | _, _, _, .nil, .nil => rfl
  | _, _, _, .cons h g, .cons r t => by rw [List.any_cons, List.any_cons, eqOf_at I a h r, eqOf_any I a g t]
theorem eqOf_all (I : Inv X pins σ H s) {n : Nat} {A : Around} (hA : A.units + n < cLine) {a : D} {v : V} {x : Value} (ha : RepD X.K H Z v a) (rx : RelV v x) (oa : a.okD n = true) : ∀ {vs : List V} {xs : List D} {its : List Value}, Rps X.K H Z vs xs → Vals vs its → xs.all (D.okD n) = true →
    ∀ y ∈ its, SeqAt.EqAt A s y x (eqOf X.K H Z a y)
  | _, _, _, .nil, .nil, _ => fun y hy => by cases hy
  | _, _, _, .cons h g, .cons r t, o => fun y hy => by
    rw [List.all_cons, Bool.and_eq_true] at o
    rcases List.mem_cons.mp hy with e | hy
    · subst e
      rw [eqOf_at I a h r]
      exact eqAt_D I n A hA _ _ _ _ _ _ (.of h) ha r rx o.1 oa
    · exact eqOf_all I hA ha rx oa g t o.2 y hy
end
/-- x in ys -/
def rInD (X : Cx) (neg : Bool) : R2 := fun x y H Q => ∃ Z d xs, RepD X.K H Z x d ∧ (RepQ X.K H Z y xs ∨ RepD X.K H Z y (.tup xs)) ∧ d.okD 20 = true ∧ xs.all (D.okD 20) = true ∧ Q (.bl (if neg then !(xs.any fun y => D.peq y d) else xs.any fun y => D.peq y d)) H
theorem op_inD (hu : X.A.units + 64 < cLine) : OpR X (compareOp .In) (rInD X false) := by
  intro pins s σ H x y v u Q I rx ry h
  obtain ⟨Z, d, xs, hd, hy | hy, o1, o2, q⟩ := h
  · obtain ⟨l, vs, rfl, l1, g1⟩ := hy
    cases ry
    obtain ⟨its, rv, hl, _⟩ := I.list l1
    refine SeqAt.in_listAt (eqOf X.K H Z d) hl.isList (fun y hy => eqOf_all I (A := X.A.in1) (by show X.A.units + 1 + 20 < cLine; omega) hd rx o1 g1 rv o2 y (by simpa using hy)) ?_
    rw [List.any_toArray, eqOf_any I d g1 rv]
    exact ⟨.bl _, H, I, rfl, q⟩
  · obtain ⟨l, vs, rfl, l1, g1⟩ := rep_tup hy
    cases ry
    obtain ⟨its, rv, hl⟩ := Inv.isTuple I l1
    refine SeqAt.in_tupleAt (eqOf X.K H Z d) hl (fun y hy => eqOf_all I (A := X.A.in1) (by show X.A.units + 1 + 20 < cLine; omega) hd rx o1 g1 rv o2 y (by simpa using hy)) ?_
    rw [List.any_toArray, eqOf_any I d g1 rv]
    exact ⟨.bl _, H, I, rfl, q⟩
theorem op_notInD (hu : X.A.units + 64 < cLine) : OpR X (compareOp .NotIn) (rInD X true) := by
  intro pins s σ H x y v u Q I rx ry h
  obtain ⟨Z, d, xs, hd, hy | hy, o1, o2, q⟩ := h
  · obtain ⟨l, vs, rfl, l1, g1⟩ := hy
    cases ry
    obtain ⟨its, rv, hl, _⟩ := I.list l1
    refine SeqAt.notIn_listAt (eqOf X.K H Z d) hl.isList (fun y hy => eqOf_all I (A := X.A.in1) (by show X.A.units + 1 + 20 < cLine; omega) hd rx o1 g1 rv o2 y (by simpa using hy)) ?_
    rw [List.any_toArray, eqOf_any I d g1 rv]
    exact ⟨.bl _, H, I, rfl, q⟩
  · obtain ⟨l, vs, rfl, l1, g1⟩ := rep_tup hy
    cases ry
    obtain ⟨its, rv, hl⟩ := Inv.isTuple I l1
    refine SeqAt.notIn_tupleAt (eqOf X.K H Z d) hl (fun y hy => eqOf_all I (A := X.A.in1) (by show X.A.units + 1 + 20 < cLine; omega) hd rx o1 g1 rv o2 y (by simpa using hy)) ?_
    rw [List.any_toArray, eqOf_any I d g1 rv]
    exact ⟨.bl _, H, I, rfl, q⟩
def rEqDD (X : Cx) (neg : Bool) : R2 := fun x y H Q => ∃ Z d e, RepD X.K H Z x d ∧ RepD X.K H Z y e ∧ d.okD 20 = true ∧ e.okD 20 = true ∧ Q (.bl (if neg then !D.peq d e else D.peq d e)) H
theorem op_eqDD (hu : X.A.units + 64 < cLine) : OpR X (compareOp .Eq) (rEqDD X false) := by
  intro pins s σ H x y v u Q I rx ry h
  obtain ⟨Z, d, e, hd, he, o1, o2, q⟩ := h
  exact rc_D I 19 X.A (by omega) d e x y v u hd he rx ry o1 o2 _ _ _ _ ⟨.bl _, H, I, rfl, q⟩
theorem op_neDD (hu : X.A.units + 64 < cLine) : OpR X (compareOp .NotEq) (rEqDD X true) := by
  intro pins s σ H x y v u Q I rx ry h
  obtain ⟨Z, d, e, hd, he, o1, o2, q⟩ := h
  exact rn_D I 19 X.A (by omega) d e x y v u hd he rx ry o1 o2 _ _ _ _ ⟨.bl _, H, I, rfl, q⟩
theorem ok_eq : BinOk X (.cmp .eq) (rEqDD X false) := by
  intro x y H Z a b d Q zk ra rb e q
  have e' : (if (a.okD 20 && b.okD 20) = true then some (D.bl (D.peq a b)) else none) = some d := e
  split at e'
  · rename_i hz
    cases e'
    rw [Bool.and_eq_true] at hz
    exact ⟨Z, a, b, ra, rb, hz.1, hz.2, q _ _ (new_flat (.bl _))⟩
  · cases e'
theorem ok_ne : BinOk X (.cmp .ne) (rEqDD X true) := by
  intro x y H Z a b d Q zk ra rb e q
  have e' : (if (a.okD 20 && b.okD 20) = true then some (D.bl (!D.peq a b)) else none) = some d := e
  split at e'
  · rename_i hz
    cases e'
    rw [Bool.and_eq_true] at hz
    exact ⟨Z, a, b, ra, rb, hz.1, hz.2, q _ _ (new_flat (.bl _))⟩
  · cases e'
theorem strV_list (x : List Nat) : (strV x).cps.toList = x := rfl
abbrev rLess (X : Cx) (p : Int → Int → Bool) (t : List Nat → List Nat → Bool) (u : D → D → Bool) : R2 := fun x y H Q => rI0 (fun i j => .bl (p i j)) x y H Q ∨ ((∃ i j, x = .str i ∧ y = .str j ∧ Q (.bl (t i.cps.toList j.cps.toList)) H) ∨ rTupB X u x y H Q)
theorem ok_less {o : Cop} {p : Int → Int → Bool} {t : List Nat → List Nat → Bool} {u : D → D → Bool} (ho : ∀ a b, cmpD o a b = ltD p t u a b) : BinOk X (.cmp o) (rLess X p t u) := by
  intro x y H Z a b d Q zk ra rb e q
  have e' : ltD p t u a b = some d := (ho a b).symm.trans e
  cases a with
  | int i => cases b with
    | int j => cases e'; exact .inl ⟨i, j, rep_int ra, rep_int rb, q _ _ (new_flat (.bl _))⟩
    | _ => cases e'
  | str i => cases b with
    | str j => cases e'; exact .inr (.inl ⟨strV i, strV j, rep_str ra, rep_str rb, q _ _ (new_flat (.bl _))⟩)
    | _ => cases e'
  | tup xs => cases b with
    | tup ys =>
      have e2 : (if (D.alks xs ys && (D.tup xs).okD 20 && (D.tup ys).okD 20) = true then some (D.bl (u (.tup xs) (.tup ys))) else none) = some d := e'
      split at e2
      · rename_i hz
        rw [Bool.and_eq_true, Bool.and_eq_true] at hz
        cases e2
        exact .inr (.inr ⟨Z, xs, ys, ra, rb, hz.1.1, hz.1.2, hz.2, q _ _ (new_flat (.bl _))⟩)
      · cases e2
    | _ => cases e'
  | _ => cases b <;> cases e'
theorem op_ltD (hu : X.A.units + 64 < cLine) : OpR X (compareOp .Lt) (rLess X (fun i j => decide (i < j)) lexN fun x y => D.lt x y) := op_lt.or (op_lt_str.or (op_ltTup hu))
theorem op_leD (hu : X.A.units + 64 < cLine) : OpR X (compareOp .LtE) (rLess X (fun i j => decide (i ≤ j)) (fun x y => !lexN y x) fun x y => !D.lt y x) := op_le.or (op_le_str.or (op_leTup hu))
theorem op_gtD (hu : X.A.units + 64 < cLine) : OpR X (compareOp .Gt) (rLess X (fun i j => decide (j < i)) (fun x y => lexN y x) fun x y => D.lt y x) := op_gt.or (op_gt_str.or (op_gtTup hu))
theorem op_geD (hu : X.A.units + 64 < cLine) : OpR X (compareOp .GtE) (rLess X (fun i j => decide (j ≤ i)) (fun x y => !lexN x y) fun x y => !D.lt x y) := op_ge.or (op_ge_str.or (op_geTup hu))
/-- one text in another -/
theorem sub_iff (x y : List Nat) : (!(Builtin.Str.occurrences (strV y) (strV x) 0 (strV y).length 1).isEmpty) = hasSub y x := by
  rw [Bool.eq_iff_iff, StrLaws.found_iff]
  unfold hasSub
  rw [List.any_eq_true, strV_len, strV_len]
  constructor
  · rintro ⟨i, h1, h2⟩
    refine ⟨i, by rw [List.mem_range]; omega, ?_⟩
    rw [StrLaws.subAt_eq, strV_len] at h2
    exact h2
  · rintro ⟨i, h1, h2⟩
    rw [List.mem_range] at h1
    refine ⟨i, by omega, ?_⟩
    rw [StrLaws.subAt_eq, strV_len]
    exact h2
end
end Mi

/-! in, is, items, slices, displays -/
namespace Mi
open PySem PySem.Spec PyProof.Rows L2
section
variable {X : Cx} {W : WX} {ex : Nat → Addr} {G : List Fn} {C : List D} {a b : Expr} {ea eb : E} {pos : Pos}
abbrev rInX (X : Cx) (neg : Bool) : R2 := fun x y H Q => (∃ i j, x = .str i ∧ y = .str j ∧ Q (.bl (if neg then !(!(Builtin.Str.occurrences j i 0 j.length 1).isEmpty) else !(Builtin.Str.occurrences j i 0 j.length 1).isEmpty)) H) ∨ rInD X neg x y H Q
theorem op_inX (hu : X.A.units + 64 < cLine) : OpR X (compareOp .In) (rInX X false) := op_in_str.or (op_inD hu)
theorem op_ninX (hu : X.A.units + 64 < cLine) : OpR X (compareOp .NotIn) (rInX X true) := op_notin_str.or (op_notInD hu)
theorem inD_use {neg : Bool} {x y : V} {H : Hp} {Z : Addr → Prop} {a b : D} {k : Bool} {Q : VK} (ra : RepD X.K H Z x a) (rb : RepD X.K H Z y b) (e : inD a b = some k) (q : Q (.bl (if neg then !k else k)) H) : rInX X neg x y H Q := by
  have seq : ∀ xs : List D, (RepQ X.K H Z y xs ∨ RepD X.K H Z y (.tup xs)) → (if (a.okD 20 && xs.all (D.okD 20)) = true then some (xs.any fun y => D.peq y a) else none) = some k → rInX X neg x y H Q := by
    intro xs h e'
    split at e'
    · rename_i hz
      cases e'
      rw [Bool.and_eq_true] at hz
      exact .inr ⟨Z, a, xs, ra, h, hz.1, hz.2, q⟩
    · cases e'
  cases b with
  | str j =>
    cases a with
    | str i =>
      cases e
      refine .inl ⟨strV i, strV j, rep_str ra, rep_str rb, ?_⟩
      rw [sub_iff]
      exact q
    | _ => cases e
  | tup xs => cases a <;> exact seq xs (.inr rb) e
  | lst xs => cases a <;> exact seq xs (.inl (RepQ.of_lst rb)) e
  | fls xs => cases a <;> exact seq xs (.inl (RepQ.of_fls rb)) e
  | _ => cases a <;> cases e
theorem ok_in : BinOk X (.cmp .isin) (rInX X false) := by
  intro x y H Z a b d Q zk ra rb e q
  have e' : (inD a b).map D.bl = some d := e
  cases h : inD a b with
  | none => rw [h] at e'; cases e'
  | some k => rw [h] at e'; cases e'; exact inD_use ra rb h (q _ _ (new_flat (.bl _)))
theorem ok_notin : BinOk X (.cmp .notin) (rInX X true) := by
  intro x y H Z a b d Q zk ra rb e q
  have e' : (inD a b).map (fun k => D.bl (!k)) = some d := e
  cases h : inD a b with
  | none => rw [h] at e'; cases e'
  | some k => rw [h] at e'; cases e'; exact inD_use ra rb h (q _ _ (new_flat (.bl _)))
theorem non_iff {K : PySem.W.Frag} {H : Hp} {Z : Addr → Prop} {x : V} {a : D} (h : RepD K H Z x a) : decide (x = .non) = isNon a := by
  cases a with
  | non => cases rep_non h; rfl
  | bl _ => cases rep_bl h; rfl
  | int _ => cases rep_int h; rfl
  | str _ => cases rep_str h; rfl
  | tup _ => obtain ⟨_, _, rfl, _⟩ := rep_tup h; rfl
  | fls _ => obtain ⟨_, _, rfl, _⟩ := rep_fls h; rfl
  | lst _ => obtain ⟨_, _, rfl, _⟩ := rep_lst h; rfl
  | rng _ _ => cases (show Rp K H Z x (.rng _ _) from h); rfl
  | dct _ => obtain ⟨_, _, rfl, _⟩ := h; rfl
  | obj _ _ => cases (show Rp K H Z x (.obj _ _) from h); rfl
  | _ => exact False.elim h
def rIsNB : R2 := fun x y H Q => (y = .non ∧ Q (.bl (decide (x = .non))) H) ∨ rIsB x y H Q
theorem op_isNB : OpR X (compareOp .Is) rIsNB := by
  intro pins s σ H x y v u Q I rx ry h
  rcases h with h | h
  · exact op_isN pins s σ H x y v u Q I rx ry h
  · exact op_isBl pins s σ H x y v u Q I rx ry h
theorem ok_is : BinOk X (.cmp .is_) rIsNB := by
  intro x y H Z a b d Q zk ra rb e q
  cases b with
  | non =>
    have e' : some (D.bl (isNon a)) = some d := by cases a <;> exact e
    cases e'
    exact .inl ⟨rep_non rb, by rw [non_iff ra]; exact q _ _ (new_flat (.bl _))⟩
  | bl k =>
    cases a with
    | bl j =>
      have e' : some (D.bl (decide (j = k))) = some d := e
      cases e'
      exact .inr ⟨j, k, rep_bl ra, rep_bl rb, q _ _ (new_flat (.bl _))⟩
    | _ => cases e
  | _ => cases a <;> cases e
def rNotNB : R2 := fun x y H Q => (y = .non ∧ Q (.bl (!decide (x = .non))) H) ∨ rNotB x y H Q
theorem op_notNB : OpR X (compareOp .IsNot) rNotNB := by
  intro pins s σ H x y v u Q I rx ry h
  rcases h with h | h
  · exact op_notN pins s σ H x y v u Q I rx ry h
  · exact op_notBl pins s σ H x y v u Q I rx ry h
theorem ok_isnot : BinOk X (.cmp .isnot) rNotNB := by
  intro x y H Z a b d Q zk ra rb e q
  cases b with
  | non =>
    have e' : some (D.bl (!isNon a)) = some d := by cases a <;> exact e
    cases e'
    exact .inl ⟨rep_non rb, by rw [non_iff ra]; exact q _ _ (new_flat (.bl _))⟩
  | bl k =>
    cases a with
    | bl j =>
      have e' : some (D.bl (!decide (j = k))) = some d := e
      cases e'
      exact .inr ⟨j, k, rep_bl ra, rep_bl rb, q _ _ (new_flat (.bl _))⟩
    | _ => cases e
  | _ => cases a <;> cases e
/-! ### one operand, three -/
theorem one {o : Op} {r : V → Hp → VK → Prop} (ok : ∀ (x : V) (H : Hp) (Z : Addr → Prop) (a d : D) (Q : VK), (∀ a, Z a → H a ≠ none) → RepD X.K H Z x a → opD o [a] = some d → (∀ v H', New X.K H Z v d H' → Q v H') → r x H Q) {σ : L2.St} {H : Hp} {Q : VK}
    (h : tE X.K W ex G C (.op o (.cons ea .nil)) σ H Q) : tUn r (tOpd X.K W ex G C ea) σ H Q :=
  op_use (k := fun vs H2 => match vs with
    | [x] => r x H2 Q
    | _ => False) h fun vs H1 Z1 ds d zk hl rd e q => by
      match rd with
      | .nil => simp [Es.len] at hl
      | .cons h1 .nil => exact ok _ _ _ _ _ _ zk h1 e q
      | .cons h1 (.cons h2 rd) => simp [Es.len] at hl
theorem three {o : Op} {e1 e2 e3 : E} {r : V → V → V → Hp → VK → Prop} (ok : ∀ (x y z : V) (H : Hp) (Z : Addr → Prop) (a b c d : D) (Q : VK), (∀ a, Z a → H a ≠ none) → RepD X.K H Z x a → RepD X.K H Z y b → RepD X.K H Z z c → opD o [a, b, c] = some d → (∀ v H', New X.K H Z v d H' → Q v H') → r x y z H Q)
    {σ : L2.St} {H : Hp} {Q : VK} (h : tE X.K W ex G C (.op o (.cons e1 (.cons e2 (.cons e3 .nil)))) σ H Q) :
    tOpd X.K W ex G C e1 σ H fun x H1 => tOpd X.K W ex G C e2 σ H1 fun y H2 => tOpd X.K W ex G C e3 σ H2 fun z H3 => r x y z H3 Q :=
  op_use (k := fun vs H2 => match vs with
    | [x, y, z] => r x y z H2 Q
    | _ => False) h fun vs H1 Z1 ds d zk hl rd e q => by
      match rd with
      | .nil => simp [Es.len] at hl
      | .cons h1 .nil => simp [Es.len] at hl
      | .cons h1 (.cons h2 .nil) => simp [Es.len] at hl
      | .cons h1 (.cons h2 (.cons h3 .nil)) => exact ok _ _ _ _ _ _ _ _ _ _ zk h1 h2 h3 e q
      | .cons h1 (.cons h2 (.cons h3 (.cons h4 rd))) => simp [Es.len] at hl
theorem pe_negD (ha : PE X a (tOpd X.K W ex G C ea)) : PE X (.UnaryOp .USub a pos) (tE X.K W ex G C (.op .neg (.cons ea .nil))) :=
  pe_weak (pe_un un_neg ha) fun σ H Q h => one (r := rU fun i => .int (-i)) (fun x H Z a d Q zk ra e q => by
    cases a <;> cases e
    exact ⟨_, rep_int ra, q _ _ (new_flat (.int _))⟩) h

/-! ### items -/
theorem atI_eq {α : Type} (xs : List α) (i : Int) : L2.atI xs i = Mi.atI xs i := rfl
theorem atI_rps {K : PySem.W.Frag} {H : Hp} {Z : Addr → Prop} {vs : List V} {xs : List D} {i : Int} {d : D} (r : Rps K H Z vs xs) (h : Mi.atI xs i = some d) : ∃ v, L2.atI vs i = some v ∧ Rp K H Z v d := by
  unfold Mi.atI at h
  cases e : Mi.ixN xs.length i with
  | none => rw [e] at h; cases h
  | some j =>
    rw [e] at h
    obtain ⟨v, e2, q⟩ := r.getD (show xs[j]? = some d from h)
    refine ⟨v, ?_, q⟩
    unfold L2.atI
    have e3 : L2.ixN vs.length i = some j := by rw [r.length]; exact e
    rw [e3]
    exact e2
theorem ok_idx : BinOk X .idx (rIx X.K) := by
  intro x y H Z a b d Q zk ra rb e q
  cases b with
  | int i =>
    cases a with
    | str s =>
      have e' : (if s.length ≤ SZ then (Mi.atI s i).map (fun c => D.str [c]) else none) = some d := e
      split at e'
      · rename_i hz
        cases h : Mi.atI s i with
        | none => rw [h] at e'; cases e'
        | some c =>
          rw [h] at e'
          cases e'
          refine .inr (.inr ⟨strV s, i, c, rep_str ra, rep_int rb, ?_, h, q _ _ (new_flat (.str _))⟩)
          rw [strV_len]; exact rng_line hz
      · cases e'
    | tup xs =>
      obtain ⟨p, vs, rfl, l1, r1⟩ := rep_tup ra
      obtain ⟨v, e2, h⟩ := atI_rps r1 e
      exact .inr (.inl ⟨p, vs, i, v, rfl, rep_int rb, l1, e2, q _ _ (new_flat h)⟩)
    | lst xs =>
      obtain ⟨p, vs, rfl, l1, r1⟩ := RepQ.of_lst ra
      obtain ⟨v, e2, h⟩ := atI_rps r1 e
      exact .inl ⟨p, vs, i, v, rfl, rep_int rb, l1, e2, q _ _ (new_flat h)⟩
    | fls xs =>
      obtain ⟨p, vs, rfl, l1, r1⟩ := RepQ.of_fls ra
      obtain ⟨v, e2, h⟩ := atI_rps r1 e
      exact .inl ⟨p, vs, i, v, rfl, rep_int rb, l1, e2, q _ _ (new_flat h)⟩
    | _ => cases e
  | _ => cases a <;> cases e

/-! ### slices -/
theorem sIx_eq (n d : Nat) (o : Option Int) : HT.sIx n d o = Mi.sIx n d o := by cases o <;> rfl
theorem cutV_rps {K : PySem.W.Frag} {H : Hp} {Z : Addr → Prop} {vs : List V} {xs : List D} (lo hi : Option Int) (r : Rps K H Z vs xs) : Rps K H Z (cutV vs lo hi) (cutL xs lo hi) := by
  unfold cutV cutL
  rw [r.length, sIx_eq, sIx_eq]
  exact (r.drop _).take _
theorem cutS_eq (s : List Nat) (lo hi : Option Int) : cutS (strV s) lo hi = strV (cutL s lo hi) := by
  unfold cutS cutL
  rw [strV_len, sIx_eq, sIx_eq]
abbrev rCut (X : Cx) : V → Option Int → Option Int → Hp → VK → Prop := fun x lo hi H Q => rSlL X.K x lo hi H Q ∨ (rSlA X.K x lo hi H Q ∨ rSlS x lo hi H Q)
theorem sl_any : SlR X (rCut X) := sl_list.or (sl_tupA.or sl_str)
theorem slc_use {x : V} {H : Hp} {Z : Addr → Prop} {a d : D} {lo hi : Option Int} {Q : VK} (zk : ∀ a, Z a → H a ≠ none) (ra : RepD X.K H Z x a) (e : slcD lo hi a = some d) (q : ∀ v H', New X.K H Z v d H' → Q v H') : rCut X x lo hi H Q := by
  cases a with
  | str s =>
    have e' : (if s.length ≤ SZ then some (D.str (cutL s lo hi)) else none) = some d := e
    split at e'
    · rename_i hz
      cases e'
      refine .inr (.inr ⟨strV s, rep_str ra, ?_, ?_⟩)
      · rw [strV_len]; exact rng_line hz
      · rw [cutS_eq]; exact q _ _ (new_flat (.str _))
    · cases e'
  | lst xs =>
    cases e
    obtain ⟨p, vs, rfl, l1, r1⟩ := RepQ.of_lst ra
    exact .inl ⟨p, vs, rfl, l1, fun p2 n => q _ _ (new_lst zk n (cutV_rps lo hi r1))⟩
  | fls xs =>
    cases e
    obtain ⟨p, vs, rfl, l1, r1⟩ := RepQ.of_fls ra
    exact .inl ⟨p, vs, rfl, l1, fun p2 n => q _ _ (new_lst zk n (cutV_rps lo hi r1))⟩
  | tup xs =>
    cases e
    obtain ⟨p, vs, rfl, l1, r1⟩ := rep_tup ra
    refine .inr (.inl ⟨p, vs, rfl, l1, fun hz => ?_, fun _ p2 n => q _ _ (new_tup n (cutV_rps lo hi r1))⟩)
    rw [r1.length, sIx_eq, sIx_eq] at hz
    have e2 : cutL xs lo hi = xs := by
      unfold cutL
      rw [hz.1, hz.2, List.drop_zero, Nat.sub_zero, List.take_length]
    rw [e2] at q
    exact q _ _ (new_flat (.tup l1 r1))
  | _ => cases e

def PostO (K : PySem.W.Frag) (W : WX) (ex : Nat → Addr) (σ : L2.St) (H : Hp) (Z : Addr → Prop) (ρ : Mi.Env) (r : R (Option Int)) (Q : Option Int → Hp → Prop) : Prop := match r with
  | .ok d ρ' => ∀ H' Z', Step K σ H Z ρ σ H' Z' ρ' → Q d H'
  | .exc c ρ' => ∀ H' Z', Step K σ H Z ρ σ H' Z' ρ' → W (.ref (ex c)) none σ H'
  | .stk => False
def tO (K : PySem.W.Frag) (W : WX) (ex : Nat → Addr) (G : List Fn) (C : List D) (lo : Es) : TO := fun σ H Q => ∃ Z ρ, Sat K H Z σ ρ ∧ PostO K W ex σ H Z ρ (evalP G C lo ρ) Q
theorem po_nil : PO X none (tO X.K W ex G C .nil) := ⟨fun pins s σ H Q I ⟨Z, ρ, st, h⟩ => po_none.run pins s σ H Q I (h H Z (Step.refl st))⟩
theorem po_one {e : E} (h : PE X a (tE X.K W ex G C e)) : PO X (some a) (tO X.K W ex G C (.cons e .nil)) := by
  refine ⟨fun pins s σ H Q I q => (po_some h).run pins s σ H Q I ?_⟩
  obtain ⟨Z, ρ, st, q⟩ := q
  refine ⟨Z, ρ, st, ?_⟩
  unfold evalP at q
  cases r : evalE G C e ρ with
  | ok d ρ1 =>
    rw [r] at q
    cases d with
    | int i => exact fun v H' Z' s f => ⟨i, rep_int f.1, q H' Z' s⟩
    | _ => exact q.elim
  | exc c ρ1 => rw [r] at q; exact q
  | stk => rw [r] at q; exact q.elim
section
variable {lo hi : Es} {la ha : Option Expr} {p2 : Pos}
theorem pe_slc (h1 : PE X a (tOpd X.K W ex G C ea)) (h2 : PO X la (tO X.K W ex G C lo)) (h3 : PO X ha (tO X.K W ex G C hi)) : PE X (.Subscript a (.Slice la ha none p2) pos) (tE X.K W ex G C (.slc ea lo hi)) := by
  refine pe_weak (pe_slice sl_any h1 h2 h3) fun σ H Q q => ?_
  obtain ⟨Z, ρ, st, q⟩ := q
  unfold evalE at q
  by_cases hv : ea.isVar = true
  · cases ea with
    | var i =>
      rw [if_pos hv] at q
      dsimp only at q
      cases e0 : ρ[i]? with
      | none => rw [e0] at q; exact q.elim
      | some o =>
        cases o with
        | none => rw [e0] at q; exact q.elim
        | some d0 =>
          obtain ⟨v, ev, _⟩ := st.rep i d0 e0
          rw [e0] at q
          dsimp only at q
          refine ⟨v, ev, Z, ρ, st, ?_⟩
          cases r : evalP G C lo ρ with
          | exc c ρ1 => rw [r] at q; exact q
          | stk => rw [r] at q; exact q.elim
          | ok l ρ1 =>
            rw [r] at q
            dsimp only at q
            intro H1 Z1 s1
            refine ⟨Z1, ρ1, s1.sat, ?_⟩
            cases r2 : evalP G C hi ρ1 with
            | exc c ρ2 => rw [r2] at q; exact fun H2 Z2 s2 => q H2 Z2 (s1.trans s2)
            | stk => rw [r2] at q; exact q.elim
            | ok h ρ2 =>
              rw [r2] at q
              dsimp only at q
              intro H2 Z2 s2
              cases e2 : ρ2[i]? with
              | none => rw [e2] at q; exact q.elim
              | some o =>
                cases o with
                | none => rw [e2] at q; exact q.elim
                | some d =>
                  rw [e2] at q
                  dsimp only at q
                  obtain ⟨v', ev', rd⟩ := s2.sat.rep i d e2
                  rw [ev] at ev'; cases ev'
                  cases e3 : slcD l h d with
                  | none => rw [e3] at q; exact q.elim
                  | some d' =>
                    rw [e3] at q
                    refine slc_use s2.sat.zok rd e3 fun w H' n => ?_
                    obtain ⟨s3, fr⟩ := New.step s2.sat n
                    exact q w H' Z2 ((s1.trans s2).trans s3) (fr.imp (s1.trans s2).trk)
    | _ => cases hv
  · have hv' : ea.isVar = false := by cases x : ea.isVar <;> first | rfl | exact absurd x hv
    rw [if_neg hv] at q
    show tOpd X.K W ex G C ea σ H fun x H1 => tO X.K W ex G C lo σ H1 fun l H2 => tO X.K W ex G C hi σ H2 fun u H3 => rCut X x l u H3 Q
    rw [tOpd_val hv']
    refine ⟨Z, ρ, st, ?_⟩
    cases r0 : evalE G C ea ρ with
    | exc c ρ0 => rw [r0] at q; exact q
    | stk => rw [r0] at q; exact q.elim
    | ok d ρ0 =>
      rw [r0] at q
      dsimp only at q
      intro v H0 Z0 s0 fr0
      refine ⟨Z0, ρ0, s0.sat, ?_⟩
      cases r : evalP G C lo ρ0 with
      | exc c ρ1 => rw [r] at q; exact fun H2 Z2 s2 => q H2 Z2 (s0.trans s2)
      | stk => rw [r] at q; exact q.elim
      | ok l ρ1 =>
        rw [r] at q
        dsimp only at q
        intro H1 Z1 s1
        refine ⟨Z1, ρ1, s1.sat, ?_⟩
        cases r2 : evalP G C hi ρ1 with
        | exc c ρ2 => rw [r2] at q; exact fun H2 Z2 s2 => q H2 Z2 ((s0.trans s1).trans s2)
        | stk => rw [r2] at q; exact q.elim
        | ok h ρ2 =>
          rw [r2] at q
          dsimp only at q
          intro H2 Z2 s2
          cases e3 : slcD l h d with
          | none => rw [e3] at q; exact q.elim
          | some d' =>
            rw [e3] at q
            have fr2 := Free.step s0.sat (s1.trans s2) fr0
            refine slc_use s2.sat.zok fr2.1 e3 fun w H' n => ?_
            obtain ⟨s3, fr⟩ := New.step s2.sat n
            have s02 := s0.trans (s1.trans s2)
            exact q w H' Z2 (s02.trans s3) (fr.imp s02.trk)
end

/-! ### displays -/
theorem pe_tupD {es : Es} {as : List Expr} {k : Nat} (h : PA X as (tPA X.K W ex G C es)) : PE X (.Tuple as k pos) (tE X.K W ex G C (.op .tup es)) :=
  pe_weak (pe_tup h) fun σ H Q q => op_use (k := fun vs H1 => vs.length ≤ sizeLine ∧ ∀ p, H1 p = none → Q (.ref p) (upd H1 p (.tup vs))) q fun vs H1 Z1 ds d zk hl rd e r => by
    have e' : (if ds.length ≤ SZ ∧ ds.all D.flat = true then some (D.tup ds) else none) = some d := e
    split at e'
    · rename_i hz
      cases e'
      exact ⟨by rw [rd.length]; exact rng_line hz.1, fun p n => r _ _ (new_tup n (rd.rps hz.2))⟩
    · cases e'
theorem pe_lstD {es : Es} {as : List Expr} (h : PA X as (tPA X.K W ex G C es)) : PE X (.List as pos) (tE X.K W ex G C (.op .lst es)) :=
  pe_weak (pe_lst h) fun σ H Q q => op_use (k := fun vs H1 => vs.length ≤ sizeLine ∧ ∀ p, H1 p = none → Q (.ref p) (upd H1 p (.lst vs))) q fun vs H1 Z1 ds d zk hl rd e r => by
    have e' : (if ds.length ≤ SZ ∧ ds.all D.flat = true then some (D.lst ds) else none) = some d := e
    split at e'
    · rename_i hz
      cases e'
      exact ⟨by rw [rd.length]; exact rng_line hz.1, fun p n => r _ _ (new_lst zk n (rd.rps hz.2))⟩
    · cases e'
end
end Mi

/-! sorted of texts, any number of them -/
namespace SrtO
open PySem PySem.Calls PySem.W PyProof.Rows Srt
section
variable {prog : Program} {w : World} {A : Around} {E : Value → Shared → Prop} {s : Shared}
def sv : Value → PySem.Str
  | .str i _ => i
  | _ => PySem.Str.empty
def ltSv (v u : Value) : Bool := decide ((sv v).cps.toList < (sv u).cps.toList)
theorem swo_str : Swo ltSv := by
  refine ⟨fun x y h => ?_, fun x y z h1 h2 => ?_⟩
  · have a := of_decide_eq_true (p := (sv x).cps.toList < (sv y).cps.toList) h
    exact decide_eq_false (p := (sv y).cps.toList < (sv x).cps.toList) (fun b => List.lt_irrefl _ (List.lt_trans a b))
  · have a := List.not_lt.mp (of_decide_eq_false (p := (sv y).cps.toList < (sv x).cps.toList) h1)
    have b := List.not_lt.mp (of_decide_eq_false (p := (sv z).cps.toList < (sv y).cps.toList) h2)
    exact decide_eq_false (p := (sv z).cps.toList < (sv x).cps.toList) (List.not_lt.mpr (List.le_trans a b))
theorem strs_mem : ∀ {vs : List Value} {ns : List PySem.Str}, StrsAre vs ns → ∀ v ∈ vs, ∃ i t, v = Value.str i t
  | _, _, .nil, v, h => absurd h (by simp)
  | _, _, .cons n t r, v, h => by
    rcases List.mem_cons.mp h with e | h
    · exact ⟨n, t, e⟩
    · exact strs_mem r v h
theorem strs_sv : ∀ {vs : List Value}, (∀ v ∈ vs, ∃ i t, v = Value.str i t) → StrsAre vs (vs.map sv)
  | [], _ => .nil
  | v :: vs, h => by
    obtain ⟨i, t, e⟩ := h v List.mem_cons_self
    subst e
    exact .cons i t (strs_sv fun u hu => h u (List.mem_cons_of_mem _ hu))
theorem sv_strs : ∀ {vs : List Value} {ns : List PySem.Str}, StrsAre vs ns → vs.map sv = ns
  | _, _, .nil => rfl
  | _, _, .cons n t r => congrArg (n :: ·) (sv_strs r)
theorem str_cmp {vs : List Value} {ns : List PySem.Str} (hI : StrsAre vs ns) : Cmp prog w A s oneType' (fun p => p.1 ∈ vs) (lt2 ltSv) := by
  intro p q hm hm'
  obtain ⟨a, t, e⟩ := strs_mem hI _ hm
  obtain ⟨b, u, e'⟩ := strs_mem hI _ hm'
  show wpAny (model prog w) A (keyLt' oneType' p.1 q.1) (fun r s' => s' = s ∧ r = ltSv p.1 q.1) (fun _ _ => False) s
  rw [e, e']
  exact PySem.W.kas_lt_str ⟨rfl, rfl⟩
theorem looks_str {h : Heap} {x : PySem.Str} {t : Tok} : Looks (model prog w) h (typeOf (.str x t)) (.type "str") := fun A Q E s k q => wpAny_pure q
theorem strs_sortable {a : Addr} {vs : List Value} {ns : List PySem.Str} (hI : StrsAre vs ns) (h2 : 2 ≤ vs.length) : SortableO prog w A s a vs ltSv := by
  intro h' _
  refine ⟨oneType', fun Q E hq => ?_, str_cmp hI⟩
  exact PySem.W.kas_kind (T := .type "str") h2 (fun v hv => by
    obtain ⟨i, t, rfl⟩ := strs_mem hI v hv
    exact looks_str) (by decide) (by decide) hq
theorem strs_out {vs out : List Value} {ns : List PySem.Str} (hI : StrsAre vs ns) (hs : Srtd ltSv out) (hb : Stb ltSv out vs) : StrsAre out (out.map sv) ∧ (out.map sv).Perm ns ∧ ((out.map sv).map fun z => z.cps.toList).Pairwise (· ≤ ·) := by
  refine ⟨strs_sv fun v hv => strs_mem hI v (hb.perm.mem_iff.mp hv), ?_, ?_⟩
  · have q := hb.perm.map sv
    rw [sv_strs hI] at q
    exact q
  · rw [List.map_map]
    exact List.pairwise_map.mpr (hs.imp fun {x y} h => List.not_lt.mp (of_decide_eq_false (p := (sv y).cps.toList < (sv x).cps.toList) h))
end
end SrtO
namespace L2
open PySem PySem.Spec PyProof.Rows
/-- sorted(xs), texts, any number of them -/
def rSortedX (K : PySem.W.Frag) : List V → Hp → VK → Prop := fun vs H Q => ∃ (a : Addr) (ns : List Str), vs = [V.ref a] ∧ SqL K H a (ns.map V.str) ∧
  ∀ (ns' : List Str) (p : Addr), ns'.Perm ns → (ns'.map fun z => z.cps.toList).Pairwise (· ≤ ·) → H p = none → Q (.ref p) (upd H p (.lst (ns'.map V.str)))
section
variable {X : Cx}
theorem cr_sortedX : CallR X (.builtin "sorted") (rSortedX X.K) := by
  intro pins s σ H vs us Q I r h
  obtain ⟨a, ns, rfl, hs, q⟩ := h
  obtain ⟨its, rv, hl, hz⟩ := I.list hs
  rw [Vals.ref1 r]
  have hi := rv.strs
  refine SrtO.sorted_ord SrtO.swo_str hl.isList (by rw [← rv.length]; exact hz) (fun h2 h₁ a' _ _ => SrtO.strs_sortable hi h2) fun out h1 h2 => ?_
  obtain ⟨k1, k2, k3⟩ := SrtO.strs_out hi h1 h2
  obtain ⟨ep, he'⟩ := PyProof.Rows.sortedAll_at s.heap its out.toArray
  have hlen : ((out.map SrtO.sv).map V.str).length ≤ sizeLine := by
    rw [List.length_map, k2.length_eq]
    rw [List.length_map] at hz
    exact hz
  exact ⟨.ref _, upd H (s.heap.objs.size + 1) (.lst ((out.map SrtO.sv).map V.str)), I.laid (t' := s.toks) (fun _ _ => PyProof.Rows.sortedAll_old) (Nat.le_succ _) ⟨hlen, out, ep, vals_of_strs k1, he'⟩, rfl, q _ _ k2 k3 (I.hok.fresh (Nat.le_succ _))⟩
end
end L2

set_option maxHeartbeats 4000000
/-! list.sort by a key that gives texts -/
namespace SrtO
open PySem PySem.Calls PySem.W PyProof.Rows Srt
/-- the items in the order of their keys -/
def KsOut (ks : List PySem.Str) (vs out : List Value) : Prop :=
  ∃ ps : List (PySem.Str × Value), ps.Perm (ks.zip vs) ∧ out = ps.map Prod.snd ∧ ps.Pairwise (fun p q => ¬ q.1.cps.toList < p.1.cps.toList)
/-- what new objects and stores into objects of N leave true -/
structure GoodS (N : Addr → Prop) (G : Shared → Prop) : Prop where
  push : ∀ (s : Shared) (h' : Heap) (tk : Nat), G s → (∀ b o, s.heap.get? b = some o → h'.get? b = some o) → G { s with heap := h', toks := tk }
  upd : ∀ (s : Shared) (b : Addr) (g : Obj → Obj), N b → G s → G { s with heap := s.heap.update b g }
  fresh : ∀ (s : Shared) (b : Addr), G s → s.heap.objs.size ≤ b → N b
theorem kst_snoc {x : PySem.Str} {t : Tok} : ∀ {vs : List Value} {ns : List PySem.Str}, StrsAre vs ns → StrsAre (vs ++ [.str x t]) (ns ++ [x])
  | _, _, .nil => .cons x t .nil
  | _, _, .cons n' t' h => .cons n' t' (kst_snoc h)
theorem strs_len : ∀ {vs : List Value} {ns : List PySem.Str}, StrsAre vs ns → vs.length = ns.length
  | _, _, .nil => rfl
  | _, _, .cons n t r => by rw [List.length_cons, List.length_cons, strs_len r]
section
variable {prog : Program} {w : World} {A : Around} {E : Value → Shared → Prop} {s : Shared} {N : Addr → Prop} {a kS : Addr} {vs : List Value} {ks : List PySem.Str} {keys : Array Value} {e e1 : Nat} {P : PySem.Fin → Shared → Prop} {G : Shared → Prop}
theorem kst_out (hk : StrsAre keys.toList ks) {xs : Array Keyed} (hb : Stb (lt2 ltSv) xs.toList (keys.zip vs.toArray).toList) (hs : Srtd (lt2 ltSv) xs.toList) : KsOut ks vs (xs.map (·.2)).toList := by
  have hp := hb.perm
  rw [ksk_zip] at hp
  refine ⟨xs.toList.map (fun p : Keyed => (sv p.1, p.2)), ?_, ?_, ?_⟩
  · have e2 : (keys.toList.zip vs).map (fun p : Keyed => (sv p.1, p.2)) = ks.zip vs := by
      rw [← sv_strs hk, List.zip_map_left]
      exact List.map_congr_left fun ⟨x, y⟩ _ => rfl
    rw [← e2]
    exact hp.map _
  · rw [Array.toList_map, List.map_map]; rfl
  · rw [List.pairwise_map]
    exact hs.imp fun {x y} h => of_decide_eq_false (p := (sv y.1).cps.toList < (sv x.1).cps.toList) h
theorem kst_tail {st : SortSt} (g : GoodS N G) (hG : G s) (hk1 : s.heap.get? kS = some (seqObj "list" keys e)) (ha1 : s.heap.get? a = some (seqObj "list" #[] e1)) (hka : kS ≠ a) (l1 : N kS) (l2 : N a)
    (hz1 : keys.size ≤ 1000) (hz2 : (arrOf st).size ≤ 1000) (hfl : failedOf st = none)
    (h : ∀ s' c, G s' → s'.heap.get? a = some (seqObj "list" ((arrOf st).map (·.2)) c) → P (.done (.ret .none)) s') : wpAny (model prog w) A (ksk_tail a false e1 (.ref kS) st) P E s := by
  have s1 := Heap.SameBut.update s.heap kS (Obj.mapSeq fun _ => (#[] : Array Value))
  have na1 : (s.heap.update kS (Obj.mapSeq fun _ => (#[] : Array Value))).get? a = some (seqObj "list" #[] e1) := (s1.2 a hka.symm).trans ha1
  obtain ⟨c2, hc2⟩ : ∃ c2, ((s.heap.update kS (Obj.mapSeq fun _ => (#[] : Array Value))).update a (Obj.mapSeq fun _ => (arrOf st).map (·.2))).get? a = some (seqObj "list" ((arrOf st).map (·.2)) c2) :=
    ⟨_, get?_update_seq na1 fun _ => (arrOf st).map (·.2)⟩
  unfold ksk_tail
  try dsimp only
  refine wpAny_bind (listUpdate_at hk1 rfl ?_ (by rw [sizeLine_eq]; omega) (Nat.zero_le _))
  refine wpAny_bind (wpAny_letGo ?_)
  refine wpAny_bind (seqEpoch_at na1 rfl ?_)
  refine wpAny_bind (listUpdate_at na1 rfl ?_ (Nat.zero_le _) (by simp only [Bool.false_eq_true, if_false, Array.size_map]; rw [sizeLine_eq]; omega))
  rw [hfl]
  simp only [bne_self_eq_false, Bool.false_eq_true, if_false]
  exact wpAny_pure (h _ c2 (g.upd _ a _ l2 (g.upd _ kS _ l1 hG)) hc2)
theorem kst_end (g : GoodS N G) (hG : G s) (hk1 : s.heap.get? kS = some (seqObj "list" keys e)) (ha1 : s.heap.get? a = some (seqObj "list" #[] e1)) (hka : kS ≠ a) (l1 : N kS) (l2 : N a)
    (hk : StrsAre keys.toList ks) (hlen : ks.length = vs.length) (hz : vs.length ≤ 1000)
    (h : ∀ s' out c, G s' → s'.heap.get? a = some (seqObj "list" out c) → KsOut ks vs out.toList → P (.done (.ret .none)) s') : wpAny (model prog w) A (ksk_end a false vs.toArray e1 (.ref kS) keys) P E s := by
  have hsz : keys.size = vs.length := by
    have h1 := strs_len hk
    rw [Array.length_toList] at h1
    omega
  have hzs : (keys.zip vs.toArray).size = vs.length := by rw [Array.size_zip, hsz, List.size_toArray, Nat.min_self]
  unfold ksk_end
  simp only [Bool.false_eq_true, if_false]
  by_cases h2 : vs.toArray.size < 2
  · rw [if_pos h2, if_pos h2]
    refine wpAny_bind (wpAny_pure ?_)
    rw [StateT.run_pure]
    refine wpAny_bind (wpAny_pure ?_)
    try dsimp only
    refine kst_tail (st := SortSt.mk' general' (keys.zip vs.toArray) #[] 7 none) g hG hk1 ha1 hka l1 l2 (by omega) (by show (keys.zip vs.toArray).size ≤ 1000; omega) rfl fun s' c hG' ha' => h s' _ c hG' ha' (kst_out hk (Stb.refl _) ?_)
    show Srtd (lt2 ltSv) (keys.zip vs.toArray).toList
    have hl : (keys.zip vs.toArray).toList.length < 2 := by rw [Array.length_toList, hzs]; rw [List.size_toArray] at h2; exact h2
    match (keys.zip vs.toArray).toList, hl with
    | [], _ => exact List.Pairwise.nil
    | [v], _ => exact List.pairwise_singleton _ _
    | _ :: _ :: l, hl => exact absurd hl (by rw [List.length_cons, List.length_cons]; omega)
  · rw [if_neg h2, if_neg h2]
    rw [List.size_toArray] at h2
    have h2k : 2 ≤ keys.toList.length := by rw [Array.length_toList]; omega
    have kk := PySem.W.kas_kind (M := model prog w) (A := A) (E := E) (s := s) (T := .type "str") (vs := keys.toList) (Q := fun κ s' => κ = oneType' ∧ s' = s) h2k (fun v hv => by
      obtain ⟨i, t, rfl⟩ := strs_mem hk v hv
      exact looks_str) (by decide) (by decide) ⟨rfl, rfl⟩
    rw [Array.toArray_toList] at kk
    refine wpAny_bind (wpAny_mono kk ?_ fun _ _ e => e)
    rintro κ s' ⟨rfl, rfl⟩
    have hall : AllL (fun p : Keyed => p.1 ∈ keys.toList) (keys.zip vs.toArray).toList := fun p hm => by
      rw [ksk_zip] at hm
      obtain ⟨x, y⟩ := p
      exact (List.of_mem_zip hm).1
    refine wpAny_bind (wpAny_mono (wpS_sortO (st0 := SortSt.mk' oneType' (keys.zip vs.toArray) #[] 7 none)
      (Q := fun _ st' => Srtd (lt2 ltSv) (arrOf st').toList ∧ Stb (lt2 ltSv) (arrOf st').toList (keys.zip vs.toArray).toList ∧ failedOf st' = none) (swo2 swo_str) (str_cmp hk) rfl hall rfl rfl fun st' a1 a2 a3 => ⟨a1, a2, a3⟩) ?_ fun _ _ e => e)
    rintro ⟨⟨⟩, st'⟩ s' ⟨rfl, hp1, hp2, hf⟩
    try dsimp only
    refine kst_tail g hG hk1 ha1 hka l1 l2 (by omega) ?_ hf fun s' c hG' ha' => h s' _ c hG' ha' (kst_out hk hp2 hp1)
    have hle : (arrOf st').size = vs.length := by
      have := hp2.perm.length_eq
      rw [Array.length_toList, Array.length_toList, hzs] at this
      exact this
    rw [← hle] at hz
    exact hz
theorem kst_rest {f : Value} (g : GoodS N G) (hG : G s) (hk1 : s.heap.get? kS = some (seqObj "list" #[] 0)) (ha1 : s.heap.get? a = some (seqObj "list" #[] e1)) (hka : kS ≠ a) (l1 : N kS) (l2 : N a)
    (hlen : ks.length = vs.length) (hz : vs.length ≤ 1000)
    (turn : ∀ (i : Nat) (v : Value) (k : PySem.Str), vs[i]? = some v → ks[i]? = some k → ∀ s' : Shared, G s' →
      wpAny (model prog w) A (call f [v]) (fun u s'' => (∃ t, u = .str k t) ∧ G s'' ∧ ∀ b o, N b → s'.heap.get? b = some o → s''.heap.get? b = some o) (fun _ _ => False) s')
    (h : ∀ s' out c, G s' → s'.heap.get? a = some (seqObj "list" out c) → KsOut ks vs out.toList → P (.done (.ret .none)) s') : wpAny (model prog w) A (ksk_rest a f false vs.toArray e1 (.ref kS)) P E s := by
  unfold ksk_rest
  refine wpAny_bind (wpAny_rule ?_)
  first
    | rw [List.forIn_toArray]
    | (rw [← Array.forIn_toList]; simp only [List.toList_toArray])
    | rw [← Array.forIn_toList]
  refine wpAny_bind (ksk_fold (fun i s' => ∃ kA e, G s' ∧ s'.heap.get? kS = some (seqObj "list" kA e) ∧ s'.heap.get? a = some (seqObj "list" #[] e1) ∧ StrsAre kA.toList (ks.take i)) vs 0 s
    ⟨#[], 0, hG, hk1, ha1, by simpa using StrsAre.nil⟩ ?step ?done)
  case step =>
    rintro j x s' hx ⟨kA, e, G', k', a', hk⟩
    simp only [Nat.zero_add] at hk ⊢
    have hj : j < vs.length := (List.getElem?_eq_some_iff.mp hx).1
    obtain ⟨k, hkj⟩ : ∃ k, ks[j]? = some k := ⟨_, List.getElem?_eq_getElem (by omega)⟩
    have hz : kA.size ≤ vs.length := by
      have h1 := strs_len hk
      rw [Array.length_toList, List.length_take] at h1
      omega
    refine wpAny_bind (wpAny_attempt (wpAny_mono (turn j x k hx hkj s' G') (fun v s'' he => ?_) fun _ _ hF => hF.elim))
    obtain ⟨⟨t2, rfl⟩, G2, kp⟩ := he
    try dsimp only
    have nk := kp kS _ l1 k'
    have na := kp a _ l2 a'
    have s1 := Heap.SameBut.update s''.heap kS (Obj.mapSeq (·.push (.str k t2)))
    obtain ⟨c2, hc2⟩ : ∃ c2, (s''.heap.update kS (Obj.mapSeq (·.push (.str k t2)))).get? kS = some (seqObj "list" (kA.push (.str k t2)) c2) := ⟨_, get?_update_seq nk (·.push (.str k t2))⟩
    have ek : ks.take (j + 1) = ks.take j ++ [k] := by rw [List.take_add_one, hkj]; simp
    have ea : (kA.push (Value.str k t2)).toList = kA.toList ++ [Value.str k t2] := by simp
    refine wpAny_bind (listUpdate_at nk rfl ?_ (by rw [sizeLine_eq]; omega) (Nat.le_trans (Nat.le_of_eq (Array.size_push ..)) (by rw [sizeLine_eq]; omega)))
    exact wpAny_pure ⟨rfl, kA.push (.str k t2), c2, g.upd _ kS _ l1 G2, hc2, (s1.2 a hka.symm).trans na, by rw [ea, ek]; exact kst_snoc hk⟩
  case done =>
    rintro s' ⟨kA, e, G', k', a', hk⟩
    have hk' : StrsAre kA.toList ks := by
      have e3 : ks.take (0 + vs.length) = ks := List.take_of_length_le (by omega)
      rw [e3] at hk
      exact hk
    try dsimp only
    refine wpAny_bind (listItems_at k' rfl ?_)
    exact kst_end g G' k' a' hka l1 l2 hk' hlen hz h
theorem kst_sort {f : Value} {n : Nat} (g : GoodS N G) (hG : G s) (ho : s.heap.get? a = some (seqObj "list" vs.toArray n)) (l2 : N a)
    (hlen : ks.length = vs.length) (hz : vs.length ≤ 1000)
    (turn : ∀ (i : Nat) (v : Value) (k : PySem.Str), vs[i]? = some v → ks[i]? = some k → ∀ s' : Shared, G s' →
      wpAny (model prog w) A (call f [v]) (fun u s'' => (∃ t, u = .str k t) ∧ G s'' ∧ ∀ b o, N b → s'.heap.get? b = some o → s''.heap.get? b = some o) (fun _ _ => False) s')
    (h : ∀ s' out c, G s' → s'.heap.get? a = some (seqObj "list" out c) → KsOut ks vs out.toList → P (.done (.ret .none)) s') : wpAny (model prog w) A (ksk_tree a f false) P E s := by
  have ha : a < s.heap.objs.size := Heap.lt_size ho
  obtain ⟨e1, ho1⟩ : ∃ e1, (s.heap.update a (Obj.mapSeq fun _ => (#[] : Array Value))).get? a = some (seqObj "list" #[] e1) := ⟨_, get?_update_seq ho fun _ => #[]⟩
  have hkS : ((s.heap.update a (Obj.mapSeq fun _ => (#[] : Array Value))).push (seqObj "tuple" vs.toArray 0)).objs.size = s.heap.objs.size + 1 := by rw [size_push', Heap.size_update]
  unfold ksk_tree
  refine wpAny_bind (listItems_at ho rfl ?_)
  refine wpAny_bind (listUpdate_at ho rfl ?_ (by rw [List.size_toArray, sizeLine_eq]; omega) (Nat.zero_le _))
  refine wpAny_bind (seqEpoch_at ho1 rfl ?_)
  refine wpAny_bind (wpAny_newTuple ?_ (by show vs.length ≤ _; rw [sizeLine_eq]; omega))
  refine wpAny_bind (wpAny_newList ?_ (Nat.zero_le _))
  refine wpAny_holding ?_
  have keep : ∀ b o, (s.heap.update a (Obj.mapSeq fun _ => (#[] : Array Value))).get? b = some o → (((s.heap.update a (Obj.mapSeq fun _ => (#[] : Array Value))).push (seqObj "tuple" vs.toArray 0)).push (seqObj "list" #[] 0)).get? b = some o :=
    fun b o q => Heap.get?_push_of_some _ (Heap.get?_push_of_some _ q)
  refine kst_rest (s := { s with heap := ((s.heap.update a (Obj.mapSeq fun _ => (#[] : Array Value))).push (seqObj "tuple" vs.toArray 0)).push (seqObj "list" #[] 0) }) (kS := ((s.heap.update a (Obj.mapSeq fun _ => (#[] : Array Value))).push (seqObj "tuple" vs.toArray 0)).objs.size) (vs := vs) (e1 := e1)
    g (g.push { s with heap := s.heap.update a (Obj.mapSeq fun _ => (#[] : Array Value)) } _ s.toks (g.upd s a _ l2 hG) keep) (Heap.get?_push_size _ rfl) (keep _ _ ho1) (by rw [hkS]; exact Nat.ne_of_gt (Nat.lt_succ_of_lt ha))
    (g.fresh { s with heap := (s.heap.update a (Obj.mapSeq fun _ => (#[] : Array Value))).push (seqObj "tuple" vs.toArray 0) } _ (g.push { s with heap := s.heap.update a (Obj.mapSeq fun _ => (#[] : Array Value)) } _ s.toks (g.upd s a _ l2 hG) fun b o q => Heap.get?_push_of_some _ q) (Nat.le_refl _)) l2 hlen hz turn h
end
end SrtO

set_option maxHeartbeats 4000000
/-! sorted of a range by a key that gives texts -/
namespace SrtO
open PySem PySem.Calls PySem.W PyProof.Rows Srt
section
variable {prog : Program} {w : World} {A : Around} {E : Value → Shared → Prop} {s : Shared} {N : Addr → Prop} {n : Nat} {r f : Addr} {t u v : Tok} {ks : List PySem.Str} {G : Shared → Prop} {Q : Value → Shared → Prop} {top : Int}
theorem items_ints {acc : Array Value} (h : ItemsOf (fun i v => ∃ t, v = .int (0 + (i : Nat) * 1) t) acc n) : IntsAre acc.toList ((List.range n).map fun i => ((i : Nat) : Int)) := by
  have key : ∀ k, k ≤ n → IntsAre (acc.toList.take k) ((List.range k).map fun i => ((i : Nat) : Int)) := by
    intro k
    induction k with
    | zero => intro _; simpa using IntsAre.nil
    | succ k ih =>
      intro hk
      have hlt : k < acc.size := by rw [h.1]; omega
      obtain ⟨t, ht⟩ := h.2 k acc[k] (Array.getElem?_eq_getElem hlt)
      rw [List.take_add_one, List.range_succ, List.map_append, Array.getElem?_toList, Array.getElem?_eq_getElem hlt, ht]
      have e : (0 : Int) + (k : Nat) * 1 = (k : Nat) := by omega
      rw [e]
      exact ksk_snoc (ih (by omega))
  have := key n (Nat.le_refl _)
  rwa [List.take_of_length_le (by rw [Array.length_toList, h.1]; exact Nat.le_refl _)] at this
theorem kst_sorted (g : GoodS N G) (hG : G s) (hh : A.handled = none) (hr : IsRange s.heap r 0 top 1 t u v) (hsmall : Builtin.Range.small 0 top 1 = true) (hn : Builtin.Range.rangeSize 0 top 1 = n) (hz : n ≤ 1000) (hlen : ks.length = n)
    (turn : ∀ (i : Nat) (k : PySem.Str) (t : Tok), i < n → ks[i]? = some k → ∀ s' : Shared, G s' →
      wpAny (model prog w) A.in1.in1 (call (.ref f) [.int (i : Nat) t]) (fun u s'' => (∃ t, u = .str k t) ∧ G s'' ∧ ∀ b o, N b → s'.heap.get? b = some o → s''.heap.get? b = some o) (fun _ _ => False) s')
    (h : ∀ D s' vs out c, N D → G s' → s'.heap.get? D = some (seqObj "list" out c) → IntsAre vs ((List.range n).map fun i => ((i : Nat) : Int)) → KsOut ks vs out.toList → Q (.ref D) s') :
    wpAny (model prog w) A (call (.builtin "sorted") [.ref r] [(Str.ofString "key", .ref f)]) Q E s := by
  refine call_function_entry_kw kind_sorted plain_sorted entry_sorted (ksk_s1 _ _) ?_
  unfold Builtin.«sorted»
  refine wpAny_bind (m := checkCount "sorted" 1 1 _) (wpAny_pure ?_)
  refine wpAny_bind (L2.collect_range (n := n) hh hr hsmall hn (by omega) fun h' tk acc hk hi => ?_)
  have hI := items_ints hi
  have hsz : acc.toList.length = n := by rw [Array.length_toList, hi.1]
  refine wpAny_bind (wpAny_newList ?_ (by rw [hsz, sizeLine_eq]; omega))
  have G1 : G { s with heap := h', toks := tk } := g.push s h' tk hG hk
  have hoL : (h'.push (seqObj "list" acc.toList.toArray 0)).get? h'.objs.size = some (seqObj "list" acc.toList.toArray 0) := Heap.get?_push_size _ rfl
  have nD : N h'.objs.size := g.fresh _ _ G1 (Nat.le_refl _)
  have G2 : G { s with heap := h'.push (seqObj "list" acc.toList.toArray 0), toks := tk } := g.push { s with heap := h', toks := tk } _ tk G1 fun b o q => Heap.get?_push_of_some _ q
  show wpAny _ _ _ _ _ { s with heap := h'.push (seqObj "list" acc.toList.toArray 0), toks := tk }
  refine wpAny_bind (wpAny_holding (wpAny_call_entry_kw slot_list_sort ⟨_, hoL, rfl⟩ entry_list_sort ?body (ksk_l1 _ _)))
  case body =>
    show wpAny (model prog w) A.in1.in1 (Builtin.«list.sort» ⟨[.ref h'.objs.size], _⟩) _ _ _
    rw [ksk_t1]
    refine kst_sort (ks := ks) (s := { s with heap := h'.push (seqObj "list" acc.toList.toArray 0), toks := tk }) g G2 hoL nD (by rw [hsz, hlen]) (by rw [hsz]; exact hz) (fun i v k hv hk s' G' => ?_) fun s' out c G' ha' ko => ⟨_, rfl, ?_⟩
    · have hin : i < n := by rw [← hlen]; exact (List.getElem?_eq_some_iff.mp hk).1
      obtain ⟨t, ht⟩ := hI.get i (i : Nat) (by rw [List.getElem?_map, List.getElem?_range hin]; rfl)
      rw [ht] at hv
      cases hv
      exact turn i k t hin hk s' G'
    · exact wpAny_pure ⟨_, rfl, h _ s' _ out c nD G' ha' hI ko⟩
end
end SrtO

set_option maxHeartbeats 4000000
/-! a lambda of one name, called by a built-in -/
namespace Kl
open PySem PySem.Spec PyProof.Rows L2 LamX
/-- one parameter, captured names -/
structure Lam1 (N : List Str) (sc scope : Scope) (p : Str) : Prop where
  kind : scope.kind = .function
  co : scope.isCoroutine = false
  gen : scope.isGenerator = false
  own : ∀ y ∈ scope.names, (y.2 = .local → y.1 = p) ∧ y.2 ≠ .cell
  par : scope.names.lookup p = some .local
  free : ∀ y ∈ scope.names, y.2 = .free → sc.names.lookup y.1 = some .cell ∨ sc.names.lookup y.1 = some .free
  pN : p ∉ N
def lam1B (N : List Str) (sc scope : Scope) (p : Str) : Bool :=
  decide (scope.kind = .function) && !scope.isCoroutine && !scope.isGenerator && (scope.names.all fun y => (!decide (y.2 = .local) || decide (y.1 = p)) && !decide (y.2 = .cell) && (!decide (y.2 = .free) || decide (sc.names.lookup y.1 = some .cell) || decide (sc.names.lookup y.1 = some .free))) && decide (scope.names.lookup p = some .local) && decide (p ∉ N)
theorem lam1_by {N : List Str} {sc scope : Scope} {p : Str} (h : lam1B N sc scope p = true) : Lam1 N sc scope p := by
  unfold lam1B at h
  simp only [Bool.and_eq_true, Bool.or_eq_true, Bool.not_eq_true', decide_eq_true_eq, decide_eq_false_iff_not, List.all_eq_true] at h
  obtain ⟨⟨⟨⟨⟨h1, h2⟩, h3⟩, h4⟩, h5⟩, h6⟩ := h
  refine ⟨h1, h2, h3, fun y hy => ⟨fun e => ?_, (h4 y hy).1.2⟩, h5, fun y hy e => ?_, h6⟩
  · rcases (h4 y hy).1.1 with z | z
    · exact absurd e z
    · exact z
  · rcases (h4 y hy).2 with (z | z) | z
    · exact absurd e z
    · exact .inl z
    · exact .inr z
theorem Lam1.has {X : Cx} {scope : Scope} {p : Str} (L : Lam1 X.N X.env.scope scope p) (ok : X.Ok) : ∀ y ∈ scope.names, y.2 = .free → ∃ c, X.env.cells.lookup y.1 = some c := fun y hy e => by
  rcases L.free y hy e with k | k
  · exact ok.has _ (.inl k)
  · exact ok.has _ (.inr k)
/-- the names behind the parameter's -/
abbrev wN (X : Cx) (p : Str) : Cx := { X with N := X.N ++ [p] }
section
variable {X : Cx} {pins : List (Addr × Obj)} {σ : L2.St} {H : Hp} {s s1 : Shared} {p : Str}
theorem start1 {A : Around} {outer : List Env} {E : XK} {scope : Scope} {f c' : Addr} {h₁ : Heap} {tk : Nat} {x : V} {xv : Value} (I : Inv X pins σ H s) (L : Lam1 X.N X.env.scope scope p) (rx : RelV x xv) (e0 : Env0 X.prog X.w X.K X.mg X.base A outer s1 H) (hd : A.handled = none)
    (un : Un (frs X.stack) [] H H s.heap s1.heap) (hns : h₁.Ns s1.heap.objs.size fun y => ([(p, xv)] : List (Str × Value)).reverse.lookup y) (kp : ∀ b o, s1.heap.get? b = some o → h₁.get? b = some o) :
    Inv (lamCx (wN X p) A outer s1 H E scope f c') [] (σ ++ [some x]) H { s1 with heap := h₁, toks := tk } := by
  have hfree := L.has I.ok
  have cm : ∀ {y c}, (cloFrom X.env.cells scope.names []).lookup y = some c → X.env.cells.lookup y = some c := fun {y c} e => by
    rcases cloFrom_mem (PySem.mem_of_lookup e) with hm | ⟨h1, h2⟩
    · cases hm
    · obtain ⟨c1, hc⟩ := hfree _ h1 rfl
      have hc : X.env.cells.lookup y = some c1 := hc
      have e2 : c = c1 := by
        rw [h2, hc] <;> rfl
      rw [e2]
      exact hc
  have look : ∀ {y}, scope.names.lookup y = some .free → ∃ c, (cloFrom X.env.cells scope.names []).lookup y = some c := fun {y} hl => by
    have hy : (y, NameKind.free) ∈ scope.names := PySem.mem_of_lookup hl
    exact mem_lookup (cloFrom_has (cells := X.env.cells) (acc := []) hy)
  have cellK : ∀ {c : Addr} {v : Option Value}, H c = none → s.heap.IsCell c v → h₁.IsCell c v := fun {c v} n ⟨o, ho, hd⟩ => by
    obtain ⟨sl, q⟩ := un.any ho n (by simp)
    exact ⟨_, kp _ _ q, hd⟩
  have noA : ∀ b : Addr, b ∉ (lamCx (wN X p) A outer s1 H E scope f c').ex := fun b z => absurd (show b ∈ ([] : List Addr) from z) (by simp)
  refine ⟨⟨e0.mod, L.kind, rfl, rfl, Nat.le_refl _, fun y z c e1 e2 => I.ok.inj y z c (cm e1) (cm e2), fun y hy => ?_, fun y c z _ => ?_, fun _ => hd, Around.frames_deeper e0.frames, .inr ⟨rfl, rfl⟩, fun b z => absurd z (noA b), e0.bs, e0.bsz, fun b _ _ => noA b,
      fun b z => absurd z (noA b), e0.funs, e0.frf⟩,
    rfl, e0.bare, Un.kept kp, ⟨_, hns, fun i y v e1 e2 e3 => ?_⟩, fun y c e => ?_, e0.hok.fresh (Nat.le_refl _), fun y c e => ?_, fun q hq => absurd (show q ∈ ([] : List (Addr × Obj)) ++ [] from hq) (by simp), e0.hok.kept kp, ?_⟩
  · have hy : scope.names.lookup y = some .cell ∨ scope.names.lookup y = some .free := hy
    rcases hy with hy | hy
    · exact absurd rfl (L.own _ (PySem.mem_of_lookup hy)).2
    · exact look hy
  · have z : false = true := z
    cases z
  · have e3 : Vis scope y := e3
    have e1 : (X.N ++ [p])[i]? = some y := e1
    by_cases hi : i < X.N.length
    · rw [List.getElem?_append_left hi] at e1
      rw [List.getElem?_append_left (by rw [I.len]; exact hi)] at e2
      have hyp : y ≠ p := fun z => L.pN (by rw [← z]; exact List.mem_of_getElem? e1)
      rcases e3 with k | k | k
      · exact absurd ((L.own _ (PySem.mem_of_lookup k)).1 rfl) hyp
      · exact absurd rfl (L.own _ (PySem.mem_of_lookup k)).2
      · obtain ⟨m, hn, hl⟩ := I.loc
        have hvis : Vis X.env.scope y := (L.free _ (PySem.mem_of_lookup k) rfl).elim (fun k => .inr (.inl k)) (fun k => .inr (.inr k))
        obtain ⟨w', r, q⟩ := hl i y v e1 e2 hvis
        obtain ⟨c2, h2⟩ := look k
        refine ⟨w', r, .inr ⟨.inr k, c2, h2, ?_⟩⟩
        have c1 := cm h2
        rcases q with ⟨k', _⟩ | ⟨_, c3, e', z⟩
        · have k' : X.env.scope.names.lookup y = some .local := k'
          rcases L.free _ (PySem.mem_of_lookup k) rfl with k2 | k2 <;> rw [show X.env.scope.names.lookup y = _ from k2] at k' <;> cases k'
        · rw [c1] at e'
          cases e'
          exact cellK (I.freeC y _ c1) z
    · have hi2 : i = X.N.length := by
        have := (List.getElem?_eq_some_iff.mp e1).1
        rw [List.length_append, List.length_singleton] at this
        omega
      subst hi2
      rw [List.getElem?_append_right (Nat.le_refl _), Nat.sub_self] at e1
      rw [← I.len, List.getElem?_append_right (Nat.le_refl _), Nat.sub_self] at e2
      have e1 : some p = some y := e1
      have e2 : some (some x) = some (some v) := e2
      cases e1
      cases e2
      refine ⟨xv, rx, .inl ⟨L.par, ?_⟩⟩
      simp [List.lookup]
  · obtain ⟨w', z⟩ := I.cell y c (cm e)
    exact ⟨w', cellK (I.freeC y c (cm e)) z⟩
  · obtain ⟨v, o, ho, hd⟩ := I.cell y c (cm e)
    exact un.free c o ho (I.freeC y c (cm e)) (by simp)
  · show (σ ++ [some x]).length = (X.N ++ [p]).length
    rw [List.length_append, List.length_append, I.len]; rfl
end
end Kl

set_option maxHeartbeats 4000000
/-! sorted(range, key=lambda): the calls of the lambda -/
namespace Kl
open PySem PySem.Spec PyProof.Rows L2 LamX
section
variable {X : Cx} {pins : List (Addr × Obj)} {σ : L2.St} {H : Hp} {s0 s1 : Shared} {p : Str}
/-- a state behind s0 in which no tracked thing has changed -/
def Gd (X : Cx) (H : Hp) (s0 s1 : Shared) : Prop := s1.os = s0.os ∧ AllBare s1.gens ∧ Un (frs X.stack) [] H H s0.heap s1.heap ∧ HOk X.prog X.w H s1.heap
theorem Gd.inv (I : Inv X pins σ H s0) (g : Gd X H s0 s1) : Inv X pins σ H s1 := by
  obtain ⟨os, bare, un, hok⟩ := g
  obtain ⟨hh, g, d, t, os'⟩ := s1
  obtain rfl : os' = s0.os := os
  exact I.call (h' := hh) (g' := g) (d' := d) (t' := t) (ch := []) un hok bare (fun b z => absurd z (by simp))
def Nw (X : Cx) (H : Hp) (s0 : Shared) (b : Addr) : Prop := H b = none ∧ b ∉ frs X.stack ∧ s0.heap.get? b = none
theorem goodS (I : Inv X pins σ H s0) : SrtO.GoodS (Nw X H s0) (Gd X H s0) where
  push := fun s h' tk ⟨os, bare, un, hok⟩ k => ⟨os, bare, un.trans (Un.kept k), hok.kept k⟩
  upd := fun s b g ⟨n1, n2, n3⟩ ⟨os, bare, un, hok⟩ => by
    have ne : ∀ c o, s0.heap.get? c = some o → c ≠ b := fun c o e z => by rw [z, n3] at e; cases e
    refine ⟨os, bare, ⟨fun c ob q n hc hx => ?_, fun c ob q n hc hx => ?_, fun c ob q n hx => n, fun c ob q hx => ?_, fun _ _ q => q, fun _ _ _ q => q, fun _ ps q => ⟨#[], by rw [q]; simp⟩⟩, fun a o e => ?_⟩
    · rw [Heap.get?_update_ne _ _ _ _ (ne c ob q)]; exact un.keep c ob q n hc hx
    · rw [Heap.get?_update_ne _ _ _ _ (ne c ob q)]; exact un.slot c ob q n hc hx
    · obtain ⟨o', q'⟩ := un.there c ob q hx
      exact ⟨o', by rw [Heap.get?_update_ne _ _ _ _ (ne c ob q)]; exact q'⟩
    · refine (hok a o e).stay (fun c u hc q => ?_) (fun _ q => q) fun _ _ q => q
      have hcb : c ≠ b := by
        rcases hc with z | z
        · rw [z]; exact fun z => by rw [z, n1] at e; cases e
        · exact fun z2 => by rw [z2, n1] at z; cases z
      rw [Heap.get?_update_ne _ _ _ _ hcb]; exact q
  fresh := fun s b g hb => by
    have J := g.inv I
    refine ⟨J.hok.fresh hb, fun z => ?_, ?_⟩
    · rcases List.mem_cons.mp (J.stkSub _ z) with e | e
      · have h1 := J.lt
        rw [← e] at h1
        exact Nat.lt_irrefl _ (Nat.lt_of_lt_of_le h1 hb)
      · exact J.nofs hb e
    · cases q : s0.heap.get? b with
      | none => rfl
      | some o =>
        obtain ⟨o', q'⟩ := g.2.2.1.there b o q (by simp)
        exact absurd (Heap.lt_size q') (Nat.not_lt.mpr hb)
/-- a call of the lambda f behind s0 -/
theorem call1 {A : Around} {k : Nat} {f c' : Addr} {pm ctv : Value} {params : Arguments} {body : Expr} {scope : Scope} {x : V} {xv : Value} {tb : TE} {Qb : VK} {E' : Value → Shared → Prop}
    (I : Inv X pins σ H s0) (L : Lam1 X.N X.env.scope scope p) (hf : s0.heap.get? f = some (PySem.W.kla_obj "<lambda>" (X.env.qual ++ "<lambda>") params body scope (cloFrom X.env.cells scope.names []) pm c' ctv)) (hfn : H f = none) (hfr : f ∉ frs X.stack) (hco : H c' = some (CodeO c' (X.env.qual ++ "<lambda>")))
    (hbind : bindArgs (PySem.W.kla_fn "<lambda>" (X.env.qual ++ "<lambda>") params body scope (cloFrom X.env.cells scope.names []) pm (.ref c') ctv) ⟨[xv], []⟩ = pure [(p, xv)])
    (hr : Room (k + 1) A) (hA : A.frames = some X.stack) (rx : RelV x xv) (g : Gd X H s0 s1)
    (hbody : ∀ (A : Around) (outer : List Env) (s : Shared), Room k (A.deeper (lamEnv X scope s.heap.objs.size f c')) → PE (lamCx (wN X p) A outer s H (fun _ _ _ => False) scope f c') body tb)
    (ht : tb (σ ++ [some x]) H fun v H' => Qb v H' ∧ H' = H) :
    wpAny (model X.prog X.w) A (call (.ref f) [xv]) (fun u s2 => (∃ v, RelV v u ∧ Qb v H) ∧ Gd X H s0 s2 ∧ ∀ b o, Nw X H s0 b → s1.heap.get? b = some o → s2.heap.get? b = some o) E' s1 := by
  have J := g.inv I
  have e0 : Env0 X.prog X.w X.K X.mg X.base A X.stack s1 H := ⟨hA, J.env0.mod, J.env0.bs, J.env0.bsz, J.env0.funs, J.env0.frf, J.env0.hok, J.env0.bare⟩
  have un := g.2.2.1
  have of1 := un.keep f _ hf hfn hfr (by simp)
  obtain ⟨⟨oc, vs, t, hoc, hdc, hvc⟩, _, _⟩ := J.hok c' _ hco
  have rc : codeAny (model X.prog X.w) A (.call (.ref f) ⟨[xv], []⟩) (CR (L2.CX X.prog X.w) X.stack X.prog X.w H s1 (fun v H' => Qb v H' ∧ H' = H) (fun _ _ _ => False)) s1 := by
    refine PySem.W.kla_callFunE hr.depth of1 rfl L.co L.gen rfl ⟨c', oc, vs, t, rfl, hoc, hdc, hvc⟩ ?_
    rw [hbind]
    refine wpAny_pure (wpAny_newFunctionEnv (fun y hy => (L.own y hy).2) (fun y hy => by rw [List.mem_singleton.mp hy]; exact L.par) (fun h₁ hns hsb => ⟨J.nolimit.fresh _ hsb, ?_⟩) L.kind)
    show codeAny _ _ (.expr body (lamEnv X scope s1.heap.objs.size f c')) _ _
    have kp : ∀ b o, s1.heap.get? b = some o → h₁.get? b = some o := fun b o e => hsb.extBut b o (Nat.ne_of_lt (Heap.lt_size e)) (Heap.get?_push_of_some _ e)
    have J2 : Inv (lamCx (wN X p) A X.stack s1 H (fun _ _ _ => False) scope f c') [] (σ ++ [some x]) H { s1 with heap := h₁, toks := s1.toks + ([(p, xv)] : List (Str × Value)).length } :=
      start1 I L rx e0 hr.hd un hns kp
    refine PySem.W.kla_codeExpr (wpAny_mono ((hbody _ _ s1 (hr.deeper _)).run [] _ _ H _ J2 ht) (fun v s' hq => ?_) fun e s' hq => hq)
    · obtain ⟨w', H', J', rv, q⟩ := hq
      exact ⟨w', H', J'.os, J'.bare, J'.base, J'.hok, rv, q⟩
  refine wpAny_call (codeAny_mono rc fun r s2 hq => ?_)
  cases r with
  | error e =>
    have hq : L2.CX X.prog X.w X.stack H s1 (fun _ _ _ => False) e s2 := hq
    obtain ⟨_, _, _, _, _, _, _, _, _, _, _, _, z⟩ := hq
    exact False.elim z
  | ok fl =>
    cases fl with
    | ret u =>
      obtain ⟨v, H', os, bare, un2, hok, rv, q, rfl⟩ := hq
      refine ⟨⟨v, rv, q⟩, ⟨os.trans g.1, bare, un.trans un2, hok⟩, fun b o nb e => un2.keep b o e nb.1 nb.2.1 (by simp)⟩
    | next => exact False.elim hq
    | brk => exact False.elim hq
    | cont => exact False.elim hq
end
end Kl

set_option maxHeartbeats 4000000
/-! a lambda is made: its code object is new, or found -/
namespace Kl
open PySem PySem.Spec PyProof.Rows L2 LamX
/-- what the making of a lambda changes: nothing, or the table at P and a code object -/
def Made (H H1 : Hp) (P : Addr) (q : Str) : Prop :=
  H1 = H ∨ ∃ ps more c', H P = some (.tbl ps) ∧ H c' = none ∧ H1 = upd (upd H P (.tbl (ps ++ more))) c' (CodeO c' q)
section
variable {X : Cx} {pins : List (Addr × Obj)} {σ : L2.St} {H : Hp} {s : Shared}
theorem make1 {c P : Addr} {params : Arguments} {body : Expr} {scope : Scope} {pos : Pos} {E : Value → Shared → Prop} {Q : Value → Shared → Prop} (I : Inv X pins σ H s) (TB : TabB X.base X.mg c P) (hcode : X.env.code = .ref c)
    (hT : TabS H P (X.env.qual ++ "<lambda>")) (hdef : defaultsOf params X.env = ([], [])) (hfree : ∀ y ∈ scope.names, y.2 = .free → ∃ c, X.env.cells.lookup y.1 = some c)
    (h : ∀ (f c' : Addr) (pm ctv : Value) (H1 : Hp) (s' : Shared), Inv X pins σ H1 s' → Made H H1 P (X.env.qual ++ "<lambda>") → TabS H1 P (X.env.qual ++ "<lambda>") →
      s'.heap.get? f = some (PySem.W.kla_obj "<lambda>" (X.env.qual ++ "<lambda>") params body scope (cloFrom X.env.cells scope.names []) pm c' ctv) → H1 f = none → f ∉ frs X.stack → H1 c' = some (CodeO c' (X.env.qual ++ "<lambda>")) → Q (.ref f) s') :
    wpAny (model X.prog X.w) X.A (eval (.Lambda params body scope pos) X.env) Q E s := by
  refine PySem.W.kla_eval hdef ?_
  obtain ⟨ps, hP, ht, ha⟩ := hT
  have bP : s.heap.BuiltinsAt X.mg P := TB.bm.keeps I.bk
  have hP' : s.heap.get? P = some { cls := .none, data := .fields ps } := I.hok P _ hP
  have nofr : ∀ f, s.heap.objs.size ≤ f → f ∉ frs X.stack := fun f hf z => by
    rcases List.mem_cons.mp (I.stkSub _ z) with e | e
    · have h1 := I.lt
      rw [← e] at h1
      exact Nat.lt_irrefl _ (Nat.lt_of_lt_of_le h1 hf)
    · exact I.nofs hf e
  cases hc : codeAmong pos ps.toList with
  | none =>
    refine PySem.W.kla_makeFunction (mg := X.mg) (c := c) (P := P) (ps := ps) (closure_ok hfree) I.ok.glob (I.mod.glob.keeps I.bk) hcode (TB.code.keeps I.bk) hP' ht hc TB.gP bP fun c' ctv h' tk hx hge hlt hrec htb => ?_
    obtain ⟨c2, oc, vs, t, e2, hoc, hd, hv⟩ := hrec
    cases e2
    have nC : H c' = none := I.hok.fresh hge
    have I1 := inv_table (t' := tk) (more := #[rawInt pos.line, rawInt pos.col, .ref c']) (h' := h'.push (PySem.W.kla_obj "<lambda>" (X.env.qual ++ "<lambda>") params body scope (cloFrom X.env.cells scope.names []) ((X.mg "__name__").getD .none) c' ctv)) I hP
      (fun b o hb e => Heap.get?_push_of_some _ (hx b o hb e)) (Heap.get?_push_of_some _ htb) hge ⟨oc, vs, t, Heap.get?_push_of_some _ hoc, hd, hv⟩
    have eL : (ps ++ #[rawInt pos.line, rawInt pos.col, .ref c']).toList = ps.toList ++ [rawInt pos.line, rawInt pos.col, .ref c'] := by simp
    have hE : ∀ b o, H b = some o → (∀ ps, o ≠ .tbl ps) → upd (upd H P (.tbl (ps ++ #[rawInt pos.line, rawInt pos.col, .ref c']))) c' (CodeO c' (X.env.qual ++ "<lambda>")) b = some o := fun b o e n => by
      rw [upd_ne (ne_of_none e nC), upd_ne (fun z => n ps (Option.some.inj (e.symm.trans (by rw [z]; exact hP))))]
      exact e
    refine h h'.objs.size c' ((X.mg "__name__").getD .none) ctv _ _ I1 (.inr ⟨ps, _, c', hP, nC, rfl⟩) ?_ (Heap.get?_push_size _ rfl) ?_ (nofr _ (Nat.le_trans hge (Nat.le_of_lt hlt))) upd_same
    · refine ⟨_, by rw [upd_ne (ne_of_none hP nC), upd_same], by rw [eL]; exact PySem.TriplesOk_snoc _ _ _ _ ht, fun p' cv hcv => ?_⟩
      rw [eL] at hcv
      rcases among_app _ ht hcv with z | z
      · obtain ⟨c0, e1, e2⟩ := ha p' cv z
        exact ⟨c0, e1, hE _ _ e2 codeO_ne⟩
      · exact ⟨c', z, upd_same⟩
    · have n1 : h'.objs.size ≠ c' := Nat.ne_of_gt hlt
      have n2 : h'.objs.size ≠ P := Nat.ne_of_gt (Nat.lt_of_lt_of_le (Heap.lt_size hP') (Nat.le_trans hge (Nat.le_of_lt hlt)))
      rw [upd_ne n1, upd_ne n2]
      exact I.hok.fresh (Nat.le_trans hge (Nat.le_of_lt hlt))
  | some cv =>
    obtain ⟨c', e, hco⟩ := ha pos cv hc
    subst e
    refine PySem.W.kla_makeFunctionHit (mg := X.mg) (c := c) (P := P) (ps := ps) (closure_ok hfree) I.ok.glob (I.mod.glob.keeps I.bk) hcode (TB.code.keeps I.bk) hP' ht hc bP fun ctv h' tk hx hsz => ?_
    have I1 : Inv X pins σ H { s with heap := h'.push (PySem.W.kla_obj "<lambda>" (X.env.qual ++ "<lambda>") params body scope (cloFrom X.env.cells scope.names []) ((X.mg "__name__").getD .none) c' ctv), toks := tk } := I.kept fun b o e => Heap.get?_push_of_some _ (hx b o e)
    exact h h'.objs.size c' ((X.mg "__name__").getD .none) ctv H _ I1 (.inl rfl) ⟨ps, hP, ht, ha⟩ (Heap.get?_push_size _ rfl) (I.hok.fresh hsz) (nofr _ hsz) hco
end
end Kl

set_option maxHeartbeats 4000000
/-! sorted(range, key=lambda p: text[p:]) -/
namespace Kl
open PySem PySem.Spec PyProof.Rows L2 LamX
section
variable {X : Cx} {pins : List (Addr × Obj)} {σ : L2.St} {H : Hp} {s0 s1 : Shared} {p : Str}
/-- a new object that no name knows yet is tracked -/
theorem Gd.track {D : Addr} {o : HO} (I : Inv X pins σ H s0) (g : Gd X H s0 s1) (nb : Nw X H s0 D) (new : ObjOk X.prog X.w (upd H D o) s1.heap D o) : Inv X pins σ (upd H D o) s1 := by
  obtain ⟨os, bare, un, hok⟩ := g
  obtain ⟨n1, n2, n3⟩ := nb
  have ne : ∀ c ob, s0.heap.get? c = some ob → c ≠ D := fun c ob e z => by rw [z, n3] at e; cases e
  have un' : Un (frs X.stack) [] H (upd H D o) s0.heap s1.heap := ⟨un.keep, un.slot, fun b ob q n hx => by rw [upd_ne (ne b ob q)]; exact n, un.there,
    fun b xs q => by rw [upd_ne (ne_of_none q n1)]; exact q, fun b u xs q => by rw [upd_ne (ne_of_none q n1)]; exact q, fun b ps q => ⟨#[], by rw [upd_ne (ne_of_none q n1), q]; simp⟩⟩
  have hok' : HOk X.prog X.w (upd H D o) s1.heap := fun b u e => by
    by_cases hb : b = D
    · subst hb
      rw [upd_same] at e
      cases e
      exact new
    · rw [upd_ne hb] at e
      exact (hok b u e).stay (fun _ _ _ q => q) (fun d q => by rw [upd_ne (ne_of_none q n1)]; exact q) fun d xs q => by rw [upd_ne (ne_of_none q n1)]; exact q
  obtain ⟨hh, g, d, t, os'⟩ := s1
  obtain rfl : os' = s0.os := os
  exact I.call (h' := hh) (g' := g) (d' := d) (t' := t) (ch := []) un' hok' bare (fun b z => absurd z (by simp))
theorem Gd.refl (I : Inv X pins σ H s0) : Gd X H s0 s0 := ⟨rfl, I.bare, Un.refl, I.hok⟩
/-- the positions in the order of the rests -/
theorem sort_out {z : List Nat} {n : Nat} {vs out : List Value} (hI : IntsAre vs ((List.range n).map fun i => ((i : Nat) : Int))) (h : SrtO.KsOut ((List.range n).map fun i => (⟨(z.drop i).toArray⟩ : Str)) vs out) :
    ∃ ns : List Nat, IntsAre out (ns.map fun i => ((i : Nat) : Int)) ∧ ns.Perm (List.range n) ∧ ns.Pairwise fun a b => z.drop a ≤ z.drop b := by
  obtain ⟨ps, hp, rfl, hs⟩ := h
  have key : ∀ (l : List Nat) (us : List Value), IntsAre us (l.map fun i => ((i : Nat) : Int)) → ∀ q ∈ (l.map fun i => (⟨(z.drop i).toArray⟩ : Str)).zip us, ∃ (i : Nat) (t : Tok), i ∈ l ∧ q = (⟨(z.drop i).toArray⟩, .int (i : Nat) t) := by
    intro l
    induction l with
    | nil => intro us _ q hq; exact absurd hq (by simp)
    | cons i l ih =>
      intro us hu q hq
      cases hu with
      | cons _ t hu =>
        rcases List.mem_cons.mp hq with rfl | hq
        · exact ⟨i, t, List.mem_cons_self, rfl⟩
        · obtain ⟨j, t, hj, e⟩ := ih _ hu q hq
          exact ⟨j, t, List.mem_cons_of_mem _ hj, e⟩
  have zipi : ∀ (l : List Nat) (us : List Value), IntsAre us (l.map fun i => ((i : Nat) : Int)) → ((l.map fun i => (⟨(z.drop i).toArray⟩ : Str)).zip us).map (fun q => (numOf q.2).toNat) = l := by
    intro l
    induction l with
    | nil => intro us _; rfl
    | cons i l ih =>
      intro us hu
      cases hu with
      | cons _ t hu =>
        show ((numOf (Value.int (i : Nat) t)).toNat :: _) = i :: l
        rw [show (numOf (Value.int (i : Nat) t)).toNat = i from Int.toNat_natCast i]
        exact congrArg (i :: ·) (ih _ hu)
  have hps : ∀ q ∈ ps, ∃ (i : Nat) (t : Tok), q = (⟨(z.drop i).toArray⟩, .int (i : Nat) t) := fun q hq => by
    obtain ⟨i, t, _, e⟩ := key _ _ hI q (hp.mem_iff.mp hq)
    exact ⟨i, t, e⟩
  refine ⟨ps.map fun q => (numOf q.2).toNat, ?_, ?_, ?_⟩
  · clear hp hs
    induction ps with
    | nil => exact .nil
    | cons q ps ih =>
      obtain ⟨i, t, e⟩ := hps q List.mem_cons_self
      subst e
      have := ih fun q hq => hps q (List.mem_cons_of_mem _ hq)
      show IntsAre (Value.int (i : Nat) t :: _) (((i : Int).toNat : Int) :: _)
      rw [Int.toNat_natCast]
      exact .cons _ t this
  · have := hp.map (fun q => (numOf q.2).toNat)
    rw [zipi _ _ hI] at this
    exact this
  · rw [List.pairwise_map]
    refine hs.imp_of_mem fun {a b} ha hb hab => ?_
    obtain ⟨i, t, rfl⟩ := hps a ha
    obtain ⟨j, u, rfl⟩ := hps b hb
    show z.drop (i : Int).toNat ≤ z.drop (j : Int).toNat
    rw [Int.toNat_natCast, Int.toNat_natCast]
    exact List.not_lt.mp (by simpa using hab)
end
end Kl

set_option maxHeartbeats 4000000
/-! sorted(range, key=lambda p: text[p:]): the rule -/
namespace Kl
open PySem PySem.Spec PyProof.Rows L2 LamX
/-- the reading -/
def tSrt (tr : TE) (i : Nat) (P : Addr) (q : Str) : TE := fun σ H Q => tr σ H fun v H1 => ∃ (a : Addr) (n : Nat) (z : List Nat) (hi : Int), v = .ref a ∧ H1 a = some (.rng 0 hi) ∧ n = hi.toNat ∧ -(2 ^ 62) ≤ hi ∧ n ≤ 1000 ∧ z.length ≤ 1000 ∧ σ[i]? = some (some (.str ⟨z.toArray⟩)) ∧ TabS H1 P q ∧
  ∀ (H2 : Hp) (D : Addr) (ns : List Nat), Made H1 H2 P q → TabS H2 P q → H2 D = none → ns.Perm (List.range n) → (ns.Pairwise fun a b => z.drop a ≤ z.drop b) → Q (.ref D) (upd H2 D (.lst (ns.map fun k => V.int (k : Nat))))
theorem Made.ns {H H1 : Hp} {P a : Addr} {q : Str} {o : HO} (m : Made H H1 P q) (h : H a = some o) (n : ∀ ps, o ≠ .tbl ps) : H1 a = some o := by
  rcases m with rfl | ⟨ps, more, c', h1, h2, rfl⟩
  · exact h
  · rw [upd_ne (ne_of_none h h2), upd_ne (fun z => n ps (by rw [z, h1] at h; exact (Option.some.inj h).symm))]; exact h
section
variable {X : Cx} {p tx : Str} {i k : Nat}
theorem cut_rest (z : List Nat) (j : Nat) : cutS (⟨z.toArray⟩ : Str) (some (j : Nat)) none = (⟨(z.drop j).toArray⟩ : Str) := by
  have h := Mi.cutS_eq z (some (j : Nat)) none
  have e : Mi.cutL z (some ((j : Nat) : Int)) none = z.drop j := by
    have h1 : Mi.sIx z.length 0 (some ((j : Nat) : Int)) = min j z.length := by
      unfold Mi.sIx
      show (if ((j : Nat) : Int) < 0 then _ else min ((j : Nat) : Int).toNat z.length) = _
      rw [if_neg (by omega), Int.toNat_natCast]
    unfold Mi.cutL
    rw [h1]
    show (z.drop (min j z.length)).take (z.length - min j z.length) = z.drop j
    by_cases hj : j ≤ z.length
    · rw [Nat.min_eq_left hj, List.take_of_length_le (by rw [List.length_drop]; omega)]
    · rw [Nat.min_eq_right (by omega), List.drop_eq_nil_of_le (Nat.le_refl _), List.drop_eq_nil_of_le (by omega), List.take_nil]
  rw [e] at h
  exact h
theorem pe_srt {c P : Addr} {rng : Expr} {tr : TE} {params : Arguments} {scope : Scope} {lpos p0 p3 p4 p5 p6 kpos pos : Pos} (hg : Gl X "sorted") (hm : X.mg "sorted" = none) (hrng : PE X rng tr)
    (TB : TabB X.base X.mg c P) (hcode : X.env.code = .ref c) (L : Lam1 X.N X.env.scope scope p) (hdef : defaultsOf params X.env = ([], []))
    (hbind : ∀ (q : Str) (body : Expr) (cl : List (Str × Addr)) (pm cv ctv v : Value), bindArgs (PySem.W.kla_fn "<lambda>" q params body scope cl pm cv ctv) ⟨[v], []⟩ = pure [(p, v)])
    (hr : Room (k + 3) X.A) (hN : X.N[i]? = some tx) (hv : Vis scope tx) (hd1 : (tx == ("__debug__" : Str)) = false) (hd2 : (tx == ("__classdict__" : Str)) = false) (hd3 : (p == ("__debug__" : Str)) = false) (hd4 : (p == ("__classdict__" : Str)) = false)
    (he : backTo pos (starEach [rng] X.env) = (false, eval rng X.env) :: backTo pos (starEach [] X.env)) (hpl : (backTo pos (starEach [rng] X.env)).any (·.1) = false) (ha : PA X [rng] (tCons tr tNil)) :
    PE X (.Call (.Name "sorted" p0) [rng] [⟨some "key", .Lambda params (.Subscript (.Name tx p3) (.Slice (some (.Name p p4)) none none p5) p6) scope lpos, kpos⟩] pos) (tSrt tr i P (X.env.qual ++ "<lambda>")) := by
  refine ⟨fun pins s σ H Q I h => ?_⟩
  have h' : tCons tr tNil σ H fun vs H1 => match vs with
    | [v] => ∃ (a : Addr) (n : Nat) (z : List Nat) (hi : Int), v = .ref a ∧ H1 a = some (.rng 0 hi) ∧ n = hi.toNat ∧ -(2 ^ 62) ≤ hi ∧ n ≤ 1000 ∧ z.length ≤ 1000 ∧ σ[i]? = some (some (.str ⟨z.toArray⟩)) ∧ TabS H1 P (X.env.qual ++ "<lambda>") ∧
      ∀ (H2 : Hp) (D : Addr) (ns : List Nat), Made H1 H2 P (X.env.qual ++ "<lambda>") → TabS H2 P (X.env.qual ++ "<lambda>") → H2 D = none → ns.Perm (List.range n) → (ns.Pairwise fun a b => z.drop a ≤ z.drop b) → Q (.ref D) (upd H2 D (.lst (ns.map fun k => V.int (k : Nat))))
    | _ => False := h
  refine wpAny_Call_Name_kw (ld_blt I hg hm (by rfl : bootBuiltins "sorted" = some (.builtin "sorted")) ?_)
  refine PyProof.Rows.callWith_kw (thn (ha.run pos pins s σ H _ I h') fun us s1 ⟨vs, H1, I1, r1, q1⟩ => ?_) he hpl (by rfl) (by rfl)
  obtain ⟨v, rfl, a, n, z, top, rfl, hra, hntop, hlow, hn, hz, hsi, hT, hQ⟩ : ∃ v, vs = [v] ∧ ∃ (a : Addr) (n : Nat) (z : List Nat) (hi : Int), v = .ref a ∧ H1 a = some (.rng 0 hi) ∧ n = hi.toNat ∧ -(2 ^ 62) ≤ hi ∧ n ≤ 1000 ∧ z.length ≤ 1000 ∧ σ[i]? = some (some (.str ⟨z.toArray⟩)) ∧ TabS H1 P (X.env.qual ++ "<lambda>") ∧
      ∀ (H2 : Hp) (D : Addr) (ns : List Nat), Made H1 H2 P (X.env.qual ++ "<lambda>") → TabS H2 P (X.env.qual ++ "<lambda>") → H2 D = none → ns.Perm (List.range n) → (ns.Pairwise fun a b => z.drop a ≤ z.drop b) → Q (.ref D) (upd H2 D (.lst (ns.map fun k => V.int (k : Nat)))) := by
    match vs, q1 with
    | [v], q1 => exact ⟨v, rfl, q1⟩
    | [], q1 => exact q1.elim
    | _ :: _ :: _, q1 => exact q1.elim
  show wpAny _ _ (evalAll ((do let v ← eval (.Lambda params (.Subscript (.Name tx p3) (.Slice (some (.Name p p4)) none none p5) p6) scope lpos) X.env; standAt pos; pure v) :: [])) _ _ s1
  refine wpAny_evalAll_cons (wpAny_bind (make1 I1 TB hcode hT hdef (L.has I1.ok) fun f c' pm ctv H2 s2 I2 hmade hT2 hf hfn hfr hco => wpAny_bind (wpAny_standAt (wpAny_pure (wpAny_evalAll_nil ?_)))))
  rw [Vals.ref1 r1]
  show wpAny (model X.prog X.w) X.A (call (.builtin "sorted") [.ref a] [(Str.ofString "key", .ref f)]) (EP X pins σ Q) X.xe s2
  have hra2 : H2 a = some (.rng 0 top) := hmade.ns hra fun _ z => nomatch z
  obtain ⟨t, u, w', ho⟩ := I2.hok a _ hra2
  have hh : X.A.handled = none := hr.hd
  refine SrtO.kst_sorted (ks := (List.range n).map fun i => (⟨(z.drop i).toArray⟩ : Str)) (goodS I2) (Gd.refl I2) hh ho ?_ ?_ hn (by rw [List.length_map, List.length_range]) (fun j kk t hj hk s' g => ?_) fun D s' vs out c nb g hD hI hK => ?_
  · exact small_one (by omega) (by omega) (by omega) (by omega)
  · rw [rangeSize_one]; split <;> omega
  · rw [List.getElem?_map, List.getElem?_range hj] at hk
    have hk : (⟨(z.drop j).toArray⟩ : Str) = kk := Option.some.inj hk
    subst hk
    have hrA : Room (k + 1) X.A.in1.in1 := Room.in1 (k := k + 1) (Room.in1 (k := k + 2) hr)
    have hp0 : (X.N ++ [p])[X.N.length]? = some p := by rw [List.getElem?_append_right (Nat.le_refl _), Nat.sub_self]; rfl
    have hi : (X.N ++ [p])[i]? = some tx := by rw [List.getElem?_append_left (List.getElem?_eq_some_iff.mp hN).1]; exact hN
    refine wpAny_mono (call1 (x := .int (j : Nat)) (tb := tSl rSlS (tVar i) (tPart (tVar X.N.length)) tNoPart) (Qb := fun v _ => v = .str ⟨(z.drop j).toArray⟩) I2 L hf hfn hfr hco (hbind _ _ _ _ _ _ _) hrA I2.ok.frames ⟨t, rfl⟩ g (fun A outer s hr2 => ?_) ?_) (fun r s'' q => ?_) fun _ _ e => e
    · exact pe_slice sl_str (pe_var hi hv hd1 hd2) (po_some (pe_var hp0 (.inl L.par) hd3 hd4)) po_none
    · refine ⟨_, by rw [List.getElem?_append_left (by rw [I2.len]; exact (List.getElem?_eq_some_iff.mp hN).1)]; exact hsi, .int (j : Nat), ?_, _, rfl, ⟨z.toArray⟩, rfl, ?_, ?_, rfl⟩
      · rw [← I2.len, List.getElem?_append_right (Nat.le_refl _), Nat.sub_self]; rfl
      · show z.toArray.size ≤ _
        rw [List.size_toArray, sizeLine_eq]; omega
      · exact congrArg V.str (cut_rest z j)
    · obtain ⟨⟨v, rv, rfl⟩, q2, q3⟩ := q
      exact ⟨rv, q2, q3⟩
  · obtain ⟨ns, h1, h2, h3⟩ := sort_out hI hK
    have hlen : ns.length = n := by rw [h2.length_eq, List.length_range]
    have e : (ns.map fun k => V.int (k : Nat)) = (ns.map fun i => ((i : Nat) : Int)).map V.int := by rw [List.map_map]; rfl
    refine ⟨.ref D, upd H2 D (.lst (ns.map fun k => V.int (k : Nat))), Gd.track I2 g nb ⟨by rw [List.length_map, hlen, sizeLine_eq]; omega, out.toList, c, by rw [e]; exact vals_of_ints h1, ?_⟩, rfl, hQ H2 D ns hmade hT2 nb.1 h2 h3⟩
    rw [Array.toArray_toList]
    exact hD
end
end Kl

set_option maxHeartbeats 1000000
/-! the making of a lambda as a step that changes tables alone -/
namespace Mi
open PySem PySem.Spec PyProof.Rows L2 LamX Kl
theorem made_mid {K : PySem.W.Frag} {H H1 : Hp} {P : Addr} {q : Str} (m : Made H H1 P q) (t : TabS H1 P q) (hu : ∀ x ∈ TabK K, x.1 = P → x.2 = q) : Mid K H H1 := by
  have other : ∀ a o, H a = some o → a ≠ P → H1 a = some o := fun a o h n => by
    rcases m with rfl | ⟨ps, more, c', h1, h2, rfl⟩
    · exact h
    · rw [upd_ne (ne_of_none h h2), upd_ne n]; exact h
  have tb : ∀ a ps, H a = some (.tbl ps) → ∃ ps', H1 a = some (.tbl ps') := fun a ps h => by
    by_cases e : a = P
    · subst e
      obtain ⟨ps', z, _⟩ := t
      exact ⟨ps', z⟩
    · exact ⟨ps, other a _ h e⟩
  refine ⟨⟨fun a o h n _ => m.ns h n, tb, fun T x hx => ?_⟩, fun a o h => ?_⟩
  · by_cases e : x.1 = P
    · rw [hu x hx e, e]; exact t
    · obtain ⟨ps, h1, h2, h3⟩ := T x hx
      refine ⟨ps, other _ _ h1 e, h2, fun pos cv hc => ?_⟩
      obtain ⟨c, e1, e2⟩ := h3 pos cv hc
      exact ⟨c, e1, m.ns e2 codeO_ne⟩
  · by_cases n : ∀ ps, o ≠ .tbl ps
    · exact ⟨o, m.ns h n⟩
    · obtain ⟨ps, z⟩ := Classical.not_forall.mp n
      have z := Classical.not_not.mp z
      subst z
      obtain ⟨ps', z⟩ := tb a ps h
      exact ⟨_, z⟩
/-- what sorted by the rests hands back -/
theorem srt_new {K : PySem.W.Frag} {H H2 : Hp} {Z : Addr → Prop} {P D : Addr} {q : Str} {z ns : List Nat} {n : Nat} (zk : ∀ a, Z a → H a ≠ none) (m : Made H H2 P q) (t : TabS H2 P q) (hu : ∀ x ∈ TabK K, x.1 = P → x.2 = q) (hD : H2 D = none) (hn : n ≤ z.length + 1)
    (hp : ns.Perm (List.range n)) (hs : ns.Pairwise fun a b => z.drop a ≤ z.drop b) : New K H Z (.ref D) (.lst ((sufS z n).map fun k => Mi.D.int ((k : Nat) : Int))) (upd H2 D (.lst (ns.map fun k => V.int (k : Nat)))) := by
  have mm := made_mid (K := K) m t hu
  have hD0 : H D = none := by
    cases e : H D with
    | none => rfl
    | some o => obtain ⟨o', z⟩ := mm.2 D o e; rw [hD] at z; cases z
  have e := sufS_eq hn hp hs
  subst e
  refine .inr (.inr ⟨H2, D, _, mm, hD0, hD, rfl, rfl, D, _, rfl, fun h => zk D h hD0, upd_same, ?_⟩)
  have := Rps.of_ints (K := K) (H := upd H2 D (.lst ((sufS z n).map fun k => V.int (k : Nat)))) (Z := Z) ((sufS z n).map fun k => ((k : Nat) : Int))
  rw [List.map_map, List.map_map] at this
  exact this
end Mi

set_option maxHeartbeats 4000000
/-! sorted of a tuple -/
namespace SrtT
open PySem PySem.Spec PySem.Calls PyProof.Rows PySem.W HT L2 Srt SrtO
section
variable {prog : Program} {w : World} {A : Around} {E : Value → Shared → Prop} {s : Shared}
/-- what is collected of a tuple -/
theorem collect_tup {l : Addr} {vs : List Value} {Q : List Value → Shared → Prop} (hl : IsTup s.heap l vs.toArray)
    (h : Q vs { s with heap := (s.heap.push (seqObj "list" #[] 0)).update s.heap.objs.size (Obj.mapSeq (· ++ vs.toArray)) }) (hsz : vs.length ≤ sizeLine) :
    wpAny (model prog w) A (collect (.ref l)) Q E s := by
  obtain ⟨o, ho, hc, n, hd⟩ := id hl
  unfold collect
  refine wpAny_bind (wpAny_runValue (codeAny_builtin entry_proto_collect' ?_))
  show wpAny _ _ (do again (.builtin "list.__iadd__" ⟨[← newList [], .ref l], []⟩)) _ _ s
  refine wpAny_bind (wpAny_newList (wpAny_pure ⟨Code.quiet_builtin _ (by decide +kernel), codeAny_builtin entry_list_iadd' ?_⟩))
  show wpAny _ _ (Builtin.List.listExtendWith (.ref s.heap.objs.size) (.ref l) (.ref s.heap.objs.size)) _ _ { s with heap := s.heap.push (seqObj "list" #[] 0) }
  unfold Builtin.List.listExtendWith
  have ho' : (s.heap.push (seqObj "list" #[] 0)).get? l = some o := Heap.get?_push_of_some _ ho
  refine wpAny_bind (wpAny_typeOf (T := "tuple") ⟨o, ho', hc⟩ ?_)
  have ht : (Value.type "tuple" == Value.type "tuple") = true := by rfl
  rw [if_pos (by rw [ht]; simp)]
  refine wpAny_bind (listItems_at ho' hd ?_)
  refine wpAny_bind (listItems_at (xs := #[]) (n := 0) (Heap.get?_push_size _ rfl) rfl ?_)
  rw [if_neg (by simp)]
  refine wpAny_bind (listUpdate_at (xs := #[]) (n := 0) (Heap.get?_push_size _ rfl) rfl ?_ (Nat.zero_le _) (by show (#[] ++ vs.toArray).size ≤ sizeLine + 1; simp only [Array.size_append, List.size_toArray, List.length_nil]; omega))
  refine wpAny_pure ?_
  show wpAny (model prog w) A (do
      let o ← load s.heap.objs.size
      match o.data with
      | .seq xs _ => pure xs.toList
      | _ => unsupported "internal:collect") Q E { s with heap := (s.heap.push (seqObj "list" #[] 0)).update s.heap.objs.size (Obj.mapSeq (· ++ vs.toArray)) }
  refine wpAny_bind (wpAny_load (get?_update_seq (Heap.get?_push_size _ rfl) _) ?_)
  show wpAny _ _ (pure ((#[] : Array Value) ++ vs.toArray).toList) Q E _
  rw [show ((#[] : Array Value) ++ vs.toArray).toList = vs by simp]
  exact wpAny_pure h
/-- sorted of a tuple, of items that an order puts in rows -/
theorem sorted_tup {l : Addr} {vs : List Value} {ltv : Value → Value → Bool} {Q : Value → Shared → Prop} (O : Swo ltv) (hl : IsTup s.heap l vs.toArray) (hz : vs.length ≤ sizeLine)
    (hS : 2 ≤ vs.length → ∀ (h₁ : Heap) (a : Addr), h₁.get? a = some (seqObj "list" vs.toArray 0) → (∀ b o, s.heap.get? b = some o → b ≠ a ∧ h₁.get? b = some o) → SortableO prog w A.in1.in1 { s with heap := h₁ } a vs ltv)
    (h : ∀ out : List Value, Srtd ltv out → Stb ltv out vs → Q (.ref (s.heap.objs.size + 1)) { s with heap := sortedAll s.heap vs out.toArray }) :
    wpAny (model prog w) A (call (.builtin "sorted") [.ref l]) Q E s := by
  refine Calls.call_function_entry kind_sorted plain_sorted entry_sorted (args_sorted1 _) ?_
  unfold Builtin.«sorted»
  refine wpAny_bind (m := checkCount "sorted" 1 1 _) (wpAny_pure ?_)
  refine wpAny_bind (collect_tup hl ?_ hz)
  refine wpAny_bind (wpAny_newList ?_ hz)
  have hsz : ((s.heap.push (seqObj "list" #[] 0)).update s.heap.objs.size (Obj.mapSeq (· ++ vs.toArray))).objs.size = s.heap.objs.size + 1 := by
    rw [Heap.size_update, size_push']
  have hoL : (((s.heap.push (seqObj "list" #[] 0)).update s.heap.objs.size (Obj.mapSeq (· ++ vs.toArray))).push (seqObj "list" vs.toArray 0)).get? (s.heap.objs.size + 1) = some (seqObj "list" vs.toArray 0) := by
    rw [← hsz]; exact Heap.get?_push_size _ rfl
  have keep : ∀ b o, s.heap.get? b = some o → b ≠ s.heap.objs.size + 1 ∧ (((s.heap.push (seqObj "list" #[] 0)).update s.heap.objs.size (Obj.mapSeq (· ++ vs.toArray))).push (seqObj "list" vs.toArray 0)).get? b = some o := fun b o q => by
    have hlt : b < s.heap.objs.size := Heap.lt_size q
    refine ⟨Nat.ne_of_lt (Nat.lt_succ_of_lt hlt), Heap.get?_push_of_some _ ?_⟩
    rw [Heap.get?_update_ne _ _ _ _ (Nat.ne_of_lt hlt)]
    exact Heap.get?_push_of_some _ q
  show wpAny _ _ _ _ _ { s with heap := ((s.heap.push (seqObj "list" #[] 0)).update s.heap.objs.size (Obj.mapSeq (· ++ vs.toArray))).push (seqObj "list" vs.toArray 0) }
  rw [hsz]
  refine wpAny_bind (wpAny_holding (wpAny_call_entry slot_list_sort ⟨_, hoL, rfl⟩ entry_list_sort (list_sort_ord O hoL hz (fun h2 => hS h2 _ _ hoL keep) fun out hs hb => ⟨_, rfl, ?_⟩) (args_list_sort _)))
  exact wpAny_pure ⟨_, rfl, h out hs hb⟩
end
end SrtT
namespace L2
open PySem PySem.Spec PyProof.Rows
/-- sorted(t), a tuple of texts -/
def rSortedXT (K : PySem.W.Frag) : List V → Hp → VK → Prop := fun vs H Q => ∃ (a : Addr) (ns : List Str), vs = [V.ref a] ∧ SqT K H a (ns.map V.str) ∧
  ∀ (ns' : List Str) (p : Addr), ns'.Perm ns → (ns'.map fun z => z.cps.toList).Pairwise (· ≤ ·) → H p = none → Q (.ref p) (upd H p (.lst (ns'.map V.str)))
section
variable {X : Cx}
theorem cr_sortedXT : CallR X (.builtin "sorted") (rSortedXT X.K) := by
  intro pins s σ H vs us Q I r h
  obtain ⟨a, ns, rfl, hs, q⟩ := h
  obtain ⟨its, rv, hl, hz⟩ := I.tuple hs
  rw [Vals.ref1 r]
  have hi := rv.strs
  refine SrtT.sorted_tup SrtO.swo_str hl (by rw [← rv.length]; exact hz) (fun h2 h₁ a' _ _ => SrtO.strs_sortable hi h2) fun out h1 h2 => ?_
  obtain ⟨k1, k2, k3⟩ := SrtO.strs_out hi h1 h2
  obtain ⟨ep, he'⟩ := PyProof.Rows.sortedAll_at s.heap its out.toArray
  have hlen : ((out.map SrtO.sv).map V.str).length ≤ sizeLine := by
    rw [List.length_map, k2.length_eq]
    rw [List.length_map] at hz
    exact hz
  exact ⟨.ref _, upd H (s.heap.objs.size + 1) (.lst ((out.map SrtO.sv).map V.str)), I.laid (t' := s.toks) (fun _ _ => PyProof.Rows.sortedAll_old) (Nat.le_succ _) ⟨hlen, out, ep, vals_of_strs k1, he'⟩, rfl, q _ _ k2 k3 (I.hok.fresh (Nat.le_succ _))⟩
/-- sorted(t), a tuple of whole numbers -/
def rSortedIT (K : PySem.W.Frag) : List V → Hp → VK → Prop := fun vs H Q => ∃ (a : Addr) (ns : List Int), vs = [V.ref a] ∧ SqT K H a (ns.map V.int) ∧
  ∀ (ns' : List Int) (p : Addr), ns'.Perm ns → ns'.Pairwise (· ≤ ·) → H p = none → Q (.ref p) (upd H p (.lst (ns'.map V.int)))
theorem cr_sortedIT : CallR X (.builtin "sorted") (rSortedIT X.K) := by
  intro pins s σ H vs us Q I r h
  obtain ⟨a, ns, rfl, hs, q⟩ := h
  obtain ⟨its, rv, hl, hz⟩ := I.tuple hs
  rw [Vals.ref1 r]
  have hi := rv.ints
  refine SrtT.sorted_tup SrtO.swo_int hl (by rw [← rv.length]; exact hz) (fun h2 h₁ a' _ _ => SrtO.ints_sortable hi h2) fun out h1 h2 => ?_
  obtain ⟨k1, k2, k3⟩ := SrtO.ints_out hi h1 h2
  obtain ⟨ep, he'⟩ := PyProof.Rows.sortedAll_at s.heap its out.toArray
  have hlen : ((out.map SrtO.iv).map V.int).length ≤ sizeLine := by
    rw [List.length_map, k2.length_eq]
    rw [List.length_map] at hz
    exact hz
  exact ⟨.ref _, upd H (s.heap.objs.size + 1) (.lst ((out.map SrtO.iv).map V.int)), I.laid (t' := s.toks) (fun _ _ => PyProof.Rows.sortedAll_old) (Nat.le_succ _) ⟨hlen, out, ep, vals_of_ints k1, he'⟩, rfl, q _ _ k2 k3 (I.hok.fresh (Nat.le_succ _))⟩
/-- sum(t), a tuple of whole numbers -/
def rSumT (K : PySem.W.Frag) : List V → Hp → VK → Prop := fun vs H Q => ∃ (a : Addr) (ns : List Int), vs = [V.ref a] ∧ SqT K H a (ns.map V.int) ∧ Q (.int ns.sum) H
theorem cr_sumT (hc : X.calm = true) : CallR X (.builtin "sum") (rSumT X.K) := by
  intro pins s σ H vs us Q I r h
  obtain ⟨a, ns, rfl, hs, q⟩ := h
  obtain ⟨its, rv, hl, hz⟩ := I.tuple hs
  rw [Vals.ref1 r]
  have hi := rv.ints
  obtain ⟨xs, e⟩ := hi.allInts.items
  have hn : numsOf (intItems xs).toList = ns := by rw [← e]; exact hi.numsOf
  rw [nums_intItems] at hn
  rw [e] at hl
  refine PySem.W.ktm_sumG (I.ok.hd hc) hl fun h' tk t' hk => ?_
  rw [preSum_eq, List.take_of_length_le (by simp), hn]
  exact ⟨.int _, H, I.kept hk, ⟨_, rfl⟩, q⟩
end
end L2

/-! built-in functions and types, at data -/
namespace Mi
open PySem PySem.Spec PyProof.Rows L2
/-! ### sorting -/
theorem insI_perm (x : Int) : ∀ ys, (insI x ys).Perm (x :: ys)
  | [] => .refl _
  | y :: ys => by
    unfold insI
    split
    · exact .refl _
    · exact ((insI_perm x ys).cons y).trans (.swap x y ys)
theorem sortI_perm : ∀ xs, (sortI xs).Perm xs
  | [] => .refl _
  | x :: xs => (insI_perm x (sortI xs)).trans ((sortI_perm xs).cons x)
theorem insI_sorted (x : Int) : ∀ ys, ys.Pairwise (· ≤ ·) → (insI x ys).Pairwise (· ≤ ·)
  | [], _ => by unfold insI; simp
  | y :: ys, h => by
    have h2 := List.pairwise_cons.mp h
    unfold insI
    split
    · rename_i hlt
      refine List.pairwise_cons.mpr ⟨fun z hz => ?_, h⟩
      rcases List.mem_cons.mp hz with e | hz
      · omega
      · have := h2.1 z hz; omega
    · rename_i hlt
      refine List.pairwise_cons.mpr ⟨fun z hz => ?_, insI_sorted x ys h2.2⟩
      rcases List.mem_cons.mp ((insI_perm x ys).mem_iff.mp hz) with e | hz
      · omega
      · exact h2.1 z hz
theorem sortI_sorted : ∀ xs, (sortI xs).Pairwise (· ≤ ·)
  | [] => .nil
  | x :: xs => insI_sorted x _ (sortI_sorted xs)
theorem sortI_one {xs ys : List Int} (p : ys.Perm xs) (s : ys.Pairwise (· ≤ ·)) : ys = sortI xs := PySem.W.ksm_same (p.trans (sortI_perm xs).symm) s (sortI_sorted xs)
theorem lexN_false {x y : List Nat} : lexN x y = false ↔ y ≤ x := by
  unfold lexN
  rw [decide_eq_false_iff_not]
  exact List.not_lt
theorem lexN_true {x y : List Nat} : lexN x y = true ↔ x < y := by
  unfold lexN
  rw [decide_eq_true_eq]
theorem insS_perm (x : List Nat) : ∀ ys, (insS x ys).Perm (x :: ys)
  | [] => .refl _
  | y :: ys => by
    unfold insS
    split
    · exact .refl _
    · exact ((insS_perm x ys).cons y).trans (.swap x y ys)
theorem sortS_perm : ∀ xs, (sortS xs).Perm xs
  | [] => .refl _
  | x :: xs => (insS_perm x (sortS xs)).trans ((sortS_perm xs).cons x)
theorem insS_sorted (x : List Nat) : ∀ ys, ys.Pairwise (· ≤ ·) → (insS x ys).Pairwise (· ≤ ·)
  | [], _ => by unfold insS; simp
  | y :: ys, h => by
    have h2 := List.pairwise_cons.mp h
    unfold insS
    split
    · rename_i hlt
      have hxy : x ≤ y := List.le_of_lt (lexN_true.mp hlt)
      refine List.pairwise_cons.mpr ⟨fun z hz => ?_, h⟩
      rcases List.mem_cons.mp hz with e | hz
      · rw [e]; exact hxy
      · exact List.le_trans hxy (h2.1 z hz)
    · rename_i hlt
      have hyx : y ≤ x := lexN_false.mp (by simpa using hlt)
      refine List.pairwise_cons.mpr ⟨fun z hz => ?_, insS_sorted x ys h2.2⟩
      rcases List.mem_cons.mp ((insS_perm x ys).mem_iff.mp hz) with e | hz
      · rw [e]; exact hyx
      · exact h2.1 z hz
theorem sortS_sorted : ∀ xs, (sortS xs).Pairwise (· ≤ ·)
  | [] => .nil
  | x :: xs => insS_sorted x _ (sortS_sorted xs)
theorem sortS_one {xs ys : List (List Nat)} (p : ys.Perm xs) (s : ys.Pairwise (· ≤ ·)) : ys = sortS xs :=
  List.Perm.eq_of_pairwise (fun x y _ _ h1 h2 => List.le_antisymm h1 h2) s (sortS_sorted xs) (p.trans (sortS_perm xs).symm)
theorem ltCps_eq : ∀ x y : List Nat, PySem.Spec.ltCps x y = decide (x < y)
  | [], [] => by simp [PySem.Spec.ltCps]
  | [], _ :: _ => by simp [PySem.Spec.ltCps]
  | _ :: _, [] => by simp [PySem.Spec.ltCps]
  | a :: x, b :: y => by
    unfold PySem.Spec.ltCps
    rw [ltCps_eq x y]
    rw [Bool.eq_iff_iff]
    simp [List.cons_lt_cons_iff]
theorem rising_le : ∀ (x : List Nat) (ys : List Str), risingS (strV x) ys = true → (x :: ys.map fun z => z.cps.toList).Pairwise (· ≤ ·)
  | x, [], _ => by simp
  | x, y :: ys, h => by
    unfold risingS at h
    rw [Bool.and_eq_true, ltCps_eq] at h
    have ih := rising_le y.cps.toList ys h.2
    have h1 : x ≤ y.cps.toList := List.not_lt.mp (by simpa using h.1)
    have h2 := List.pairwise_cons.mp ih
    rw [List.map_cons]
    refine List.pairwise_cons.mpr ⟨fun z hz => ?_, ih⟩
    rcases List.mem_cons.mp hz with e | hz
    · rw [e]; exact h1
    · exact List.le_trans h1 (h2.1 z hz)
theorem sortedS_le : ∀ ys : List Str, sortedS ys = true → (ys.map fun z => z.cps.toList).Pairwise (· ≤ ·)
  | [], _ => .nil
  | y :: ys, h => rising_le y.cps.toList ys h
theorem map_strV (ss : List (List Nat)) : (ss.map strV).map (fun z => z.cps.toList) = ss := by
  rw [List.map_map]
  exact List.map_id' ss
theorem strV_map (ys : List Str) : (ys.map fun z => z.cps.toList).map strV = ys := by
  rw [List.map_map]
  refine (List.map_congr_left fun z _ => ?_).trans (List.map_id' ys)
  exact Str.ext' rfl

/-! ### built-in functions -/
def PrimOk (X : Cx) (p : Prim) (r : List V → Hp → VK → Prop) : Prop := ∀ (vs : List V) (H : Hp) (Z : Addr → Prop) (ds : List D) (d : D) (Q : VK), (∀ a, Z a → H a ≠ none) → Rds X.K H Z vs ds → primD p ds = some d → (∀ v H', New X.K H Z v d H' → Q v H') → r vs H Q
theorem prim_use {X : Cx} {W : WX} {ex : Nat → Addr} {G : List Fn} {C : List D} {p : Prim} {r : List V → Hp → VK → Prop} {es : Es} (ok : PrimOk X p r) {σ : L2.St} {H : Hp} {Q : VK} (h : tE X.K W ex G C (.op (.prim p) es) σ H Q) : tCB r (tPA X.K W ex G C es) σ H Q :=
  op_use (k := fun vs H1 => r vs H1 Q) h fun vs H1 Z1 ds d zk hl rd e q => ok vs H1 Z1 ds d Q zk rd e q
section
variable {X : Cx} {W : WX} {ex : Nat → Addr} {G : List Fn} {C : List D}
theorem one_arg {K : PySem.W.Frag} {H : Hp} {Z : Addr → Prop} {vs : List V} {d : D} (h : Rds K H Z vs [d]) : ∃ v, vs = [v] ∧ RepD K H Z v d := by
  cases h with | cons h r => cases r; exact ⟨_, rfl, h⟩
theorem two_args {K : PySem.W.Frag} {H : Hp} {Z : Addr → Prop} {vs : List V} {d e : D} (h : Rds K H Z vs [d, e]) : ∃ v u, vs = [v, u] ∧ RepD K H Z v d ∧ RepD K H Z u e := by
  cases h with | cons h r => cases r with | cons h2 r => cases r; exact ⟨_, _, rfl, h, h2⟩
theorem ok_len : PrimOk X .len (fun xs H Q => ∃ x n, xs = [x] ∧ LenV X.K x H n ∧ Q (.int n) H) := by
  intro vs H Z ds d Q zk rd e q
  cases ds with
  | nil => cases e
  | cons d1 ds =>
    cases ds with
    | cons d2 ds => cases ds <;> cases d1 <;> first | (cases e; done) | (cases d2 <;> cases e; done)
    | nil =>
      obtain ⟨v, rfl, r⟩ := one_arg rd
      cases d1 with
      | str s =>
        have e' : (if s.length ≤ SZ then some (D.int s.length) else none) = some d := e
        split at e'
        · rename_i hz
          cases e'
          refine ⟨_, s.length, rfl, ?_, q _ _ (new_flat (.int _))⟩
          rw [rep_str r]
          exact ⟨by rw [strV_len]; exact rng_line hz, (strV_len s).symm⟩
        · cases e'
      | tup xs =>
        cases e
        obtain ⟨p, ws, rfl, l1, r1⟩ := rep_tup r
        exact ⟨_, xs.length, rfl, .inr ⟨ws, l1, r1.length.symm⟩, q _ _ (new_flat (.int _))⟩
      | lst xs =>
        cases e
        obtain ⟨p, ws, rfl, l1, r1⟩ := RepQ.of_lst r
        exact ⟨_, xs.length, rfl, .inl ⟨ws, l1, r1.length.symm⟩, q _ _ (new_flat (.int _))⟩
      | fls xs =>
        cases e
        obtain ⟨p, ws, rfl, l1, r1⟩ := RepQ.of_fls r
        exact ⟨_, xs.length, rfl, .inl ⟨ws, l1, r1.length.symm⟩, q _ _ (new_flat (.int _))⟩
      | _ => cases e
theorem ok_tuple : PrimOk X .tuple (fun xs H Q => ∃ p ys, xs = [.ref p] ∧ ((SqL X.K H p ys ∧ ∀ l, H l = none → Q (.ref l) (upd H l (.tup ys))) ∨ (SqT X.K H p ys ∧ Q (.ref p) H))) := by
  intro vs H Z ds d Q zk rd e q
  cases ds with
  | nil => cases e
  | cons d1 ds =>
    cases ds with
    | cons d2 ds => cases ds <;> cases d1 <;> first | (cases e; done) | (cases d2 <;> cases e; done)
    | nil =>
      obtain ⟨v, rfl, r⟩ := one_arg rd
      cases d1 with
      | tup xs =>
        cases e
        obtain ⟨p, ws, rfl, l1, r1⟩ := rep_tup r
        exact ⟨p, ws, rfl, .inr ⟨l1, q _ _ (new_flat (.tup l1 r1))⟩⟩
      | lst xs =>
        cases e
        obtain ⟨p, ws, rfl, l1, r1⟩ := RepQ.of_lst r
        exact ⟨p, ws, rfl, .inl ⟨l1, fun l n => q _ _ (new_tup n r1)⟩⟩
      | fls xs =>
        cases e
        obtain ⟨p, ws, rfl, l1, r1⟩ := RepQ.of_fls r
        exact ⟨p, ws, rfl, .inl ⟨l1, fun l n => q _ _ (new_tup n r1)⟩⟩
      | _ => cases e
theorem cr_range1 : CallR X (.type "range") (fun vs H Q => ∃ j, vs = [V.int j] ∧ ∀ p, H p = none → Q (.ref p) (upd H p (.rng 0 j))) := by
  intro pins s σ H vs us Q I r h
  obtain ⟨j, rfl, q⟩ := h
  cases r with
  | cons r1 rr =>
    cases rr
    obtain ⟨t, rfl⟩ := r1
    refine call_range_1 ⟨.ref s.heap.objs.size, upd H s.heap.objs.size (.rng 0 j), I.laid (t' := s.toks + 1 + 1) (fun b o e => Heap.get?_push_of_some _ e) (Nat.le_refl _) ?_, rfl, q _ (I.hok.fresh (Nat.le_refl _))⟩
    exact ⟨s.toks, t, s.toks + 1, Heap.get?_push_size _ rfl⟩
theorem new_rng {K : PySem.W.Frag} {H : Hp} {Z : Addr → Prop} {p : Addr} {lo hi : Int} {n : Nat} (h : H p = none) (e : n = (hi - lo).toNat) (b : -(2 ^ 62) ≤ lo ∧ lo < 2 ^ 62 ∧ -(2 ^ 62) ≤ hi ∧ hi < 2 ^ 62) : New K H Z (.ref p) (.rng lo n) (upd H p (.rng lo hi)) :=
  .inr (.inl ⟨p, _, h, rfl, rfl, Rp.rng upd_same e b⟩)
theorem ok_rangeV : PrimOk X .rangeV (fun vs H Q => (∃ j, vs = [V.int j] ∧ ∀ p, H p = none → Q (.ref p) (upd H p (.rng 0 j))) ∨ ∃ i j, vs = [V.int i, V.int j] ∧ ∀ p, H p = none → Q (.ref p) (upd H p (.rng i j))) := by
  intro vs H Z ds d Q zk rd e q
  cases ds with
  | nil => cases e
  | cons d1 ds =>
    cases ds with
    | nil =>
      obtain ⟨v, rfl, r⟩ := one_arg rd
      cases d1 with
      | int j =>
        have e' : (if -(2 ^ 62) ≤ j ∧ j < 2 ^ 62 then some (D.rng 0 j.toNat) else none) = some d := e
        split at e'
        · rename_i hz
          cases e'
          refine .inl ⟨j, by rw [rep_int r], fun p hp => q _ _ (new_rng hp (by rw [Int.sub_zero]) ⟨by omega, by omega, hz.1, hz.2⟩)⟩
        · cases e'
      | _ => cases e
    | cons d2 ds =>
      cases ds with
      | cons d3 ds => cases d1 <;> first | (cases e; done) | (cases d2 <;> cases e; done)
      | nil =>
        cases rd with
        | cons r1 rd =>
          cases rd with
          | cons r2 rd =>
            cases rd
            cases d1 with
            | int i =>
              cases d2 with
              | int j =>
                have e' : (if -(2 ^ 62) ≤ i ∧ i < 2 ^ 62 ∧ -(2 ^ 62) ≤ j ∧ j < 2 ^ 62 then some (D.rng i (j - i).toNat) else none) = some d := e
                split at e'
                · rename_i hz
                  cases e'
                  exact .inr ⟨i, j, by rw [rep_int r1, rep_int r2], fun p hp => q _ _ (new_rng hp rfl hz)⟩
                · cases e'
              | _ => cases e
            | _ => cases e
theorem ok_list : PrimOk X .list (fun xs H Q => ∃ p ys, xs = [.ref p] ∧ (SqL X.K H p ys ∨ SqT X.K H p ys) ∧ ∀ l, H l = none → Q (.ref l) (upd H l (.lst ys))) := by
  intro vs H Z ds d Q zk rd e q
  cases ds with
  | nil => cases e
  | cons d1 ds =>
    cases ds with
    | cons d2 ds => cases ds <;> cases d1 <;> first | (cases e; done) | (cases d2 <;> cases e; done)
    | nil =>
      obtain ⟨v, rfl, r⟩ := one_arg rd
      cases d1 with
      | tup xs =>
        cases e
        obtain ⟨p, ws, rfl, l1, r1⟩ := rep_tup r
        exact ⟨p, ws, rfl, .inr l1, fun l n => q _ _ (new_lst zk n r1)⟩
      | lst xs =>
        cases e
        obtain ⟨p, ws, rfl, l1, r1⟩ := RepQ.of_lst r
        exact ⟨p, ws, rfl, .inl l1, fun l n => q _ _ (new_lst zk n r1)⟩
      | fls xs =>
        cases e
        obtain ⟨p, ws, rfl, l1, r1⟩ := RepQ.of_fls r
        exact ⟨p, ws, rfl, .inl l1, fun l n => q _ _ (new_lst zk n r1)⟩
      | _ => cases e

def rSortB (K : PySem.W.Frag) : List V → Hp → VK → Prop := fun xs H Q => rSortedI K xs H Q ∨ (rSortedX K xs H Q ∨ (rSortG K xs H Q ∨ (rSortedXT K xs H Q ∨ rSortedIT K xs H Q)))
theorem sorted_use {H : Hp} {Z : Addr → Prop} {v : V} {xs : List D} {d : D} {Q : VK} (zk : ∀ a, Z a → H a ≠ none) (r : RepQ X.K H Z v xs) (e : sortedD xs = some d) (q : ∀ v H', New X.K H Z v d H' → Q v H') : rSortB X.K [v] H Q := by
  obtain ⟨p, ws, rfl, l1, r1⟩ := r
  unfold sortedD at e
  cases h : ints? xs with
  | some ns =>
    rw [h] at e
    cases e
    obtain ⟨rfl, rfl⟩ := r1.ints h
    refine .inl ⟨p, ns, rfl, l1, fun ns' p2 pm so n => q _ _ ?_⟩
    rw [← sortI_one pm so]
    exact new_lst zk n (Rps.of_ints ns')
  | none =>
    rw [h] at e
    dsimp only at e
    cases h2 : strs? xs with
    | none =>
      rw [h2] at e
      dsimp only at e
      split at e
      · rename_i hz
        rw [Bool.and_eq_true] at hz
        cases e
        exact .inr (.inr (.inl ⟨p, ws, Z, xs, rfl, l1, r1, hz.1, hz.2, fun ys p2 r2 n => q _ _ (new_lst zk n r2)⟩))
      · cases e
    | some ss =>
      rw [h2] at e
      cases e
      obtain ⟨rfl, rfl⟩ := r1.strs h2
      refine .inr (.inl ⟨p, ss.map strV, rfl, l1, fun ys p2 pm so n => q _ _ ?_⟩)
      have pm2 := pm.map fun z : Str => z.cps.toList
      rw [map_strV] at pm2
      have e1 := sortS_one pm2 so
      rw [← e1]
      have e2 : ys = (ys.map fun z : Str => z.cps.toList).map strV := (strV_map ys).symm
      have nl := new_lst (K := X.K) zk n (Rps.of_strs (ys.map fun z : Str => z.cps.toList))
      rw [← e2] at nl
      exact nl
theorem ok_sorted : PrimOk X .sorted (rSortB X.K) := by
  intro vs H Z ds d Q zk rd e q
  cases ds with
  | nil => cases e
  | cons d1 ds =>
    cases ds with
    | cons d2 ds => cases ds <;> cases d1 <;> first | (cases e; done) | (cases d2 <;> cases e; done)
    | nil =>
      obtain ⟨v, rfl, r⟩ := one_arg rd
      cases d1 with
      | lst xs =>
        exact sorted_use zk (RepQ.of_lst r) e q
      | fls xs =>
        exact sorted_use zk (RepQ.of_fls r) e q
      | tup xs =>
        have e : (match ints? xs with
          | some ns => some (D.lst ((sortI ns).map .int))
          | none => (strs? xs).map (fun ss => D.lst ((sortS ss).map .str))) = some d := e
        obtain ⟨p, ws, rfl, l1, r1⟩ := rep_tup r
        cases h : ints? xs with
        | some ns =>
          rw [h] at e
          cases e
          obtain ⟨rfl, rfl⟩ := r1.ints h
          refine .inr (.inr (.inr (.inr ⟨p, ns, rfl, l1, fun ns' p2 pm so n => q _ _ ?_⟩)))
          rw [← sortI_one pm so]
          exact new_lst zk n (Rps.of_ints ns')
        | none =>
        rw [h] at e
        dsimp only at e
        cases h2 : strs? xs with
        | none => rw [h2] at e; cases e
        | some ss =>
          rw [h2] at e
          have e : some (D.lst ((sortS ss).map D.str)) = some d := e
          cases e
          obtain ⟨rfl, rfl⟩ := r1.strs h2
          refine .inr (.inr (.inr (.inl ⟨p, ss.map strV, rfl, l1, fun ys p2 pm so n => q _ _ ?_⟩)))
          have pm2 := pm.map fun z : Str => z.cps.toList
          rw [map_strV] at pm2
          have e1 := sortS_one pm2 so
          rw [← e1]
          have e2 : ys = (ys.map fun z : Str => z.cps.toList).map strV := (strV_map ys).symm
          have nl := new_lst (K := X.K) zk n (Rps.of_strs (ys.map fun z : Str => z.cps.toList))
          rw [← e2] at nl
          exact nl
      | _ => cases e

theorem sum_use {H : Hp} {Z : Addr → Prop} {v : V} {xs : List D} {d : D} {Q : VK} (r : RepQ X.K H Z v xs) (e : ((ints? xs).map fun ns => D.int ns.sum) = some d) (q : ∀ v H', New X.K H Z v d H' → Q v H') : rSum X.K [v] H Q := by
  obtain ⟨p, ws, rfl, l1, r1⟩ := r
  cases h : ints? xs with
  | none => rw [h] at e; cases e
  | some ns =>
    rw [h] at e
    cases e
    obtain ⟨rfl, rfl⟩ := r1.ints h
    exact ⟨p, ns, rfl, l1, q _ _ (new_flat (.int _))⟩
def rSumB (K : PySem.W.Frag) : List V → Hp → VK → Prop := fun xs H Q => rSum K xs H Q ∨ rSumT K xs H Q
theorem ok_sum : PrimOk X .sum (rSumB X.K) := by
  intro vs H Z ds d Q zk rd e q
  cases ds with
  | nil => cases e
  | cons d1 ds =>
    cases ds with
    | cons d2 ds => cases ds <;> cases d1 <;> first | (cases e; done) | (cases d2 <;> cases e; done)
    | nil =>
      obtain ⟨v, rfl, r⟩ := one_arg rd
      cases d1 with
      | lst xs =>
        exact .inl (sum_use (RepQ.of_lst r) e q)
      | fls xs =>
        exact .inl (sum_use (RepQ.of_fls r) e q)
      | tup xs =>
        obtain ⟨p, ws, rfl, l1, r1⟩ := rep_tup r
        have e : ((ints? xs).map fun ns => D.int ns.sum) = some d := e
        cases h : ints? xs with
        | none => rw [h] at e; cases e
        | some ns =>
          rw [h] at e
          cases e
          obtain ⟨rfl, rfl⟩ := r1.ints h
          exact .inr ⟨p, ns, rfl, l1, q _ _ (new_flat (.int _))⟩
      | _ => cases e

theorem foldl_max (xs : List Int) : ∀ a : Int, (xs.foldl (fun a b => if a < b then b else a) a ∈ a :: xs) ∧ ∀ y ∈ a :: xs, y ≤ xs.foldl (fun a b => if a < b then b else a) a := by
  induction xs with
  | nil => intro a; simp
  | cons x xs ih =>
    intro a
    rw [List.foldl_cons]
    obtain ⟨h1, h2⟩ := ih (if a < x then x else a)
    have h3 := h2 _ List.mem_cons_self
    generalize hz : xs.foldl _ (if a < x then x else a) = z at h1 h2 h3 ⊢
    refine ⟨?_, fun y hy => ?_⟩
    · rcases List.mem_cons.mp h1 with e | h1
      · rw [e]; split <;> simp
      · exact List.mem_cons_of_mem _ (List.mem_cons_of_mem _ h1)
    · rcases List.mem_cons.mp hy with e | hy
      · subst e; split at h3 <;> omega
      · rcases List.mem_cons.mp hy with e | hy
        · subst e; split at h3 <;> omega
        · exact h2 y (List.mem_cons_of_mem _ hy)
theorem foldl_min (xs : List Int) : ∀ a : Int, (xs.foldl (fun a b => if b < a then b else a) a ∈ a :: xs) ∧ ∀ y ∈ a :: xs, xs.foldl (fun a b => if b < a then b else a) a ≤ y := by
  induction xs with
  | nil => intro a; simp
  | cons x xs ih =>
    intro a
    rw [List.foldl_cons]
    obtain ⟨h1, h2⟩ := ih (if x < a then x else a)
    have h3 := h2 _ List.mem_cons_self
    generalize hz : xs.foldl _ (if x < a then x else a) = z at h1 h2 h3 ⊢
    refine ⟨?_, fun y hy => ?_⟩
    · rcases List.mem_cons.mp h1 with e | h1
      · rw [e]; split <;> simp
      · exact List.mem_cons_of_mem _ (List.mem_cons_of_mem _ h1)
    · rcases List.mem_cons.mp hy with e | hy
      · subst e; split at h3 <;> omega
      · rcases List.mem_cons.mp hy with e | hy
        · subst e; split at h3 <;> omega
        · exact h2 y (List.mem_cons_of_mem _ hy)
theorem ok_max : PrimOk X .max (fun xs H Q => rMax X.K xs H Q ∨ ((∃ i j, xs = [.int i, .int j] ∧ Q (.int (if j > i then j else i)) H) ∨ rBest X.K maxF xs H Q)) := by
  intro vs H Z ds d Q zk rd e q
  cases ds with
  | nil => cases e
  | cons d1 ds =>
    cases ds with
    | cons d2 ds =>
      cases ds with
      | cons d3 ds => cases d1 <;> cases d2 <;> cases e
      | nil =>
        obtain ⟨v, u, rfl, r, r2⟩ := two_args rd
        cases d1 <;> cases d2 <;> try (cases e; done)
        cases e
        exact .inr (.inl ⟨_, _, by rw [rep_int r, rep_int r2], q _ _ (new_flat (.int _))⟩)
    | nil =>
      obtain ⟨v, rfl, r⟩ := one_arg rd
      cases d1 with
      | lst xs =>
        have e' : maxM xs = some d := e
        obtain ⟨p, ws, rfl, l1, r1⟩ := RepQ.of_lst r
        unfold maxM at e'
        cases h : ints? xs with
        | none =>
          rw [h] at e'
          dsimp only at e'
          cases xs with
          | nil => cases e'
          | cons x xs =>
            have e2 : (if ordAll (x :: xs) = true then some (maxF x xs) else none) = some d := e'
            by_cases hz : ordAll (x :: xs) = true
            · rw [if_pos hz] at e2
              cases e2
              exact .inr (.inr ⟨p, ws, Z, x, xs, rfl, l1, r1, hz, fun w rw' => q _ _ (new_flat rw')⟩)
            · rw [if_neg hz] at e2; cases e2
        | some ns =>
          rw [h] at e'
          obtain ⟨rfl, rfl⟩ := r1.ints h
          cases ns with
          | nil => cases e'
          | cons x ns =>
            cases e'
            refine .inl ⟨p, x :: ns, rfl, l1, by simp, fun m hm ha => ?_⟩
            obtain ⟨h1, h2⟩ := foldl_max ns x
            have e1 : m = ns.foldl (fun a b => if a < b then b else a) x := Int.le_antisymm (h2 m hm) (ha _ h1)
            rw [e1]
            exact q _ _ (new_flat (.int _))
      | _ => cases e
theorem ok_min : PrimOk X .min (fun xs H Q => rMin X.K xs H Q ∨ ((∃ i j, xs = [.int i, .int j] ∧ Q (.int (if j < i then j else i)) H) ∨ rBest X.K minF xs H Q)) := by
  intro vs H Z ds d Q zk rd e q
  cases ds with
  | nil => cases e
  | cons d1 ds =>
    cases ds with
    | cons d2 ds =>
      cases ds with
      | cons d3 ds => cases d1 <;> cases d2 <;> cases e
      | nil =>
        obtain ⟨v, u, rfl, r, r2⟩ := two_args rd
        cases d1 <;> cases d2 <;> try (cases e; done)
        cases e
        exact .inr (.inl ⟨_, _, by rw [rep_int r, rep_int r2], q _ _ (new_flat (.int _))⟩)
    | nil =>
      obtain ⟨v, rfl, r⟩ := one_arg rd
      cases d1 with
      | lst xs =>
        have e' : minM xs = some d := e
        obtain ⟨p, ws, rfl, l1, r1⟩ := RepQ.of_lst r
        unfold minM at e'
        cases h : ints? xs with
        | none =>
          rw [h] at e'
          dsimp only at e'
          cases xs with
          | nil => cases e'
          | cons x xs =>
            have e2 : (if ordAll (x :: xs) = true then some (minF x xs) else none) = some d := e'
            by_cases hz : ordAll (x :: xs) = true
            · rw [if_pos hz] at e2
              cases e2
              exact .inr (.inr ⟨p, ws, Z, x, xs, rfl, l1, r1, hz, fun w rw' => q _ _ (new_flat rw')⟩)
            · rw [if_neg hz] at e2; cases e2
        | some ns =>
          rw [h] at e'
          obtain ⟨rfl, rfl⟩ := r1.ints h
          cases ns with
          | nil => cases e'
          | cons x ns =>
            cases e'
            refine .inl ⟨p, x :: ns, rfl, l1, by simp, fun m hm ha => ?_⟩
            obtain ⟨h1, h2⟩ := foldl_min ns x
            have e1 : m = ns.foldl (fun a b => if b < a then b else a) x := Int.le_antisymm (ha _ h1) (h2 m hm)
            rw [e1]
            exact q _ _ (new_flat (.int _))
      | _ => cases e
theorem ok_abs : PrimOk X .abs (fun xs H Q => ∃ i, xs = [.int i] ∧ Q (.int (if i < 0 then -i else i)) H) := by
  intro vs H Z ds d Q zk rd e q
  cases ds with
  | nil => cases e
  | cons d1 ds =>
    cases ds with
    | cons d2 ds => cases ds <;> cases d1 <;> first | (cases e; done) | (cases d2 <;> cases e; done)
    | nil =>
      obtain ⟨v, rfl, r⟩ := one_arg rd
      cases d1 with
      | int i =>
        cases e
        exact ⟨i, by rw [rep_int r], q _ _ (new_flat (.int _))⟩
      | _ => cases e
theorem ok_int : PrimOk X .int (fun xs H Q => (∃ i, xs = [.int i] ∧ Q (.int i) H) ∨ ∃ k, xs = [.bl k] ∧ Q (.int (if k then 1 else 0)) H) := by
  intro vs H Z ds d Q zk rd e q
  cases ds with
  | nil => cases e
  | cons d1 ds =>
    cases ds with
    | cons d2 ds => cases ds <;> cases d1 <;> first | (cases e; done) | (cases d2 <;> cases e; done)
    | nil =>
      obtain ⟨v, rfl, r⟩ := one_arg rd
      cases d1 with
      | int i =>
        cases e
        exact .inl ⟨i, by rw [rep_int r], q _ _ (new_flat (.int _))⟩
      | bl i =>
        cases e
        exact .inr ⟨i, by rw [rep_bl r], q _ _ (new_flat (.int _))⟩
      | _ => cases e
theorem ok_any : PrimOk X .any (rAny X.K) := by
  intro vs H Z ds d Q zk rd e q
  cases ds with
  | nil => cases e
  | cons d1 ds =>
    cases ds with
    | cons d2 ds => cases ds <;> cases d1 <;> first | (cases e; done) | (cases d2 <;> cases e; done)
    | nil =>
      obtain ⟨v, rfl, r⟩ := one_arg rd
      cases d1 with
      | lst xs =>
        have e' : ((bls? xs).map fun bs => D.bl (bs.any id)) = some d := e
        obtain ⟨p, ws, rfl, l1, r1⟩ := RepQ.of_lst r
        cases h : bls? xs with
        | none => rw [h] at e'; cases e'
        | some ns =>
          rw [h] at e'
          cases e'
          obtain ⟨rfl, rfl⟩ := r1.bls h
          exact ⟨p, ns, rfl, l1, q _ _ (new_flat (.bl _))⟩
      | _ => cases e
theorem ok_all : PrimOk X .all (rAll X.K) := by
  intro vs H Z ds d Q zk rd e q
  cases ds with
  | nil => cases e
  | cons d1 ds =>
    cases ds with
    | cons d2 ds => cases ds <;> cases d1 <;> first | (cases e; done) | (cases d2 <;> cases e; done)
    | nil =>
      obtain ⟨v, rfl, r⟩ := one_arg rd
      cases d1 with
      | lst xs =>
        have e' : ((bls? xs).map fun bs => D.bl (bs.all id)) = some d := e
        obtain ⟨p, ws, rfl, l1, r1⟩ := RepQ.of_lst r
        cases h : bls? xs with
        | none => rw [h] at e'; cases e'
        | some ns =>
          rw [h] at e'
          cases e'
          obtain ⟨rfl, rfl⟩ := r1.bls h
          exact ⟨p, ns, rfl, l1, q _ _ (new_flat (.bl _))⟩
      | _ => cases e

end
end Mi

/-! instances: made and asked where an exception may leave -/
namespace Mi
open PySem PySem.Spec PyProof.Rows L2
section
variable {X : Cx} {CX : CXT} {k : Nat} {f C : Addr} {fd : FuncData} {ps : List Str} {sp : Sp} {E : L2.St → XK} {x m : Str} {p pos apos : Pos} {e o : Expr} {es : List Expr} {ta : TE} {t : TA}
/-- C(e, ..): what the class's own __init__ raises is wished for at the slots as they stand -/
def tMakeS (C : Addr) (sp : Sp) (E : L2.St → XK) (t : TA) : TE := fun σ H Q => t σ H fun vs H1 => ∀ x dx, H1 x = none → H1 dx = none → dx ≠ x →
  sp (.ref x :: vs) (upd (upd H1 dx (.own x)) x (.ins C dx [])) (fun v H2 => v = .non ∧ Q (.ref x) H2) (E σ)
theorem run_makeS {pins : List (Addr × Obj)} {σ : L2.St} {H : Hp} {s : Shared} {Q : VK} {us : List Value} {vs : List V} (M : Mk X.K C f) (F : FnOk X.prog X.w X.K X.mg X.base CX k f fd ps sp) (hr : Room (k + 1) X.A) (hb : Binds X.K fd ps [])
    (hx : PassesAt CX X σ (E σ)) (I : Inv X pins σ H s) (r : Vals vs us)
    (h : ∀ x dx, H x = none → H dx = none → dx ≠ x → sp (.ref x :: vs) (upd (upd H dx (.own x)) x (.ins C dx [])) (fun v H2 => v = .non ∧ Q (.ref x) H2) (E σ)) :
    wpAny (model X.prog X.w) X.A (call (.ref C) us) (EP X pins σ Q) X.xe s := by
  have hq := h (s.heap.objs.size + 1) s.heap.objs.size (I.hok.fresh (Nat.le_succ _)) (I.hok.fresh (Nat.le_refl _)) (Nat.ne_of_lt (Nat.lt_succ_self _))
  have I2 := Inv.made (C := C) I
  have r2 : Vals (V.ref (s.heap.objs.size + 1) :: vs) (Value.ref (s.heap.objs.size + 1) :: us) := .cons rfl r
  have hl : (Value.ref (s.heap.objs.size + 1) :: us).length = ps.length := by
    have e := r2.length
    rw [F.len _ _ _ _ hq] at e
    exact e.symm
  have b := hb _ (Value.ref (s.heap.objs.size + 1) :: us) I2.kIn (by rw [List.append_nil]; exact hl)
  rw [List.append_nil] at b
  refine wpAny_call (make_map (f := f) I.kIn M.makes M.init (beq_iff_eq.mp M.fn) (codeAny_mono (F.run _ X.stack _ _ ⟨Value.ref (s.heap.objs.size + 1) :: us, []⟩ (Value.ref (s.heap.objs.size + 1) :: us) _ _ (E σ) (hr.make C us [])
    (I2.env0.make C us []) b r2 hq) fun r s' hq' => ?_))
  cases r with
  | error e => exact hx pins _ _ e s' I2 hq'
  | ok fl =>
    cases fl with
    | ret u =>
      obtain ⟨v, H', I3, rv, ev, q3⟩ := I2.after hq'
      subst ev
      exact ⟨rv, ⟨V.ref (s.heap.objs.size + 1), H', I3, rfl, q3⟩⟩
    | next => exact False.elim hq'
    | brk => exact False.elim hq'
    | cont => exact False.elim hq'
theorem pe_makeS (M : Mk X.K C f) (F : FnOk X.prog X.w X.K X.mg X.base CX k f fd ps sp) (hr : Room (k + 1) X.A) (hg : Gl X x) (hm : X.mg x = some (.ref C)) (hb : Binds X.K fd ps []) (hx : ∀ σ, PassesAt CX X σ (E σ))
    (ha : PA X (e :: es) t) (hdb : (x == ("__debug__" : Str)) = false) (he : starEach (e :: es) X.env = (false, eval e X.env) :: starEach es X.env) (hpl : (backTo pos (starEach es X.env)).any (·.1) = false) :
    PE X (.Call (.Name x p) (e :: es) [] pos) (tMakeS C sp E t) := by
  refine ⟨fun pins s σ H Q I h => ?_⟩
  refine wpAny_Call_Name_kw (ld_glob I hg hm ?_ hdb)
  refine PySem.W.callWith_K (h₀ := X.base) I.ok.mod.kin M.kp (thn (ha.run pos pins s σ H _ I h) fun us s1 ⟨vs, H1, I1, r, q⟩ => ⟨I1.kIn, ?_⟩) he hpl
  exact run_makeS M F hr hb (hx σ) I1 r q
theorem pe_makeS0 (M : Mk X.K C f) (F : FnOk X.prog X.w X.K X.mg X.base CX k f fd ps sp) (hr : Room (k + 1) X.A) (hg : Gl X x) (hm : X.mg x = some (.ref C)) (hb : Binds X.K fd ps []) (hx : ∀ σ, PassesAt CX X σ (E σ))
    (hdb : (x == ("__debug__" : Str)) = false) : PE X (.Call (.Name x p) [] [] pos) (tMakeS C sp E tNil) := by
  refine ⟨fun pins s σ H Q I h => ?_⟩
  refine wpAny_Call_Name_kw (ld_glob I hg hm ?_ hdb)
  exact PySem.W.callWith_K0 I.kIn M.kp (run_makeS (us := []) M F hr hb (hx σ) I .nil h)
/-- o.m(e, ..): what it raises is wished for at the slots as they stand -/
def tMethS (C : Addr) (m : Str) (sp : Sp) (E : L2.St → XK) (ta : TE) (t : TA) : TE := fun σ H Q => ta σ H fun x H1 => ∃ a dx fs, x = .ref a ∧ H1 a = some (.ins C dx fs) ∧ fs.lookup m = none ∧ t σ H1 fun vs H2 => sp (x :: vs) H2 Q (E σ)
theorem meth_ht {args : List Expr} {env : PySem.Env} (hb : attributeBase o m env (eval o env) = eval o env) (few : methodCallForm args.length (backTo pos (starEach args env)) (backToKw pos (keywordEach [] env)) = true) (hl : (apos.endLine == pos.line) = true) :
    eval (.Call (.Attribute o m apos) args [] pos) env = (do
      let ov ← eval o env
      standAt apos.atName
      let (f, first) ← holding [ov] (getMethod ov m (do return (← importBound o env).getD true))
      callWith pos f first (backTo pos (starEach args env)) (backToKw pos (keywordEach [] env))) := by
  rw [arm_eval_Call, hb]
  have e : ∀ ov, methodCall o m apos pos env ov (args.length + ([] : List Keyword).length) (backTo pos (starEach args env)) (backToKw pos (keywordEach [] env)) = (do
      let (f, first) ← holding [ov] (getMethod ov m (do return (← importBound o env).getD true))
      callWith pos f first (backTo pos (starEach args env)) (backToKw pos (keywordEach [] env))) := fun ov => by
    unfold methodCall calleeOf methodCallPos
    rw [show args.length + ([] : List Keyword).length = args.length from rfl, few, hl]
    simp
  refine congrArg (fun t => eval o env >>= t) (funext fun ov => ?_)
  exact congrArg (fun t => standAt apos.atName >>= t) (funext fun _ => e ov)
theorem pe_methS (he : PE X o ta) (c : Cls X.K C) (hm : L2.Meth X.K C m f) (F : FnOk X.prog X.w X.K X.mg X.base CX k f fd ps sp) (hr : Room k X.A) (hb : Binds X.K fd ps []) (hx : ∀ σ, PassesAt CX X σ (E σ)) (ha : PA X (e :: es) t)
    (hbase : attributeBase o m X.env (eval o X.env) = eval o X.env) (few : methodCallForm (e :: es).length (backTo pos (starEach (e :: es) X.env)) (backToKw pos (keywordEach [] X.env)) = true) (hl : (apos.endLine == pos.line) = true)
    (hst : starEach (e :: es) X.env = (false, eval e X.env) :: starEach es X.env) (hpl : (backTo pos (starEach es X.env)).any (·.1) = false) :
    PE X (.Call (.Attribute o m apos) (e :: es) [] pos) (tMethS C m sp E ta t) := by
  refine ⟨fun pins s σ H Q I h => ?_⟩
  refine PySem.W.methodCall_KW (thn (he.run pins s σ H _ I h) fun u s1 ⟨x, H1, I1, rx, a, dx, fs, ex, ea, l, q⟩ => ?_) (meth_ht hbase few hl)
  subst ex
  obtain rfl : u = Value.ref a := rx
  refine getmeth_ok I1 ea c hm l ?_
  refine PySem.W.callWith_K (first := [.ref a]) (h₀ := X.base) I.ok.mod.kin hm.kp (thn (ha.run pos pins s1 σ H1 _ I1 q) fun us s2 ⟨vs, H2, I2, r, q2⟩ => ⟨I2.kIn, ?_⟩) hst hpl
  exact run_fnS (us := .ref a :: us) (vs := .ref a :: vs) F hr hb (hx σ) I2 (.cons rfl r) q2
theorem pe_methS0 (he : PE X o ta) (c : Cls X.K C) (hm : L2.Meth X.K C m f) (F : FnOk X.prog X.w X.K X.mg X.base CX k f fd ps sp) (hr : Room k X.A) (hb : Binds X.K fd ps []) (hx : ∀ σ, PassesAt CX X σ (E σ))
    (hbase : attributeBase o m X.env (eval o X.env) = eval o X.env) (hl : (apos.endLine == pos.line) = true) :
    PE X (.Call (.Attribute o m apos) [] [] pos) (tMethS C m sp E ta tNil) := by
  refine ⟨fun pins s σ H Q I h => ?_⟩
  refine PySem.W.methodCall_KW (thn (he.run pins s σ H _ I h) fun u s1 ⟨x, H1, I1, rx, a, dx, fs, ex, ea, l, q⟩ => ?_) (meth_ht hbase rfl hl)
  subst ex
  obtain rfl : u = Value.ref a := rx
  refine getmeth_ok I1 ea c hm l ?_
  exact PySem.W.callWith_K0 (first := [.ref a]) I1.kIn hm.kp (run_fnS (us := [.ref a]) (vs := [.ref a]) F hr hb (hx σ) I1 (.cons rfl .nil) q)
/-- a callee that lets nothing out, below a built-in function -/
theorem run_in1 {pins : List (Addr × Obj)} {σ : L2.St} {H : Hp} {s : Shared} {Q : VK} {a : Addr} {E0' : XK} (F : FnOk X.prog X.w X.K X.mg X.base CX k f fd ps sp) (hr : Room (k + 1) X.A) (hb : Binds X.K fd ps []) (hx : Passes CX X E0')
    (I : Inv X pins σ H s) (h : sp [.ref a] H Q E0') : wpAny (model X.prog X.w) X.A.in1 (call (.ref f) [.ref a]) (EP X pins σ Q) X.xe s := by
  have r2 : Vals [V.ref a] [Value.ref a] := .cons rfl .nil
  have hl : [Value.ref a].length = ps.length := by rw [← r2.length]; exact F.len _ _ _ _ h
  have b := hb s [.ref a] I.kIn (by rw [List.append_nil]; exact hl)
  rw [List.append_nil] at b
  refine wpAny_call (codeAny_mono (F.run X.A.in1 X.stack s H ⟨[.ref a], []⟩ [.ref a] [.ref a] Q E0' hr.in1 I.env0.in1 b r2 h) fun r s' hq => ?_)
  cases r with
  | error e => exact hx pins σ H s e s' I hq
  | ok fl =>
    cases fl with
    | ret u => exact I.after hq
    | next => exact False.elim hq
    | brk => exact False.elim hq
    | cont => exact False.elim hq
/-- len(o), o's class has a __len__ of its own -/
theorem call_lenO {E0' : XK} (hs : PySem.W.findIn X.K (.ref C) "__len__" = some (some (.ref f))) (hf : PySem.W.isFn X.K (.ref f) = true) (F : FnOk X.prog X.w X.K X.mg X.base CX k f fd ps sp) (hr : Room (k + 1) X.A) (hb : Binds X.K fd ps []) (hx : Passes CX X E0') :
    CallR X (.builtin "len") (fun xs H Q => ∃ a dx fs, xs = [.ref a] ∧ H a = some (.ins C dx fs) ∧ sp [.ref a] H (fun v H' => ∃ n : Nat, v = .int n ∧ n < 2 ^ 62 ∧ Q (.int n) H') E0') := by
  intro pins s σ H xs us Q I r h
  obtain ⟨a, dx, fs, rfl, hi, q⟩ := h
  obtain ⟨u, rfl, ru⟩ := vals1 r
  cases (show u = Value.ref a from ru)
  obtain ⟨mA, O, _⟩ := ins_get I.hok hi
  obtain ⟨od, J, _⟩ := O.look
  refine Calls.call_function_entry kind_len plain_len entry_len (args_len1 _) ?_
  unfold Builtin.«len»
  refine wpAny_bind (m := oneArg "len" _) (wpAny_pure ?_)
  refine wpAny_bind (m := callSpecial? (.ref a) (PySem.Str.ofString "__len__")) (PySem.W.special_fn I.kIn J hs (beq_iff_eq.mp hf) (wpAny_mono (run_in1 F hr hb hx I q) (fun w s' z => ?_) fun _ _ y => y))
  obtain ⟨z', H', I', rz, n, ei, hn, qz⟩ := z
  subst ei
  obtain ⟨t, e⟩ := (show ∃ t, w = Value.int n t from rz)
  cases e
  refine wpAny_bind (wpAny_holding (wpAny_pure ?_))
  refine wpAny_bind (wpAny_letGo ?_)
  show wpAny _ _ (if ((n : Nat) : Int) < 0 then _ else _) _ _ _
  rw [if_neg (by omega)]
  show wpAny _ _ (if ((n : Nat) : Int) ≥ 2 ^ 63 then _ else _) _ _ _
  rw [if_neg (by omega)]
  exact wpAny_bind (wpAny_mkInt (wpAny_pure ⟨_, rfl, .int n, H', I'.tok _, ⟨_, rfl⟩, qz⟩))
end
end Mi

/-! calls of the text's own defs -/
namespace Mi
open PySem PySem.Spec PyProof.Rows L2
/-- what a def promises: its meaning at data -/
def spD (K : PySem.W.Frag) (ex : Nat → Addr) (n : Nat) (F : Fn) : Sp := fun vs H Q E => vs.length = n ∧ ∃ Z ds, Sat K H Z (vs.map some) (ds.map some) ∧ match F ds with
  | .ok d ds' => ∀ v H' Z', Step K (vs.map some) H Z (ds.map some) (vs.map some) H' Z' (ds'.map some) → Free K H H' Z' (vs.map some) (ds'.map some) v d → Q v H'
  | .exc c ds' => ∀ H' Z', Step K (vs.map some) H Z (ds.map some) (vs.map some) H' Z' (ds'.map some) → E (.ref (ex c)) none H'
  | .stk => False
section
variable {K : PySem.W.Frag} {H H' H0 H1 : Hp} {Z Z' Z1 : Addr → Prop} {σ : L2.St} {ρ ρb ρ1 : Mi.Env}
theorem map_some_get {α : Type} {xs : List α} {i : Nat} {x : α} : (xs.map some)[i]? = some (some x) ↔ xs[i]? = some x := by
  rw [List.getElem?_map]
  cases xs[i]? <;> simp
theorem wb_len : ∀ (es : Es) (ds ds' : List D) (ρ : Mi.Env), (wb es ds ds' ρ).length = ρ.length
  | .nil, _, _, _ => rfl
  | .cons e es, [], _, _ => by cases e <;> rfl
  | .cons e es, _ :: _, [], _ => by cases e <;> rfl
  | .cons e es, d :: ds, d' :: ds', ρ => by
    cases e with
    | var i =>
      show (wb es ds ds' (if d.flat then ρ else ρ.set i (some d'))).length = ρ.length
      rw [wb_len es ds ds']
      split <;> simp
    | _ => exact wb_len es ds ds' ρ
theorem wb_get : ∀ {es : Es} {vs : List V} {ds ds' : List D}, LRes K H0 H1 Z1 σ ρb es vs ds → ds'.length = ds.length → ∀ (ρ : Mi.Env) (i : Nat) (d' : D), (wb es ds ds' ρ)[i]? = some (some d') →
    (ρ[i]? = some (some d') ∧ i ∉ refs es ds) ∨ ∃ (k : Nat) (v : V) (d : D), vs[k]? = some v ∧ ds[k]? = some d ∧ ds'[k]? = some d' ∧ d.flat = false ∧ σ[i]? = some (some v) ∧ ρb[i]? = some (some d)
  | _, _, _, ds', .nil, hl, ρ, i, d', h => by
    refine .inl ⟨?_, by simp [refs]⟩
    unfold wb at h
    exact h
  | _, _, _, [], .var (d := d) a b r, hl, ρ, i, d', h => by simp at hl
  | _, _, _, [], .val (d := d) a f b r, hl, ρ, i, d', h => by simp at hl
  | .cons (.var i0) es, _, d :: ds, d0 :: ds', .var (v := v) a b r, hl, ρ, i, d', h => by
    have h' : (wb es ds ds' (if d.flat then ρ else ρ.set i0 (some d0)))[i]? = some (some d') := h
    by_cases f : d.flat = true
    · rw [if_pos f] at h'
      rcases wb_get r (by simpa using hl) ρ i d' h' with ⟨q, n⟩ | ⟨k, w, x, q1, q2, q3, q4⟩
      · refine .inl ⟨q, ?_⟩
        unfold refs
        rw [if_pos f]
        exact n
      · exact .inr ⟨k + 1, w, x, q1, q2, q3, q4⟩
    · rw [if_neg f] at h'
      have ff : d.flat = false := by simpa using f
      rcases wb_get r (by simpa using hl) (ρ.set i0 (some d0)) i d' h' with ⟨q, n⟩ | ⟨k, w, x, q1, q2, q3, q4⟩
      · rw [List.getElem?_set] at q
        by_cases e : i0 = i
        · subst e
          rw [if_pos rfl] at q
          split at q
          · cases q
            exact .inr ⟨0, v, d, rfl, rfl, rfl, ff, a, b⟩
          · cases q
        · rw [if_neg e] at q
          refine .inl ⟨q, ?_⟩
          unfold refs
          rw [if_neg f]
          simp only [List.mem_cons, not_or]
          exact ⟨fun z => e z.symm, n⟩
      · exact .inr ⟨k + 1, w, x, q1, q2, q3, q4⟩
  | .cons e es, _, d :: ds, d0 :: ds', .val hv fr ap r, hl, ρ, i, d', h => by
    have hw : wb (.cons e es) (d :: ds) (d0 :: ds') ρ = wb es ds ds' ρ := by cases e <;> first | rfl | cases hv
    have hr : refs (.cons e es) (d :: ds) = refs es ds := by cases e <;> first | rfl | cases hv
    rw [hw] at h
    rcases wb_get r (by simpa using hl) ρ i d' h with ⟨q, n⟩ | ⟨k, w, x, q1, q2, q3, q4⟩
    · exact .inl ⟨q, by rw [hr]; exact n⟩
    · exact .inr ⟨k + 1, w, x, q1, q2, q3, q4⟩
/-- where a container among the operands comes from -/
theorem LRes.who {a : Addr} : ∀ {es : Es} {vs : List V} {ds : List D}, LRes K H0 H1 Z1 σ ρ es vs ds → ∀ (k : Nat) (d : D), vs[k]? = some (.ref a) → ds[k]? = some d → d.flat = false →
    (∃ i ∈ refs es ds, ρ[i]? = some (some d) ∧ σ[i]? = some (some (.ref a))) ∨ (H0 a = none ∧ ¬ Owns σ ρ a)
  | _, _, _, .nil, k, d, h, _, _ => by simp at h
  | .cons (.var i0) es, _, d0 :: ds, .var p q r, 0, d, h1, h2, f => by
    simp at h1 h2
    subst h1 h2
    refine .inl ⟨i0, ?_, q, p⟩
    unfold refs
    rw [f]
    simp
  | .cons e es, _, _, .val hv fr ap r, 0, d, h1, h2, f => by
    simp at h1 h2
    subst h1 h2
    obtain ⟨b, e1, no, n⟩ := fr.2 f
    cases e1
    exact .inr ⟨n, no⟩
  | .cons (.var i0) es, _, d0 :: ds, .var p q r, k + 1, d, h1, h2, f => by
    rcases r.who k d (by simpa using h1) (by simpa using h2) f with ⟨i, hi, z⟩ | z
    · refine .inl ⟨i, ?_, z⟩
      unfold refs
      split
      · exact hi
      · exact List.mem_cons_of_mem _ hi
    · exact .inr z
  | .cons e es, _, d0 :: ds, .val hv fr ap r, k + 1, d, h1, h2, f => by
    have hr : refs (.cons e es) (d0 :: ds) = refs es ds := by cases e <;> first | rfl | cases hv
    rcases r.who k d (by simpa using h1) (by simpa using h2) f with ⟨i, hi, z⟩ | z
    · exact .inl ⟨i, by rw [hr]; exact hi, z⟩
    · exact .inr z
theorem refs_owns {i : Nat} : ∀ {es : Es} {vs : List V} {ds : List D}, LRes K H0 H1 Z1 σ ρ es vs ds → i ∈ refs es ds → ∃ d, ρ[i]? = some (some d) ∧ d.flat = false
  | _, _, _, .nil, h => by simp [refs] at h
  | .cons (.var i0) es, _, d0 :: ds, .var p q r, h => by
    unfold refs at h
    split at h
    · exact refs_owns r h
    · rename_i f
      rcases List.mem_cons.mp h with e | h
      · subst e; exact ⟨_, q, by simpa using f⟩
      · exact refs_owns r h
  | .cons e es, _, d0 :: ds, .val hv fr ap r, h => by
    have hr : refs (.cons e es) (d0 :: ds) = refs es ds := by cases e <;> first | rfl | cases hv
    rw [hr] at h
    exact refs_owns r h
theorem LRes.apartAll (s : Sat K H1 Z1 σ ρ) : ∀ {es : Es} {vs : List V} {ds : List D}, LRes K H0 H1 Z1 σ ρ es vs ds → (refs es ds).Nodup →
    ∀ (j k : Nat) (x y : D) (a : Addr), ds[j]? = some x → ds[k]? = some y → x.flat = false → y.flat = false → vs[j]? = some (.ref a) → vs[k]? = some (.ref a) → j = k
  | _, _, _, .nil, nd, j, k, x, y, a, h, _, _, _, _, _ => by simp at h
  | .cons e es, v0 :: vs, d0 :: ds, r0, nd, 0, 0, x, y, a, h1, h2, f1, f2, g1, g2 => rfl
  | .cons e es, v0 :: vs, d0 :: ds, r0, nd, j + 1, k + 1, x, y, a, h1, h2, f1, f2, g1, g2 => by
    have : j = k := by
      cases r0 with
      | var p q r =>
        refine r.apartAll s ?_ j k x y a (by simpa using h1) (by simpa using h2) f1 f2 (by simpa using g1) (by simpa using g2)
        unfold refs at nd
        split at nd
        · exact nd
        · exact (List.nodup_cons.mp nd).2
      | val hv fr ap r =>
        have hr : refs (.cons e es) (d0 :: ds) = refs es ds := by cases e <;> first | rfl | cases hv
        rw [hr] at nd
        exact r.apartAll s nd j k x y a (by simpa using h1) (by simpa using h2) f1 f2 (by simpa using g1) (by simpa using g2)
    rw [this]
  | .cons e es, v0 :: vs, d0 :: ds, r0, nd, 0, k + 1, x, y, a, h1, h2, f1, f2, g1, g2 => by
    exfalso
    simp at h1 g1
    subst h1 g1
    cases r0 with
    | var p q r =>
      unfold refs at nd
      rw [f1] at nd
      have nd2 := List.nodup_cons.mp nd
      rcases r.who k y (by simpa using g2) (by simpa using h2) f2 with ⟨i, hi, z1, z2⟩ | ⟨_, no⟩
      · have e := s.sep _ _ _ _ a q z1 f1 f2 p z2
        subst e
        exact nd2.1 hi
      · exact no ⟨_, _, q, f1, p⟩
    | val hv fr ap r => exact ap f1 k _ y (by simpa using g2) (by simpa using h2) f2 rfl
  | .cons e es, v0 :: vs, d0 :: ds, r0, nd, j + 1, 0, x, y, a, h1, h2, f1, f2, g1, g2 => by
    exfalso
    simp at h2 g2
    subst h2 g2
    cases r0 with
    | var p q r =>
      unfold refs at nd
      rw [f2] at nd
      have nd2 := List.nodup_cons.mp nd
      rcases r.who j x (by simpa using g1) (by simpa using h1) f1 with ⟨i, hi, z1, z2⟩ | ⟨_, no⟩
      · have e := s.sep _ _ _ _ a q z1 f2 f1 p z2
        subst e
        exact nd2.1 hi
      · exact no ⟨_, _, q, f2, p⟩
    | val hv fr ap r => exact ap f2 j _ x (by simpa using g1) (by simpa using h1) f1 rfl
theorem Rds.get : ∀ {vs : List V} {ds : List D} {i : Nat} {d : D}, Rds K H Z vs ds → ds[i]? = some d → ∃ v, vs[i]? = some v ∧ RepD K H Z v d
  | _, _, _, _, .nil, e => by simp at e
  | _, _, 0, _, .cons h _, e => by simp at e; subst e; exact ⟨_, rfl, h⟩
  | _, _, i + 1, _, .cons _ r, e => by
    obtain ⟨d, e1, h⟩ := Rds.get (i := i) r (by simpa using e)
    exact ⟨d, by simpa using e1, h⟩
/-- the operands as a callee's parameters -/
theorem LRes.params {es : Es} {vs : List V} {ds : List D} (s : Sat K H1 Z1 σ ρ1) (lr : LRes K H0 H1 Z1 σ ρ1 es vs ds) (nd : (refs es ds).Nodup) : Sat K H1 Z1 (vs.map some) (ds.map some) := by
  have rd := lr.rds s
  refine ⟨by rw [List.length_map, List.length_map, rd.length], fun i d e => ?_, fun i j d e a h1 h2 f1 f2 g1 g2 => ?_, s.zok, s.tabs⟩
  · obtain ⟨v, e2, r⟩ := rd.get (map_some_get.mp e)
    exact ⟨v, map_some_get.mpr e2, r⟩
  · exact lr.apartAll s nd i j d e a (map_some_get.mp h1) (map_some_get.mp h2) f1 f2 (map_some_get.mp g1) (map_some_get.mp g2)
/-- behind the call -/
theorem call_step {es : Es} {vs : List V} {ds ds' : List D} (st : Step K σ H Z ρ σ H1 Z1 ρ1) (lr : LRes K H H1 Z1 σ ρ1 es vs ds) (nd : (refs es ds).Nodup)
    (cs : Step K (vs.map some) H1 Z1 (ds.map some) (vs.map some) H' Z' (ds'.map some)) : Step K σ H Z ρ σ H' Z' (wb es ds ds' ρ1) ∧ ∀ a, Owns σ (wb es ds ds' ρ1) a → Owns σ ρ1 a := by
  have ps := lr.params st.sat nd
  have hl : ds'.length = ds.length := by
    have h1 := cs.sat.len
    have h2 := ps.len
    simp only [List.length_map] at h1 h2
    omega
  have P : ∀ a, Owns (vs.map some) (ds.map some) a → Owns σ ρ1 a ∨ (H a = none ∧ ¬ Owns σ ρ1 a) := fun a ⟨k, d, e1, f, e2⟩ => by
    rcases lr.who k d (map_some_get.mp e2) (map_some_get.mp e1) f with ⟨i, _, z1, z2⟩ | z
    · exact .inl ⟨i, d, z1, f, z2⟩
    · exact .inr z
  have back : ∀ (i : Nat) (d' : D), (wb es ds ds' ρ1)[i]? = some (some d') → d'.flat = false → ∃ d, ρ1[i]? = some (some d) ∧ d.flat = false := fun i d' h f => by
    rcases wb_get lr hl ρ1 i d' h with ⟨q, _⟩ | ⟨k, v, d, _, _, _, f2, _, q⟩
    · exact ⟨d', q, f⟩
    · exact ⟨d, q, f2⟩
  have ow : ∀ a, Owns σ (wb es ds ds' ρ1) a → Owns σ ρ1 a := fun a ⟨i, d', e1, f, e2⟩ => by
    obtain ⟨d, q, f2⟩ := back i d' e1 f
    exact ⟨i, d, q, f2, e2⟩
  refine ⟨⟨⟨by rw [wb_len]; exact st.sat.len, fun i d' h => ?_, fun i j d e a h1 h2 f1 f2 g1 g2 => ?_, cs.sat.zok, cs.sat.tabs⟩, st.stay.comp cs.stay (fun _ z => z) (fun a o h w p => ?_), fun a z => cs.z1 a (st.z1 a z), fun a z => ?_, fun a w => st.own a (ow a w), fun a o h => ?_⟩, ow⟩
  · rcases wb_get lr hl ρ1 i d' h with ⟨q, no⟩ | ⟨k, v, d, e1, e2, e3, f2, e4, q⟩
    · obtain ⟨v, ev, r⟩ := st.sat.rep i d' q
      refine ⟨v, ev, ?_⟩
      by_cases f : d'.flat = true
      · exact .of ((r.rp f).stay ps.loose cs.stay cs.z1)
      · cases d' with
        | lst xs =>
          obtain ⟨a, ws, rfl, nz, ha, rs⟩ := r
          have nP : ¬ Owns (vs.map some) (ds.map some) a := fun ⟨k, d, e1, f3, e2⟩ => by
            rcases lr.who k d (map_some_get.mp e2) (map_some_get.mp e1) f3 with ⟨j, hj, z1, z2⟩ | ⟨_, z⟩
            · have e := st.sat.sep _ _ _ _ a q z1 rfl f3 ev z2
              subst e
              exact no hj
            · exact z ⟨i, _, q, rfl, ev⟩
          refine ⟨a, ws, rfl, fun z => ?_, cs.stay.on a _ ha (fun _ z => nomatch z) nP, rs.stay ps.loose cs.stay cs.z1⟩
          rcases cs.z2 a z with z | z | z
          · exact nz z
          · rw [ha] at z; cases z
          · exact nP z
        | dct xs =>
          obtain ⟨a, ws, rfl, nz, ha, rs⟩ := r
          have nP : ¬ Owns (vs.map some) (ds.map some) a := fun ⟨k, d, e1, f3, e2⟩ => by
            rcases lr.who k d (map_some_get.mp e2) (map_some_get.mp e1) f3 with ⟨j, hj, z1, z2⟩ | ⟨_, z⟩
            · have e := st.sat.sep _ _ _ _ a q z1 rfl f3 ev z2
              subst e
              exact no hj
            · exact z ⟨i, _, q, rfl, ev⟩
          refine ⟨a, ws, rfl, fun z => ?_, cs.stay.on a _ ha (fun _ z => nomatch z) nP, rs.stay ps.loose cs.stay cs.z1⟩
          rcases cs.z2 a z with z | z | z
          · exact nz z
          · rw [ha] at z; cases z
          · exact nP z
        | _ => exact absurd rfl f
    · obtain ⟨w, ew, r⟩ := cs.sat.rep k d' (map_some_get.mpr e3)
      have ew' := map_some_get.mp ew
      rw [e1] at ew'; cases ew'
      exact ⟨v, e4, r⟩
  · obtain ⟨d1, q1, f3⟩ := back i d h1 f1
    obtain ⟨d2, q2, f4⟩ := back j e h2 f2
    exact st.sat.sep i j d1 d2 a q1 q2 f3 f4 g1 g2
  · rcases P a p with z | ⟨z, _⟩
    · rcases st.own a z with z | z
      · exact w z
      · rw [h] at z; cases z
    · rw [h] at z; cases z
  · rcases cs.z2 a z with z | z | z
    · exact st.z2 a z
    · refine .inr (.inl ?_)
      cases q : H a with
      | none => rfl
      | some o => obtain ⟨o', q'⟩ := st.trk a o q; rw [z] at q'; cases q'
    · rcases P a z with z | ⟨z, _⟩
      · exact (st.own a z).elim (fun z => .inr (.inr z)) fun z => .inr (.inl z)
      · exact .inr (.inl z)
  · obtain ⟨o1, h1⟩ := st.trk a o h
    exact cs.trk a o1 h1
end
/-- the name of a method: its class, a dot, its own name -/
def mthName (x : Str) : Option (List Nat × List Nat) := match x.cps.toList.findIdx? (fun c => c == 46) with
  | some i => some (x.cps.toList.take i, x.cps.toList.drop (i + 1))
  | none => none
/-- a def of the text that may be called, a class that may be made, a method: its promise -/
inductive CallOk (X : Cx) (ex : Nat → Addr) (x : Str) (n : Nat) (f : Fn) : Prop
  | fn (fa : Addr) (fd : FuncData) (ps : List Str) (k : Nat) : mthName x = none → X.mg x = some (.ref fa) → PySem.W.keepIn X.K (.ref fa) = true → Binds X.K fd ps [] → Room k X.A →
      FnOk X.prog X.w X.K X.mg X.base (L2.CX X.prog X.w) k fa fd ps (spD X.K ex n f) → CallOk X ex x n f
  | cls (C fa : Addr) (fd : FuncData) (ps : List Str) (k : Nat) (spI : Sp) : mthName x = none → X.mg x = some (.ref C) → L2.Mk X.K C fa → Binds X.K fd ps [] → Room (k + 1) X.A →
      FnOk X.prog X.w X.K X.mg X.base (L2.CX X.prog X.w) k fa fd ps spI →
      (∀ vs H Q E, spD X.K ex n f vs H Q E → ∀ o dx, H o = none → H dx = none → dx ≠ o → spI (.ref o :: vs) (upd (upd H dx (.own o)) o (.ins C dx [])) (fun v H2 => v = .non ∧ Q (.ref o) H2) E) → CallOk X ex x n f
  | mth (c m : List Nat) (C fa : Addr) (fd : FuncData) (ps : List Str) (k : Nat) : mthName x = some (c, m) → PySem.W.nsIn X.K mainGlobals (strV c) = some (some (.ref C)) → L2.Cls X.K C → L2.Meth X.K C (strV m) fa → Binds X.K fd ps [] → Room (k + 1) X.A →
      FnOk X.prog X.w X.K X.mg X.base (L2.CX X.prog X.w) k fa fd ps (spD X.K ex n f) → CallOk X ex x n f
section
variable {X : Cx} {W : WX} {ex : Nat → Addr} {G : List Fn} {C : List D} {a : Expr} {as : List Expr} {e : E} {es : Es} {pos p : Pos} {x : Str} {f : Fn} {j n : Nat}
theorem run_core {σ : L2.St} {H H1 : Hp} {Z Z1 : Addr → Prop} {ρ ρ1 : Mi.Env} {Q : VK} {vs : List V} {ds : List D} (hn : es.len = n) (st : Step X.K σ H Z ρ σ H1 Z1 ρ1) (lr : LRes X.K H H1 Z1 σ ρ1 es vs ds) (q : PostE X.K W ex σ H Z ρ (runF f es ds ρ1) Q) : spD X.K ex n f vs H1 Q (WE W σ) := by
  unfold runF at q
  by_cases nd : (refs es ds).Nodup
  · rw [if_pos nd] at q
    have rd := lr.rds st.sat
    refine ⟨by rw [rd.length, lr.len, hn], Z1, ds, lr.params st.sat nd, ?_⟩
    cases rf : f ds with
    | ok d ds' =>
      rw [rf] at q
      intro v H' Z' cs fr
      obtain ⟨s2, ow⟩ := call_step st lr nd cs
      refine q v H' Z' s2 ⟨fr.1, fun z => ?_⟩
      obtain ⟨a, ea, no, na⟩ := fr.2 z
      refine ⟨a, ea, fun w => ?_, ?_⟩
      · obtain ⟨_, us, h⟩ := st.sat.loose a (ow a w)
        rw [na] at h; cases h
      · cases q : H a with
        | none => rfl
        | some o => obtain ⟨o', q'⟩ := st.trk a o q; rw [na] at q'; cases q'
    | exc c ds' =>
      rw [rf] at q
      intro H' Z' cs
      cases es with
      | nil => exact q.elim
      | cons e es => exact q H' Z' (call_step st lr nd cs).1
    | stk => rw [rf] at q; exact q.elim
  · rw [if_neg nd] at q; exact q.elim
theorem tPA_mono : ∀ {es : Es} {σ : L2.St} {H : Hp} {k k' : List V → Hp → Prop}, tPA X.K W ex G C es σ H k → (∀ vs H, k vs H → k' vs H) → tPA X.K W ex G C es σ H k'
  | .nil, σ, H, k, k', h, m => m _ _ h
  | .cons e es, σ, H, k, k', h, m => by
    have op : ∀ (Q Q' : VK), (∀ v H, Q v H → Q' v H) → tOpd X.K W ex G C e σ H Q → tOpd X.K W ex G C e σ H Q' := fun Q Q' hq z => by
      by_cases hv : e.isVar = true
      · cases e with
        | var i => obtain ⟨v, e1, e2⟩ := z; exact ⟨v, e1, hq _ _ e2⟩
        | _ => cases hv
      · rw [tOpd_val (by simpa using hv)] at z ⊢
        obtain ⟨Z, ρ, s, z⟩ := z
        exact ⟨Z, ρ, s, z.mono hq⟩
    exact op _ _ (fun v H1 z => tPA_mono z fun vs H2 w => m _ _ w) h
theorem call_use (hj : G[j]? = some f) (hn : es.len = n) {σ : L2.St} {H : Hp} {Q : VK} (q : tE X.K W ex G C (.call j es) σ H Q) : tPA X.K W ex G C es σ H fun vs H1 => spD X.K ex n f vs H1 Q (WE W σ) := by
  obtain ⟨Z, ρ, s, q⟩ := q
  refine tPA_of es σ H Z ρ _ s ?_
  unfold evalE at q
  cases r : evalL G C es ρ with
  | exc c ρ1 => rw [r] at q; exact q
  | stk => rw [r] at q; exact q.elim
  | ok ds ρ1 =>
    rw [r] at q
    dsimp only at q
    rw [hj] at q
    dsimp only at q
    exact fun vs H1 Z1 st lr => run_core hn st lr q
theorem lookup_zip {V1 : Type} : ∀ {ns : List (List Nat)} {ds : List D} {vs : List V1} {m : List Nat}, ns.length = vs.length → ds.length = vs.length → (ns.zip ds).lookup m = none → ((ns.map strV).zip vs).lookup (strV m) = none
  | [], _, _, _, _, _, _ => rfl
  | _ :: _, [], [], _, h, _, _ => by simp at h
  | _ :: _, [], _ :: _, _, _, h, _ => by simp at h
  | _ :: _, _ :: _, [], _, h, _, _ => by simp at h
  | n :: ns, d :: ds, v :: vs, m, h1, h2, h => by
    rw [List.zip_cons_cons, List.lookup_cons] at h
    rw [List.map_cons, List.zip_cons_cons, List.lookup_cons]
    by_cases e : m = n
    · subst e; simp at h
    · have e1 : (m == n) = false := by simpa using e
      have e2 : (strV m == strV n) = false := by rw [strV_beq, e1]
      rw [e1] at h
      rw [e2]
      exact lookup_zip (by simpa using h1) (by simpa using h2) h
theorem lookup_zip_some {K : PySem.W.Frag} {H : Hp} {Z : Addr → Prop} : ∀ {ns : List (List Nat)} {ds : List D} {vs : List V} {m : List Nat} {d : D}, ns.length = vs.length → Rps K H Z vs ds → (ns.zip ds).lookup m = some d → m ∈ ns ∧ ∃ v, ((ns.map strV).zip vs).lookup (strV m) = some v ∧ Rp K H Z v d
  | [], _, _, _, _, _, _, h => by cases h
  | _ :: _, [], [], _, _, h, _, _ => by simp at h
  | n :: ns, d0 :: ds, v :: vs, m, d, h1, .cons r rs, h => by
    rw [List.zip_cons_cons, List.lookup_cons] at h
    rw [List.map_cons, List.zip_cons_cons, List.lookup_cons]
    by_cases e : m = n
    · subst e
      simp at h
      subst h
      exact ⟨List.mem_cons_self, v, by simp, r⟩
    · have e1 : (m == n) = false := by simpa using e
      have e2 : (strV m == strV n) = false := by rw [strV_beq, e1]
      rw [e1] at h
      obtain ⟨a1, w, a2, a3⟩ := lookup_zip_some (by simpa using h1) rs h
      exact ⟨List.mem_cons_of_mem _ a1, w, by rw [e2]; exact a2, a3⟩
/-- an attribute of an instance -/
theorem fld_use {ea : E} {fl : List Nat} {σ : L2.St} {H : Hp} {Q : VK} (q : tE X.K W ex G C (.fld ea fl) σ H Q) : tFld X.K (tE X.K W ex G C ea) (strV fl) σ H Q := by
  obtain ⟨Z, ρ, s, q⟩ := q
  refine ⟨Z, ρ, s, ?_⟩
  unfold evalE at q
  cases r : evalE G C ea ρ with
  | exc c ρ1 => rw [r] at q; exact q
  | stk => rw [r] at q; exact q.elim
  | ok d ρ1 =>
    rw [r] at q
    cases d with
    | obj c fs =>
      dsimp only at q
      intro v H1 Z1 st fr
      have rp : Rp X.K H1 Z1 v (.obj c fs) := fr.1
      cases hl : fs.lookup fl with
      | none => rw [hl] at q; exact q.elim
      | some d =>
        rw [hl] at q
        cases rp with
        | obj k h1 n1 r1 =>
          obtain ⟨a1, w, a2, a3⟩ := lookup_zip_some n1 r1 hl
          exact ⟨_, _, _, _, w, rfl, h1, k.2.2.1, k.2.2.2 _ a1, a2, q w H1 Z1 st ⟨.of a3, fun z => by rw [a3.flat] at z; cases z⟩⟩
    | _ => exact q.elim
/-- a method's call -/
theorem mcl_use {ea : E} {c m : List Nat} {C0 : Addr} (hj : G[j]? = some f) (hn : es.len + 1 = n) (hC : PySem.W.nsIn X.K mainGlobals (strV c) = some (some (.ref C0))) {σ : L2.St} {H : Hp} {Q : VK} (q : tE X.K W ex G C (.mcl j c m ea es) σ H Q) :
    tMethS C0 (strV m) (spD X.K ex n f) (WE W) (tE X.K W ex G C ea) (tPA X.K W ex G C es) σ H Q := by
  obtain ⟨Z, ρ, s, q⟩ := q
  refine ⟨Z, ρ, s, ?_⟩
  unfold evalE at q
  cases r : evalE G C ea ρ with
  | exc c ρ1 => rw [r] at q; exact q
  | stk => rw [r] at q; exact q.elim
  | ok d ρ1 =>
    rw [r] at q
    cases d with
    | obj c0 fs =>
      dsimp only at q
      by_cases hz : c0 = c ∧ fs.lookup m = none
      · rw [if_pos hz] at q
        obtain ⟨hc, hm⟩ := hz
        subst hc
        intro v H1 Z1 st fr
        have rp : Rp X.K H1 Z1 v (.obj c0 fs) := fr.1
        have key : ∃ a dx nvs, v = .ref a ∧ H1 a = some (.ins C0 dx nvs) ∧ nvs.lookup (strV m) = none := by
          cases rp with
          | obj k h1 n1 r1 =>
            have e := k.2.1.symm.trans hC
            cases e
            exact ⟨_, _, _, rfl, h1, lookup_zip n1 r1.length.symm hm⟩
        obtain ⟨a, dx, nvs, rfl, h1, hl⟩ := key
        refine ⟨a, dx, nvs, rfl, h1, hl, tPA_of es σ H1 Z1 ρ1 _ st.sat ?_⟩
        cases r2 : evalL G C es ρ1 with
        | exc c ρ2 => rw [r2] at q; exact fun H2 Z2 st2 => q H2 Z2 (st.trans st2)
        | stk => rw [r2] at q; exact q.elim
        | ok ds ρ2 =>
          rw [r2] at q
          dsimp only at q
          rw [hj] at q
          exact fun vs H2 Z2 st2 lr => run_core (es := .cons .non es) (by show es.len + 1 = n; exact hn) (st.trans st2) (.val rfl (Free.step st.sat st2 fr) (fun z => nomatch z) (lr.imp st.trk)) q
      · rw [if_neg hz] at q; exact q.elim
    | _ => exact q.elim
theorem pe_callD (ok : CallOk X ex x n f) (hm0 : mthName x = none) (hj : G[j]? = some f) (tk : Takes X W) (hg : Gl X x) (hdb : (x == ("__debug__" : Str)) = false) (hn : es.len = n) (ha : PA X (a :: as) (tPA X.K W ex G C es))
    (he : starEach (a :: as) X.env = (false, eval a X.env) :: starEach as X.env) (hpl : (backTo pos (starEach as X.env)).any (·.1) = false) :
    PE X (.Call (.Name x p) (a :: as) [] pos) (tE X.K W ex G C (.call j es)) := by
  cases ok with
  | fn fa fd ps k _ hm hk hb hr F => exact pe_weak (pe_callS F hr hg hm hk hb (fun σ => passAt tk σ) ha hdb he hpl) fun σ H Q q => call_use hj hn q
  | cls C0 fa fd ps k spI _ hm M hb hr F hI =>
    exact pe_weak (pe_makeS M F hr hg hm hb (fun σ => passAt tk σ) ha hdb he hpl) fun σ H Q q => by
      have h := call_use hj hn q
      exact tPA_mono h fun vs H1 z => hI vs H1 Q _ z
  | mth c m C0 fa fd ps k h => rw [hm0] at h; cases h
theorem pe_callD0 (ok : CallOk X ex x 0 f) (hm0 : mthName x = none) (hj : G[j]? = some f) (tk : Takes X W) (hg : Gl X x) (hdb : (x == ("__debug__" : Str)) = false) : PE X (.Call (.Name x p) [] [] pos) (tE X.K W ex G C (.call j .nil)) := by
  cases ok with
  | mth c m C0 fa fd ps k h => rw [hm0] at h; cases h
  | cls C0 fa fd ps k spI _ hm M hb hr F hI => exact pe_weak (pe_makeS0 M F hr hg hm hb (fun σ => passAt tk σ) hdb) fun σ H Q q => hI [] H Q _ (call_use (n := 0) hj rfl q)
  | fn fa fd ps k _ hm hk hb hr F =>
  refine pe_weak (pe_call0 F hr hg hm hk hb .nil (passL (X := X)) hdb) fun σ H Q q => ?_
  obtain ⟨Z, ρ, s, q⟩ := q
  show spD X.K ex 0 f [] H Q E0
  unfold evalE at q
  have e0 : evalL G C .nil ρ = .ok [] ρ := by rw [evalL]
  rw [e0] at q
  dsimp only at q
  rw [hj] at q
  dsimp only at q
  have lr : LRes X.K H H Z σ ρ .nil [] [] := .nil
  have nd : (refs .nil []).Nodup := by simp [refs]
  unfold runF at q
  rw [if_pos nd] at q
  refine ⟨rfl, Z, [], lr.params s nd, ?_⟩
  cases rf : f [] with
  | ok d ds' =>
    rw [rf] at q
    intro v H' Z' cs fr
    obtain ⟨s2, ow⟩ := call_step (Step.refl s) lr nd cs
    refine q v H' Z' s2 ⟨fr.1, fun z => ?_⟩
    obtain ⟨a, ea, no, na⟩ := fr.2 z
    refine ⟨a, ea, fun w => ?_, na⟩
    obtain ⟨_, us, h⟩ := s.loose a (ow a w)
    rw [na] at h; cases h
  | exc c ds' => rw [rf] at q; exact q.elim
  | stk => rw [rf] at q; exact q.elim
theorem pe_fldD {o : Expr} {ea : E} {fl : List Nat} (ha : PE X o (tE X.K W ex G C ea)) (hb : attributeBase o (strV fl) X.env (eval o X.env) = eval o X.env) : PE X (.Attribute o (strV fl) pos) (tE X.K W ex G C (.fld ea fl)) :=
  pe_weak (pe_fld ha hb) fun σ H Q q => fld_use q
theorem form_ok {args : List Expr} {env : PySem.Env} (hl : args.length < 20) (h : (backTo pos (starEach args env)).any (·.1) = false) : methodCallForm args.length (backTo pos (starEach args env)) (backToKw pos (keywordEach [] env)) = true := by
  unfold methodCallForm
  have e1 : (backTo pos (starEach args env)).all (fun x => !x.1) = true := by
    rw [List.all_eq_true]
    intro x hx
    rw [List.any_eq_false] at h
    simpa using h x hx
  rw [e1]
  show (true && true && decide (args.length + 0 < 30)) = true
  simp; omega
theorem pe_mclD {o : Expr} {ea : E} {c m : List Nat} {apos : Pos} (ok : CallOk X ex x n f) (hx : mthName x = some (c, m)) (hj : G[j]? = some f) (tk : Takes X W) (hn : es.len + 1 = n) (ho : PE X o (tE X.K W ex G C ea)) (ha : PA X (a :: as) (tPA X.K W ex G C es))
    (hbase : attributeBase o (strV m) X.env (eval o X.env) = eval o X.env) (hl : (apos.endLine == pos.line) = true) (hs : (a :: as).length < 20) (hall : (backTo pos (starEach (a :: as) X.env)).any (·.1) = false)
    (he : starEach (a :: as) X.env = (false, eval a X.env) :: starEach as X.env) (hpl : (backTo pos (starEach as X.env)).any (·.1) = false) : PE X (.Call (.Attribute o (strV m) apos) (a :: as) [] pos) (tE X.K W ex G C (.mcl j c m ea es)) := by
  cases ok with
  | fn _ _ _ _ h => rw [h] at hx; cases hx
  | cls _ _ _ _ _ _ h => rw [h] at hx; cases hx
  | mth c' m' C0 fa fd ps k h hC cl mt hb hr F =>
    rw [h] at hx; cases hx
    exact pe_weak (pe_methS ho cl mt F (hr.mono (Nat.le_succ k)) hb (fun σ => passAt tk σ) ha hbase (form_ok hs hall) hl he hpl) fun σ H Q q => mcl_use hj hn hC q
theorem pe_mclD0 {o : Expr} {ea : E} {c m : List Nat} {apos : Pos} (ok : CallOk X ex x 1 f) (hx : mthName x = some (c, m)) (hj : G[j]? = some f) (tk : Takes X W) (ho : PE X o (tE X.K W ex G C ea))
    (hbase : attributeBase o (strV m) X.env (eval o X.env) = eval o X.env) (hl : (apos.endLine == pos.line) = true) : PE X (.Call (.Attribute o (strV m) apos) [] [] pos) (tE X.K W ex G C (.mcl j c m ea .nil)) := by
  cases ok with
  | fn _ _ _ _ h => rw [h] at hx; cases hx
  | cls _ _ _ _ _ _ h => rw [h] at hx; cases hx
  | mth c' m' C0 fa fd ps k h hC cl mt hb hr F =>
    rw [h] at hx; cases hx
    exact pe_weak (pe_methS0 ho cl mt F (hr.mono (Nat.le_succ k)) hb (fun σ => passAt tk σ) hbase hl) fun σ H Q q => mcl_use hj rfl hC q
/-- "__len__" -/
def lenS : List Nat := [95, 95, 108, 101, 110, 95, 95]
theorem lenS_str : strV lenS = ("__len__" : Str) := by decide +kernel
theorem pe_olnD {o : Expr} {ea : E} {c : List Nat} {p1 : Pos} (ok : CallOk X ex x 1 f) (hx : mthName x = some (c, lenS)) (hj : G[j]? = some f) (hg : Gl X "len") (hm : X.mg "len" = none) (ho : PE X o (tE X.K W ex G C ea)) (he : starEach [o] X.env = (false, eval o X.env) :: starEach [] X.env) :
    PE X (.Call (.Name "len" p1) [o] [] pos) (tE X.K W ex G C (.oln j c ea)) := by
  cases ok with
  | fn _ _ _ _ h => rw [h] at hx; cases hx
  | cls _ _ _ _ _ _ h => rw [h] at hx; cases hx
  | mth c' m' C0 fa fd ps k h hC cl mt hb hr F =>
    rw [h] at hx; cases hx
    refine pe_weak (pe_callB (call_lenO (by rw [← lenS_str]; exact mt.at_) mt.fn F hr hb (passL (X := X))) hg hm (by decide +kernel) (pa_cons ho pa_nil he) (by decide) (by decide) he (by rfl)) fun σ H Q q => ?_
    obtain ⟨Z, ρ, s, q⟩ := q
    refine ⟨Z, ρ, s, ?_⟩
    unfold evalE at q
    cases r : evalE G C ea ρ with
    | exc c ρ1 => rw [r] at q; exact q
    | stk => rw [r] at q; exact q.elim
    | ok d ρ1 =>
      rw [r] at q
      cases d with
      | obj c0 fs =>
        dsimp only at q
        by_cases hz : c0 = c
        · rw [if_pos hz, hj] at q
          subst hz
          intro v H1 Z1 st fr
          have rp : Rp X.K H1 Z1 v (.obj c0 fs) := fr.1
          have key : ∃ a dx nvs, v = .ref a ∧ H1 a = some (.ins C0 dx nvs) := by
            cases rp with
            | obj k h1 n1 r1 =>
              have e := k.2.1.symm.trans hC
              cases e
              exact ⟨_, _, _, rfl, h1⟩
          obtain ⟨a, dx, nvs, rfl, h1⟩ := key
          refine ⟨a, dx, nvs, rfl, h1, ?_⟩
          have lr : LRes X.K H H1 Z1 σ ρ1 (.cons .non .nil) [.ref a] [.obj c0 fs] := .val rfl fr (fun z => nomatch z) .nil
          have q2 : PostE X.K (fun _ _ _ _ => False) ex σ H Z ρ (runF f (.cons .non .nil) [.obj c0 fs] ρ1) (fun v H' => ∃ n : Nat, v = .int n ∧ n < 2 ^ 62 ∧ Q (.int n) H') := by
            dsimp only at q
            cases r2 : runF f (.cons .non .nil) [.obj c0 fs] ρ1 with
            | exc c ρ2 => rw [r2] at q; exact q.elim
            | stk => rw [r2] at q; exact q.elim
            | ok d2 ρ2 =>
              rw [r2] at q
              cases d2 with
              | int n =>
                dsimp only at q
                by_cases hn : 0 ≤ n ∧ n < 2 ^ 62
                · rw [if_pos hn] at q
                  intro v H2 Z2 st2 fr2
                  have ev := rep_int fr2.1
                  subst ev
                  have en : n = ((n.toNat : Nat) : Int) := by omega
                  refine ⟨n.toNat, by rw [← en], by omega, ?_⟩
                  rw [← en]
                  exact q _ H2 Z2 st2 fr2
                · rw [if_neg hn] at q; exact q.elim
              | _ => exact q.elim
          have h3 := run_core (es := .cons .non .nil) (n := 1) (W := fun _ _ _ _ => False) rfl st lr q2
          exact h3
        · rw [if_neg hz] at q; exact q.elim
      | _ => exact q.elim
theorem CallOk.blk (ok : CallOk X ex x n f) (s : Shared) (H : Hp) (scope : Scope) (e : PySem.Env) (fp : List Addr) : CallOk (X.blk s H scope e fp) ex x n f := by
  cases ok with
  | fn fa fd ps k a b c d e g => exact .fn fa fd ps k a b c d e g
  | cls C fa fd ps k spI a b c d e g h => exact .cls C fa fd ps k spI a b c d e g h
  | mth c m C fa fd ps k a b d e g h i => exact .mth c m C fa fd ps k a b d e g h i
theorem CallOk.tr (ok : CallOk X ex x n f) {pn : List (Addr × Obj)} {xe : Value → Shared → Prop} : CallOk (X.tr pn xe) ex x n f := by
  cases ok with
  | fn fa fd ps k a b c d e g => exact .fn fa fd ps k a b c d e g
  | cls C fa fd ps k spI a b c d e g h => exact .cls C fa fd ps k spI a b c d e g h
  | mth c m C fa fd ps k a b d e g h i => exact .mth c m C fa fd ps k a b d e g h i
end
end Mi

/-! methods of texts, isinstance, what is walked, comprehensions -/
namespace Mi
open PySem PySem.Spec PyProof.Rows L2
section
variable {X : Cx} {W : WX} {ex : Nat → Addr} {G : List Fn} {C : List D} {a b : Expr} {ea eb : E} {es : Es} {pos apos : Pos}
theorem Rps.rev {K : PySem.W.Frag} {H : Hp} {Z : Addr → Prop} : ∀ {vs : List V} {ds : List D}, Rps K H Z vs ds → Rps K H Z vs.reverse ds.reverse
  | _, _, .nil => .nil
  | _, _, .cons h r => by rw [List.reverse_cons, List.reverse_cons]; exact r.rev.append (.cons h .nil)
def MthOk (X : Cx) (m : Meth) (r : V → List V → Hp → VK → Prop) : Prop := ∀ (x y : V) (H : Hp) (Z : Addr → Prop) (s : List Nat) (d d' : D) (Q : VK), (∀ a, Z a → H a ≠ none) → x = .str (strV s) → RepD X.K H Z y d → methD m [.str s, d] = some d' → (∀ v H', New X.K H Z v d' H' → Q v H') → r x [y] H Q
theorem pe_mthD {m : Meth} {id : String} {name : Str} {r : V → List V → Hp → VK → Prop} (ok : MthOk X m r) (hk : ∀ d, m.kind d = true → ∃ s, d = .str s) (slot : Slot "str" name id) (ty : typeOf (.builtin id) = pure (.type "method_descriptor")) (rule : MtR X id r)
    (h1 : PE X a (tE X.K W ex G C ea)) (h2 : PE X b (tOpd X.K W ex G C eb)) (hs : starEach [b] X.env = [(false, eval b X.env)]) (hbase : attributeBase a name X.env (eval a X.env) = eval a X.env) (hline : (apos.endLine == pos.line) = true) :
    PE X (.Call (.Attribute a name apos) [b] [] pos) (tE X.K W ex G C (.mth m ea (.cons eb .nil))) := by
  refine pe_weak (pe_m1 slot ty rule h1 h2 hs hbase hline) fun σ H Q q => ?_
  obtain ⟨Z, ρ, s, q⟩ := q
  refine ⟨Z, ρ, s, ?_⟩
  unfold evalE at q
  cases r0 : evalE G C ea ρ with
  | exc c ρ1 => rw [r0] at q; exact q
  | stk => rw [r0] at q; exact q.elim
  | ok d ρ1 =>
    rw [r0] at q
    dsimp only at q
    split at q
    · rename_i kd
      obtain ⟨z, rfl⟩ := hk d kd
      intro v H1 Z1 s1 fr1
      refine ⟨⟨strV z, rep_str fr1.1⟩, ?_⟩
      have t := tPA_of (K := X.K) (W := W) (ex := ex) (G := G) (C := C) (.cons eb .nil) σ H1 Z1 ρ1 (fun vs H2 => match vs with
        | [y] => r v [y] H2 Q
        | _ => False) s1.sat ?_
      · exact t
      · cases r1 : evalL G C (.cons eb .nil) ρ1 with
        | exc c ρ2 => rw [r1] at q; exact fun H2 Z2 s2 => q H2 Z2 (s1.trans s2)
        | stk => rw [r1] at q; exact q.elim
        | ok ds ρ2 =>
          rw [r1] at q
          dsimp only at q
          intro vs H2 Z2 s2 lr
          have rd := lr.rds s2.sat
          have hl := lr.len
          match rd with
          | .nil => simp [Es.len] at hl
          | .cons h3 (.cons h4 rd) => simp [Es.len] at hl
          | .cons (v := y) (d := dy) h3 .nil =>
            cases q3 : methD m [.str z, dy] with
            | none => rw [q3] at q; exact q.elim
            | some d' =>
              rw [q3] at q
              refine ok v y H2 Z2 z dy d' Q s2.sat.zok (rep_str fr1.1) h3 q3 fun w H' n => ?_
              obtain ⟨s3, fr⟩ := New.step s2.sat n
              exact q w H' Z2 ((s1.trans s2).trans s3) (fr.imp (s1.trans s2).trk)
    · exact q.elim
theorem txt_join (s : Str) (ys : List Str) : Txt.join s ys = Str.join s ys := StrLaws.glued_eq_join s ys
theorem joinL_eq (s : List Nat) : ∀ ys : List (List Nat), Txt.join (strV s) (ys.map strV) = strV (Mi.joinL s ys)
  | [] => by
    rw [txt_join]; rfl
  | [y] => by
    rw [txt_join]; rfl
  | y :: z :: r => by
    have ih := joinL_eq s (z :: r)
    rw [txt_join] at ih ⊢
    have e : Str.join (strV s) ((y :: z :: r).map strV) = strV y ++ strV s ++ Str.join (strV s) ((z :: r).map strV) := rfl
    rw [e, ih, strV_append, strV_append]
    show strV _ = strV (y ++ (s ++ Mi.joinL s (z :: r)))
    rw [List.append_assoc]
theorem map_len_strV (ys : List (List Nat)) : (ys.map strV).map (·.length) = ys.map List.length := by
  rw [List.map_map]
  exact List.map_congr_left fun z _ => strV_len z
def rJoin (X : Cx) : V → List V → Hp → VK → Prop := fun x xs H Q => ∃ a p, ∃ ys : List Str, x = .str a ∧ xs = [.ref p] ∧ (SqL X.K H p (ys.map V.str) ∨ SqT X.K H p (ys.map V.str)) ∧ (ys.map (·.length)).sum + ys.length * a.length ≤ 16777216 ∧ Q (.str (Txt.join a ys)) H
theorem ok_join : MthOk X .join (rJoin X) := by
  intro x y H Z s d d' Q zk ex rd e q
  subst ex
  have go : ∀ (p : Addr) (ws : List V) (xs : List D), (SqL X.K H p ws ∨ SqT X.K H p ws) → Rps X.K H Z ws xs → ((strs? xs).bind fun ys => if (ys.map List.length).sum + ys.length * s.length ≤ SZ then some (D.str (Mi.joinL s ys)) else none) = some d' → rJoin X (.str (strV s)) [.ref p] H Q := by
    intro p ws xs l r1 e
    cases h : strs? xs with
    | none => rw [h] at e; cases e
    | some ss =>
      rw [h] at e
      have e' : (if (ss.map List.length).sum + ss.length * s.length ≤ SZ then some (D.str (Mi.joinL s ss)) else none) = some d' := e
      split at e'
      · rename_i hz
        cases e'
        obtain ⟨rfl, rfl⟩ := r1.strs h
        refine ⟨strV s, p, ss.map strV, rfl, rfl, l, ?_, ?_⟩
        · rw [map_len_strV, strV_len, List.length_map]; exact hz
        · rw [joinL_eq]; exact q _ _ (new_flat (.str _))
      · cases e'
  cases d with
  | lst xs => obtain ⟨p, ws, rfl, l, r1⟩ := RepQ.of_lst rd; exact go p ws xs (.inl l) r1 e
  | tup xs => obtain ⟨p, ws, rfl, l, r1⟩ := rep_tup rd; exact go p ws xs (.inr l) r1 e
  | _ => cases e
theorem kind_str {m : Meth} (d : D) (h : m.kind d = true) : ∃ s, d = .str s := by
  cases d with
  | str s => exact ⟨s, rfl⟩
  | _ => cases m <;> cases h

theorem endsW_eq (s t : List Nat) : Txt.endswith (strV s) (strV t) = endsW s t := by
  unfold Txt.endswith endsW
  rw [StrLaws.subAt_eq, strV_len, strV_len, Nat.zero_add]
  by_cases h : t.length ≤ s.length
  · have e : (s.drop (s.length - t.length)).take t.length = s.drop (s.length - t.length) := List.take_of_length_le (by rw [List.length_drop]; omega)
    show (decide (t.length ≤ s.length) && ((s.drop (s.length - t.length)).take t.length == t)) = _
    rw [e]
  · simp [h]
theorem ok_endswith : MthOk X .endswith (fun x xs H Q => ∃ a b, x = .str a ∧ xs = [.str b] ∧ Q (.bl (Txt.endswith a b)) H) := by
  intro x y H Z s d d' Q zk ex rd e q
  cases d with
  | str t =>
    cases e
    exact ⟨strV s, strV t, ex, by rw [rep_str rd], by rw [endsW_eq]; exact q _ _ (new_flat (.bl _))⟩
  | _ => cases e
theorem occ_cnt (x : Str) (c : Nat) (limit : Nat) : ∀ (m i : Nat) (st : Array Nat × Nat), st.2 ≤ i → st.1.size + m ≤ limit →
    (forIn (List.range' i m) st (StrLaws.occBody x (strV [c]) x.length limit)).run.fst.size = st.1.size + (List.range' i m).countP fun j => decide (j + 1 ≤ x.length) && Builtin.Str.subAt x (strV [c]) j
  | 0, i, st, _, _ => rfl
  | m + 1, i, st, h1, h2 => by
    rw [List.range'_succ, List.forIn_cons, List.countP_cons]
    unfold StrLaws.occBody
    by_cases h : i + 1 ≤ x.length ∧ Builtin.Str.subAt x (strV [c]) i = true
    · rw [if_pos (show ((st.fst.size < limit ∧ st.snd ≤ i) ∧ i + (strV [c]).length ≤ x.length) ∧ Builtin.Str.subAt x (strV [c]) i = true from ⟨⟨⟨by omega, h1⟩, h.1⟩, h.2⟩)]
      refine (occ_cnt x c limit m (i + 1) (st.1.push i, i + 1) (Nat.le_refl _) (by simp only [Array.size_push]; omega)).trans ?_
      rw [if_pos (by rw [Bool.and_eq_true, decide_eq_true_eq]; exact h), Array.size_push]
      omega
    · rw [if_neg (show ¬ (((st.fst.size < limit ∧ st.snd ≤ i) ∧ i + (strV [c]).length ≤ x.length) ∧ Builtin.Str.subAt x (strV [c]) i = true) from fun z => h ⟨z.1.2, z.2⟩)]
      refine (occ_cnt x c limit m (i + 1) (st.1, st.2) (by show st.2 ≤ i + 1; omega) (by show st.1.size + m ≤ limit; omega)).trans ?_
      rw [if_neg (by rw [Bool.and_eq_true, decide_eq_true_eq]; exact h)]
      rfl
theorem cnt_range (s : List Nat) (c : Nat) : ∀ m, m ≤ s.length → (List.range m).countP (fun j => decide (j + 1 ≤ s.length) && ((s.drop j).take 1 == [c])) = (s.take m).count c
  | 0, _ => by simp
  | m + 1, h => by
    rw [List.range_succ, List.countP_append, cnt_range s c m (by omega), List.take_add_one, List.getElem?_eq_getElem (by omega), List.count_append, List.countP_singleton]
    congr 1
    rw [List.drop_eq_getElem_cons (by omega)]
    show (if (decide (m + 1 ≤ s.length) && ([s[m]] == [c])) = true then 1 else 0) = [s[m]].count c
    rw [decide_eq_true h, Bool.true_and, List.count_singleton]
    by_cases e : s[m] = c
    · simp [e]
    · simp [e]
theorem count_eq (s : List Nat) (c : Nat) : Txt.count (strV s) (strV [c]) = ((s.count c : Nat) : Int) := by
  have h := occ_cnt (strV s) c (s.length + 1) (s.length + 1) 0 (#[], 0) (Nat.le_refl _) (by simp)
  have e0 : Txt.count (strV s) (strV [c]) = (((forIn (List.range' 0 (s.length + 1)) ((#[] : Array Nat), 0) (StrLaws.occBody (strV s) (strV [c]) (strV s).length (s.length + 1))).run.fst.size : Nat) : Int) := by
    show (((Builtin.Str.occurrences (strV s) (strV [c]) 0 (strV s).length ((strV s).length + 1)).length : Nat) : Int) = _
    rw [StrLaws.occ_eq, Array.length_toList, Nat.sub_zero]
    have e : (strV s).length = s.length := strV_len s
    rw [e]
  rw [e0]
  congr 1
  refine h.trans ?_
  rw [← List.range_eq_range', List.range_succ, List.countP_append]
  have e1 : (List.range s.length).countP (fun j => decide (j + 1 ≤ (strV s).length) && Builtin.Str.subAt (strV s) (strV [c]) j) = (List.range s.length).countP fun j => decide (j + 1 ≤ s.length) && ((s.drop j).take 1 == [c]) :=
    List.countP_congr fun j _ => by rw [StrLaws.subAt_eq, strV_len, strV_len]; exact Iff.rfl
  rw [e1, cnt_range s c s.length (Nat.le_refl _), List.take_length, List.countP_singleton, if_neg (by rw [strV_len, decide_eq_false (by omega)]; simp)]
  simp
theorem ok_count : MthOk X .count (fun x xs H Q => ∃ a b, x = .str a ∧ xs = [.str b] ∧ Q (.int (Txt.count a b)) H) := by
  intro x y H Z s d d' Q zk ex rd e q
  cases d with
  | str t =>
    match t, e with
    | [], e => cases e
    | _ :: _ :: _, e => cases e
    | [c], e =>
      cases e
      exact ⟨strV s, strV [c], ex, by rw [rep_str rd], by rw [count_eq]; exact q _ _ (new_flat (.int _))⟩
  | _ => cases e
/-! ### methods of lists that leave them -/
def LmtOk (X : Cx) (m : Meth) (r : V → List V → Hp → VK → Prop) : Prop := ∀ (x y : V) (H : Hp) (Z : Addr → Prop) (xs : List D) (d d' : D) (Q : VK), (∀ a, Z a → H a ≠ none) → RepQ X.K H Z x xs → RepD X.K H Z y d → lmtD m xs d = some d' → (∀ v H', New X.K H Z v d' H' → Q v H') → r x [y] H Q
theorem lmt_use {m : Meth} {r : V → List V → Hp → VK → Prop} (ok : LmtOk X m r) {i : Nat} {e : E} {σ : L2.St} {H : Hp} {Q : VK} (h : tE X.K W ex G C (.lmt m i e) σ H Q) : tBM X.K "list" r (tVar i) (tCons (tE X.K W ex G C e) tNil) σ H Q := by
  obtain ⟨Z, ρ, s, q⟩ := h
  unfold evalE at q
  have isl : ∀ {K : PySem.W.Frag} {H : Hp} {Z : Addr → Prop} {v : V} {d : D} {xs : List D}, RepD K H Z v d → d.list? = some xs → RepQ K H Z v xs := by
    intro K H Z v d xs rd e
    cases d with
    | lst ys => cases e; exact RepQ.of_lst rd
    | fls ys => cases e; exact RepQ.of_fls rd
    | _ => cases e
  cases e0 : ρ[i]? with
  | none => rw [e0] at q; exact q.elim
  | some o =>
    cases o with
    | none => rw [e0] at q; exact q.elim
    | some d0 =>
      rw [e0] at q
      dsimp only at q
      cases l0 : d0.list? with
      | none => rw [l0] at q; exact q.elim
      | some xs0 =>
        rw [l0] at q
        dsimp only at q
        obtain ⟨v, ev, rd⟩ := s.rep i d0 e0
        obtain ⟨a, us, rfl, sl, r0⟩ := isl rd l0
        refine ⟨_, ev, .inl ⟨rfl, us, sl⟩, ?_⟩
        show tE X.K W ex G C e σ H fun y H2 => r (.ref a) [y] H2 Q
        refine ⟨Z, ρ, s, ?_⟩
        cases r1 : evalE G C e ρ with
        | exc c ρ1 => rw [r1] at q; exact q
        | stk => rw [r1] at q; exact q.elim
        | ok d ρ1 =>
          rw [r1] at q
          dsimp only at q
          intro y H1 Z1 st fr
          cases e1 : ρ1[i]? with
          | none => rw [e1] at q; exact q.elim
          | some o =>
            cases o with
            | none => rw [e1] at q; exact q.elim
            | some d1 =>
              rw [e1] at q
              dsimp only at q
              cases l1 : d1.list? with
              | none => rw [l1] at q; exact q.elim
              | some xs =>
                rw [l1] at q
                dsimp only at q
                obtain ⟨v', ev', rd'⟩ := st.sat.rep i d1 e1
                rw [ev] at ev'; cases ev'
                cases e2 : lmtD m xs d with
                | none => rw [e2] at q; exact q.elim
                | some d' =>
                  rw [e2] at q
                  refine ok _ y H1 Z1 xs d d' Q st.sat.zok (isl rd' l1) fr.1 e2 fun w H' n => ?_
                  obtain ⟨s2, fr2⟩ := New.step st.sat n
                  exact q w H' Z1 (st.trans s2) (fr2.imp st.trk)
def rCntD (X : Cx) : V → List V → Hp → VK → Prop := fun x ys H Q => ∃ Z y xs d, ys = [y] ∧ RepQ X.K H Z x xs ∧ RepD X.K H Z y d ∧ d.okD 20 = true ∧ xs.all (D.okD 20) = true ∧ Q (.int ((xs.countP fun z => D.peq z d : Nat) : Int)) H
theorem eqOf_count {pins : List (Addr × Obj)} {σ : L2.St} {s : Shared} {H : Hp} {Z : Addr → Prop} (I : Inv X pins σ H s) (a : D) : ∀ {vs : List V} {xs : List D} {its : List Value}, Rps X.K H Z vs xs → Vals vs its → its.countP (eqOf X.K H Z a) = xs.countP fun y => D.peq y a
  | _, _, _, .nil, .nil => rfl
  | _, _, _, .cons h g, .cons r t => by rw [List.countP_cons, List.countP_cons, eqOf_at I a h r, eqOf_count I a g t]
theorem mt_lcountD (hu : X.A.units + 64 < cLine) : MtR X "list.count" (rCntD X) := by
  intro pins s σ H x xs v us Q I rx rxs h
  obtain ⟨Z, y, ds, d, rfl, hq, hd, o1, o2, q⟩ := h
  obtain ⟨p, ws, rfl, hs, hr⟩ := hq
  cases rx
  obtain ⟨u, rfl, ru⟩ := rxs.one
  obtain ⟨its, rv, ⟨⟨cls, dd, data, sl⟩, n, ho, hc, hdn, hdt⟩, hlen⟩ := I.list hs
  simp only at hc hdt
  subst hc hdt
  refine call_meets PySem.F.slot_list_count ⟨_, ho, rfl⟩ PySem.F.entry_list_count (PySem.F.args_list_count_2 _ _)
    (SeqAt.list_countAt p its.toArray n dd sl u (eqOf X.K H Z d)) ⟨ho, fun y hy => eqOf_all I (A := X.A.in1) (by show X.A.units + 1 + 20 < cLine; omega) hd ru o1 hr rv o2 y (by simpa using hy), ?_⟩
  have ec : its.toArray.toList.countP (eqOf X.K H Z d) = ds.countP fun y => D.peq y d := eqOf_count I d hr rv
  refine ⟨.int ((ds.countP fun y => D.peq y d : Nat) : Int), H, I.tok _, ⟨s.toks, ?_⟩, q⟩
  rw [ec]
def rIdxD (X : Cx) : V → List V → Hp → VK → Prop := fun x ys H Q => ∃ Z y xs d j, ys = [y] ∧ RepQ X.K H Z x xs ∧ RepD X.K H Z y d ∧ d.okD 20 = true ∧ xs.all (D.okD 20) = true ∧ (xs.findIdx? fun z => D.peq z d) = some j ∧ Q (.int (j : Nat)) H
theorem eqOf_get {pins : List (Addr × Obj)} {σ : L2.St} {s : Shared} {H : Hp} {Z : Addr → Prop} (I : Inv X pins σ H s) (a : D) : ∀ {vs : List V} {xs : List D} {its : List Value} {m : Nat} {d : D}, Rps X.K H Z vs xs → Vals vs its → xs[m]? = some d → ∃ u, its[m]? = some u ∧ eqOf X.K H Z a u = D.peq d a
  | _, _, _, _, _, .nil, .nil, e => by simp at e
  | _, _, _, 0, _, .cons h g, .cons r t, e => by
    simp at e; subst e
    exact ⟨_, rfl, eqOf_at I a h r⟩
  | _, _, _, m + 1, _, .cons h g, .cons r t, e => by
    obtain ⟨u, e1, e2⟩ := eqOf_get (m := m) I a g t (by simpa using e)
    exact ⟨u, by simpa using e1, e2⟩
theorem mt_lindexD (hu : X.A.units + 64 < cLine) : MtR X "list.index" (rIdxD X) := by
  intro pins s σ H x xs v us Q I rx rxs h
  obtain ⟨Z, y, ds, d, j, rfl, hq, hd, o1, o2, hj, q⟩ := h
  obtain ⟨p, ws, rfl, hs, hr⟩ := hq
  cases rx
  obtain ⟨u, rfl, ru⟩ := rxs.one
  obtain ⟨its, rv, ⟨⟨cls, dd, data, sl⟩, n, ho, hc, hdn, hdt⟩, hlen⟩ := I.list hs
  simp only at hc hdt
  subst hc hdt
  have hl1 : ws.length = its.length := rv.length
  have hl2 : ws.length = ds.length := hr.length
  have hsz := sizeLine_eq
  obtain ⟨hjl, hjp, hjn⟩ := List.findIdx?_eq_some_iff_getElem.mp hj
  have hji : j < its.toArray.size := by rw [List.size_toArray]; omega
  have at_ : ∀ (m : Nat) (hm : m < its.toArray.size) (hd : m < ds.length), eqOf X.K H Z d its.toArray[m] = D.peq ds[m] d := by
    intro m hm hmd
    obtain ⟨u', e1, e2⟩ := eqOf_get I d hr rv (List.getElem?_eq_getElem hmd)
    have e3 : its.toArray[m] = u' := by
      obtain ⟨h1, h2⟩ := List.getElem?_eq_some_iff.mp e1
      simpa using h2
    rw [e3, e2]
  refine call_meets PySem.F.slot_list_index ⟨_, ho, rfl⟩ PySem.F.entry_list_index (PySem.F.args_list_index_2 _ _)
    (SeqAt.list_indexAt p its.toArray n dd sl u (eqOf X.K H Z d) j hji (by omega) ?_ ?_) ⟨ho, fun y hy => eqOf_all I (A := X.A.in1) (by show X.A.units + 1 + 20 < cLine; omega) hd ru o1 hr rv o2 y (by simpa using hy), ?_⟩
  · rw [at_ j hji hjl]; exact hjp
  · intro m hm hmj
    rw [at_ m hm (by omega)]
    have := hjn m hmj
    simpa using this
  · exact ⟨.int (j : Nat), H, I.tok _, ⟨_, rfl⟩, q⟩
theorem ok_lcount : LmtOk X .count (rCntD X) := by
  intro x y H Z xs d d' Q zk rq rd e q
  have e' : (if (d.okD 20 && xs.all (D.okD 20)) = true then some (D.int ((xs.countP fun y => D.peq y d : Nat) : Int)) else none) = some d' := e
  split at e'
  · rename_i hz
    rw [Bool.and_eq_true] at hz
    cases e'
    exact ⟨Z, y, xs, d, rfl, rq, rd, hz.1, hz.2, q _ _ (new_flat (.int _))⟩
  · cases e'
theorem ok_lindex : LmtOk X .index (rIdxD X) := by
  intro x y H Z xs d d' Q zk rq rd e q
  have e' : (if (d.okD 20 && xs.all (D.okD 20)) = true then (xs.findIdx? fun y => D.peq y d).map (fun j => D.int ((j : Nat) : Int)) else none) = some d' := e
  split at e'
  · rename_i hz
    rw [Bool.and_eq_true] at hz
    cases h : xs.findIdx? fun y => D.peq y d with
    | none => rw [h] at e'; cases e'
    | some j =>
      rw [h] at e'
      cases e'
      exact ⟨Z, y, xs, d, j, rfl, rq, rd, hz.1, hz.2, h, q _ _ (new_flat (.int _))⟩
  · cases e'
/-! ### xs[::-1] -/
theorem adjust_rev (n : Nat) : Builtin.Slice.sliceAdjust none none (-1) (n : Int) = ((n : Int) - 1, -1) := by
  unfold Builtin.Slice.sliceAdjust
  simp
theorem places_rev (n : Nat) : Builtin.Slice.slicePlaces ((n : Int) - 1) (-1) (-1) = n := by
  unfold Builtin.Slice.slicePlaces
  rw [if_neg (by decide)]
  by_cases h : n = 0
  · subst h; rfl
  · rw [if_pos (by omega)]
    have e : ((n : Int) - 1 - -1 - 1) / (- -1) + 1 = n := by
      rw [show (- (-1) : Int) = 1 by rfl, Int.ediv_one]
      omega
    rw [e]
    exact Int.toNat_natCast n
theorem filterMap_some {α β : Type} {f : α → Option β} {g : α → β} : ∀ {l : List α}, (∀ m ∈ l, f m = some (g m)) → l.filterMap f = l.map g
  | [], _ => rfl
  | x :: l, h => by rw [List.filterMap_cons, h x List.mem_cons_self, List.map_cons, filterMap_some fun m hm => h m (List.mem_cons_of_mem _ hm)]
theorem pick_rev (xs : List Value) : ((List.range xs.length).filterMap fun (m : Nat) => xs.toArray[(((xs.length : Int) - 1) + (m : Int) * -1).toNat]?).toArray = xs.reverse.toArray := by
  congr 1
  apply List.ext_getElem?
  intro k
  have e : ((List.range xs.length).filterMap fun (m : Nat) => xs.toArray[(((xs.length : Int) - 1) + (m : Int) * -1).toNat]?) = (List.range xs.length).map fun m => xs.getD (xs.length - 1 - m) .none := by
    refine filterMap_some fun m hm => ?_
    have hm := List.mem_range.mp hm
    have e1 : (((xs.length : Int) - 1) + (m : Int) * -1).toNat = xs.length - 1 - m := by omega
    rw [e1, List.getElem?_toArray, List.getElem?_eq_getElem (by omega)]
    simp [List.getD_eq_getElem?_getD, List.getElem?_eq_getElem (show xs.length - 1 - m < xs.length by omega)]
  rw [e]
  by_cases hk : k < xs.length
  · rw [List.getElem?_map, List.getElem?_range hk, List.getElem?_reverse hk, List.getElem?_eq_getElem (by omega)]
    simp [List.getD_eq_getElem?_getD, List.getElem?_eq_getElem (show xs.length - 1 - k < xs.length by omega)]
  · rw [List.getElem?_eq_none (by simp; omega), List.getElem?_eq_none (by simp; omega)]
theorem slice_rev {prog : Program} {w : World} {A : Around} {E : Value → Shared → Prop} {s : Shared} {sl : Addr} {vl vu vs : Value} {n : Nat} {Q : Int × Int × Nat → Shared → Prop} (hs : s.heap.IsSliceOf sl vl vu vs) (pl : IsPart vl none) (pu : IsPart vu none) (ps : IsPart vs (some (-1)))
    (h : Q ((n : Int) - 1, -1, n) s) : wpAny (model prog w) A (Builtin.Slice.sliceApplied (.ref sl) (pure (n : Int))) Q E s := by
  obtain ⟨os, hos, hcs, hds⟩ := id hs
  unfold Builtin.Slice.sliceApplied Builtin.Slice.sliceFields
  refine wpAny_bind (wpAny_bind (wpAny_field hos hds (x := vl) rfl (wpAny_bind (wpAny_field hos hds (x := vu) rfl (wpAny_bind (wpAny_field hos hds (x := vs) rfl (wpAny_pure ?_)))))))
  refine wpAny_bind (HT.slicePart_ ps ?_)
  show wpAny _ _ (if ((-1 : Int) == 0) = true then _ else _) _ _ s
  rw [if_neg (by decide)]
  refine wpAny_bind (HT.slicePart_ pl (wpAny_bind (HT.slicePart_ pu (wpAny_bind (wpAny_pure ?_)))))
  show wpAny _ _ (match Builtin.Slice.sliceAdjust none none (-1) (n : Int) with | (lo, hi) => pure (lo, (-1 : Int), Builtin.Slice.slicePlaces lo hi (-1))) _ _ s
  rw [adjust_rev n]
  show wpAny _ _ (pure ((n : Int) - 1, (-1 : Int), Builtin.Slice.slicePlaces ((n : Int) - 1) (-1) (-1))) _ _ s
  rw [places_rev]
  exact wpAny_pure h
theorem getItem_tuple_rev {prog : Program} {w : World} {A : Around} {E : Value → Shared → Prop} {s : Shared} {t sl : Addr} {items : List Value} {vl vu vs : Value} {Q : Value → Shared → Prop} (ht : IsTup s.heap t items.toArray) (hs : s.heap.IsSliceOf sl vl vu vs) (pl : IsPart vl none) (pu : IsPart vu none) (ps : IsPart vs (some (-1)))
    (h : Q (.ref s.heap.objs.size) { s with heap := s.heap.push { cls := .type "tuple", data := .seq items.reverse.toArray } })
    (hsz : items.length ≤ sizeLine) : wpAny (model prog w) A (getItem (.ref t) (.ref sl)) Q E s := by
  have htake : sizeOk (.seq items.reverse.toArray) := by
    show items.reverse.toArray.size ≤ sizeLine
    rw [List.size_toArray, List.length_reverse]
    exact hsz
  obtain ⟨os, hos, hcs, hds⟩ := id hs
  have hTs : s.TypeIs (.ref sl) "slice" := ⟨os, hos, hcs⟩
  unfold getItem
  try with_reducible refine wpAny_holding ?_
  first | refine wpAny_bind (wpAny_pure ?_) | skip
  refine wpAny_bind (wpAny_sequenceKey ht.typeIs (by decide) ?_)
  refine wpAny_bind (wpAny_callSpecial?_slot (name := Str.ofString "__getitem__") ht.typeIs PyProof.Rows.slot_tuple_getitem
    (wpAny_call_entry PyProof.Rows.slot_tuple_getitem ht.typeIs PyProof.Rows.entry_tuple_getitem ?_ (PyProof.Rows.args_tuple_getitem _ _)))
  show wpAny _ _ (Builtin.Tuple.tupleItemsOf (.ref t) >>= _) _ _ s
  refine wpAny_bind (PyProof.Rows.tupleItemsOf_ ht ?_)
  refine wpAny_bind (wpAny_typeOf hTs ?_)
  rw [if_pos (by decide)]
  refine wpAny_bind (slice_rev hs pl pu ps ?_)
  have hno : ¬ (((((items.length : Nat) : Int) - 1) == 0 && (-1 : Int) == 1 && items.length == items.toArray.size) = true) := by
    intro q
    rw [Bool.and_eq_true, Bool.and_eq_true] at q
    exact absurd q.1.2 (by decide)
  show wpAny _ _ (if ((((items.length : Nat) : Int) - 1) == 0 && (-1 : Int) == 1 && items.length == items.toArray.size) = true then _ else _) _ _ s
  rw [if_neg hno]
  have hp := pick_rev items
  rw [← List.size_toArray] at hp
  rw [hp]
  first
    | exact wpAny_bind (m := Builtin.Tuple.tupleExact _) (wpAny_newObj_type (wpAny_pure ⟨_, rfl, wpAny_pure h⟩) htake)
    | exact wpAny_bind (m := Builtin.Tuple.tupleExact _) (wpAny_newObj_type (wpAny_bind (wpAny_pure (wpAny_pure ⟨_, rfl, wpAny_pure h⟩))) htake)
    | exact wpAny_bind (wpAny_bind (m := Builtin.Tuple.tupleExact _) (wpAny_newObj_type (wpAny_pure (wpAny_pure ⟨_, rfl, wpAny_pure h⟩)) htake))
    | exact wpAny_bind (wpAny_bind (m := Builtin.Tuple.tupleExact _) (wpAny_newObj_type (wpAny_pure ⟨_, rfl, wpAny_pure h⟩) htake))
def tRevX (K : PySem.W.Frag) (te : TE) : TE := fun σ H Q => te σ H fun x H1 => ∃ a xs, x = .ref a ∧ ((SqL K H1 a xs ∧ ∀ p, H1 p = none → Q (.ref p) (upd H1 p (.lst xs.reverse))) ∨ (SqT K H1 a xs ∧ ∀ p, H1 p = none → Q (.ref p) (upd H1 p (.tup xs.reverse))))
theorem pe_revX {e : Expr} {te : TE} {k : Nat} {p1 p2 p3 pos : Pos} (he : PE X e te) : PE X (.Subscript e (.Slice none none (some (.UnaryOp .USub (.Constant (.int 1) k p1) p2)) p3) pos) (tRevX X.K te) := by
  refine ⟨fun pins s σ H Q I h => ?_⟩
  refine Subscript_ (thn (he.run pins s σ H _ I h) fun v s1 ⟨x, H1, I1, r1, q1⟩ => ?_)
  obtain ⟨a, xs, ex, q⟩ := q1
  subst ex
  cases r1
  have hst : PO X (some (.UnaryOp .USub (.Constant (.int 1) k p1) p2)) (tPart (tUn (rU fun i => .int (-i)) (tC (.int 1)))) := po_some (pe_un un_neg pe_int)
  refine wpAny_Slice (thn (po_none.run pins s1 σ H1 (fun o H2 => o = none ∧ H2 = H1) I1 ⟨rfl, rfl⟩) fun vl s2 ⟨l, H2, I2, pl, el, e2⟩ => ?_)
  subst el e2
  refine thn (po_none.run pins s2 σ H2 (fun o H3 => o = none ∧ H3 = H2) I2 ⟨rfl, rfl⟩) fun vu s3 ⟨u, H3, I3, pu, eu, e3⟩ => ?_
  subst eu e3
  refine thn (hst.run pins s3 σ H3 (fun o H4 => o = some (-1) ∧ H4 = H3) I3 ⟨1, rfl, -1, rfl, rfl, rfl⟩) fun vs s4 ⟨o, H4, I4, ps, eo, e4⟩ => ?_
  subst eo e4
  have I5 : Inv X pins σ H4 { s4 with heap := s4.heap.push { cls := .type "slice", data := .fields #[vl, vu, vs] } } := I4.kept (t' := s4.toks) fun b ob q => Heap.get?_push_of_some _ q
  show wpAny (model X.prog X.w) X.A (subscriptTail e (.Slice none none (some (.UnaryOp .USub (.Constant (.int 1) k p1) p2)) p3) (.ref a) (.ref s4.heap.objs.size)) (EP X pins σ Q) X.xe { s4 with heap := s4.heap.push { cls := .type "slice", data := .fields #[vl, vu, vs] } }
  rcases q with ⟨hx, q⟩ | ⟨hx, q⟩
  · obtain ⟨its, r, ht, hz⟩ := I5.list hx
    have hlen := r.length
    refine tail_any (ops := [.ref a, .ref s4.heap.objs.size]) ht.isList.typeIs (PySem.slot_list_getitem.lookup) ?_ (by with_unfolding_all rfl)
    refine wpAny_getItem_list_slice ht.isList (Heap.IsSliceOf.new _ vl vu vs) pl pu ps (by decide) ?_ (by rw [List.size_toArray]; omega)
    rw [PySem.W.krv_pick]
    refine ⟨.ref _, _, I5.laid (t' := s4.toks) (o := .lst xs.reverse) (fun b ob q => Heap.get?_push_of_some _ q) (Nat.le_refl _) ?_, rfl, q _ (I5.hok.fresh (Nat.le_refl _))⟩
    exact ⟨by rw [List.length_reverse]; exact hz, _, 0, r.reverse, Heap.get?_push_size _ rfl⟩
  · obtain ⟨its, r, ht, hz⟩ := I5.tuple hx
    have hlen := r.length
    refine tail_any (ops := [.ref a, .ref s4.heap.objs.size]) ht.typeIs (PyProof.Rows.slot_tuple_getitem.lookup) ?_ (by with_unfolding_all rfl)
    refine getItem_tuple_rev ht (Heap.IsSliceOf.new _ vl vu vs) pl pu ps ?_ (by omega)
    refine ⟨.ref _, _, I5.laid (t' := s4.toks) (o := .tup xs.reverse) (fun b ob q => Heap.get?_push_of_some _ q) (Nat.le_refl _) ?_, rfl, q _ (I5.hok.fresh (Nat.le_refl _))⟩
    exact ⟨by rw [List.length_reverse]; exact hz, _, r.reverse, IsTup.new _ _⟩
theorem pe_revD {k : Nat} {p1 p2 p3 : Pos} (h1 : PE X a (tOpd X.K W ex G C ea)) : PE X (.Subscript a (.Slice none none (some (.UnaryOp .USub (.Constant (.int 1) k p1) p2)) p3) pos) (tE X.K W ex G C (.op (.prim .rev) (.cons ea .nil))) :=
  pe_weak (pe_revX h1) fun σ H Q q => by
    have t := one (r := fun x H1 Q => ∃ a xs, x = .ref a ∧ ((SqL X.K H1 a xs ∧ ∀ p, H1 p = none → Q (.ref p) (upd H1 p (.lst xs.reverse))) ∨ (SqT X.K H1 a xs ∧ ∀ p, H1 p = none → Q (.ref p) (upd H1 p (.tup xs.reverse))))) (fun x H Z d0 d Q zk ra e q => by
      cases d0 with
      | lst xs =>
        cases e
        obtain ⟨p, ws, rfl, l1, r1⟩ := RepQ.of_lst ra
        exact ⟨p, ws, rfl, .inl ⟨l1, fun p2 n => q _ _ (new_lst zk n r1.rev)⟩⟩
      | fls xs =>
        cases e
        obtain ⟨p, ws, rfl, l1, r1⟩ := RepQ.of_fls ra
        exact ⟨p, ws, rfl, .inl ⟨l1, fun p2 n => q _ _ (new_lst zk n r1.rev)⟩⟩
      | tup xs =>
        cases e
        obtain ⟨p, ws, rfl, l1, r1⟩ := rep_tup ra
        exact ⟨p, ws, rfl, .inr ⟨l1, fun p2 n => q _ _ (new_tup n r1.rev)⟩⟩
      | _ => cases e) q
    exact t
/-! ### isinstance -/
def tyName : D → String
  | .non => "NoneType"
  | .bl _ => "bool"
  | .int _ => "int"
  | .str _ => "str"
  | .tup _ => "tuple"
  | _ => "list"
theorem ty_of {K : PySem.W.Frag} {H : Hp} {Z : Addr → Prop} {x : V} {d : D} (h : RepD K H Z x d) (hn : ∀ lo n, d ≠ .rng lo n) (hn2 : ∀ kvs, d ≠ .dct kvs) (hn3 : ∀ c fs, d ≠ .obj c fs) : TyX K H x (.type (tyName d)) := by
  have ql : ∀ {a : Addr} {vs : List V}, SqL K H a vs → TyX K H (.ref a) (.type "list") := fun {a vs} l => by
    rcases l with (l | ⟨o, l⟩) | ⟨o, its, n, l, c, _⟩
    · exact .base (.lst l)
    · exact .base (.frz l)
    · exact .kList l c
  cases d with
  | non => cases rep_non h; exact .base .non
  | bl b => cases rep_bl h; exact .base (.bl b)
  | int b => cases rep_int h; exact .base (.int b)
  | str b => cases rep_str h; exact .base (.str _)
  | tup xs =>
    obtain ⟨a, vs, rfl, l, r⟩ := rep_tup h
    rcases l with (l | ⟨o, l⟩) | ⟨o, its, n, l, c, _⟩
    · exact .base (.tup l)
    · exact .fTuple l
    · exact .kTuple l c
  | lst xs => obtain ⟨a, vs, rfl, l, r⟩ := RepQ.of_lst h; exact ql l
  | fls xs => obtain ⟨a, vs, rfl, l, r⟩ := RepQ.of_fls h; exact ql l
  | rng lo n => exact absurd rfl (hn lo n)
  | dct kvs => exact absurd rfl (hn2 kvs)
  | obj c fs => exact absurd rfl (hn3 c fs)
  | _ => exact False.elim h
def isaT : Prim → Option String
  | .isTuple => some "tuple"
  | .isInt => some "int"
  | .isBool => some "bool"
  | .isStr => some "str"
  | _ => none
theorem isa_ok {p : Prim} {T : String} {K : PySem.W.Frag} {H : Hp} {Z : Addr → Prop} {x : V} {d d' : D} (hp : isaT p = some T) (h : RepD K H Z x d) (e : primD p [d] = some d') : ∃ k, d' = .bl k ∧ kitB (tyName d) T = some k := by
  cases p <;> cases hp
  all_goals cases d <;> try (cases e; done)
  all_goals (cases e; exact ⟨_, rfl, by dsimp only [tyName]; decide +kernel⟩)
theorem pe_isaD {p : Prim} {T : String} {p1 p2 : Pos} (hp : isaT p = some T) (h1 : PE X a (tOpd X.K W ex G C ea)) (hg : Gl X "isinstance") (hm : X.mg "isinstance" = none) (hg2 : Gl X (Str.ofString T)) (hm2 : X.mg (Str.ofString T) = none) (hs : starEach [a, .Name (Str.ofString T) p2] X.env = [(false, eval a X.env), (false, eval (.Name (Str.ofString T) p2) X.env)]) :
    PE X (.Call (.Name "isinstance" p1) [a, .Name (Str.ofString T) p2] [] pos) (tE X.K W ex G C (.op (.prim p) (.cons ea .nil))) := by
  have hT : bootBuiltins (Str.ofString T) = some (.type T) := by cases p <;> cases hp <;> decide +kernel
  have pT : PE X (.Name (Str.ofString T) p2) (tC (.ty T)) := pe_bltn hg2 hm2 hT rfl (by cases p <;> cases hp <;> decide) (by cases p <;> cases hp <;> decide)
  refine pe_weak (pe_callB call_isi hg hm (by decide +kernel) (pa_cons h1 (pa_cons pT pa_nil) (by rw [hs]; rfl)) (by decide) (by decide) (by rw [hs]; rfl) (by rfl)) fun σ H Q q => ?_
  exact op_use (k := fun vs H1 => match vs with
    | [x] => rIsi X.K [x, .ty T] H1 Q
    | _ => False) q fun vs H1 Z1 ds d zk hl rd e r => by
      match rd with
      | .nil => simp [Es.len] at hl
      | .cons h3 (.cons h4 rd) => simp [Es.len] at hl
      | .cons (v := y) (d := dy) h3 .nil =>
        have hn : ∀ lo n, dy ≠ .rng lo n := fun lo n z => by subst z; cases p <;> cases hp <;> cases e
        have hn2 : ∀ kvs, dy ≠ .dct kvs := fun kvs z => by subst z; cases p <;> cases hp <;> cases e
        have hn3 : ∀ c fs, dy ≠ .obj c fs := fun c fs z => by subst z; cases p <;> cases hp <;> cases e
        obtain ⟨k, rfl, ek⟩ := isa_ok hp h3 e
        exact ⟨y, .ty T, _, _, k, rfl, .ty T, ty_of h3 hn hn2 hn3, kit_ty ek, r _ _ (new_flat (.bl k))⟩
end
end Mi

/-! dicts with whole numbers or texts as keys -/
namespace Mi
open PySem PySem.Spec PyProof.Rows L2
theorem strV_back (s : Str) : strV s.cps.toList = s := by cases s; simp [strV]
theorem keyV_inj : ∀ {k j : Key}, keyV k = keyV j → k = j
  | .inl i, .inl j, h => by cases h; rfl
  | .inr s, .inr t, h => by
    have e : s.cps.toList = t.cps.toList := D.str.inj h
    rw [← strV_back s, ← strV_back t, e]
  | .inl _, .inr _, h => by cases h
  | .inr _, .inl _, h => by cases h
theorem keq_keyV (k j : Key) : keq (keyV k) (keyV j) = decide (k = j) := by
  rw [Bool.eq_iff_iff, decide_eq_true_iff]
  constructor
  · intro h
    cases k with
    | inl i => cases j with
      | inl j => rw [of_decide_eq_true (show decide (i = j) = true from h)]
      | inr t => cases h
    | inr s => cases j with
      | inl j => cases h
      | inr t =>
        have e := of_decide_eq_true (show decide (s.cps.toList = t.cps.toList) = true from h)
        rw [← strV_back s, ← strV_back t, e]
  · rintro rfl
    cases k with
    | inl i => exact decide_eq_true rfl
    | inr s => exact decide_eq_true rfl
theorem keyOk_keyV {d : D} (h : keyOk d = true) : ∃ k, d = keyV k := by
  cases d with
  | int i => exact ⟨.inl i, rfl⟩
  | str s => exact ⟨.inr (strV s), by show _ = D.str s.toArray.toList; simp⟩
  | _ => cases h
section
variable {K : PySem.W.Frag} {H : Hp} {Z : Addr → Prop}
theorem rep_key {x : V} {k : Key} (h : RepD K H Z x (keyV k)) : x = kV k := by
  cases k with
  | inl i => exact rep_int h
  | inr s => rw [rep_str (show RepD K H Z x (.str s.cps.toList) from h), strV_back]; rfl
theorem keyOk_flat {d : D} (h : keyOk d = true) : d.flat = true := by cases d <;> first | rfl | cases h
theorem Kvs.length : ∀ {kv : List (Key × V)} {kvs : List (D × D)}, Kvs K H Z kv kvs → kv.length = kvs.length
  | _, _, .nil => rfl
  | _, _, .cons _ r => by rw [List.length_cons, List.length_cons, r.length]
theorem dget_cons {p : D × D} {kvs : List (D × D)} {k : D} : dgetD (p :: kvs) k = if keq p.1 k = true then some p.2 else dgetD kvs k := by
  unfold dgetD
  rw [List.find?_cons]
  cases keq p.1 k <;> rfl
theorem Kvs.get (k : Key) : ∀ {kv : List (Key × V)} {kvs : List (D × D)}, Kvs K H Z kv kvs → (dgetD kvs (keyV k) = none → valV kv k = none) ∧ ∀ d, dgetD kvs (keyV k) = some d → ∃ v, valV kv k = some v ∧ Rp K H Z v d
  | _, _, .nil => ⟨fun _ => rfl, fun d h => (by cases h)⟩
  | _, _, .cons (k := j) h r => by
    obtain ⟨h1, h2⟩ := Kvs.get k r
    rw [dget_cons, keq_keyV]
    by_cases e : j = k
    · subst e
      rw [if_pos (decide_eq_true rfl), valV_pos rfl]
      exact ⟨fun z => (nomatch z), fun d z => (by cases z; exact ⟨_, rfl, h⟩)⟩
    · rw [if_neg (by rw [decide_eq_false e]; exact Bool.false_ne_true), valV_neg e]
      exact ⟨h1, h2⟩
theorem Kvs.any (k : Key) : ∀ {kv : List (Key × V)} {kvs : List (D × D)}, Kvs K H Z kv kvs → (kvs.any fun p => keq p.1 (keyV k)) = kv.any fun p => decide (p.1 = k)
  | _, _, .nil => rfl
  | _, _, .cons (k := j) h r => by
    rw [List.any_cons, List.any_cons, r.any k]
    dsimp only
    rw [keq_keyV]
theorem Kvs.app {v : V} {d : D} (k : Key) (h : Rp K H Z v d) : ∀ {kv : List (Key × V)} {kvs : List (D × D)}, Kvs K H Z kv kvs → Kvs K H Z (kv ++ [(k, v)]) (kvs ++ [(keyV k, d)])
  | _, _, .nil => .cons h .nil
  | _, _, .cons a r => .cons a (r.app k h)
theorem Kvs.map {v : V} {d : D} (k : Key) (h : Rp K H Z v d) : ∀ {kv : List (Key × V)} {kvs : List (D × D)}, Kvs K H Z kv kvs → Kvs K H Z (kv.map fun p => if p.1 = k then (p.1, v) else p) (kvs.map fun p => if keq p.1 (keyV k) = true then (p.1, d) else p)
  | _, _, .nil => .nil
  | _, _, .cons (k := j) a r => by
    rw [List.map_cons, List.map_cons]
    dsimp only
    rw [keq_keyV]
    by_cases e : j = k
    · rw [if_pos e, if_pos (decide_eq_true e)]
      exact .cons h (r.map k h)
    · rw [if_neg e, if_neg (by rw [decide_eq_false e]; exact Bool.false_ne_true)]
      exact .cons a (r.map k h)
theorem Kvs.put {v : V} {d : D} {k : Key} (h : Rp K H Z v d) {kv : List (Key × V)} {kvs : List (D × D)} (r : Kvs K H Z kv kvs) : Kvs K H Z (putK kv k v) (dputD kvs (keyV k) d) := by
  unfold putK dputD
  rw [r.any k]
  by_cases e : (kv.any fun p => decide (p.1 = k)) = true
  · rw [if_pos e, if_pos e]; exact r.map k h
  · rw [if_neg e, if_neg e]; exact r.app k h
theorem Kvs.keys : ∀ {kv : List (Key × V)} {kvs : List (D × D)}, Kvs K H Z kv kvs → kvs.map (·.1) = kv.map fun p => keyV p.1
  | _, _, .nil => rfl
  | _, _, .cons _ r => by rw [List.map_cons, List.map_cons, r.keys]
end
section
variable {X : Cx} {W : WX} {ex : Nat → Addr} {G : List Fn} {C : List D}
def DopOk (K : PySem.W.Frag) (q : Dq) (r : V → V → V → Hp → VK → Prop) : Prop := ∀ (a : Addr) (kv : List (Key × V)) (kvs : List (D × D)) (k : Key) (y : V) (H : Hp) (Z : Addr → Prop) (d d' : D) (Q : VK), H a = some (.dK kv) → Kvs K H Z kv kvs → Rp K H Z y d → dopD q kvs (keyV k) d = some d' → (∀ w H', New K H Z w d' H' → Q w H') → r (.ref a) (kV k) y H Q
theorem dop_use {q : Dq} {r : V → V → V → Hp → VK → Prop} (ok : DopOk X.K q r) {i : Nat} {k v : E} {σ : L2.St} {H : Hp} {Q : VK} (h : tE X.K W ex G C (.dop q i k v) σ H Q) :
    ∃ a, σ[i]? = some (some (.ref a)) ∧ IsD H a ∧ tE X.K W ex G C k σ H fun x H1 => tE X.K W ex G C v σ H1 fun y H2 => r (.ref a) x y H2 Q := by
  obtain ⟨Z, ρ, s, h⟩ := h
  rw [evalE] at h
  cases e0 : ρ[i]? with
  | none => rw [e0] at h; exact h.elim
  | some o =>
  cases o with
  | none => rw [e0] at h; exact h.elim
  | some d0 =>
  rw [e0] at h
  cases d0 with
  | dct kvs0 =>
    dsimp only at h
    obtain ⟨w, ew, a, kv0, rfl, nz, ha, _⟩ := s.rep i _ e0
    refine ⟨a, ew, .inl ⟨kv0, .inl ha⟩, Z, ρ, s, ?_⟩
    cases r1 : evalE G C k ρ with
    | exc c ρ1 => rw [r1] at h; exact h
    | stk => rw [r1] at h; exact h.elim
    | ok kd ρ1 =>
      rw [r1] at h
      dsimp only at h
      intro x H1 Z1 st1 fr1
      refine ⟨Z1, ρ1, st1.sat, ?_⟩
      cases r2 : evalE G C v ρ1 with
      | exc c ρ2 => rw [r2] at h; exact fun H2 Z2 st2 => h H2 Z2 (st1.trans st2)
      | stk => rw [r2] at h; exact h.elim
      | ok d ρ2 =>
        rw [r2] at h
        dsimp only at h
        intro y H2 Z2 st2 fr2
        cases e2 : ρ2[i]? with
        | none => rw [e2] at h; exact h.elim
        | some o =>
        cases o with
        | none => rw [e2] at h; exact h.elim
        | some d2 =>
        rw [e2] at h
        cases d2 with
        | dct kvs =>
          dsimp only at h
          by_cases hz : keyOk kd = true ∧ d.flat = true
          · rw [if_pos hz] at h
            obtain ⟨w', ew', a', kv, ea, nz', ha', rk⟩ := st2.sat.rep i _ e2
            rw [ew] at ew'; cases ew'
            cases ea
            obtain ⟨kk, ek⟩ := keyOk_keyV hz.1
            subst ek
            have hx : x = kV kk := rep_key fr1.1
            subst hx
            cases e3 : dopD q kvs (keyV kk) d with
            | none => rw [e3] at h; exact h.elim
            | some d' =>
              rw [e3] at h
              dsimp only at h
              refine ok a kv kvs kk y H2 Z2 d d' Q ha' rk (fr2.1.rp hz.2) e3 fun w H' n => ?_
              obtain ⟨s3, fr3⟩ := New.step st2.sat n
              exact h w H' Z2 ((st1.trans st2).trans s3) (fr3.imp (st1.trans st2).trk)
          · rw [if_neg hz] at h; exact h.elim
        | _ => exact h.elim
  | _ => exact h.elim
theorem dop_get : DopOk X.K .get (fun x k y H Q => ∃ a v, x = .ref a ∧ DGet H a k (some v) ∧ Q v H) := by
  intro a kv kvs k y H Z d d' Q ha r ry e q
  obtain ⟨v, hv, rv⟩ := (r.get k).2 d' e
  exact ⟨a, v, rfl, by rw [← hv]; exact DGet.k ha, q _ _ (new_flat rv)⟩
theorem dop_gtd : DopOk X.K .gtd (fun x k y H Q => ∃ a, x = .ref a ∧ ∃ o, DGet H a k o ∧ Q (o.getD y) H) := by
  intro a kv kvs k y H Z d d' Q ha r ry e q
  cases e
  refine ⟨a, rfl, _, DGet.k ha, ?_⟩
  cases hg : dgetD kvs (keyV k) with
  | none =>
    rw [(r.get k).1 hg]
    rw [hg] at q
    exact q _ _ (new_flat ry)
  | some d1 =>
    obtain ⟨v, hv, rv⟩ := (r.get k).2 d1 hg
    rw [hv]
    rw [hg] at q
    exact q _ _ (new_flat rv)
theorem isSome_get {K : PySem.W.Frag} {H : Hp} {Z : Addr → Prop} {kv : List (Key × V)} {kvs : List (D × D)} (r : Kvs K H Z kv kvs) (k : Key) : (valV kv k).isSome = (dgetD kvs (keyV k)).isSome := by
  cases hg : dgetD kvs (keyV k) with
  | none => rw [(r.get k).1 hg]; rfl
  | some d1 => obtain ⟨v, hv, _⟩ := (r.get k).2 d1 hg; rw [hv]; rfl
theorem dop_isin : DopOk X.K .isin (fun x k y H Q => ∃ a o, x = .ref a ∧ DGet H a k o ∧ Q (.bl o.isSome) H) := by
  intro a kv kvs k y H Z d d' Q ha r ry e q
  cases e
  exact ⟨a, _, rfl, DGet.k ha, by rw [isSome_get r]; exact q _ _ (new_flat (.bl _))⟩
theorem dop_notin : DopOk X.K .notin (fun x k y H Q => ∃ a o, x = .ref a ∧ DGet H a k o ∧ Q (.bl (!o.isSome)) H) := by
  intro a kv kvs k y H Z d d' Q ha r ry e q
  cases e
  exact ⟨a, _, rfl, DGet.k ha, by rw [isSome_get r]; exact q _ _ (new_flat (.bl _))⟩
theorem tE_non {σ : L2.St} {H : Hp} {Q : VK} (h : tE X.K W ex G C .non σ H Q) : Q .non H := by
  obtain ⟨Z, ρ, s, q⟩ := h
  have e : evalE G C .non ρ = .ok .non ρ := by rw [evalE]
  rw [e] at q
  exact q .non H Z (Step.refl s) ⟨.of .non, fun f => by cases f⟩
theorem dnew_use {σ : L2.St} {H : Hp} {Q : VK} (h : tE X.K W ex G C (.op .dnew .nil) σ H Q) : tDNewK σ H Q := by
  intro p hp
  obtain ⟨Z, ρ, s, q⟩ := h
  have e : evalE G C (.op .dnew .nil) ρ = .ok (.dct []) ρ := by rw [evalE, evalL]; rfl
  rw [e] at q
  have n : New X.K H Z (.ref p) (.dct []) (upd H p (.dK [])) := .inr (.inl ⟨p, _, hp, rfl, rfl, p, [], rfl, fun z => s.zok p z hp, upd_same, .nil⟩)
  obtain ⟨s2, fr⟩ := New.step s n
  exact q _ _ Z s2 fr
theorem dct_arg {o : Op} {vs : List V} {H : Hp} {Z : Addr → Prop} {ds : List D} {d : D} (ho : o = .dlen ∨ o = .dsrt) (rd : Rds X.K H Z vs ds) (e : opD o ds = some d) : ∃ kvs a kv, ds = [.dct kvs] ∧ vs = [.ref a] ∧ ¬ Z a ∧ H a = some (.dK kv) ∧ Kvs X.K H Z kv kvs := by
  cases ds with
  | nil => rcases ho with rfl | rfl <;> cases e
  | cons d1 ds =>
    cases ds with
    | cons d2 ds => rcases ho with rfl | rfl <;> cases d1 <;> cases e
    | nil =>
      obtain ⟨v, rfl, r⟩ := one_arg rd
      cases d1 with
      | dct kvs =>
        obtain ⟨a, kv, rfl, nz, ha, rk⟩ := r
        exact ⟨kvs, a, kv, rfl, rfl, nz, ha, rk⟩
      | _ => rcases ho with rfl | rfl <;> cases e
theorem dlen_use {es : Es} {σ : L2.St} {H : Hp} {Q : VK} (h : tE X.K W ex G C (.op .dlen es) σ H Q) : tCB (fun xs H Q => ∃ a kvs, xs = [V.ref a] ∧ H a = some (.dK kvs) ∧ Q (.int kvs.length) H) (tPA X.K W ex G C es) σ H Q :=
  op_use (k := fun vs H1 => ∃ a kvs, vs = [V.ref a] ∧ H1 a = some (.dK kvs) ∧ Q (.int kvs.length) H1) h fun vs H1 Z1 ds d zk hl rd e q => by
    obtain ⟨kvs, a, kv, rfl, rfl, nz, ha, rk⟩ := dct_arg (.inl rfl) rd e
    cases e
    exact ⟨a, kv, rfl, ha, by rw [rk.length]; exact q _ _ (new_flat (.int _))⟩
theorem rising_pair : ∀ (l : List Str) (p : Str), risingS p l = true → ((p :: l).map fun z => z.cps.toList).Pairwise (· ≤ ·)
  | [], p, _ => List.pairwise_singleton _ _
  | x :: l, p, h => by
    have h : (!PySem.Spec.ltCps x.cps.toList p.cps.toList && risingS x l) = true := h
    rw [Bool.and_eq_true, Bool.not_eq_true', ltCps_eq, decide_eq_false_iff_not] at h
    have ih := rising_pair l x h.2
    rw [List.map_cons]
    refine List.pairwise_cons.mpr ⟨fun y hy => ?_, ih⟩
    have hpx : p.cps.toList ≤ x.cps.toList := List.not_lt.mp h.1
    rw [List.map_cons] at hy ih
    rcases List.mem_cons.mp hy with rfl | hy
    · exact hpx
    · exact List.le_trans hpx ((List.pairwise_cons.mp ih).1 y hy)
theorem sortedS_pair : ∀ l : List Str, sortedS l = true → (l.map fun z => z.cps.toList).Pairwise (· ≤ ·)
  | [], _ => List.Pairwise.nil
  | x :: l, h => rising_pair l x h
theorem keys_strs : ∀ {kv : List (Key × V)} {ss : List (List Nat)}, strs? (kv.map fun p => keyV p.1) = some ss → kv.map (·.1) = (ss.map strV).map Sum.inr
  | [], ss, h => by cases h; rfl
  | (k, v) :: r, ss, h => by
    cases k with
    | inl i => cases h
    | inr s =>
      have h : (match strs? (r.map fun p => keyV p.1) with | some ys => some (s.cps.toList :: ys) | none => none) = some ss := by
        rw [← h]
        show _ = strs? (D.str s.cps.toList :: r.map fun p => keyV p.1)
        generalize r.map (fun p => keyV p.1) = l
        conv => rhs; unfold strs?
        first
          | done
          | (cases strs? l <;> rfl)
      cases e : strs? (r.map fun p => keyV p.1) with
      | none => rw [e] at h; cases h
      | some ys =>
        rw [e] at h
        cases h
        rw [List.map_cons, List.map_cons, List.map_cons, keys_strs e, strV_back]
def rDsrt : List V → Hp → VK → Prop := fun xs H Q => ∃ (a : Addr) (kvs : List (Key × V)) (ks : List Str), xs = [.ref a] ∧ Rd H a (.dK kvs) ∧ kvs.map (·.1) = ks.map Sum.inr ∧ ks.length < 65536 ∧
    ∀ (ys : List Str) (p : Addr), ys.Perm ks → (ys.map fun z => z.cps.toList).Pairwise (· ≤ ·) → H p = none → Q (.ref p) (upd H p (.lst (ys.map V.str)))
theorem call_sortedDG (hcalm : X.calm = true) : CallR X (.builtin "sorted") rDsrt := by
  intro pins s σ H xs us Q I r q
  obtain ⟨a, kvs, ks, ex, hd, hks, h64, q⟩ := q
  subst ex
  obtain ⟨u, eu, rx⟩ := vals1 r
  subst eu
  cases rx
  obtain ⟨z, lo, vs, rel, dd⟩ := dk_rd I.hok hd
  obtain ⟨ep, hat⟩ := dd.dictAt
  have hkeys : vs.map (·.1) = ks.map Sum.inr := rel.keys.symm.trans hks
  have hl : vs.length = ks.length := by
    have e := congrArg List.length hkeys
    rw [List.length_map, List.length_map] at e
    exact e
  have h16 : vs.length ≤ sizeLine := by rw [hl, sizeLine_eq]; omega
  refine Calls.call_function_entry PyProof.Rows.kind_sorted PyProof.Rows.plain_sorted PyProof.Rows.entry_sorted (PyProof.Rows.args_sorted1 _) ?_
  unfold Builtin.«sorted»
  refine wpAny_bind (m := checkCount "sorted" 1 1 _) (wpAny_pure ?_)
  refine wpAny_bind (PySem.W.kdu_collect (A := X.A.in1) (PySem.W.kdl_dict (knd := mixKind X.prog X.w) (kvs := vs) (ep := ep) lo) (I.ok.hd hcalm) hat h16 fun h' tk acc hk hacc => ?_)
  have hal : acc.toList.length = ks.length := by rw [Array.length_toList, hacc.1, hl]
  have hS : StrsAre acc.toList ks := strs_at hal fun j v e => by
    obtain ⟨k, x, e1, e2⟩ := hacc.2 j v (by rw [← Array.getElem?_toList]; exact e)
    have e3 : (vs.map (·.1))[j]? = some k := by rw [List.getElem?_map, e1]; all_goals rfl
    rw [hkeys, List.getElem?_map] at e3
    cases e4 : ks[j]? with
    | none => rw [e4] at e3; cases e3
    | some y =>
      rw [e4] at e3
      have e5 : Sum.inr y = k := Option.some.inj e3
      subst e5
      obtain ⟨t, ev⟩ := Value.isStrOf_shape (x := y) (v := v) e2
      exact ⟨y, t, rfl, ev⟩
  have I1 : Inv X pins σ H { s with heap := h', toks := tk } := I.kept hk
  refine wpAny_bind (wpAny_newList ?_ (by rw [hal, sizeLine_eq]; omega))
  have hoL : (h'.push (seqObj "list" acc.toList.toArray 0)).get? h'.objs.size = some (seqObj "list" acc.toList.toArray 0) := Heap.get?_push_size _ rfl
  show wpAny _ _ _ _ _ { s with heap := h'.push (seqObj "list" acc.toList.toArray 0), toks := tk }
  refine wpAny_bind (wpAny_holding (wpAny_call_entry PyProof.Rows.slot_list_sort ⟨_, hoL, rfl⟩ PyProof.Rows.entry_list_sort
    (SrtO.list_sort_ord (s := { s with heap := h'.push (seqObj "list" acc.toList.toArray 0), toks := tk }) SrtO.swo_str hoL (by rw [hal, sizeLine_eq]; omega) (fun h2 => SrtO.strs_sortable hS h2) fun out h1 h2 => ⟨_, rfl, ?_⟩)
    (PyProof.Rows.args_list_sort _)))
  obtain ⟨g1, g2, g3⟩ := SrtO.strs_out hS h1 h2
  obtain ⟨e', he'⟩ := PyProof.Rows.sortedHeap_at (vs := acc.toList) (out := out.toArray) hoL
  have hlen : ((out.map SrtO.sv).map V.str).length ≤ sizeLine := by
    rw [List.length_map, g2.length_eq, sizeLine_eq]
    omega
  refine wpAny_pure ⟨_, rfl, .ref h'.objs.size, upd H h'.objs.size (.lst ((out.map SrtO.sv).map V.str)), I1.laid (t' := tk) (fun b u e => ?_) (Nat.le_refl _)
    (show ObjOk X.prog X.w _ _ _ (.lst ((out.map SrtO.sv).map V.str)) from ⟨hlen, out, e', vals_of_strs g1, he'⟩), rfl, q _ _ g2 g3 (I1.hok.fresh (Nat.le_refl _))⟩
  have hb : b < h'.objs.size := Heap.lt_size e
  rw [PyProof.Rows.sortedHeap_old (Nat.ne_of_lt hb) (by rw [size_push']; exact Nat.lt_succ_of_lt hb)]
  exact Heap.get?_push_of_some _ e
theorem dsrt_use {es : Es} {σ : L2.St} {H : Hp} {Q : VK} (h : tE X.K W ex G C (.op .dsrt es) σ H Q) : tCB rDsrt (tPA X.K W ex G C es) σ H Q :=
  op_use (k := fun vs H1 => rDsrt vs H1 Q) h fun vs H1 Z1 ds d zk hl rd e q => by
    obtain ⟨kvs, a, kv, rfl, rfl, nz, ha, rk⟩ := dct_arg (.inr rfl) rd e
    have e : dsrtD kvs = some d := e
    unfold dsrtD at e
    rw [rk.keys] at e
    cases e1 : strs? (kv.map fun p => keyV p.1) with
    | none => rw [e1] at e; cases e
    | some ss =>
      rw [e1] at e
      dsimp only at e
      by_cases hz : ss.length < 65536
      · rw [if_pos hz] at e
        cases e
        refine ⟨a, kv, ss.map strV, rfl, .inl ha, keys_strs e1, by rw [List.length_map]; exact hz, fun ys p pm so hp => ?_⟩
        have pm2 := pm.map fun z : Str => z.cps.toList
        have e3 : (ss.map strV).map (fun z : Str => z.cps.toList) = ss := by
          rw [List.map_map]
          exact (List.map_congr_left fun x _ => by show x.toArray.toList = x; simp).trans (List.map_id' ss)
        rw [e3] at pm2
        have e4 := sortS_one pm2 so
        have e5 : ys = ((ys.map fun z : Str => z.cps.toList).map strV) := by
          rw [List.map_map]
          exact ((List.map_congr_left fun x _ => strV_back x).trans (List.map_id' ys)).symm
        refine q _ _ ?_
        rw [← e4, e5]
        have e6 : ((ys.map fun z : Str => z.cps.toList).map strV).map (fun z : Str => z.cps.toList) = ys.map fun z : Str => z.cps.toList := by rw [← e5]
        rw [e6]
        exact new_lst zk hp (Rps.of_strs _)
      · rw [if_neg hz] at e; cases e
theorem tE_mono {e : E} {σ : L2.St} {H : Hp} {Q Q' : VK} (h : tE X.K W ex G C e σ H Q) (w : ∀ v H', Q v H' → Q' v H') : tE X.K W ex G C e σ H Q' := by
  obtain ⟨Z, ρ, s, q⟩ := h
  refine ⟨Z, ρ, s, ?_⟩
  cases r : evalE G C e ρ with
  | ok d ρ1 => rw [r] at q; exact fun v H' Z' st fr => w _ _ (q v H' Z' st fr)
  | exc c ρ1 => rw [r] at q; exact q
  | stk => rw [r] at q; exact q
end
end Mi

/-! what a for walks; comprehensions -/
namespace Mi
open PySem PySem.Spec PyProof.Rows L2
/-- J walks the value v, of data d -/
def JOf (K : PySem.W.Frag) (v : V) (d : D) (J : It) : Prop := match d with
  | .lst _ => ∃ a, v = .ref a ∧ J = Itl K a
  | .fls _ => ∃ a, v = .ref a ∧ J = Itl K a
  | .tup _ => ∃ a, v = .ref a ∧ J = Itt K a
  | .str s => J = Its (strV s)
  | .rng lo n => J = Itr lo n
  | .rdn lo n => J = Itc lo (-1) n
  | _ => False
def Acc (K : PySem.W.Frag) (H : Hp) (Z : Addr → Prop) (v : V) (d : D) (J : It) : Prop := JOf K v d J ∧ (((∃ lo n, d = .rng lo n) ∨ ∃ lo n, d = .rdn lo n) ∨ RepD K H Z v d)
section
variable {X : Cx} {W : WX} {ex : Nat → Addr} {G : List Fn} {C : List D} {K : PySem.W.Frag} {H H' H0 : Hp} {Z Z' : Addr → Prop} {v : V} {d : D} {J : It} {xs : List D} {i : Nat}
theorem acc_go (h : Acc K H Z v d J) (hx : d.items? = some xs) (hi : i < xs.length) : J.go i H ∧ ∀ x H', J.yld i H x H' → H' = H ∧ ∃ y, xs[i]? = some y ∧ Rp K H Z x y := by
  obtain ⟨hj, hr⟩ := h
  have lists : ∀ (a : Addr) (ys : List D), J = Itl K a → RepQ K H Z (.ref a) ys → ys = xs → J.go i H ∧ ∀ x H', J.yld i H x H' → H' = H ∧ ∃ y, xs[i]? = some y ∧ Rp K H Z x y := by
    rintro a ys rfl ⟨b, vs, e, l, r⟩ rfl
    cases e
    have hv : i < vs.length := by rw [r.length]; exact hi
    refine ⟨⟨vs, vs[i], l, List.getElem?_eq_getElem hv⟩, fun x H' y => ⟨y.1, ?_⟩⟩
    exact r.get (y.2 vs l)
  cases d with
  | lst ys =>
    obtain ⟨a, rfl, rfl⟩ := hj
    rcases hr with (⟨_, _, z⟩ | ⟨_, _, z⟩) | hr
    · cases z
    · cases z
    · cases hx; exact lists a _ rfl (RepQ.of_lst hr) rfl
  | fls ys =>
    obtain ⟨a, rfl, rfl⟩ := hj
    rcases hr with (⟨_, _, z⟩ | ⟨_, _, z⟩) | hr
    · cases z
    · cases z
    · cases hx; exact lists a _ rfl (RepQ.of_fls hr) rfl
  | tup ys =>
    obtain ⟨a, rfl, rfl⟩ := hj
    rcases hr with (⟨_, _, z⟩ | ⟨_, _, z⟩) | hr
    · cases z
    · cases z
    · cases hx
      obtain ⟨b, vs, e, l, r⟩ := rep_tup hr
      cases e
      have hv : i < vs.length := by rw [r.length]; exact hi
      refine ⟨⟨vs, vs[i], l, List.getElem?_eq_getElem hv⟩, fun x H' y => ⟨y.1, ?_⟩⟩
      exact r.get (y.2 vs l)
  | str s =>
    cases hj
    cases hx
    rw [List.length_map] at hi
    refine ⟨by show i < s.toArray.size; simpa using hi, fun x H' y => ?_⟩
    obtain ⟨rfl, c, hc, rfl⟩ := y
    have hc' : s[i]? = some c := by
      have e : s.toArray[i]? = some c := hc
      simpa using e
    exact ⟨rfl, .str [c], by rw [List.getElem?_map, hc']; rfl, .str [c]⟩
  | rng lo n =>
    cases hj
    cases hx
    rw [List.length_map, List.length_range] at hi
    refine ⟨hi, fun x H' y => ?_⟩
    obtain ⟨rfl, rfl⟩ := y
    exact ⟨rfl, .int (lo + (i : Nat)), by rw [List.getElem?_map, List.getElem?_range hi]; rfl, .int _⟩
  | rdn lo n =>
    cases hj
    cases hx
    rw [List.length_map, List.length_range] at hi
    refine ⟨hi, fun x H' y => ?_⟩
    obtain ⟨rfl, rfl⟩ := y
    refine ⟨rfl, .int (lo - (i : Nat)), by rw [List.getElem?_map, List.getElem?_range hi]; rfl, ?_⟩
    rw [show lo + (i : Nat) * (-1) = lo - (i : Nat) by omega]
    exact .int _
  | _ => exact hj.elim
theorem acc_stop (h : Acc K H Z v d J) (hx : d.items? = some xs) (hi : xs.length ≤ i) : J.stop i H := by
  obtain ⟨hj, hr⟩ := h
  cases d with
  | lst ys =>
    obtain ⟨a, rfl, rfl⟩ := hj
    rcases hr with (⟨_, _, z⟩ | ⟨_, _, z⟩) | hr
    · cases z
    · cases z
    · cases hx
      obtain ⟨b, vs, e, l, r⟩ := RepQ.of_lst hr
      cases e
      exact ⟨vs, l, by rw [r.length]; exact hi⟩
  | fls ys =>
    obtain ⟨a, rfl, rfl⟩ := hj
    rcases hr with (⟨_, _, z⟩ | ⟨_, _, z⟩) | hr
    · cases z
    · cases z
    · cases hx
      obtain ⟨b, vs, e, l, r⟩ := RepQ.of_fls hr
      cases e
      exact ⟨vs, l, by rw [r.length]; exact hi⟩
  | tup ys =>
    obtain ⟨a, rfl, rfl⟩ := hj
    rcases hr with (⟨_, _, z⟩ | ⟨_, _, z⟩) | hr
    · cases z
    · cases z
    · cases hx
      obtain ⟨b, vs, e, l, r⟩ := rep_tup hr
      cases e
      exact ⟨vs, l, by rw [r.length]; exact hi⟩
  | str s =>
    cases hj
    cases hx
    rw [List.length_map] at hi
    show s.toArray.size ≤ i
    simpa using hi
  | rng lo n =>
    cases hj
    cases hx
    rw [List.length_map, List.length_range] at hi
    exact hi
  | rdn lo n =>
    cases hj
    cases hx
    rw [List.length_map, List.length_range] at hi
    exact hi
  | _ => exact hj.elim
/-- what is walked still stands: looked up at its name, or a value of its own -/
inductive Root (K : PySem.W.Frag) (H0 H : Hp) (Z : Addr → Prop) (σ : L2.St) (ρ : Mi.Env) (v : V) (d : D) : Es → Prop
  | name {i : Nat} {es : Es} : σ[i]? = some (some v) → Root K H0 H Z σ ρ v d (.cons (.var i) es)
  | own {e : E} {es : Es} : e.isVar = false → (((∃ lo n, d = .rng lo n) ∨ ∃ lo n, d = .rdn lo n) ∨ Free K H0 H Z σ ρ v d) → Root K H0 H Z σ ρ v d (.cons e es)
theorem Root.step {σ σ' : L2.St} {ρ ρ' : Mi.Env} {it : Es} (s : Sat K H Z σ ρ) (p : Step K σ H Z ρ σ' H' Z' ρ') (hk : ∀ i ∈ itRoot it, σ'[i]? = σ[i]?) (r : Root K H0 H Z σ ρ v d it) : Root K H0 H' Z' σ' ρ' v d it := by
  cases r with
  | name e => exact .name ((hk _ (by simp [itRoot])).trans e)
  | own hv f =>
    refine .own hv ?_
    rcases f with f | f
    · exact .inl f
    · exact .inr (Free.step s p f)
theorem Root.acc {σ : L2.St} {ρ : Mi.Env} {it : Es} (s : Sat K H Z σ ρ) (r : Root K H0 H Z σ ρ v d it) (st : still it d ρ) (hj : JOf K v d J) : Acc K H Z v d J := by
  refine ⟨hj, ?_⟩
  cases r with
  | name e =>
    obtain ⟨w, ew, rd⟩ := s.rep _ _ st
    rw [e] at ew; cases ew
    exact .inr rd
  | own hv f =>
    rcases f with f | f
    · exact .inl f
    · exact .inr f.1
def PostI (K : PySem.W.Frag) (W : WX) (ex : Nat → Addr) (σ : L2.St) (H : Hp) (Z : Addr → Prop) (ρ : Mi.Env) (it : Es) (r : R (List D)) (R' : It → Hp → Prop) : Prop := match r with
  | .ok [d] ρ' => d.items? ≠ none ∧ ∀ v J H' Z', Step K σ H Z ρ σ H' Z' ρ' → Root K H H' Z' σ ρ' v d it → JOf K v d J → R' J H'
  | .ok _ _ => False
  | .exc c ρ' => ∀ H' Z', Step K σ H Z ρ σ H' Z' ρ' → W (.ref (ex c)) none σ H'
  | .stk => False
def tI (K : PySem.W.Frag) (W : WX) (ex : Nat → Addr) (G : List Fn) (C : List D) (it : Es) : TI := fun σ H R' => ∃ Z ρ, Sat K H Z σ ρ ∧ PostI K W ex σ H Z ρ it (evalL G C it ρ) R'
theorem pi_weak {tg e : Expr} {t t' : TI} (h : PI X tg e t) (w : ∀ σ H R', t' σ H R' → t σ H R') : PI X tg e t' := ⟨fun pins s σ H R' I q => h.run pins s σ H R' I (w σ H R' q)⟩
theorem pi_or {tg e : Expr} {t t' : TI} (h : PI X tg e t) (h' : PI X tg e t') : PI X tg e (fun σ H R' => t σ H R' ∨ t' σ H R') :=
  ⟨fun pins s σ H R' I q => q.elim (h.run pins s σ H R' I) (h'.run pins s σ H R' I)⟩
variable {a b tg : Expr} {ea eb : E} {pos p : Pos}
theorem opd_one {σ : L2.St} {Q : VK} {ρ : Mi.Env} (s : Sat K H Z σ ρ)
    (h : PostL K W ex σ H Z ρ (.cons ea .nil) (evalL G C (.cons ea .nil) ρ) fun vs H2 => match vs with
      | [y] => Q y H2
      | _ => False) : tOpd K W ex G C ea σ H Q :=
  tPA_of (.cons ea .nil) σ H Z ρ (fun vs H2 => match vs with
    | [y] => Q y H2
    | _ => False) s h
theorem lres_one {σ : L2.St} {ρ : Mi.Env} {vs : List V} (s : Sat K H Z σ ρ) (h : LRes K H0 H Z σ ρ (.cons ea .nil) vs [d]) : ∃ v, vs = [v] ∧ Root K H0 H Z σ ρ v d (.cons ea .nil) ∧ RepD K H Z v d := by
  have rd := h.rds s
  cases h with
  | var e1 e2 r =>
    cases r
    obtain ⟨v, ev, r⟩ := one_arg rd
    cases ev
    exact ⟨_, rfl, .name e1, r⟩
  | val hv f ap r =>
    cases r
    obtain ⟨v, ev, r⟩ := one_arg rd
    cases ev
    exact ⟨_, rfl, .own hv (.inr f), r⟩
/-- a range that a name holds, walked -/
theorem pi_rngv {e : Expr} {te : TE} (h : PE X e te) : PI X tg e (fun σ H R => te σ H fun x H1 => ∃ (a : Addr) (lo hi : Int), x = .ref a ∧ H1 a = some (.rng lo hi) ∧ (-(2 ^ 62) ≤ lo ∧ lo < 2 ^ 62 ∧ -(2 ^ 62) ≤ hi ∧ hi < 2 ^ 62) ∧ R (Itr lo (hi - lo).toNat) H1) := by
  refine ⟨fun pins s σ H R I q => ?_⟩
  refine thn (h.run pins s σ H _ I q) fun v s1 ⟨x, H1, I1, r1, q1⟩ => ?_
  obtain ⟨a, lo, hi, e, ho, ⟨h1, h2, h3, h4⟩, q⟩ := q1
  subst e
  cases r1
  obtain ⟨t, u, w, ho'⟩ := I1.hok a _ ho
  refine wpAny_pyIter_range (r := a) ho' (small_one h1 h2 h3 h4) ?_
  refine ⟨s1.heap.objs.size, [s1.heap.objs.size], _, _, H1, rfl, I1.kept (t' := s1.toks) fun b o e => Heap.get?_push_of_some _ e, turn_range _ lo (hi - lo).toNat, ?_, fun b hb => ?_, q⟩
  · have e1 : lo + ((0 : Nat) : Int) * 1 = lo := by simp
    have e2 : (((hi - lo).toNat : Nat) : Int) - ((0 : Nat) : Int) = Builtin.Range.rangeSize lo hi 1 := by rw [rangeSize_one]; split <;> omega
    show IsRangeIter _ _ (lo + ((0 : Nat) : Int) * 1) ((((hi - lo).toNat : Nat) : Int) - ((0 : Nat) : Int)) 1
    rw [e1, e2]
    exact Heap.get?_push_size _ rfl
  · have e : b = s1.heap.objs.size := by simpa using hb
    subst e
    exact I1.fpOk (Nat.le_refl _) (I1.hok.fresh (Nat.le_refl _))
theorem pi_exprD (h : PE X a (tOpd X.K W ex G C ea)) : PI X tg a (tI X.K W ex G C (.cons ea .nil)) := by
  refine pi_weak (pi_or (pi_list h) (pi_or (pi_tup h) (pi_or (pi_str h) (pi_rngv h)))) fun σ H R' q => ?_
  obtain ⟨Z, ρ, s, q⟩ := q
  cases r : evalL G C (.cons ea .nil) ρ with
  | exc c ρ1 =>
    rw [r] at q
    refine .inl (opd_one s ?_)
    rw [r]
    exact q
  | stk => rw [r] at q; exact q.elim
  | ok ds ρ1 =>
    rw [r] at q
    match ds, q with
    | [], q => exact q.elim
    | _ :: _ :: _, q => exact q.elim
    | [d], q =>
      obtain ⟨hn, q⟩ := q
      have key : ∀ Q : VK, (∀ v H' Z', Step X.K σ H Z ρ σ H' Z' ρ1 → Root X.K H H' Z' σ ρ1 v d (.cons ea .nil) → RepD X.K H' Z' v d → Q v H') → tOpd X.K W ex G C ea σ H Q := fun Q hq => by
        refine opd_one s ?_
        rw [r]
        intro vs H' Z' st lr
        obtain ⟨v, rfl, ro, rd⟩ := lres_one st.sat lr
        exact hq v H' Z' st ro rd
      cases d with
      | lst ys => exact .inl (key _ fun v H' Z' st ro rd => by
          obtain ⟨p, vs, rfl, l, _⟩ := RepQ.of_lst rd
          exact ⟨p, rfl, ⟨vs, l⟩, q _ _ H' Z' st ro ⟨p, rfl, rfl⟩⟩)
      | fls ys => exact .inl (key _ fun v H' Z' st ro rd => by
          obtain ⟨p, vs, rfl, l, _⟩ := RepQ.of_fls rd
          exact ⟨p, rfl, ⟨vs, l⟩, q _ _ H' Z' st ro ⟨p, rfl, rfl⟩⟩)
      | tup ys => exact .inr (.inl (key _ fun v H' Z' st ro rd => by
          obtain ⟨p, vs, rfl, l, _⟩ := rep_tup rd
          exact ⟨p, rfl, ⟨vs, l⟩, q _ _ H' Z' st ro ⟨p, rfl, rfl⟩⟩))
      | str ys => exact .inr (.inr (.inl (key _ fun v H' Z' st ro rd => ⟨strV ys, rep_str rd, q _ _ H' Z' st ro rfl⟩)))
      | rng lo n => exact .inr (.inr (.inr (key _ fun v H' Z' st ro rd => by
          cases rd with
          | rng ho e b => subst e; exact ⟨_, _, _, rfl, ho, b, q _ _ H' Z' st ro rfl⟩)))
      | rdn lo n => exact .inl (key _ fun v H' Z' st ro rd => False.elim rd)
      | _ => exact absurd rfl hn
theorem prim_range1 {ds : List D} {d : D} (h : primD .range ds = some d) (hl : ds.length = 1) : ∃ j, ds = [.int j] ∧ -(2 ^ 62) ≤ j ∧ j < 2 ^ 62 ∧ d = .rng 0 j.toNat := by
  cases ds with
  | nil => cases hl
  | cons d1 ds =>
    cases ds with
    | cons d2 ds => simp at hl
    | nil =>
      cases d1 with
      | int j =>
        have h' : (if -(2 ^ 62) ≤ j ∧ j < 2 ^ 62 then some (D.rng 0 j.toNat) else none) = some d := h
        split at h'
        · rename_i hz
          cases h'
          exact ⟨j, rfl, hz.1, hz.2, rfl⟩
        · cases h'
      | _ => cases h
theorem prim_range2 {ds : List D} {d : D} (h : primD .range ds = some d) (hl : ds.length = 2) : ∃ i j, ds = [.int i, .int j] ∧ (-(2 ^ 62) ≤ i ∧ i < 2 ^ 62 ∧ -(2 ^ 62) ≤ j ∧ j < 2 ^ 62) ∧ d = .rng i (j - i).toNat := by
  cases ds with
  | nil => cases hl
  | cons d1 ds =>
    cases ds with
    | nil => simp at hl
    | cons d2 ds =>
      cases ds with
      | cons d3 ds => simp at hl
      | nil =>
        cases d1 with
        | int i =>
          cases d2 with
          | int j =>
            have h' : (if -(2 ^ 62) ≤ i ∧ i < 2 ^ 62 ∧ -(2 ^ 62) ≤ j ∧ j < 2 ^ 62 then some (D.rng i (j - i).toNat) else none) = some d := h
            split at h'
            · rename_i hz
              cases h'
              exact ⟨i, j, rfl, hz, rfl⟩
            · cases h'
          | _ => cases h
        | _ => cases d2 <;> cases h
theorem prim_range3 {ds : List D} {d : D} (h : primD .range ds = some d) (hl : ds.length = 3) : ∃ i j, ds = [.int i, .int j, .int (-1)] ∧ (-(2 ^ 62) ≤ i ∧ i < 2 ^ 62 ∧ -(2 ^ 62) ≤ j ∧ j < 2 ^ 62) ∧ d = .rdn i (i - j).toNat := by
  match ds, hl with
  | [d1, d2, d3], _ =>
    cases d1 with
    | int i =>
      cases d2 with
      | int j =>
        cases d3 with
        | int k =>
          have h' : (if -(2 ^ 62) ≤ i ∧ i < 2 ^ 62 ∧ -(2 ^ 62) ≤ j ∧ j < 2 ^ 62 ∧ k = -1 then some (D.rdn i (i - j).toNat) else none) = some d := h
          split at h'
          · rename_i hz
            cases h'
            obtain ⟨z1, z2, z3, z4, rfl⟩ := hz
            exact ⟨i, j, rfl, ⟨z1, z2, z3, z4⟩, rfl⟩
          · cases h'
        | _ => cases h
      | _ => cases d3 <;> cases h
    | _ => cases d2 <;> cases d3 <;> cases h
theorem rng_use {es : Es} {σ : L2.St} {R' : It → Hp → Prop} {k : List V → Hp → Prop} (q : tI K W ex G C (.cons (.op (.prim .range) es) .nil) σ H R')
    (hk : ∀ vs H1 Z1 ds d, ds.length = es.len → Rds K H1 Z1 vs ds → primD .range ds = some d → (∀ lo n, d = .rng lo n → R' (Itr lo n) H1) → (∀ lo n, d = .rdn lo n → R' (Itc lo (-1) n) H1) → k vs H1) : tPA K W ex G C es σ H k := by
  obtain ⟨Z, ρ, s, q⟩ := q
  refine tPA_of es σ H Z ρ k s ?_
  have e0 : evalL G C (.cons (.op (.prim .range) es) .nil) ρ = (match evalL G C es ρ with
    | .ok ds ρ1 => match primD .range ds with
      | some d => .ok [d] ρ1
      | none => .stk
    | .exc c ρ1 => .exc c ρ1
    | .stk => .stk) := by
    conv => lhs; unfold evalL
    rw [if_neg (fun z => Bool.noConfusion z)]
    conv => lhs; unfold evalE
    cases evalL G C es ρ with
    | ok ds ρ1 =>
      dsimp only [opD]
      cases primD .range ds <;> rfl
    | exc c ρ1 => rfl
    | stk => rfl
  rw [e0] at q
  cases r : evalL G C es ρ with
  | exc c ρ1 => rw [r] at q; exact q
  | stk => rw [r] at q; exact q.elim
  | ok ds ρ1 =>
    rw [r] at q
    dsimp only at q
    intro vs H1 Z1 st lr
    cases q1 : primD .range ds with
    | none => rw [q1] at q; exact q.elim
    | some d =>
      rw [q1] at q
      refine hk vs H1 Z1 ds d lr.len (lr.rds st.sat) q1 (fun lo n e => ?_) fun lo n e => ?_
      · subst e
        exact q.2 .non _ H1 Z1 st (.own rfl (.inl (.inl ⟨lo, n, rfl⟩))) rfl
      · subst e
        exact q.2 .non _ H1 Z1 st (.own rfl (.inl (.inr ⟨lo, n, rfl⟩))) rfl
theorem pi_rng1 (hg : Gl X "range") (hm : X.mg "range" = none) (ha : PE X a (tOpd X.K W ex G C ea)) (hs : starEach [a] X.env = [(false, eval a X.env)]) : PI X tg (.Call (.Name "range" p) [a] [] pos) (tI X.K W ex G C (.cons (.op (.prim .range) (.cons ea .nil)) .nil)) :=
  pi_weak (pi_range1 hg hm (pa_cons ha pa_nil (by rw [hs]; rfl)) hs) fun σ H R' q =>
    rng_use (k := fun vs H1 => ∃ j : Int, vs = [.int j] ∧ -(2 ^ 62) ≤ j ∧ j < 2 ^ 62 ∧ R' (Itr 0 j.toNat) H1) q fun vs H1 Z1 ds d hl rd e r _ => by
      obtain ⟨j, rfl, h1, h2, rfl⟩ := prim_range1 e (by rw [hl]; rfl)
      obtain ⟨v, rfl, rv⟩ := one_arg rd
      exact ⟨j, by rw [rep_int rv], h1, h2, r _ _ rfl⟩
theorem pi_rng2 (hg : Gl X "range") (hm : X.mg "range" = none) (ha : PE X a (tOpd X.K W ex G C ea)) (hb : PE X b (tOpd X.K W ex G C eb)) (hs : starEach [a, b] X.env = [(false, eval a X.env), (false, eval b X.env)]) (hs2 : starEach [b] X.env = [(false, eval b X.env)]) :
    PI X tg (.Call (.Name "range" p) [a, b] [] pos) (tI X.K W ex G C (.cons (.op (.prim .range) (.cons ea (.cons eb .nil))) .nil)) :=
  pi_weak (pi_range2 hg hm (pa_cons ha (pa_cons hb pa_nil (by rw [hs2]; rfl)) (by rw [hs, hs2])) hs hs2) fun σ H R' q =>
    rng_use (k := fun vs H1 => ∃ i j : Int, vs = [.int i, .int j] ∧ (-(2 ^ 62) ≤ i ∧ i < 2 ^ 62 ∧ -(2 ^ 62) ≤ j ∧ j < 2 ^ 62) ∧ R' (Itr i (j - i).toNat) H1) q fun vs H1 Z1 ds d hl rd e r _ => by
      obtain ⟨i, j, rfl, hz, rfl⟩ := prim_range2 e (by rw [hl]; rfl)
      obtain ⟨v, u, rfl, rv, ru⟩ := two_args rd
      exact ⟨i, j, by rw [rep_int rv, rep_int ru], hz, r _ _ rfl⟩
theorem three_args {K : PySem.W.Frag} {H : Hp} {Z : Addr → Prop} {vs : List V} {d e f : D} (h : Rds K H Z vs [d, e, f]) : ∃ v u w, vs = [v, u, w] ∧ RepD K H Z v d ∧ RepD K H Z u e ∧ RepD K H Z w f := by
  cases h with | cons h r => cases r with | cons h2 r => cases r with | cons h3 r => cases r; exact ⟨_, _, _, rfl, h, h2, h3⟩
theorem pi_rng3 {c : Expr} {ec : E} (hg : Gl X "range") (hm : X.mg "range" = none) (ha : PE X a (tOpd X.K W ex G C ea)) (hb : PE X b (tOpd X.K W ex G C eb)) (hc : PE X c (tOpd X.K W ex G C ec))
    (hs : starEach [a, b, c] X.env = (false, eval a X.env) :: starEach [b, c] X.env) (hs2 : starEach [b, c] X.env = (false, eval b X.env) :: starEach [c] X.env) (hs3 : starEach [c] X.env = (false, eval c X.env) :: starEach [] X.env) :
    PI X tg (.Call (.Name "range" p) [a, b, c] [] pos) (tI X.K W ex G C (.cons (.op (.prim .range) (.cons ea (.cons eb (.cons ec .nil)))) .nil)) :=
  pi_weak (pi_range3 hg hm (pa_cons ha (pa_cons hb (pa_cons hc pa_nil hs3) hs2) hs) hs (by rw [hs2, hs3]; rfl)) fun σ H R' q =>
    rng_use (k := fun vs H1 => ∃ (i j c : Int) (n : Nat), vs = [.int i, .int j, .int c] ∧ RgC i j c n ∧ R' (Itc i c n) H1) q fun vs H1 Z1 ds d hl rd e _ r => by
      obtain ⟨i, j, rfl, hz, rfl⟩ := prim_range3 e (by rw [hl]; rfl)
      obtain ⟨v, u, w, rfl, rv, ru, rw'⟩ := three_args rd
      exact ⟨i, j, -1, _, by rw [rep_int rv, rep_int ru, rep_int rw'], RgC.neg hz.1 hz.2.1 hz.2.2.1 hz.2.2.2, r _ _ rfl⟩
end
end Mi

set_option maxHeartbeats 1000000
/-! for c in reversed(text) -/
namespace RSt
open PySem PySem.Spec PyProof.Rows L2 RT
theorem norev_str : typeLookup (.type "str") "__reversed__" = pure none := by rw [typeLookup_type, builtinLookup_eq_fast]; kernel_rfl
def rsObj (x : Str) (t : Tok) (i : Int) : Obj := { cls := .type "reversed", data := .fields #[.str x t, rawInt i] }
def IsRs (h : Heap) (a : Addr) (x : Str) (t : Tok) (i : Int) : Prop := ∃ o, h.get? a = some o ∧ o.cls = .type "reversed" ∧ o.data = .fields #[.str x t, rawInt i]
theorem IsRs.at {h h' : Heap} {a : Addr} {y : Str} {t : Tok} {i : Int} (x : IsRs h a y t i) (e : ∀ o, h.get? a = some o → h'.get? a = some o) : IsRs h' a y t i := let ⟨o, ho, r⟩ := x; ⟨o, e _ ho, r⟩
section
variable {prog : Program} {w : World} {A : Around} {E : Value → Shared → Prop} {s : Shared} {x : Str} {t : Tok}
theorem IsRs.typeIs {a : Addr} {i : Int} (h : IsRs s.heap a x t i) : s.TypeIs (.ref a) "reversed" := let ⟨o, ho, hc, _⟩ := h; ⟨o, ho, hc⟩
theorem code_reversed_str {Q₁ : Value → Shared → Prop} (hlen : ∀ (A : Around) (E : Value → Shared → Prop) (Q : Value → Shared → Prop), Q (.int x.length (s.toks + 1)) { s with toks := s.toks + 1 + 1 } → wpAny (model prog w) A (call (.builtin "len") [.str x t]) Q E s)
    (h : Q₁ (.ref s.heap.objs.size) { s with heap := s.heap.push (rsObj x t ((x.length : Int) - 1)), toks := s.toks + 1 + 1 }) :
    codeAny (model prog w) A (.call (.builtin "reversed.__new__") ⟨[.type "reversed", .str x t], []⟩) (wants Q₁ E) s := by
  have hT : s.TypeIs (.str x t) "str" := typeIs_str _ _ _
  refine codeAny_of_tree ?_
  show wpAny _ A.in1 (do checkBuiltinCall "reversed.__new__" ⟨[.type "reversed", .str x t], []⟩; again (.builtin "reversed.__new__" ⟨[.type "reversed", .str x t], []⟩)) _ _ s
  refine wpAny_bind (wpAny_of_eq (F.newCall_reversed_1 _) (wpAny_pure ⟨plainId_quiet F.plain_reversed_new _, codeAny_builtin F.entry_reversed_new ?_⟩))
  rw [Around.under_plainId F.plain_reversed_new _]
  unfold Builtin.«reversed.__new__»
  refine wpAny_bind (wpAny_of_eq (newClass_reversed _) ?_)
  try dsimp only
  refine wpAny_bind (wpAny_of_eq (a := ()) (by first | rfl | kernel_rfl) ?_)
  try dsimp only
  refine wpAny_bind (wpAny_of_eq (a := ()) (by first | rfl | kernel_rfl) ?_)
  try dsimp only
  refine wpAny_bind (wpAny_specialOf hT norev_str ?_)
  try dsimp only
  refine wpAny_bind ?_
  wp_delta
  refine wpAny_bind (wpAny_isInstance (T := "str") (U := "dict") (b := false) hT (by rw [isSubtype_type]; kernel_rfl) ?_)
  try dsimp only
  try rw [if_neg Bool.false_ne_true]
  try dsimp only
  refine wpAny_bind (wpAny_specialOf hT PySem.F.slot_str_getitem.lookup ?_)
  try dsimp only
  try rw [if_pos (by decide +kernel)]
  refine wpAny_pure ?_
  try dsimp only
  try rw [if_neg (by decide)]
  try dsimp only
  refine wpAny_bind (hlen _ _ _ ?_)
  refine wpAny_bind (wpAny_of_eq (a := some ((x.length : Nat) : Int)) rfl ?_)
  try dsimp only
  refine wpAny_bind ?_
  show wpAny _ _ (newObj (.type "reversed") (.fields #[.str x t, rawInt ((x.length : Int) - 1)])) _ _ _
  refine wpAny_newObj_type ?_
  exact wpAny_pure h
theorem call_reversed_str {Q : Value → Shared → Prop} (hlen : ∀ (A : Around) (E : Value → Shared → Prop) (Q : Value → Shared → Prop), Q (.int x.length (s.toks + 1)) { s with toks := s.toks + 1 + 1 } → wpAny (model prog w) A (call (.builtin "len") [.str x t]) Q E s)
    (h : Q (.ref s.heap.objs.size) { s with heap := s.heap.push (rsObj x t ((x.length : Int) - 1)), toks := s.toks + 1 + 1 }) : wpAny (model prog w) A (call (.type "reversed") [.str x t]) Q E s := by
  refine callType_codes (Q₁ := fun obj s₁ => s₁.TypeIs obj "reversed" ∧ Q obj s₁) called_rt (F.typeCall_reversed_1 _) F.entry_object_init
    (code_reversed_str (A := A.in1) hlen ⟨⟨_, Heap.get?_push_size _ rfl, rfl⟩, h⟩) fun obj s₁ h₁ => ?_
  exact ⟨h₁.1, F.args_object_init_2 obj _, object_init_meets called_rt.init.lookup called_rt.made (by decide) prog w A.in1 _ s₁ ⟨h₁.1, rfl, h₁.2⟩⟩
theorem next_rs_item {it : Addr} {i : Nat} {c : Nat} {Q : Option Value → Shared → Prop} (hit : IsRs s.heap it x t (i : Int)) (hx : x.cps[i]? = some c) (hsz : x.cps.size ≤ sizeLine)
    (hQ : ∀ h' tk u, IsRs h' it x t ((i : Int) - 1) → Heap.SameBut it s.heap h' → Q (some (.str ⟨#[c]⟩ u)) { s with heap := h', toks := tk }) : wpAny (model prog w) A (pyNext (.ref it)) Q E s := by
  obtain ⟨o, ho, hc, hd⟩ := id hit
  have hi : i < x.cps.size := (Array.getElem?_eq_some_iff.mp hx).1
  have hT : s.TypeIs (.str x t) "str" := typeIs_str _ _ _
  rw [sizeLine_eq] at hsz
  unfold pyNext
  refine wpAny_bind (wpAny_attempt (wpAny_callSpecial?_slot (name := Str.ofString "__next__") hit.typeIs slot_rt_next
    (wpAny_call_entry slot_rt_next hit.typeIs entry_rt_next ?_ (args_rt_next _))))
  unfold Builtin.«reversed.__next__»
  refine wpAny_bind (wpAny_of_eq (a := (Value.ref it, [])) rfl ?_)
  try dsimp only
  refine wpAny_bind (wpAny_field ho hd (x := .str x t) rfl ?_)
  try dsimp only
  refine wpAny_bind (wpAny_field ho hd (x := rawInt (i : Int)) rfl ?_)
  show wpAny _ _ (if (i : Int) < 0 then _ else _) _ _ s
  rw [if_neg (by omega)]
  try dsimp only
  refine wpAny_bind (wpAny_specialOf hT PySem.F.slot_str_getitem.lookup ?_)
  try dsimp only
  try rw [if_neg (by decide)]
  try dsimp only
  refine wpAny_bind (wpAny_mkInt ?_)
  refine wpAny_bind (wpAny_attempt ?_)
  have fin : seqIndex? (i : Int) x.length = some i := seqIndex_of (by omega) (by show ((i : Nat) : Int) < ((x.cps.size : Nat) : Int); omega)
  refine PyProof.Rows.getItem_str (s := { s with toks := s.toks + 1 }) (c := c) (by rw [Bool.or_eq_false_iff]; exact ⟨decide_eq_false (by omega), decide_eq_false (by omega)⟩) (by rw [fin]; exact hx) ?_
  try dsimp only
  refine wpAny_bind (wpAny_field (s := { s with toks := _ }) ho hd (x := rawInt (i : Int)) rfl ?_)
  try dsimp only
  refine wpAny_bind (wpAny_setField (s := { s with toks := _ }) ho hd (by simp) ?_)
  first
  | refine wpAny_pure ⟨_, rfl, wpAny_pure (hQ _ _ _ ?_ (Heap.SameBut.update ..))⟩
  | refine wpAny_bind (wpAny_pure (wpAny_pure ⟨_, rfl, wpAny_pure (hQ _ _ _ ?_ (Heap.SameBut.update ..))⟩))
  exact ⟨_, Heap.get?_update_self _ ho (Obj.isFreed_of_fields (Obj.data_mapFields hd _)), (Obj.cls_mapFields ..).trans hc, by
    rw [Obj.data_mapFields hd]; simp⟩
theorem next_rs_end {it : Addr} {Q : Option Value → Shared → Prop} (hh : A.handled = none) (hit : IsRs s.heap it x t (-1))
    (hQ : ∀ h', Heap.ExtBut it s.heap h' → Q none { s with heap := h' }) : wpAny (model prog w) A (pyNext (.ref it)) Q E s := by
  obtain ⟨o, ho, hc, hd⟩ := id hit
  unfold pyNext
  refine wpAny_bind (wpAny_attempt (wpAny_callSpecial?_slot (name := Str.ofString "__next__") hit.typeIs slot_rt_next
    (wpAny_call_entry slot_rt_next hit.typeIs entry_rt_next ?_ (args_rt_next _))))
  unfold Builtin.«reversed.__next__»
  refine wpAny_bind (wpAny_of_eq (a := (Value.ref it, [])) rfl ?_)
  try dsimp only
  refine wpAny_bind (wpAny_field ho hd (x := .str x t) rfl ?_)
  try dsimp only
  refine wpAny_bind (wpAny_field ho hd (x := rawInt (-1)) rfl ?_)
  show wpAny _ _ (if (-1 : Int) < 0 then _ else _) _ _ s
  rw [if_pos (by decide)]
  try dsimp only
  refine wpAny_bind (wpAny_rule ?_)
  refine wpAny_bind ?_
  wp_delta
  refine wpAny_bind (wpAny_setField ho hd (by simp) ?_)
  have ho2 := Heap.get?_update_self (Obj.mapFields (·.setIfInBounds 1 (rawInt (-1)))) ho (Obj.isFreed_of_fields (Obj.data_mapFields hd _))
  refine wpAny_setField (s := { s with heap := s.heap.update it (Obj.mapFields (·.setIfInBounds 1 (rawInt (-1)))) }) ho2 (Obj.data_mapFields hd _) (by simp) ?_
  try dsimp only
  first
  | show wpAny _ _ (newExc (.type "StopIteration") [] >>= _) _ _ _
  | (refine wpAny_bind ?_; show wpAny _ _ (newExc (.type "StopIteration") [] >>= _) _ _ _)
  | (refine wpAny_bind ?_; wp_delta; show wpAny _ _ (newExc (.type "StopIteration") [] >>= _) _ _ _)
  refine wpAny_bind ?_
  simp only [newExc, newTuple]
  refine wpAny_bind (wpAny_newObj_type ?_ (by size_fits))
  refine wpAny_bind (m := firstArgMember _ _) (wpAny_of_eq (a := Value.none) (by first | rfl | (simp only [firstArgMember]; rfl)) ?_)
  refine wpAny_newObj_type ?_ (by size_fits)
  simp only [raiseNew]
  refine wpAny_bind (wpAny_handled ?_)
  first | rw [show A.in1.handled = none from hh] | rw [hh]
  refine wpAny_bind (wpAny_pure (wpAny_throw ?_))
  refine wpAny_bind (wpAny_isInstance (T := "StopIteration") (b := true) ⟨_, Heap.get?_push_size _ rfl, rfl⟩ isSubtype_stop ?_)
  refine wpAny_pure (hQ _ ?_)
  refine ((?_ : Heap.ExtBut it s.heap _).push _).push _
  exact fun b ob hb e => (Heap.get?_update_other _ _ (Ne.symm hb)).trans ((Heap.get?_update_other _ _ (Ne.symm hb)).trans e)
theorem iter_rs {it : Addr} {i : Int} {Q : Value → Shared → Prop} (hit : IsRs s.heap it x t i) (h : Q (.ref it) s) : wpAny (model prog w) A (pyIter (.ref it)) Q E s := by
  refine wpAny_pyIter_slot hit.typeIs slot_rt_iter (wpAny_call_entry slot_rt_iter hit.typeIs entry_rt_iter ?_ (args_rt_iter _))
  show wpAny _ _ (ret (.ref it)) _ _ s
  exact wpAny_pure ⟨_, rfl, "reversed", _, hit.typeIs, slot_rt_next.lookup, h⟩
end
theorem turn_rs {P : Program} {w : World} {K : PySem.W.Frag} {tg : Expr} (it : Addr) (x : Str) (t : Tok) (hz : x.cps.size ≤ sizeLine) : Turn P w K tg (Its ⟨x.cps.reverse⟩) [it] it (fun i h => i ≤ x.cps.size ∧ IsRs h it x t ((x.cps.size : Int) - 1 - (i : Nat))) where
  mem := by simp
  obj := fun i h st b hb => by
    have e : b = it := by simpa using hb
    subst e
    obtain ⟨_, o, e, c, d⟩ := st
    exact ⟨o, e, fun v z => by rw [d] at z; cases z⟩
  keep := fun i h h' st k => ⟨st.1, st.2.at fun o e => k it (by simp) o e⟩
  item := by
    intro X hP hw hK hc i pins s σ H E I hf st hg
    subst hP hw hK
    have hin : i < x.cps.size := by have : i < x.cps.reverse.size := hg; simpa using this
    obtain ⟨f0, f1, f2, f3, f4, f5⟩ := hf it (by simp)
    obtain ⟨_, hit⟩ := st
    have e1 : (x.cps.size : Int) - 1 - ((i : Nat) : Int) = ((x.cps.size - 1 - i : Nat) : Int) := by omega
    rw [e1] at hit
    have hx : x.cps[x.cps.size - 1 - i]? = some (x.cps[x.cps.size - 1 - i]'(by omega)) := Array.getElem?_eq_getElem (by omega)
    refine next_rs_item hit hx hz fun h' tk u st' sb => ?_
    have e2 : ((x.cps.size - 1 - i : Nat) : Int) - 1 = (x.cps.size : Int) - 1 - ((i + 1 : Nat) : Int) := by omega
    rw [e2] at st'
    have I1 : Inv X pins σ H { s with heap := h', toks := tk } := I.turned (t' := tk) (fun b o hb e => (sb.2 b hb).trans e) f0 f1 f3 f4 f5
    obtain ⟨o, e, c, d⟩ := id st'
    have hr : x.cps.reverse[i]? = some (x.cps[x.cps.size - 1 - i]'(by omega)) := by
      rw [Array.getElem?_eq_getElem (by simpa using hin), Array.getElem_reverse]
    exact ⟨_, rfl, go_of (s := { s with heap := h', toks := tk }) e c d (by decide) ⟨.str ⟨#[x.cps[x.cps.size - 1 - i]'(by omega)]⟩, H, I1, ⟨u, rfl⟩, ⟨rfl, _, hr, rfl⟩, ⟨hin, st'⟩, fun b hb => (hf b hb).1⟩⟩
  done := by
    intro X hP hw hK hc i pins s σ H E I hf st hg
    subst hP hw hK
    obtain ⟨f0, f1, f2, f3, f4, f5⟩ := hf it (by simp)
    obtain ⟨hin, hit⟩ := st
    have hge : x.cps.size ≤ i := by have : x.cps.reverse.size ≤ i := hg; simpa using this
    have e1 : (x.cps.size : Int) - 1 - ((i : Nat) : Int) = -1 := by omega
    rw [e1] at hit
    exact next_rs_end (I.ok.hd hc) hit fun h' eb => ⟨rfl, I.turned (t' := s.toks) (fun b o hb e => eb b o hb e) f0 f1 f3 f4 f5⟩
  self := fun A i s Q E st h => iter_rs st.2 h
def iStrR (te : TE) : TI := fun σ H R => te σ H fun v H1 => ∃ x : Str, v = .str x ∧ x.cps.size ≤ sizeLine ∧ R (Its ⟨x.cps.reverse⟩) H1
theorem pi_revS {X : Cx} {tg e : Expr} {te : TE} {p pos : Pos} (hg : Gl X "reversed") (hm : X.mg "reversed" = none) (he : PE X e te) (hs : starEach [e] X.env = (false, eval e X.env) :: starEach [] X.env := by rfl) : PI X tg (.Call (.Name "reversed" p) [e] [] pos) (iStrR te) := by
  refine ⟨fun pins s σ H R I h => ?_⟩
  refine Call_ (ld_blt I hg hm PyProof.Rows.boot_reversed (PyProof.Rows.callWith_type1 (args_cons (thn (he.run pins s σ H _ I h) fun u s1 ⟨v, H1, I1, r1, q1⟩ => args_nil ?_) hs) hs rfl))
  obtain ⟨x, ev, hz, q⟩ := q1
  subst ev
  obtain ⟨t, rfl⟩ := r1
  have hn := line63
  have e1 : ((x.length : Nat) : Int) - 1 = (x.cps.size : Int) - 1 - ((0 : Nat) : Int) := by show ((x.cps.size : Nat) : Int) - 1 = _; omega
  refine call_reversed_str (fun A E Q k => len_str (by show ¬ ((x.cps.size : Nat) : Int) ≥ 2 ^ 63; omega) k) (iter_rs (x := x) (t := t) (i := ((x.length : Nat) : Int) - 1) ⟨_, Heap.get?_push_size _ rfl, rfl, rfl⟩ ?_)
  refine pi_one (tk := s1.toks + 1 + 1) I1 _ (turn_rs _ x t hz) ⟨Nat.zero_le _, ?_⟩ q
  rw [← e1]
  exact ⟨_, Heap.get?_push_size _ rfl, rfl, rfl⟩
end RSt
namespace Mi
open PySem PySem.Spec PyProof.Rows L2
theorem prim_rev1 {ds : List D} {d : D} (h : primD .reversed ds = some d) (hl : ds.length = 1) : ∃ s, ds = [.str s] ∧ s.length ≤ SZ ∧ d = .str s.reverse := by
  cases ds with
  | nil => cases hl
  | cons d1 ds =>
    cases ds with
    | cons _ _ => simp at hl
    | nil =>
      cases d1 with
      | str s =>
        have h' : (if s.length ≤ SZ then some (D.str s.reverse) else none) = some d := h
        split at h'
        · rename_i hz
          cases h'
          exact ⟨s, rfl, hz, rfl⟩
        · cases h'
      | _ => cases h
section
variable {X : Cx} {W : WX} {ex : Nat → Addr} {G : List Fn} {C : List D} {a tg : Expr} {ea : E} {pos p : Pos}
theorem pi_revSD (hg : Gl X "reversed") (hm : X.mg "reversed" = none) (ha : PE X a (tOpd X.K W ex G C ea)) (hs : starEach [a] X.env = (false, eval a X.env) :: starEach [] X.env) :
    PI X tg (.Call (.Name "reversed" p) [a] [] pos) (tI X.K W ex G C (.cons (.op (.prim .reversed) (.cons ea .nil)) .nil)) :=
  pi_weak (RSt.pi_revS hg hm ha hs) fun σ H R' q => by
    obtain ⟨Z, ρ, s, q⟩ := q
    refine opd_one s ?_
    have e0 : evalL G C (.cons (.op (.prim .reversed) (.cons ea .nil)) .nil) ρ = (match evalL G C (.cons ea .nil) ρ with
      | .ok ds ρ1 => match primD .reversed ds with
        | some d => .ok [d] ρ1
        | none => .stk
      | .exc c ρ1 => .exc c ρ1
      | .stk => .stk) := by
      conv => lhs; unfold evalL
      rw [if_neg (fun z => Bool.noConfusion z)]
      conv => lhs; unfold evalE
      cases evalL G C (.cons ea .nil) ρ with
      | ok ds ρ1 =>
        dsimp only [opD]
        cases primD .reversed ds <;> rfl
      | exc c ρ1 => rfl
      | stk => rfl
    rw [e0] at q
    cases r : evalL G C (.cons ea .nil) ρ with
    | exc c ρ1 => rw [r] at q; exact q
    | stk => rw [r] at q; exact q.elim
    | ok ds ρ1 =>
      rw [r] at q
      dsimp only at q
      intro vs H1 Z1 st lr
      cases q1 : primD .reversed ds with
      | none => rw [q1] at q; exact q.elim
      | some d =>
        rw [q1] at q
        obtain ⟨x, rfl, hz, rfl⟩ := prim_rev1 q1 lr.len
        obtain ⟨v, rfl, ro, rd⟩ := lres_one st.sat lr
        rw [rep_str rd]
        refine ⟨strV x, rfl, by show x.toArray.size ≤ sizeLine; rw [List.size_toArray]; exact rng_line hz, ?_⟩
        have e : (⟨(strV x).cps.reverse⟩ : Str) = strV x.reverse := by show (⟨x.toArray.reverse⟩ : Str) = ⟨x.reverse.toArray⟩; rw [List.reverse_toArray]
        rw [e]
        exact q.2 (.str (strV x.reverse)) _ H1 Z1 st (.own rfl (.inr ⟨.of (.str _), fun z => by cases z⟩)) rfl
end
end Mi

/-! targets and comprehensions -/
namespace Mi
open PySem PySem.Spec PyProof.Rows L2
section
variable {K : PySem.W.Frag} {H H' H0 H1 H2 : Hp} {Z Z' Z1 Z2 : Addr → Prop} {σ σ' σ1 σ2 : L2.St} {ρ ρ' ρ1 ρ2 : Mi.Env} {v : V} {d : D}
/-! ### forgetting -/
theorem kills_get : ∀ (ks : List Nat) (ρ : Mi.Env) (i : Nat) (d : D), (kills ks ρ)[i]? = some (some d) ↔ ρ[i]? = some (some d) ∧ i ∉ ks
  | [], ρ, i, d => by simp [kills]
  | k :: ks, ρ, i, d => by
    have ih := kills_get ks (ρ.set k none) i d
    have e : kills (k :: ks) ρ = kills ks (ρ.set k none) := rfl
    rw [e, ih, List.getElem?_set]
    by_cases h : k = i
    · subst h
      rw [if_pos rfl]
      constructor
      · rintro ⟨q, _⟩
        split at q <;> cases q
      · rintro ⟨_, q⟩
        exact absurd List.mem_cons_self q
    · rw [if_neg h]
      simp only [List.mem_cons, not_or]
      constructor
      · rintro ⟨q, n⟩; exact ⟨q, fun e => h e.symm, n⟩
      · rintro ⟨q, _, n⟩; exact ⟨q, n⟩
theorem kills_len : ∀ (ks : List Nat) (ρ : Mi.Env), (kills ks ρ).length = ρ.length
  | [], _ => rfl
  | k :: ks, ρ => by
    have e : kills (k :: ks) ρ = kills ks (ρ.set k none) := rfl
    rw [e, kills_len ks, List.length_set]
/-- fewer names are known -/
theorem less_step (s : Sat K H Z σ ρ) (hl : ρ'.length = σ'.length) (h : ∀ (i : Nat) (d : D), ρ'[i]? = some (some d) → ρ[i]? = some (some d) ∧ σ'[i]? = σ[i]?) : Step K σ H Z ρ σ' H Z ρ' := by
  refine ⟨⟨hl, fun i d e => ?_, fun i j d e a h1 h2 f1 f2 g1 g2 => ?_, s.zok, s.tabs⟩, .of fun _ _ h => h, fun _ z => z, fun _ z => .inl z, fun a ⟨i, d, e1, f, e2⟩ => ?_, fun a o h => ⟨o, h⟩⟩
  · obtain ⟨q, g⟩ := h i d e
    obtain ⟨v, ev, r⟩ := s.rep i d q
    exact ⟨v, g.trans ev, r⟩
  · obtain ⟨q1, e1⟩ := h i d h1
    obtain ⟨q2, e2⟩ := h j e h2
    rw [e1] at g1
    rw [e2] at g2
    exact s.sep i j d e a q1 q2 f1 f2 g1 g2
  · obtain ⟨q, g⟩ := h i d e1
    rw [g] at e2
    exact .inl ⟨i, d, q, f, e2⟩
theorem kills_step (s : Sat K H Z σ ρ) (ks : List Nat) : Step K σ H Z ρ σ H Z (kills ks ρ) :=
  less_step s (by rw [kills_len]; exact s.len) fun i d e => ⟨((kills_get ks ρ i d).mp e).1, rfl⟩
theorem wipe_out' {σ : L2.St} {i : Nat} {vs : List Nat} (h : i ∉ vs) : (wipe σ vs)[i]? = σ[i]? := wipe_out h
theorem wipe_step (s : Sat K H Z σ ρ) (vs : List Nat) : Step K σ H Z ρ (wipe σ vs) H Z (kills vs ρ) :=
  less_step s (by rw [kills_len, wipe_length]; exact s.len) fun i d e => by
    have q := (kills_get vs ρ i d).mp e
    exact ⟨q.1, wipe_out' q.2⟩
theorem unwipe_step (s : Sat K H Z σ2 ρ) (vs : List Nat) (hl : σ2.length = σ.length) (h : ∀ i, i ∉ vs → σ[i]? = σ2[i]?) : Step K σ2 H Z ρ σ H Z (kills vs ρ) :=
  less_step s (by rw [kills_len, ← hl]; exact s.len) fun i d e => by
    have q := (kills_get vs ρ i d).mp e
    exact ⟨q.1, h i q.2⟩
theorem wipe_eq : ∀ {vs : List Nat}, σ2.length = σ.length → (∀ i, i ∉ vs → σ2[i]? = σ[i]?) → wipe σ2 vs = wipe σ vs := fun {vs} hl h => by
  apply List.ext_getElem?
  intro i
  by_cases m : i ∈ vs
  · have key : ∀ (τ : L2.St) (vs : List Nat), i ∈ vs → (wipe τ vs)[i]? = if i < τ.length then some none else none := by
      intro τ vs
      induction vs with
      | nil => intro m; cases m
      | cons w ws ih =>
        intro m
        unfold wipe
        rw [List.getElem?_set]
        by_cases e : w = i
        · subst e
          rw [if_pos rfl, wipe_length]
        · rw [if_neg e]
          rcases List.mem_cons.mp m with z | z
          · exact absurd z.symm e
          · exact ih z
    rw [key σ2 vs m, key σ vs m, hl]
  · rw [wipe_out' m, wipe_out' m]
    exact h i m
/-! ### a name takes a value that is no container -/
theorem set_step {i : Nat} (s : Sat K H Z σ ρ) (hi : i < ρ.length) (r : Rp K H Z v d) : Step K σ H Z ρ (σ.set i (some v)) H Z (ρ.set i (some d)) := by
  have his : i < σ.length := by rw [← s.len]; exact hi
  refine ⟨⟨by simp [s.len], fun j e q => ?_, fun j k e1 e2 a h1 h2 f1 f2 g1 g2 => ?_, s.zok, s.tabs⟩, .of fun _ _ h => h, fun _ z => z, fun _ z => .inl z, fun a ⟨j, e, q, f, g⟩ => ?_, fun a o h => ⟨o, h⟩⟩
  · rw [List.getElem?_set] at q ⊢
    by_cases e0 : i = j
    · subst e0
      rw [if_pos rfl, if_pos hi] at q
      cases q
      rw [if_pos rfl, if_pos his]
      exact ⟨v, rfl, .of r⟩
    · rw [if_neg e0] at q ⊢
      exact s.rep j e q
  · have o : ∀ (j : Nat) (e : D), (ρ.set i (some d))[j]? = some (some e) → e.flat = false → j ≠ i ∧ ρ[j]? = some (some e) := by
      intro j e q f
      rw [List.getElem?_set] at q
      by_cases e0 : i = j
      · subst e0
        rw [if_pos rfl, if_pos hi] at q
        cases q
        rw [r.flat] at f; cases f
      · rw [if_neg e0] at q
        exact ⟨fun z => e0 z.symm, q⟩
    obtain ⟨n1, q1⟩ := o j e1 h1 f1
    obtain ⟨n2, q2⟩ := o k e2 h2 f2
    rw [List.getElem?_set_ne (Ne.symm n1)] at g1
    rw [List.getElem?_set_ne (Ne.symm n2)] at g2
    exact s.sep j k e1 e2 a q1 q2 f1 f2 g1 g2
  · rw [List.getElem?_set] at q
    by_cases e0 : i = j
    · subst e0
      rw [if_pos rfl, if_pos hi] at q
      cases q
      rw [r.flat] at f; cases f
    · rw [if_neg e0] at q
      rw [List.getElem?_set_ne e0] at g
      exact .inl ⟨j, e, q, f, g⟩
def gNames : List Nat → TGs
  | [] => gNil
  | i :: is => gCons (gName i) (gNames is)
def gPat (K : PySem.W.Frag) : Pat → TG
  | .nm i => gName i
  | .tp is => gTup K is.length (gNames is)
theorem names_use : ∀ (is : List Nat) (vs : List V) (ds : List D) (σ : L2.St) (ρ : Mi.Env) (Q : L2.St → Hp → Prop), Sat K H Z σ ρ → Rps K H Z vs ds → ds.length = is.length → (∀ i ∈ is, i < ρ.length) →
    (∀ σ', Step K σ H Z ρ σ' H Z (setAll is ds ρ) → (∀ i, i ∉ is → σ'[i]? = σ[i]?) → Q σ' H) → gNames is vs σ H Q
  | [], _, _, σ, ρ, Q, s, .nil, hl, hb, hq => ⟨rfl, hq σ (Step.refl s) fun _ _ => rfl⟩
  | [], _, _, σ, ρ, Q, s, .cons _ _, hl, hb, hq => by simp at hl
  | i :: is, _, _, σ, ρ, Q, s, .nil, hl, hb, hq => by simp at hl
  | i :: is, _, _, σ, ρ, Q, s, .cons (v := v) (d := d) (vs := vs) (ds := ds) h r, hl, hb, hq => by
    refine ⟨v, vs, rfl, ?_⟩
    have st := set_step s (hb i List.mem_cons_self) h
    refine names_use is vs ds _ (ρ.set i (some d)) Q st.sat r (by simpa using hl) (fun j hj => by rw [List.length_set]; exact hb j (List.mem_cons_of_mem _ hj)) fun σ' st2 o => ?_
    refine hq σ' (st.trans st2) fun j hj => ?_
    simp only [List.mem_cons, not_or] at hj
    rw [o j hj.2, List.getElem?_set_ne (Ne.symm hj.1)]
theorem pat_use {p : Pat} {x : V} {Q : L2.St → Hp → Prop} (s : Sat K H Z σ ρ) (r : Rp K H Z x d) (hb : ∀ i ∈ p.slots, i < ρ.length) (e : p.bind d ρ = some ρ1)
    (hq : ∀ σ', Step K σ H Z ρ σ' H Z ρ1 → (∀ i, i ∉ p.slots → σ'[i]? = σ[i]?) → Q σ' H) : gPat K p x σ H Q := by
  cases p with
  | nm i =>
    have e' : (if d.flat then some (ρ.set i (some d)) else none) = some ρ1 := by cases d <;> exact e
    rw [if_pos r.flat] at e'
    cases e'
    exact hq _ (set_step s (hb i (by simp [Pat.slots])) r) fun j hj => List.getElem?_set_ne fun z => hj (by simp [Pat.slots, z])
  | tp is =>
    cases d with
    | tup ds =>
      have e' : (if ds.length = is.length then some (setAll is ds ρ) else none) = some ρ1 := e
      split at e'
      · rename_i hl
        cases e'
        obtain ⟨a, vs, rfl, l, rs⟩ := rep_tup (RepD.of r)
        exact ⟨a, vs, rfl, l, by rw [rs.length]; exact hl, names_use is vs ds σ ρ Q s rs hl hb hq⟩
      · cases e'
    | _ => cases e
theorem setAll_len : ∀ (is : List Nat) (ds : List D) (ρ : Mi.Env), (setAll is ds ρ).length = ρ.length
  | [], _, _ => by unfold setAll; rfl
  | _ :: _, [], _ => rfl
  | i :: is, d :: ds, ρ => by
    show (setAll is ds (ρ.set i (some d))).length = ρ.length
    rw [setAll_len is ds, List.length_set]
theorem bind_len {p : Pat} {d : D} {ρ ρ1 : Mi.Env} (e : p.bind d ρ = some ρ1) : ρ1.length = ρ.length := by
  cases p with
  | nm i =>
    have e' : (if d.flat then some (ρ.set i (some d)) else none) = some ρ1 := by cases d <;> exact e
    split at e'
    · cases e'; exact List.length_set ..
    · cases e'
  | tp is =>
    cases d with
    | tup ds =>
      have e' : (if ds.length = is.length then some (setAll is ds ρ) else none) = some ρ1 := e
      split at e'
      · cases e'; exact setAll_len is ds ρ
      · cases e'
    | _ => cases e
/-- the walked thing, behind a store into a list of another's -/
theorem RepD.write {p : Addr} {us ws : List V} (h : RepD K H Z v d) (hp : H p = some (.lst us)) (nz : ¬ Z p) (ne : d.flat = false → v ≠ .ref p) : RepD K (upd H p (.lst ws)) Z v d := by
  have l : Loose H Z (· = p) := fun a e => by subst e; exact ⟨nz, CO.lst us, hp⟩
  have st : Stay K H (upd H p (.lst ws)) (· = p) := .upd (CO.lst us) hp rfl
  cases d with
  | lst xs =>
    obtain ⟨a, vs, rfl, z, ha, r⟩ := h
    have n : a ≠ p := fun e => ne rfl (by rw [e])
    exact ⟨a, vs, rfl, z, by rw [upd_ne n]; exact ha, r.stay l st fun _ z => z⟩
  | dct xs =>
    obtain ⟨a, vs, rfl, z, ha, r⟩ := h
    have n : a ≠ p := fun e => ne rfl (by rw [e])
    exact ⟨a, vs, rfl, z, by rw [upd_ne n]; exact ha, r.stay l st fun _ z => z⟩
  | fdc _ => exact False.elim h
  | rdn _ _ => exact False.elim h
  | _ => exact Rp.stay l st (fun _ z => z) h
/-- the walked thing, behind a store into a list of another's -/
theorem RepD.writeM {p : Addr} {us ws : List (Key × V)} (h : RepD K H Z v d) (hp : H p = some (.dK us)) (nz : ¬ Z p) (ne : d.flat = false → v ≠ .ref p) : RepD K (upd H p (.dK ws)) Z v d := by
  have l : Loose H Z (· = p) := fun a e => by subst e; exact ⟨nz, CO.dct us, hp⟩
  have st : Stay K H (upd H p (.dK ws)) (· = p) := .upd (CO.dct us) hp rfl
  cases d with
  | lst xs =>
    obtain ⟨a, vs, rfl, z, ha, r⟩ := h
    have n : a ≠ p := fun e => ne rfl (by rw [e])
    exact ⟨a, vs, rfl, z, by rw [upd_ne n]; exact ha, r.stay l st fun _ z => z⟩
  | dct xs =>
    obtain ⟨a, vs, rfl, z, ha, r⟩ := h
    have n : a ≠ p := fun e => ne rfl (by rw [e])
    exact ⟨a, vs, rfl, z, by rw [upd_ne n]; exact ha, r.stay l st fun _ z => z⟩
  | fdc _ => exact False.elim h
  | rdn _ _ => exact False.elim h
  | _ => exact Rp.stay l st (fun _ z => z) h
theorem write_step {p : Addr} {us ws : List V} (st : Step K σ H Z ρ σ' H' Z' ρ') (hn : H p = none) (hp : H' p = some (.lst us)) (nz : ¬ Z' p) (no : ¬ Owns σ' ρ' p) : Step K σ H Z ρ σ' (upd H' p (.lst ws)) Z' ρ' := by
  refine ⟨⟨st.sat.len, fun i d e => ?_, st.sat.sep, fun a z n => ?_, tabs_upd (u := CO.lst us) hp st.sat.tabs⟩, st.stay.upd_new (CO.lst us) hn hp, st.z1, st.z2, st.own, fun a o h => ?_⟩
  · obtain ⟨v, ev, r⟩ := st.sat.rep i d e
    exact ⟨v, ev, r.write hp nz fun f z => no ⟨i, d, e, f, by rw [ev, z]⟩⟩
  · by_cases e : a = p
    · subst e; exact nz z
    · rw [upd_ne e] at n; exact st.sat.zok a z n
  · obtain ⟨o', q⟩ := st.trk a o h
    exact ⟨o', by rw [upd_ne (ne_of_none h hn)]; exact q⟩
theorem Root.write {it : Es} {p : Addr} {us ws : List V} (r : Root K H0 H Z σ ρ v d it) (hp : H p = some (.lst us)) (nz : ¬ Z p) (ne : d.flat = false → v ≠ .ref p) : Root K H0 (upd H p (.lst ws)) Z σ ρ v d it := by
  cases r with
  | name e => exact .name e
  | own hv f =>
    refine .own hv ?_
    rcases f with f | f
    · exact .inl f
    · exact .inr ⟨f.1.write hp nz ne, f.2⟩
end
/-! ### tests -/
def PostT (K : PySem.W.Frag) (W : WX) (ex : Nat → Addr) (σ : L2.St) (H : Hp) (Z : Addr → Prop) (ρ : Mi.Env) (r : R D) (Q : Bool → Hp → Prop) : Prop := match r with
  | .ok (.bl b) ρ' => ∀ H' Z', Step K σ H Z ρ σ H' Z' ρ' → Q b H'
  | .ok _ _ => False
  | .exc c ρ' => ∀ H' Z', Step K σ H Z ρ σ H' Z' ρ' → W (.ref (ex c)) none σ H'
  | .stk => False
def tT (K : PySem.W.Frag) (W : WX) (ex : Nat → Addr) (G : List Fn) (C : List D) (e : E) : TT := fun σ H Q => ∃ Z ρ, Sat K H Z σ ρ ∧ PostT K W ex σ H Z ρ (evalE G C e ρ) Q
/-- a comprehension's tests -/
def tCs (K : PySem.W.Frag) (W : WX) (ex : Nat → Addr) (G : List Fn) (C : List D) : Es → TT
  | .nil => tYes
  | .cons e _ => tT K W ex G C e
section
variable {K : PySem.W.Frag} {W : WX} {ex : Nat → Addr} {G : List Fn} {C : List D}
theorem tT_tE {e : E} {σ : L2.St} {H : Hp} {Q : Bool → Hp → Prop} (h : tT K W ex G C e σ H Q) : tE K W ex G C e σ H fun x H' => ∃ k, x = .bl k ∧ Q k H' := by
  obtain ⟨Z, ρ, s, q⟩ := h
  refine ⟨Z, ρ, s, ?_⟩
  cases r : evalE G C e ρ with
  | ok d ρ' =>
    rw [r] at q
    intro v H' Z' st fr
    cases d with
    | bl b => exact ⟨b, rep_bl fr.1, q H' Z' st⟩
    | _ => exact q.elim
  | exc c ρ' => rw [r] at q; exact q
  | stk => rw [r] at q; exact q.elim
abbrev WF : WX := fun _ _ _ _ => False
theorem comp_use {p : Pat} {it cs : Es} {elt : E} {vs : List Nat} (hvs : vs = p.slots) (hcs : cs = .nil ∨ ∃ e, cs = .cons e .nil) {σ : L2.St} {H : Hp} {Q : VK} (hb : ∀ i ∈ p.slots, i < σ.length) (h : tE K W ex G C (.comp p it cs elt) σ H Q) :
    tLc (tI K W ex G C it) (gPat K p) (tCs K WF ex G C cs) (tE K WF ex G C elt) vs σ H Q := by
  subst hvs
  obtain ⟨Z, ρ, s, h⟩ := h
  refine ⟨Z, ρ, s, ?_⟩
  unfold evalE at h
  cases r : evalL G C it ρ with
  | exc c ρ1 => rw [r] at h; exact h
  | stk => rw [r] at h; exact h.elim
  | ok ds ρ1 =>
    rw [r] at h
    match ds, h with
    | [], h => exact h.elim
    | _ :: _ :: _, h => exact h.elim
    | [d], h =>
      dsimp only at h
      cases hx : d.items? with
      | none => rw [hx] at h; exact h.elim
      | some xs =>
        rw [hx] at h
        have hne : d.items? ≠ none := by
          rw [hx]
          intro z
          cases z
        refine ⟨hne, fun v J H1 Z1 st1 ro hj D hD => ?_⟩
        dsimp only at h
        have ln : ∀ {H' : Hp} {Z' : Addr → Prop} {ρ' : Mi.Env}, Sat K H' Z' σ ρ' → ∀ i ∈ p.slots, i < (kills p.slots ρ').length := fun s' i hi => by rw [kills_len, s'.len]; exact hb i hi
        have ks := kills_step st1.sat p.slots
        have stA := st1.trans ks
        have kp := Step.keep stA.sat (keep_upd (o := .lst []) hD)
        have stB := stA.trans kp
        have roA := ro.step st1.sat (ks.trans kp) fun _ _ => rfl
        refine ⟨fun i m Hc => ∃ Zc ρc acc vacc, i + m = xs.length ∧ Step K σ H Z ρ σ Hc Zc ρc ∧ Root K H Hc Zc σ ρc v d it ∧ Hc D = some (.lst vacc) ∧ ¬ Zc D ∧ ¬ Owns σ ρc D ∧ Rps K Hc Zc vacc acc ∧ (d.flat = false → v ≠ .ref D) ∧
          PostE K W ex σ H Z ρ (match compLoop (still it d) p (evalC G C cs) (evalE G C elt) (xs.drop i) acc ρc with
            | .ok acc ρ2 => .ok (.lst acc) ρ2
            | _ => .stk) Q, ⟨xs.length, ?_⟩, ?_⟩
        · refine ⟨Z1, _, [], [], by omega, stB, roA, upd_same, fun z => st1.sat.zok D z hD, fun w => ?_, .nil, fun f e => ?_, by rw [List.drop_zero]; exact h⟩
          · obtain ⟨_, us, q⟩ := stA.sat.loose D w
            rw [hD] at q; cases q
          · have ck : still it d (kills p.slots ρ1) := by
              cases xs with
              | nil =>
                unfold compLoop at h
                by_cases c : still it d (kills p.slots ρ1)
                · exact c
                · rw [if_neg c] at h; exact h.elim
              | cons x xs =>
                unfold compLoop at h
                by_cases c : still it d (kills p.slots ρ1)
                · exact c
                · rw [if_neg c] at h; exact h.elim
            have ac := (ro.step st1.sat ks fun _ _ => rfl).acc stA.sat ck hj
            rcases ac.2 with (⟨_, _, z⟩ | ⟨_, _, z⟩) | z
            · rw [z] at f; cases f
            · rw [z] at f; cases f
            · cases d with
              | lst ys =>
                obtain ⟨a, us, ea, _, ha, _⟩ := z
                rw [e] at ea; cases ea
                rw [hD] at ha; cases ha
              | dct ys =>
                obtain ⟨a, us, ea, _, ha, _⟩ := z
                rw [e] at ea; cases ea
                rw [hD] at ha; cases ha
              | _ => cases f
        · rintro i m Hc ⟨Zc, ρc, acc, vacc, em, stc, roc, hDc, nz, no, racc, vD, hq⟩
          have hDH : H D = none := by
            cases q : H D with
            | none => rfl
            | some o => obtain ⟨o', q'⟩ := st1.trk D o q; rw [hD] at q'; cases q'
          by_cases hi : i < xs.length
          · rw [List.drop_eq_getElem_cons hi] at hq
            unfold compLoop at hq
            by_cases ck : still it d ρc
            · rw [if_pos ck] at hq
              obtain ⟨hgo, hyl⟩ := acc_go (roc.acc stc.sat ck hj) hx hi
              refine .inr ⟨hgo, fun H' => ∃ Zc ρc acc vacc, (i + 1) + (m - 1) = xs.length ∧ Step K σ H Z ρ σ H' Zc ρc ∧ Root K H H' Zc σ ρc v d it ∧ H' D = some (.lst vacc) ∧ ¬ Zc D ∧ ¬ Owns σ ρc D ∧ Rps K H' Zc vacc acc ∧ (d.flat = false → v ≠ .ref D) ∧
                PostE K W ex σ H Z ρ (match compLoop (still it d) p (evalC G C cs) (evalE G C elt) (xs.drop (i + 1)) acc ρc with
                  | .ok acc ρ2 => .ok (.lst acc) ρ2
                  | _ => .stk) Q, fun H' w => ⟨m - 1, by omega, w⟩, fun x H' y => ?_⟩
              obtain ⟨eH, y0, ey, ry⟩ := hyl x H' y
              rw [eH]
              have ey' : xs[i] = y0 := by
                obtain ⟨_, z⟩ := List.getElem?_eq_some_iff.mp ey
                exact z
              rw [ey'] at hq
              cases eb : p.bind y0 (kills p.slots ρc) with
              | none => rw [eb] at hq; exact hq.elim
              | some ρb =>
                rw [eb] at hq
                dsimp only at hq
                have wst := wipe_step stc.sat p.slots
                refine pat_use wst.sat ry (ln stc.sat) eb fun σ2 bst ob => ?_
                have l0 := wst.trans bst
                have oσ : ∀ j, j ∉ p.slots → σ[j]? = σ2[j]? := fun j hj' => by rw [ob j hj', wipe_out' hj']
                have len2 : σ2.length = σ.length := by rw [← bst.sat.len, bind_len eb, kills_len, stc.sat.len]
                refine ⟨wipe_eq len2 fun j hj' => (oσ j hj').symm, ?_⟩
                have back : ∀ {H4 : Hp} {Z4 : Addr → Prop} {ρ4 : Mi.Env}, Step K σ Hc Zc ρc σ2 H4 Z4 ρ4 → Step K σ Hc Zc ρc σ H4 Z4 (kills p.slots ρ4) := fun q => q.trans (unwipe_step q.sat p.slots len2 oσ)
                have tst : ∀ (k : Bool) (H3 : Hp) (Z3 : Addr → Prop) (ρ3 : Mi.Env), Step K σ2 Hc Zc ρb σ2 H3 Z3 ρ3 → evalC G C cs ρb = .ok (.bl k) ρ3 → (if k = true then tE K WF ex G C elt σ2 H3 fun y H4 => ∃ acc, H4 D = some (.lst acc) ∧ acc.length < sizeLine ∧ (∃ Zc ρc acc' vacc, (i + 1) + (m - 1) = xs.length ∧ Step K σ H Z ρ σ (upd H4 D (.lst (acc ++ [y]))) Zc ρc ∧ Root K H (upd H4 D (.lst (acc ++ [y]))) Zc σ ρc v d it ∧ (upd H4 D (.lst (acc ++ [y]))) D = some (.lst vacc) ∧ ¬ Zc D ∧ ¬ Owns σ ρc D ∧ Rps K (upd H4 D (.lst (acc ++ [y]))) Zc vacc acc' ∧ (d.flat = false → v ≠ .ref D) ∧
                PostE K W ex σ H Z ρ (match compLoop (still it d) p (evalC G C cs) (evalE G C elt) (xs.drop (i + 1)) acc' ρc with
                  | .ok acc ρ2 => .ok (.lst acc) ρ2
                  | _ => .stk) Q) else (∃ Zc ρc acc vacc, (i + 1) + (m - 1) = xs.length ∧ Step K σ H Z ρ σ H3 Zc ρc ∧ Root K H H3 Zc σ ρc v d it ∧ H3 D = some (.lst vacc) ∧ ¬ Zc D ∧ ¬ Owns σ ρc D ∧ Rps K H3 Zc vacc acc ∧ (d.flat = false → v ≠ .ref D) ∧
                PostE K W ex σ H Z ρ (match compLoop (still it d) p (evalC G C cs) (evalE G C elt) (xs.drop (i + 1)) acc ρc with
                  | .ok acc ρ2 => .ok (.lst acc) ρ2
                  | _ => .stk) Q)) := by
                  intro k H3 Z3 ρ3 st3 ek
                  rw [ek] at hq
                  cases k with
                  | false =>
                    rw [if_neg Bool.false_ne_true]
                    dsimp only at hq
                    have L := back (l0.trans st3)
                    obtain ⟨q1, q2, q3, q4⟩ := Step.lst stc.sat L no nz hDc racc
                    exact ⟨Z3, _, acc, vacc, by omega, stc.trans L, roc.step stc.sat L fun _ _ => rfl, q3, q2, q1, q4, vD, hq⟩
                  | true =>
                    rw [if_pos rfl]
                    dsimp only at hq
                    refine ⟨Z3, ρ3, st3.sat, ?_⟩
                    cases r4 : evalE G C elt ρ3 with
                    | exc c ρ4 => rw [r4] at hq; exact hq.elim
                    | stk => rw [r4] at hq; exact hq.elim
                    | ok d4 ρ4 =>
                      rw [r4] at hq
                      dsimp only at hq
                      intro y H4 Z4 st4 fr4
                      by_cases hz : d4.flat = true ∧ acc.length < SZ
                      · rw [if_pos hz] at hq
                        have L := back ((l0.trans st3).trans st4)
                        obtain ⟨q1, q2, q3, q4⟩ := Step.lst stc.sat L no nz hDc racc
                        refine ⟨vacc, q3, by rw [racc.length, ← sz_line]; exact hz.2, Z4, _, acc ++ [d4], vacc ++ [y], by omega, write_step (stc.trans L) hDH q3 q2 q1, (roc.step stc.sat L fun _ _ => rfl).write q3 q2 vD, upd_same, q2, q1, ?_, vD, hq⟩
                        have wr : ∀ {v : V} {d : Mi.D}, Rp K H4 Z4 v d → Rp K (upd H4 D (.lst (vacc ++ [y]))) Z4 v d := fun {v d} r => ((RepD.of r).write q3 q2 fun f => by rw [r.flat] at f; cases f).rp r.flat
                        have wrs : ∀ {vs : List V} {ds : List Mi.D}, Rps K H4 Z4 vs ds → Rps K (upd H4 D (.lst (vacc ++ [y]))) Z4 vs ds := by
                          intro vs ds r
                          induction ds generalizing vs with
                          | nil => cases r; exact .nil
                          | cons x ds ih => cases r with | cons h r => exact .cons (wr h) (ih r)
                        exact (wrs q4).append (.cons (wr (fr4.1.rp hz.1)) .nil)
                      · rw [if_neg hz] at hq; exact hq.elim
                rcases hcs with rfl | ⟨e, rfl⟩
                · exact tst true Hc Zc ρb (Step.refl bst.sat) rfl
                · refine ⟨Zc, ρb, bst.sat, ?_⟩
                  have eC : evalC G C (.cons e .nil) ρb = evalE G C e ρb := by rw [evalC]
                  cases r3 : evalE G C e ρb with
                  | exc c ρ3 => rw [eC, r3] at hq; exact hq.elim
                  | stk => rw [eC, r3] at hq; exact hq.elim
                  | ok d3 ρ3 =>
                    cases d3 with
                    | bl k => exact fun H3 Z3 st3 => tst k H3 Z3 ρ3 st3 (by rw [eC, r3])
                    | _ => rw [eC, r3] at hq; exact hq.elim
            · rw [if_neg ck] at hq; exact hq.elim
          · rw [List.drop_of_length_le (by omega)] at hq
            unfold compLoop at hq
            by_cases ck : still it d ρc
            · rw [if_pos ck] at hq
              refine .inl ⟨acc_stop (roc.acc stc.sat ck hj) hx (by omega), ?_⟩
              exact hq (.ref D) Hc Zc stc ⟨⟨D, vacc, rfl, nz, hDc, racc⟩, fun _ => ⟨D, rfl, no, hDH⟩⟩
            · rw [if_neg ck] at hq; exact hq.elim
end
end Mi

/-! the small language against the text: a check, and that it suffices -/
namespace Mi
open PySem PySem.Spec PyProof.Rows L2
/-! ### the check -/
def okA : Expr → Bool
  | .Starred _ _ => false
  | .Set _ _ _ => false
  | .Slice _ _ _ _ => false
  | .SetComp _ _ _ _ => false
  | .DictComp _ _ _ _ _ => false
  | .Tuple _ _ _ => true
  | _ => true
def okIx : Expr → Bool
  | .Starred _ _ => false
  | .Slice _ _ _ _ => false
  | .Tuple _ _ _ => false
  | _ => true
def noIf : Expr → Bool
  | .IfExp _ _ _ _ => false
  | _ => true
def noCall : Expr → Bool
  | .Call _ _ _ _ => false
  | _ => true
def visN (N : List Str) (sc : Scope) (i : Nat) (x : Str) : Bool :=
  decide (N[i]? = some x) && (match sc.names.lookup x with
    | some .local => true
    | some .cell => true
    | some .free => true
    | _ => false) && !(x == ("__debug__" : Str)) && !(x == ("__classdict__" : Str))
def locF (N : List Str) (sc : Scope) (fn : Str → Bool) (i : Nat) (x : Str) : Bool :=
  decide (N[i]? = some x) && (match sc.names.lookup x with
    | some .local => true
    | some .cell => fn x
    | _ => false)
def gloN (sc : Scope) (x : Str) : Bool := (match sc.names.lookup x with
    | some .globalImplicit => true
    | _ => false) && !(x == ("__debug__" : Str))
def bopOk : Bop → Operator → Bool
  | .add, .Add => true
  | .sub, .Sub => true
  | .mul, .Mult => true
  | .fdiv, .FloorDiv => true
  | .mod, .Mod => true
  | .pow, .Pow => true
  | _, _ => false
def copOk : Cop → CmpOp → Bool
  | .eq, .Eq => true
  | .ne, .NotEq => true
  | .lt, .Lt => true
  | .le, .LtE => true
  | .gt, .Gt => true
  | .ge, .GtE => true
  | .isin, .In => true
  | .notin, .NotIn => true
  | .is_, .Is => true
  | .isnot, .IsNot => true
  | _, _ => false
def pname : Prim → Option String
  | .len => some "len"
  | .tuple => some "tuple"
  | .list => some "list"
  | .sorted => some "sorted"
  | .sum => some "sum"
  | .min => some "min"
  | .max => some "max"
  | .abs => some "abs"
  | .int => some "int"
  | .any => some "any"
  | .all => some "all"
  | .rangeV => some "range"
  | _ => none
def mname : Meth → Option String
  | .join => some "join"
  | .endswith => some "endswith"
  | .count => some "count"
  | _ => none
def lname : Meth → Option String
  | .count => some "count"
  | .index => some "index"
  | _ => none
def patN (N : List Str) (sc : Scope) (fn : Str → Bool) : List Nat → List Expr → Bool
  | [], [] => true
  | i :: is, .Name x _ :: es => locF N sc fn i x && patN N sc fn is es
  | _, _ => false
def patOk (N : List Str) (sc : Scope) (fn : Str → Bool) : Pat → Expr → Bool
  | .nm i, .Name x _ => locF N sc fn i x
  | .tp is, .Tuple es _ _ => patN N sc fn is es
  | _, _ => false
def inB (bn : List Str) (x : Str) : Bool := decide (x ∈ bn)
/-- one parameter p, no more -/
def parP : Arguments → Bool
  | ⟨[], [⟨x, none, _⟩], none, [], [], none, []⟩ => decide (x = "p")
  | _ => false
section
variable (N : List Str) (gn : List (Str × Nat)) (cn : List Str) (bn : List Str)
mutual
def chk : E → Scope → Expr → Bool
  | .var i, sc, a => (match a with
    | .Name x _ => visN N sc i x
    | _ => false)
  | .fz i, sc, a => (match a with
    | .Name x _ => visN N sc i x
    | _ => false)
  | .int n, sc, a => (match a with
    | .Constant (.int m) _ _ => decide (n = m)
    | _ => false)
  | .bl n, sc, a => (match a with
    | .Constant (.bool m) _ _ => decide (n = m)
    | _ => false)
  | .non, sc, a => (match a with
    | .Constant .none _ _ => true
    | _ => false)
  | .str s, sc, a => (match a with
    | .Constant (.str x) _ _ => decide (x.cps.toList = s)
    | _ => false)
  | .glob j, sc, a => (match a with
    | .Name x _ => gloN sc x && decide (cn[j]? = some x)
    | _ => false)
  | .op o es, sc, a => (match o, a with
    | .bin o, .BinOp l op r _ => bopOk o op && chkL es sc [l, r]
    | .cmp o, .Compare l [op] [r] _ => copOk o op && chkL es sc [l, r]
    | .neg, .UnaryOp .USub x _ => chkL es sc [x]
    | .tup, .Tuple xs _ _ => chkL es sc xs
    | .lst, .List xs _ => chkL es sc xs
    | .idx, .Subscript l r _ => chkL es sc [l, r] && okIx r
    | .prim p, .Call (.Name x _) args [] _ => gloN sc x && inB bn x && (match args with
      | [] => false
      | [y] => decide ((pname p).map Str.ofString = some x) && chkL es sc [y]
      | [y, z] => (decide ((pname p).map Str.ofString = some x) && chkL es sc [y, z]) || (decide (x = "isinstance") && (match z with
        | .Name t _ => decide ((isaT p).map Str.ofString = some t) && gloN sc t && inB bn t && chkL es sc [y]
        | _ => false))
      | _ => false)
    | .dnew, .Dict [] [] _ => (match es with
      | .nil => true
      | _ => false)
    | .dlen, .Call (.Name x _) [y] [] _ => decide (x = "len") && gloN sc x && inB bn x && chkL es sc [y]
    | .dsrt, .Call (.Name x _) [y] [] _ => decide (x = "sorted") && gloN sc x && inB bn x && chkL es sc [y]
    | .srtK, .Call (.Name x _) [r] [⟨some kw, .Lambda params (.Subscript (.Name tx _) (.Slice (some (.Name p _)) none none _) _) scope _, _⟩] _ => (match es with
      | .cons (.var i) (.cons e .nil) => decide (x = "sorted") && decide (kw = "key") && decide (p = "p") && gloN sc x && inB bn x && inB bn "<lambda>" && !e.isVar && parP params && okA r && visN N scope i tx && Kl.lam1B N sc scope "p" && chk e sc r
      | _ => false)
    | .prim .rev, .Subscript l (.Slice none none (some (.UnaryOp .USub (.Constant (.int 1) _ _) _)) _) _ => chkL es sc [l]
    | _, _ => false)
  | .dop q i k v, sc, a => (match q, a with
    | .get, .Subscript (.Name x _) b _ => visN N sc i x && okIx b && chk k sc b && (match v with
      | .non => true
      | _ => false)
    | .gtd, .Call (.Attribute (.Name x _) name apos) [b, d] [] pos => decide (name = "get") && visN N sc i x && (apos.endLine == pos.line) && okA b && okA d && chk k sc b && chk v sc d
    | .isin, .Compare b [.In] [.Name x _] _ => visN N sc i x && chk k sc b && (match v with
      | .non => true
      | _ => false)
    | .notin, .Compare b [.NotIn] [.Name x _] _ => visN N sc i x && chk k sc b && (match v with
      | .non => true
      | _ => false)
    | _, _ => false)
  | .lmt m i e, sc, a => (match a with
    | .Call (.Attribute (.Name x _) name apos) [b] [] pos => decide ((lname m).map Str.ofString = some name) && visN N sc i x && (apos.endLine == pos.line) && okA b && chk e sc b
    | _ => false)
  | .slc e lo hi, sc, a => (match a with
    | .Subscript l (.Slice lo' hi' none _) _ => chk e sc l && chkP lo sc lo' && chkP hi sc hi'
    | _ => false)
  | .mth m e bs, sc, a => (match a with
    | .Call (.Attribute o name apos) [b] [] pos => decide ((mname m).map Str.ofString = some name) && (apos.endLine == pos.line) && noCall o && chk e sc o && chkL bs sc [b]
    | _ => false)
  | .not e, sc, a => (match a with
    | .UnaryOp .Not x _ => chk e sc x && noIf x
    | _ => false)
  | .and e f, sc, a => (match a with
    | .BoolOp .And [x, y] _ => chk e sc x && noIf x && chk f sc y && noIf y
    | .BoolOp .And (x :: y :: z :: r) pos => chk e sc x && noIf x && chk f sc (.BoolOp .And (y :: z :: r) pos)
    | _ => false)
  | .or e f, sc, a => (match a with
    | .BoolOp .Or [x, y] _ => chk e sc x && noIf x && chk f sc y && noIf y
    | .BoolOp .Or (x :: y :: z :: r) pos => chk e sc x && noIf x && chk f sc (.BoolOp .Or (y :: z :: r) pos)
    | _ => false)
  | .ite c e f, sc, a => (match a with
    | .IfExp t x y _ => chk c sc t && noIf t && chk e sc x && chk f sc y
    | _ => false)
  | .chain o1 o2 e1 e2 e3, sc, a => (match a with
    | .Compare l [op1, op2] [x, y] _ => copOk o1 op1 && copOk o2 op2 && chk e1 sc l && chk e2 sc x && chk e3 sc y && okA y
    | _ => false)
  | .call j es, sc, a => (match a with
    | .Call (.Name x _) args [] _ => decide (gn[j]? = some (x, args.length)) && gloN sc x && chkL es sc args && decide (mthName x = none)
    | _ => false)
  | .fld e f, sc, a => (match a with
    | .Attribute o name _ => decide (name = strV f) && noCall o && chk e sc o
    | _ => false)
  | .oln j c e, sc, a => (match a with
    | .Call (.Name x _) [o] [] _ => decide (x = "len") && gloN sc x && inB bn x && okA o && chk e sc o && (match gn[j]? with
      | some (y, n) => decide (n = 1) && decide (mthName y = some (c, lenS))
      | none => false)
    | _ => false)
  | .mcl j c m e es, sc, a => (match a with
    | .Call (.Attribute o name apos) args [] pos => decide (name = strV m) && noCall o && (apos.endLine == pos.line) && decide (args.length < 20) && chk e sc o && chkL es sc args && (match gn[j]? with
      | some (x, n) => decide (n = args.length + 1) && decide (mthName x = some (c, m))
      | none => false)
    | _ => false)
  | .comp p it cs elt, sc, a => (match a with
    | .ListComp el [⟨tg, iter, ifs, 0⟩] scope _ => chkI it sc iter && okA iter && blkC N sc scope (p.slots.map fun i => (N.getD i ("" : Str), i)) && patOk N (relS scope sc) (fun x => scope.names.lookup x == some .cell) p tg && decide (∀ i ∈ p.slots, i < N.length) && (match ifs with
      | [] => (match cs with
        | .nil => true
        | _ => false)
      | [t] => chkL cs (relS scope sc) [t] && noIf t
      | _ => false) && chk elt (relS scope sc) el
    | _ => false)
  | .frz e, sc, a => chk e sc a
def chkL : Es → Scope → List Expr → Bool
  | .nil, _, [] => true
  | .cons e es, sc, a :: as => okA a && chk e sc a && chkL es sc as
  | _, _, _ => false
def chkP : Es → Scope → Option Expr → Bool
  | .nil, _, none => true
  | .cons e .nil, sc, some a => chk e sc a
  | _, _, _ => false
/-- what a for walks -/
def chkI : Es → Scope → Expr → Bool
  | .cons e .nil, sc, a => chkR e sc a || chk e sc a
  | _, _, _ => false
/-- a range -/
def chkR : E → Scope → Expr → Bool
  | .op o es, sc, a => (match o, a with
    | .prim .range, .Call (.Name x _) args [] _ => decide (x = "range") && gloN sc x && inB bn x && (match args with
      | [y] => chkL es sc [y]
      | [y, z] => chkL es sc [y, z]
      | [y, z, w] => chkL es sc [y, z, w]
      | _ => false)
    | .prim .reversed, .Call (.Name x _) [y] [] _ => decide (x = "reversed") && gloN sc x && inB bn x && chkL es sc [y]
    | _, _ => false)
  | _, _, _ => false
end
end
end Mi

/-! the check suffices: expressions -/
namespace Mi
open PySem PySem.Spec PyProof.Rows L2
/-- what a lambda asks of the def that makes it -/
structure LamOk (X : Cx) : Prop where
  ex : ∃ (c P : Addr) (k : Nat), X.env.code = .ref c ∧ LamX.TabB X.base X.mg c P ∧ TabK X.K = [(P, X.env.qual ++ "<lambda>")] ∧ Room (k + 3) X.A
structure Ctx (X : Cx) (W : WX) (ex : Nat → Addr) (G : List Fn) (C : List D) (N : List Str) (gn : List (Str × Nat)) (cn bn : List Str) (sc : Scope) : Prop where
  hN : X.N = N
  nd : N.Nodup
  hsc : X.env.scope = sc
  calm : X.calm = true
  tk : Takes X W
  hu : X.A.units + 64 < cLine
  blt : ∀ x, x ∈ bn → X.mg x = none
  calls : ∀ (j : Nat) (x : Str) (n : Nat), gn[j]? = some (x, n) → ∃ f, G[j]? = some f ∧ CallOk X ex x n f
  glob : ∀ (j : Nat) (x : Str), cn[j]? = some x → ∃ (d : D) (u : Value) (v : V), C[j]? = some d ∧ X.mg x = some u ∧ RelV v u ∧ ∀ H Z, Rp X.K H Z v d
  lam : ("<lambda>" : Str) ∈ bn → LamOk X
section
variable {X : Cx} {W : WX} {ex : Nat → Addr} {G : List Fn} {C : List D} {N : List Str} {gn : List (Str × Nat)} {cn bn : List Str} {sc : Scope}
theorem visN_ok (c : Ctx X W ex G C N gn cn bn sc) {i : Nat} {x : Str} {pos : Pos} (h : visN N sc i x = true) : PE X (.Name x pos) (tVar i) := by
  unfold visN at h
  simp only [Bool.and_eq_true, decide_eq_true_eq, Bool.not_eq_true'] at h
  obtain ⟨⟨⟨h1, h2⟩, h3⟩, h4⟩ := h
  refine pe_var (by rw [c.hN]; exact h1) ?_ h3 h4
  rw [Vis, c.hsc]
  split at h2
  · rename_i e; exact .inl e
  · rename_i e; exact .inr (.inl e)
  · rename_i e; exact .inr (.inr e)
  · cases h2
theorem gloN_ok (c : Ctx X W ex G C N gn cn bn sc) {x : Str} (h : gloN sc x = true) : Gl X x ∧ (x == ("__debug__" : Str)) = false := by
  unfold gloN at h
  simp only [Bool.and_eq_true, Bool.not_eq_true'] at h
  refine ⟨?_, h.2⟩
  show X.env.scope.names.lookup x = some .globalImplicit
  rw [c.hsc]
  have h1 := h.1
  split at h1
  · rename_i e; exact e
  · cases h1
theorem star_cons {a : Expr} {as : List Expr} {env : PySem.Env} (h : okA a = true) : starEach (a :: as) env = (false, eval a env) :: starEach as env := by
  cases a <;> first | rfl | cases h
theorem star_any {pos : Pos} {env : PySem.Env} : ∀ {as : List Expr}, (∀ a ∈ as, okA a = true) → (backTo pos (starEach as env)).any (·.1) = false
  | [], _ => rfl
  | a :: as, h => by
    rw [star_cons (h a List.mem_cons_self)]
    show (false || (backTo pos (starEach as env)).any (·.1)) = false
    rw [star_any fun b hb => h b (List.mem_cons_of_mem _ hb)]
    rfl
theorem plain_ix {b : Expr} (h : okIx b = true) : PlainIx b := by
  cases b <;> first | exact fun _ _ => rfl | cases h
theorem noSl_of {b : Expr} (h : okIx b = true) : NoSl b := by
  cases b <;> first | exact fun _ _ => rfl | cases h
theorem marks_no {op : CmpOp} {b : Expr} (h : okA b = true) : behindInMarks op b = false := by
  cases b <;> first | rfl | cases h
theorem base_plain {o : Expr} {name : Str} {env : PySem.Env} {whole : Sem Value} (h : noCall o = true) : attributeBase o name env whole = whole := by
  cases o <;> first | rfl | cases h
theorem m2_of {X : Cx} {x : Str} {px apos pos : Pos} {b d : Expr} (h : (apos.endLine == pos.line) = true) (hb : okA b = true) (hd : okA d = true) : M2 X (.Name x px) "get" apos b d pos :=
  ⟨base_plain rfl, by rw [star_cons hb, star_cons hd]; rfl, h, by rw [star_cons hb, star_cons hd]; rfl⟩
theorem test_plain {a : Expr} {env : PySem.Env} (h1 : ∀ op vs pos, a ≠ .BoolOp op vs pos) (h2 : ∀ x pos, a ≠ .UnaryOp .Not x pos) (h3 : noIf a = true) (h4 : ∀ l ops cs pos, a ≠ .Compare l ops cs pos) : ∀ whole, isTrue a env whole = (do let v ← whole; standAt a.pos; holding [v] (truthy v)) := by
  intro whole
  cases a with
  | BoolOp op vs pos => exact absurd rfl (h1 _ _ _)
  | UnaryOp op x pos => cases op <;> first | rfl | exact absurd rfl (h2 _ _)
  | IfExp _ _ _ _ => cases h3
  | Compare _ _ _ _ => exact absurd rfl (h4 _ _ _ _)
  | _ => rfl
/-- what is shown of an expression and its text -/
structure J (X : Cx) (W : WX) (ex : Nat → Addr) (G : List Fn) (C : List D) (e : E) (a : Expr) : Prop where
  opd : PE X a (tOpd X.K W ex G C e)
  val : PE X a (tE X.K W ex G C e)
  tst : noIf a = true → PT X a (tT X.K W ex G C e)
  bop : ∀ op vs pos, a = .BoolOp op vs pos → PW X a (tT X.K W ex G C e)
theorem J.mk' {e : E} {a : Expr} (hv : e.isVar = false) (val : PE X a (tE X.K W ex G C e)) (tst : noIf a = true → PT X a (tT X.K W ex G C e)) (bop : ∀ op vs pos, a = .BoolOp op vs pos → PW X a (tT X.K W ex G C e)) : J X W ex G C e a :=
  ⟨by rw [tOpd_val hv]; exact val, val, tst, bop⟩
/-- .. that is no test by itself -/
theorem J.plain {e : E} {a : Expr} (hv : e.isVar = false) (val : PE X a (tE X.K W ex G C e)) (h1 : ∀ op vs pos, a ≠ .BoolOp op vs pos) (h2 : ∀ x pos, a ≠ .UnaryOp .Not x pos) (h4 : ∀ l ops cs pos, a ≠ .Compare l ops cs pos) : J X W ex G C e a :=
  .mk' hv val (fun h3 => pt_weak (pt_val val (test_plain h1 h2 h3 h4)) fun σ H Q q => tT_tE q) fun op vs pos z => absurd z (h1 _ _ _)
inductive JL (X : Cx) (W : WX) (ex : Nat → Addr) (G : List Fn) (C : List D) : Es → List Expr → Prop
  | nil : JL X W ex G C .nil []
  | cons {e : E} {a : Expr} {es : Es} {as : List Expr} : okA a = true → J X W ex G C e a → JL X W ex G C es as → JL X W ex G C (.cons e es) (a :: as)
theorem JL.pa : ∀ {es : Es} {as : List Expr}, JL X W ex G C es as → PA X as (tPA X.K W ex G C es)
  | _, _, .nil => pa_nil
  | _, _, .cons o j r => pa_cons j.opd r.pa (star_cons o)
theorem JL.ok : ∀ {es : Es} {as : List Expr}, JL X W ex G C es as → ∀ a ∈ as, okA a = true
  | _, _, .nil, _, h => by cases h
  | _, _, .cons o j r, a, h => by
    rcases List.mem_cons.mp h with e | h
    · rw [e]; exact o
    · exact r.ok a h
theorem JL.len : ∀ {es : Es} {as : List Expr}, JL X W ex G C es as → es.len = as.length
  | _, _, .nil => rfl
  | _, _, .cons o j r => by rw [List.length_cons, ← r.len]; rfl
theorem JL.one {es : Es} {a : Expr} (h : JL X W ex G C es [a]) : ∃ e, es = .cons e .nil ∧ J X W ex G C e a ∧ okA a = true := by
  cases h with | cons o j r => cases r; exact ⟨_, rfl, j, o⟩
theorem JL.two {es : Es} {a b : Expr} (h : JL X W ex G C es [a, b]) : ∃ e f, es = .cons e (.cons f .nil) ∧ J X W ex G C e a ∧ J X W ex G C f b ∧ okA a = true ∧ okA b = true := by
  cases h with | cons o j r => cases r with | cons o2 j2 r => cases r; exact ⟨_, _, rfl, j, j2, o, o2⟩
theorem JL.three {es : Es} {a b c : Expr} (h : JL X W ex G C es [a, b, c]) : ∃ e f g, es = .cons e (.cons f (.cons g .nil)) ∧ J X W ex G C e a ∧ J X W ex G C f b ∧ J X W ex G C g c ∧ okA a = true ∧ okA b = true ∧ okA c = true := by
  cases h with | cons o j r => cases r with | cons o2 j2 r => cases r with | cons o3 j3 r => cases r; exact ⟨_, _, _, rfl, j, j2, j3, o, o2, o3⟩
/-! ### constants and names -/
theorem tE_const {e : E} {d : D} {v : V} (h : ∀ ρ, evalE G C e ρ = .ok d ρ) (r : ∀ H Z, Rp X.K H Z v d) : ∀ σ H Q, tE X.K W ex G C e σ H Q → tC v σ H Q := fun σ H Q ⟨Z, ρ, s, q⟩ => by
  rw [h ρ] at q
  exact q v H Z (Step.refl s) ⟨.of (r H Z), fun f => by rw [(r H Z).flat] at f; cases f⟩
theorem var_val {i : Nat} {a : Expr} (h : PE X a (tVar i)) : PE X a (tE X.K W ex G C (.var i)) :=
  pe_weak h fun σ H Q ⟨Z, ρ, s, q⟩ => by
    unfold evalE at q
    cases e : ρ[i]? with
    | none => rw [e] at q; exact q.elim
    | some o =>
      cases o with
      | none => rw [e] at q; exact q.elim
      | some d =>
        rw [e] at q
        dsimp only at q
        by_cases f : d.flat = true
        · rw [if_pos f] at q
          obtain ⟨v, ev, r⟩ := s.rep i d e
          exact ⟨v, ev, q v H Z (Step.refl s) ⟨r, fun z => by rw [f] at z; cases z⟩⟩
        · rw [if_neg f] at q; exact q.elim
/-- a list is locked: from now on it is only read -/
theorem lock_step {K : PySem.W.Frag} {H : Hp} {Z : Addr → Prop} {σ : L2.St} {ρ ρ' : Mi.Env} {a : Addr} (s : Sat K H Z σ ρ) (ha : H a ≠ none) (hl : ρ'.length = ρ.length)
    (h : ∀ (i : Nat) (d : D), ρ'[i]? = some (some d) → (ρ[i]? = some (some d) ∧ (d.flat = false → σ[i]? ≠ some (some (.ref a)))) ∨ ∃ v, σ[i]? = some (some v) ∧ Rp K H (fun b => Z b ∨ b = a) v d)
    (how : Owns σ ρ a ∨ True) : Sat K H (fun b => Z b ∨ b = a) σ ρ' ∧ ∀ b, Owns σ ρ' b → Owns σ ρ b := by
  have back : ∀ (i : Nat) (d : D), ρ'[i]? = some (some d) → d.flat = false → ρ[i]? = some (some d) ∧ σ[i]? ≠ some (some (.ref a)) := fun i d e f => by
    rcases h i d e with ⟨q, n⟩ | ⟨v, ev, r⟩
    · exact ⟨q, n f⟩
    · rw [r.flat] at f; cases f
  have l : Loose H Z fun _ => False := fun _ w => w.elim
  have st : Stay K H H fun _ => False := .of fun _ _ e => e
  refine ⟨⟨hl.trans s.len, fun i d e => ?_, fun i j d e b h1 h2 f1 f2 g1 g2 => s.sep i j d e b (back i d h1 f1).1 (back j e h2 f2).1 f1 f2 g1 g2, fun b z => ?_, s.tabs⟩, fun b ⟨i, d, e1, f, e2⟩ => ⟨i, d, (back i d e1 f).1, f, e2⟩⟩
  · rcases h i d e with ⟨q, n⟩ | ⟨v, ev, r⟩
    · obtain ⟨v, ev, r⟩ := s.rep i d q
      refine ⟨v, ev, ?_⟩
      cases d with
      | lst xs =>
        obtain ⟨b, us, rfl, nz, hb, rs⟩ := r
        exact ⟨b, us, rfl, fun z => z.elim nz fun z => n rfl (by rw [ev, z]), hb, rs.stay l st fun _ z => .inl z⟩
      | dct xs =>
        obtain ⟨b, us, rfl, nz, hb, rs⟩ := r
        exact ⟨b, us, rfl, fun z => z.elim nz fun z => n rfl (by rw [ev, z]), hb, rs.stay l st fun _ z => .inl z⟩
      | fdc _ => exact False.elim r
      | rdn _ _ => exact False.elim r
      | _ => exact Rp.stay l st (fun _ z => .inl z) r
    · exact ⟨v, ev, .of r⟩
  · rcases z with z | z
    · exact s.zok b z
    · rw [z]; exact ha
theorem fz_val {i : Nat} {a : Expr} (h : PE X a (tVar i)) : PE X a (tE X.K W ex G C (.fz i)) :=
  pe_weak h fun σ H Q ⟨Z, ρ, s, q⟩ => by
    unfold evalE at q
    cases e : ρ[i]? with
    | none => rw [e] at q; exact q.elim
    | some o =>
      cases o with
      | none => rw [e] at q; exact q.elim
      | some d =>
        rw [e] at q
        cases d with
        | lst xs =>
          obtain ⟨v, ev, b, us, rfl, nz, hb, rs⟩ := s.rep i _ e
          have l : Loose H Z fun _ => False := fun _ w => w.elim
          have st : Stay X.K H H fun _ => False := .of fun _ _ e => e
          have rp : Rp X.K H (fun c => Z c ∨ c = b) (.ref b) (.fls xs) := .fls (.inl (.inr rfl)) (.of hb) (rs.stay l st fun _ z => .inl z)
          have hi : i < ρ.length := (List.getElem?_eq_some_iff.mp e).1
          obtain ⟨s2, ow⟩ := lock_step (a := b) (ρ' := ρ.set i (some (.fls xs))) s (by rw [hb]; exact fun z => nomatch z) (List.length_set ..) (fun j d ej => by
            rw [List.getElem?_set] at ej
            by_cases e0 : i = j
            · subst e0
              rw [if_pos rfl, if_pos hi] at ej
              cases ej
              exact .inr ⟨_, ev, rp⟩
            · rw [if_neg e0] at ej
              exact .inl ⟨ej, fun f z => e0 (s.sep i j _ d b e ej rfl f ev z)⟩) (.inr trivial)
          refine ⟨_, ev, q (.ref b) H _ ⟨s2, .of fun _ _ h => h, fun _ z => .inl z, fun c z => ?_, fun c w => .inl (ow c w), fun a o h => ⟨o, h⟩⟩ ⟨rp, fun f => by cases f⟩⟩
          rcases z with z | z
          · exact .inl z
          · exact .inr (.inr ⟨i, _, e, rfl, by rw [z]; exact ev⟩)
        | _ => exact q.elim
theorem frz_val {e : E} {a : Expr} (h : PE X a (tE X.K W ex G C e)) : PE X a (tE X.K W ex G C (.frz e)) :=
  pe_weak h fun σ H Q ⟨Z, ρ, s, q⟩ => by
    refine ⟨Z, ρ, s, ?_⟩
    unfold evalE at q
    cases r : evalE G C e ρ with
    | exc c ρ1 => rw [r] at q; exact q
    | stk => rw [r] at q; exact q.elim
    | ok d ρ1 =>
      rw [r] at q
      cases d with
      | lst xs =>
        intro v H1 Z1 st fr
        obtain ⟨b, us, rfl, nz, hb, rs⟩ := fr.1
        obtain ⟨b', eb, no, nb⟩ := fr.2 rfl
        cases eb
        have l : Loose H1 Z1 fun _ => False := fun _ w => w.elim
        have sy : Stay X.K H1 H1 fun _ => False := .of fun _ _ e => e
        have rp : Rp X.K H1 (fun c => Z1 c ∨ c = b) (.ref b) (.fls xs) := .fls (.inl (.inr rfl)) (.of hb) (rs.stay l sy fun _ z => .inl z)
        obtain ⟨s2, ow⟩ := lock_step (a := b) (ρ' := ρ1) st.sat (by rw [hb]; exact fun z => nomatch z) rfl (fun j d ej => .inl ⟨ej, fun f z => no ⟨j, d, ej, f, z⟩⟩) (.inr trivial)
        refine q (.ref b) H1 _ ⟨s2, st.stay, fun a z => .inl (st.z1 a z), fun c z => ?_, st.own, st.trk⟩ ⟨rp, fun f => by cases f⟩
        rcases z with z | z
        · exact st.z2 c z
        · rw [z]; exact .inr (.inl nb)
      | _ => exact q.elim
end
end Mi

set_option maxHeartbeats 1000000
/-! the check suffices: control, operations, the whole of expressions -/
namespace Mi
open PySem PySem.Spec PyProof.Rows L2
section
variable {X : Cx} {W : WX} {ex : Nat → Addr} {G : List Fn} {C : List D} {N : List Str} {gn : List (Str × Nat)} {cn bn : List Str} {sc : Scope} {a b c3 : Expr} {e f g : E} {pos : Pos}
theorem and_inv {ρ : Mi.Env} {P : R D → Prop} (h : P (evalE G C (.and e f) ρ)) : P (match evalE G C e ρ with
    | .ok (.bl true) ρ1 => match evalE G C f ρ1 with
      | .ok (.bl k) ρ2 => .ok (.bl k) ρ2
      | .exc c ρ2 => .exc c ρ2
      | _ => .stk
    | .ok (.bl false) ρ1 => .ok (.bl false) ρ1
    | .exc c ρ1 => .exc c ρ1
    | _ => .stk) := by
  unfold evalE at h
  exact h
theorem not_val (h : PE X a (tE X.K W ex G C e)) : PE X (.UnaryOp .Not a pos) (tE X.K W ex G C (.not e)) :=
  pe_weak (pe_not h) fun σ H Q ⟨Z, ρ, s, q⟩ => by
    refine ⟨Z, ρ, s, ?_⟩
    unfold evalE at q
    cases r : evalE G C e ρ with
    | exc c ρ1 => rw [r] at q; exact q
    | stk => rw [r] at q; exact q.elim
    | ok d ρ1 =>
      rw [r] at q
      cases d with
      | bl k => exact fun v H1 Z1 st fr => ⟨k, rep_bl fr.1, q _ H1 Z1 st ⟨.of (.bl _), fun z => by cases z⟩⟩
      | _ => exact q.elim
theorem not_tst (h : PT X a (tT X.K W ex G C e)) : PT X (.UnaryOp .Not a pos) (tT X.K W ex G C (.not e)) :=
  pt_weak (pt_not h) fun σ H Q ⟨Z, ρ, s, q⟩ => by
    refine ⟨Z, ρ, s, ?_⟩
    unfold evalE at q
    cases r : evalE G C e ρ with
    | exc c ρ1 => rw [r] at q; exact q
    | stk => rw [r] at q; exact q.elim
    | ok d ρ1 =>
      rw [r] at q
      cases d with
      | bl k => exact q
      | _ => exact q.elim
theorem and_val' {t : TE} {σ : L2.St} {H : Hp} {Q : VK} (ht : ∀ σ H Q, tE X.K W ex G C f σ H Q → t σ H Q) (q : tE X.K W ex G C (.and e f) σ H Q) : tAndV (tE X.K W ex G C e) t σ H Q := by
  obtain ⟨Z, ρ, s, q⟩ := q
  refine ⟨Z, ρ, s, ?_⟩
  unfold evalE at q
  cases r : evalE G C e ρ with
  | exc c ρ1 => rw [r] at q; exact q
  | stk => rw [r] at q; exact q.elim
  | ok d ρ1 =>
    rw [r] at q
    cases d with
    | bl k =>
      intro v H1 Z1 st fr
      refine ⟨k, rep_bl fr.1, ?_⟩
      cases k with
      | false => rw [if_neg Bool.false_ne_true]; exact q _ H1 Z1 st ⟨.of (.bl _), fun z => by cases z⟩
      | true =>
        rw [if_pos rfl]
        refine ht _ _ _ ⟨Z1, ρ1, st.sat, ?_⟩
        dsimp only at q
        cases r2 : evalE G C f ρ1 with
        | exc c ρ2 => rw [r2] at q; exact fun H2 Z2 s2 => q H2 Z2 (st.trans s2)
        | stk => rw [r2] at q; exact q.elim
        | ok d2 ρ2 =>
          rw [r2] at q
          cases d2 with
          | bl k => exact fun v H2 Z2 s2 fr2 => q v H2 Z2 (st.trans s2) (fr2.imp st.trk)
          | _ => exact q.elim
    | _ => exact q.elim
theorem or_val' {t : TE} {σ : L2.St} {H : Hp} {Q : VK} (ht : ∀ σ H Q, tE X.K W ex G C f σ H Q → t σ H Q) (q : tE X.K W ex G C (.or e f) σ H Q) : tOrV (tE X.K W ex G C e) t σ H Q := by
  obtain ⟨Z, ρ, s, q⟩ := q
  refine ⟨Z, ρ, s, ?_⟩
  unfold evalE at q
  cases r : evalE G C e ρ with
  | exc c ρ1 => rw [r] at q; exact q
  | stk => rw [r] at q; exact q.elim
  | ok d ρ1 =>
    rw [r] at q
    cases d with
    | bl k =>
      intro v H1 Z1 st fr
      refine ⟨k, rep_bl fr.1, ?_⟩
      cases k with
      | true => rw [if_pos rfl]; exact q _ H1 Z1 st ⟨.of (.bl _), fun z => by cases z⟩
      | false =>
        rw [if_neg Bool.false_ne_true]
        refine ht _ _ _ ⟨Z1, ρ1, st.sat, ?_⟩
        dsimp only at q
        cases r2 : evalE G C f ρ1 with
        | exc c ρ2 => rw [r2] at q; exact fun H2 Z2 s2 => q H2 Z2 (st.trans s2)
        | stk => rw [r2] at q; exact q.elim
        | ok d2 ρ2 =>
          rw [r2] at q
          cases d2 with
          | bl k => exact fun v H2 Z2 s2 fr2 => q v H2 Z2 (st.trans s2) (fr2.imp st.trk)
          | _ => exact q.elim
    | _ => exact q.elim
theorem and_tst' {t : TT} {σ : L2.St} {H : Hp} {Q : Bool → Hp → Prop} (ht : ∀ σ H Q, tT X.K W ex G C f σ H Q → t σ H Q) (q : tT X.K W ex G C (.and e f) σ H Q) : tAnd (tT X.K W ex G C e) t σ H Q := by
  obtain ⟨Z, ρ, s, q⟩ := q
  refine ⟨Z, ρ, s, ?_⟩
  unfold evalE at q
  cases r : evalE G C e ρ with
  | exc c ρ1 => rw [r] at q; exact q
  | stk => rw [r] at q; exact q.elim
  | ok d ρ1 =>
    rw [r] at q
    cases d with
    | bl k =>
      intro H1 Z1 st
      cases k with
      | false => rw [if_neg Bool.false_ne_true]; exact q H1 Z1 st
      | true =>
        rw [if_pos rfl]
        refine ht _ _ _ ⟨Z1, ρ1, st.sat, ?_⟩
        dsimp only at q
        cases r2 : evalE G C f ρ1 with
        | exc c ρ2 => rw [r2] at q; exact fun H2 Z2 s2 => q H2 Z2 (st.trans s2)
        | stk => rw [r2] at q; exact q.elim
        | ok d2 ρ2 =>
          rw [r2] at q
          cases d2 with
          | bl k => exact fun H2 Z2 s2 => q H2 Z2 (st.trans s2)
          | _ => exact q.elim
    | _ => exact q.elim
theorem or_tst' {t : TT} {σ : L2.St} {H : Hp} {Q : Bool → Hp → Prop} (ht : ∀ σ H Q, tT X.K W ex G C f σ H Q → t σ H Q) (q : tT X.K W ex G C (.or e f) σ H Q) : tOr (tT X.K W ex G C e) t σ H Q := by
  obtain ⟨Z, ρ, s, q⟩ := q
  refine ⟨Z, ρ, s, ?_⟩
  unfold evalE at q
  cases r : evalE G C e ρ with
  | exc c ρ1 => rw [r] at q; exact q
  | stk => rw [r] at q; exact q.elim
  | ok d ρ1 =>
    rw [r] at q
    cases d with
    | bl k =>
      intro H1 Z1 st
      cases k with
      | true => rw [if_pos rfl]; exact q H1 Z1 st
      | false =>
        rw [if_neg Bool.false_ne_true]
        refine ht _ _ _ ⟨Z1, ρ1, st.sat, ?_⟩
        dsimp only at q
        cases r2 : evalE G C f ρ1 with
        | exc c ρ2 => rw [r2] at q; exact fun H2 Z2 s2 => q H2 Z2 (st.trans s2)
        | stk => rw [r2] at q; exact q.elim
        | ok d2 ρ2 =>
          rw [r2] at q
          cases d2 with
          | bl k => exact fun H2 Z2 s2 => q H2 Z2 (st.trans s2)
          | _ => exact q.elim
    | _ => exact q.elim
theorem ite_val {c : Expr} {ec : E} (hc : PT X c (tT X.K W ex G C ec)) (ha : PE X a (tE X.K W ex G C e)) (hb : PE X b (tE X.K W ex G C f)) : PE X (.IfExp c a b pos) (tE X.K W ex G C (.ite ec e f)) :=
  pe_weak (pe_ifExp hc ha hb) fun σ H Q ⟨Z, ρ, s, q⟩ => by
    refine ⟨Z, ρ, s, ?_⟩
    unfold evalE at q
    cases r : evalE G C ec ρ with
    | exc c ρ1 => rw [r] at q; exact q
    | stk => rw [r] at q; exact q.elim
    | ok d ρ1 =>
      rw [r] at q
      have key : ∀ (g : E), PostE X.K W ex σ H Z ρ (evalE G C g ρ1) Q → ∀ H1 Z1, Step X.K σ H Z ρ σ H1 Z1 ρ1 → tE X.K W ex G C g σ H1 Q := fun g q H1 Z1 st => by
        refine ⟨Z1, ρ1, st.sat, ?_⟩
        cases r2 : evalE G C g ρ1 with
        | exc c ρ2 => rw [r2] at q; exact fun H2 Z2 s2 => q H2 Z2 (st.trans s2)
        | stk => rw [r2] at q; exact q.elim
        | ok d2 ρ2 => rw [r2] at q; exact fun v H2 Z2 s2 fr2 => q v H2 Z2 (st.trans s2) (fr2.imp st.trk)
      cases d with
      | bl k =>
        intro H1 Z1 st
        cases k with
        | false => rw [if_neg Bool.false_ne_true]; exact key f q H1 Z1 st
        | true => rw [if_pos rfl]; exact key e q H1 Z1 st
      | _ => exact q.elim
/-- how a comparison is shown -/
def CmpOk (X : Cx) (o : Cop) (op : CmpOp) : Prop := ∃ r : R2, OpR X (compareOp op) r ∧ BinOk X (.cmp o) r
theorem cmp_ok (c : Ctx X W ex G C N gn cn bn sc) {o : Cop} {op : CmpOp} (h : copOk o op = true) : CmpOk X o op := by
  cases o <;> cases op <;> first | (cases h; done) | skip
  · exact ⟨_, op_eqDD c.hu, ok_eq⟩
  · exact ⟨_, op_neDD c.hu, ok_ne⟩
  · exact ⟨_, op_ltD c.hu, ok_less fun _ _ => rfl⟩
  · exact ⟨_, op_leD c.hu, ok_less fun _ _ => rfl⟩
  · exact ⟨_, op_gtD c.hu, ok_less fun _ _ => rfl⟩
  · exact ⟨_, op_geD c.hu, ok_less fun _ _ => rfl⟩
  · exact ⟨_, op_inX c.hu, ok_in⟩
  · exact ⟨_, op_ninX c.hu, ok_notin⟩
  · exact ⟨_, op_isNB, ok_is⟩
  · exact ⟨_, op_notNB, ok_isnot⟩
theorem chain_use {o1 o2 : Cop} {r1 r2 : R2} (k1 : BinOk X (.cmp o1) r1) (k2 : BinOk X (.cmp o2) r2) {σ : L2.St} {H : Hp} {Q : VK} (q : tE X.K W ex G C (.chain o1 o2 e f g) σ H Q) :
    tChain r1 r2 (tE X.K W ex G C e) (tE X.K W ex G C f) (tE X.K W ex G C g) σ H Q := by
  obtain ⟨Z, ρ, s, q⟩ := q
  refine ⟨Z, ρ, s, ?_⟩
  unfold evalE at q
  cases ra : evalE G C e ρ with
  | exc c ρ1 => rw [ra] at q; exact q
  | stk => rw [ra] at q; exact q.elim
  | ok x ρ1 =>
    rw [ra] at q
    dsimp only at q
    intro vx H1 Z1 s1 f1
    refine ⟨Z1, ρ1, s1.sat, ?_⟩
    cases rb : evalE G C f ρ1 with
    | exc c ρ2 => rw [rb] at q; exact fun H2 Z2 s2 => q H2 Z2 (s1.trans s2)
    | stk => rw [rb] at q; exact q.elim
    | ok y ρ2 =>
      rw [rb] at q
      dsimp only at q
      intro vy H2 Z2 s2 f2
      have s12 := s1.trans s2
      have f1' := Free.step s1.sat s2 f1
      cases q1 : cmpD o1 x y with
      | none => rw [q1] at q; exact q.elim
      | some d1 =>
        rw [q1] at q
        cases d1 with
        | bl k =>
          refine k1 vx vy H2 Z2 x y (.bl k) _ s2.sat.zok f1'.1 f2.1 q1 fun w H3 n => ?_
          rcases n with ⟨rfl, rw'⟩ | ⟨p, o', hp, rfl, rfl, rd⟩ | ⟨_, p, o', _, hp, _, rfl, rfl, rd⟩
          · cases rw'
            refine ⟨k, rfl, ?_⟩
            cases k with
            | false => rw [if_neg Bool.false_ne_true]; exact q _ H3 Z2 s12 ⟨.of (.bl _), fun z => by cases z⟩
            | true =>
              rw [if_pos rfl]
              dsimp only at q
              refine ⟨Z2, ρ2, s2.sat, ?_⟩
              cases rc : evalE G C g ρ2 with
              | exc c ρ3 => rw [rc] at q; exact fun H4 Z4 s4 => q H4 Z4 (s12.trans s4)
              | stk => rw [rc] at q; exact q.elim
              | ok z ρ3 =>
                rw [rc] at q
                dsimp only at q
                intro vz H4 Z4 s4 f4
                have f2' := Free.step s2.sat s4 f2
                cases q2 : cmpD o2 y z with
                | none => rw [q2] at q; exact q.elim
                | some d2 =>
                  rw [q2] at q
                  cases d2 with
                  | bl k2' =>
                    refine k2 vy vz H4 Z4 y z (.bl k2') _ s4.sat.zok f2'.1 f4.1 q2 fun w H5 n => ?_
                    obtain ⟨s5, f5⟩ := New.step s4.sat n
                    exact q w H5 Z4 ((s12.trans s4).trans s5) (f5.imp (s12.trans s4).trk)
                  | _ => exact q.elim
          · cases rd
          · cases rd
        | _ => exact q.elim
theorem last_marks {o1 o2 : CmpOp} {x y : Expr} (h : okA y = true) : lastMarks [o1, o2] [x, y] = false := marks_no h
theorem cmp_J (c : Ctx X W ex G C N gn cn bn sc) {o : Cop} {op : CmpOp} (h : copOk o op = true) (ja : J X W ex G C e a) (jb : J X W ex G C f b) (ob : okA b = true) : J X W ex G C (.op (.cmp o) (.cons e (.cons f .nil))) (.Compare a [op] [b] pos) := by
  obtain ⟨r, h1, h2⟩ := cmp_ok c h
  exact .mk' rfl (pe_weak (pe_cmpR h1 ja.opd jb.opd (marks_no ob)) fun σ H Q q => two h2 q) (fun _ => pt_weak (pt_cmpR h1 ja.opd jb.opd (marks_no ob)) fun σ H Q q => two h2 (tT_tE q)) fun _ _ _ z => by cases z
theorem chain_J (c : Ctx X W ex G C N gn cn bn sc) {o1 o2 : Cop} {p1 p2 : CmpOp} (h1 : copOk o1 p1 = true) (h2 : copOk o2 p2 = true) (ja : PE X a (tE X.K W ex G C e)) (jb : PE X b (tE X.K W ex G C f)) (jc : PE X c3 (tE X.K W ex G C g)) (oc : okA c3 = true) :
    J X W ex G C (.chain o1 o2 e f g) (.Compare a [p1, p2] [b, c3] pos) := by
  obtain ⟨r1, h1, k1⟩ := cmp_ok c h1
  obtain ⟨r2, h2, k2⟩ := cmp_ok c h2
  exact .mk' rfl (pe_weak (pe_chain h1 h2 ja jb jc (last_marks oc)) fun σ H Q q => chain_use k1 k2 q) (fun _ => pt_weak (pt_chain h1 h2 ja jb jc (last_marks oc)) fun σ H Q q => chain_use k1 k2 (tT_tE q)) fun _ _ _ z => by cases z
theorem bin_J {o : Bop} {op : Operator} (h : bopOk o op = true) (ja : PE X a (tOpd X.K W ex G C e)) (jb : PE X b (tOpd X.K W ex G C f)) : J X W ex G C (.op (.bin o) (.cons e (.cons f .nil))) (.BinOp a op b pos) := by
  refine .plain rfl ?_ (fun _ _ _ z => by cases z) (fun _ _ z => by cases z) (fun _ _ _ _ z => by cases z)
  cases o <;> cases op <;> first | (cases h; done) | skip
  · exact pe_addD ja jb
  · exact pe_subD ja jb
  · exact pe_mulD ja jb
  · exact pe_fdivD ja jb
  · exact pe_modD ja jb
  · exact pe_powD ja jb
theorem str_ofInj {a b : String} (h : Str.ofString a = Str.ofString b) : True := trivial
theorem prim_J (c : Ctx X W ex G C N gn cn bn sc) {p : Prim} {x : Str} {es : Es} {p1 : Pos} {as : List Expr} (hx : (pname p).map Str.ofString = some x) (hg : gloN sc x = true) (hb : inB bn x = true) (jl : JL X W ex G C es (a :: as)) :
    PE X (.Call (.Name x p1) (a :: as) [] pos) (tE X.K W ex G C (.op (.prim p) es)) := by
  have oks := jl.ok
  have hg' := gloN_ok c hg
  have hm := c.blt x (of_decide_eq_true hb)
  have s1 := star_cons (as := as) (env := X.env) (oks a List.mem_cons_self)
  have s2 := star_any (pos := pos) (env := X.env) (as := as) fun b hb => oks b (List.mem_cons_of_mem _ hb)
  cases p <;> first | (cases hx; done) | skip
  all_goals cases hx
  · exact pe_weak (pe_callB call_len hg'.1 hm (by decide +kernel) jl.pa (by decide) hg'.2 s1 s2) fun σ H Q q => prim_use ok_len q
  · exact pe_weak (pe_callTy call_tuple_of hg'.1 hm (by decide +kernel) jl.pa (by decide) hg'.2 s1 s2) fun σ H Q q => prim_use ok_tuple q
  · exact pe_weak (pe_callTy call_list_of hg'.1 hm (by decide +kernel) jl.pa (by decide) hg'.2 s1 s2) fun σ H Q q => prim_use ok_list q
  · exact pe_weak (pe_callB (cr_sortedI.or (cr_sortedX.or ((cr_sortG c.hu).or (cr_sortedXT.or cr_sortedIT)))) hg'.1 hm (by decide +kernel) jl.pa (by decide) hg'.2 s1 s2) fun σ H Q q => prim_use ok_sorted q
  · exact pe_weak (pe_callB ((cr_sum c.calm).or (cr_sumT c.calm)) hg'.1 hm (by decide +kernel) jl.pa (by decide) hg'.2 s1 s2) fun σ H Q q => prim_use ok_sum q
  · exact pe_weak (pe_callB ((cr_min c.calm).or ((call_min2 c.calm).or (cr_minG c.calm c.hu))) hg'.1 hm (by decide +kernel) jl.pa (by decide) hg'.2 s1 s2) fun σ H Q q => prim_use ok_min q
  · exact pe_weak (pe_callB ((cr_max c.calm).or ((call_max2 c.calm).or (cr_maxG c.calm c.hu))) hg'.1 hm (by decide +kernel) jl.pa (by decide) hg'.2 s1 s2) fun σ H Q q => prim_use ok_max q
  · exact pe_weak (pe_callB call_abs hg'.1 hm (by decide +kernel) jl.pa (by decide) hg'.2 s1 s2) fun σ H Q q => prim_use ok_abs q
  · exact pe_weak (pe_callTy call_int1 hg'.1 hm (by decide +kernel) jl.pa (by decide) hg'.2 s1 s2) fun σ H Q q => prim_use ok_int q
  · exact pe_weak (pe_callB (cr_any c.calm) hg'.1 hm (by decide +kernel) jl.pa (by decide) hg'.2 s1 s2) fun σ H Q q => prim_use ok_any q
  · exact pe_weak (pe_callB (cr_all c.calm) hg'.1 hm (by decide +kernel) jl.pa (by decide) hg'.2 s1 s2) fun σ H Q q => prim_use ok_all q
  · exact pe_weak (pe_callTy (cr_range1.or cr_range2) hg'.1 hm (by decide +kernel) jl.pa (by decide) hg'.2 s1 s2) fun σ H Q q => prim_use ok_rangeV q
theorem dlen_J (c : Ctx X W ex G C N gn cn bn sc) {x : Str} {es : Es} {p1 : Pos} {as : List Expr} (hx : x = "len") (hg : gloN sc x = true) (hb : inB bn x = true) (jl : JL X W ex G C es (a :: as)) :
    PE X (.Call (.Name x p1) (a :: as) [] pos) (tE X.K W ex G C (.op .dlen es)) := by
  have oks := jl.ok
  have hg' := gloN_ok c hg
  have hm := c.blt x (of_decide_eq_true hb)
  have s1 := star_cons (as := as) (env := X.env) (oks a List.mem_cons_self)
  have s2 := star_any (pos := pos) (env := X.env) (as := as) fun b hb => oks b (List.mem_cons_of_mem _ hb)
  subst hx
  exact pe_weak (pe_callB call_lenD hg'.1 hm (by decide +kernel) jl.pa (by decide) hg'.2 s1 s2) fun σ H Q q => dlen_use q
theorem dsrt_J (c : Ctx X W ex G C N gn cn bn sc) {x : Str} {es : Es} {p1 : Pos} {as : List Expr} (hx : x = "sorted") (hg : gloN sc x = true) (hb : inB bn x = true) (jl : JL X W ex G C es (a :: as)) :
    PE X (.Call (.Name x p1) (a :: as) [] pos) (tE X.K W ex G C (.op .dsrt es)) := by
  have oks := jl.ok
  have hg' := gloN_ok c hg
  have hm := c.blt x (of_decide_eq_true hb)
  have s1 := star_cons (as := as) (env := X.env) (oks a List.mem_cons_self)
  have s2 := star_any (pos := pos) (env := X.env) (as := as) fun b hb => oks b (List.mem_cons_of_mem _ hb)
  subst hx
  exact pe_weak (pe_callB (call_sortedDG c.calm) hg'.1 hm (by decide +kernel) jl.pa (by decide) hg'.2 s1 s2) fun σ H Q q => dsrt_use q
theorem rep_rng {K : PySem.W.Frag} {H : Hp} {Z : Addr → Prop} {x : V} {lo : Int} {n : Nat} (h : RepD K H Z x (.rng lo n)) : ∃ a hi, x = .ref a ∧ H a = some (.rng lo hi) ∧ n = (hi - lo).toNat ∧ (-(2 ^ 62) ≤ lo ∧ lo < 2 ^ 62 ∧ -(2 ^ 62) ≤ hi ∧ hi < 2 ^ 62) := by
  cases h with
  | rng a b c => exact ⟨_, _, rfl, a, b, c⟩
theorem srtK_use {P : Addr} {q : Str} {i : Nat} (hT : TabK X.K = [(P, q)]) (hv : e.isVar = false) {σ : L2.St} {H : Hp} {Q : VK} (h : tE X.K W ex G C (.op .srtK (.cons (.var i) (.cons e .nil))) σ H Q) : Kl.tSrt (tE X.K W ex G C e) i P q σ H Q := by
  obtain ⟨Z, ρ, s, h⟩ := h
  refine ⟨Z, ρ, s, ?_⟩
  unfold evalE evalL at h
  rw [if_pos (show (E.var i).isVar = true from rfl)] at h
  dsimp only at h
  cases e0 : ρ[i]? with
  | none => rw [e0] at h; exact h.elim
  | some o =>
    cases o with
    | none => rw [e0] at h; exact h.elim
    | some d0 =>
      rw [e0] at h
      dsimp only at h
      unfold evalL at h
      rw [if_neg (show ¬ e.isVar = true by rw [hv]; exact Bool.false_ne_true)] at h
      cases r : evalE G C e ρ with
      | exc c ρ1 => rw [r] at h; exact h
      | stk => rw [r] at h; exact h.elim
      | ok d ρ1 =>
        rw [r] at h
        unfold evalL at h
        dsimp only at h
        cases e1 : ρ1[i]? with
        | none => rw [e1] at h; exact h.elim
        | some o1 =>
          cases o1 with
          | none => rw [e1] at h; exact h.elim
          | some d1 =>
            rw [e1] at h
            dsimp only at h
            intro v H1 Z1 st fr
            cases oo : opD .srtK [d1, d] with
            | none => rw [oo] at h; exact h.elim
            | some dd =>
              rw [oo] at h
              dsimp only at h
              have key : ∃ z n, d1 = .str z ∧ d = .rng 0 n ∧ n ≤ z.length + 1 ∧ n ≤ 1000 ∧ z.length ≤ 1000 ∧ dd = .lst ((sufS z n).map fun k => D.int ((k : Nat) : Int)) := by
                cases d1 with
                | str z =>
                  cases d with
                  | rng lo n =>
                    have oo : (if lo = 0 ∧ n ≤ z.length + 1 ∧ n ≤ 1000 ∧ z.length ≤ 1000 then some (D.lst ((sufS z n).map fun k => .int ((k : Nat) : Int))) else none) = some dd := oo
                    by_cases hh : lo = 0 ∧ n ≤ z.length + 1 ∧ n ≤ 1000 ∧ z.length ≤ 1000
                    · rw [if_pos hh] at oo
                      cases oo
                      exact ⟨z, n, rfl, by rw [hh.1], hh.2.1, hh.2.2.1, hh.2.2.2, rfl⟩
                    · rw [if_neg hh] at oo; cases oo
                  | _ => cases oo
                | _ => cases d <;> cases oo
              obtain ⟨z, n, rfl, rfl, hn, hn2, hz, rfl⟩ := key
              obtain ⟨a, top, rfl, ha, en, hb⟩ := rep_rng fr.1
              obtain ⟨vz, ez, rz⟩ := st.sat.rep i _ e1
              have rz := rep_str rz
              refine ⟨a, n, z, top, rfl, ha, by rw [en, Int.sub_zero], hb.2.2.1, hn2, hz, by rw [ez, rz], st.sat.tabs _ (by rw [hT]; exact List.mem_singleton.mpr rfl), fun H2 D ns hm ht hD hp hs => ?_⟩
              have nw := srt_new (K := X.K) (Z := Z1) st.sat.zok hm ht (fun x hx _ => by rw [hT, List.mem_singleton] at hx; rw [hx]) hD hn hp hs
              obtain ⟨s5, f5⟩ := New.step st.sat nw
              exact h _ _ Z1 (st.trans s5) (f5.imp st.trk)
theorem par_of {params : Arguments} (h : parP params = true) : ∃ p, params = ⟨[], [⟨"p", none, p⟩], none, [], [], none, []⟩ := by
  unfold parP at h
  split at h
  · cases of_decide_eq_true h
    exact ⟨_, rfl⟩
  · cases h
theorem srtK_J (c : Ctx X W ex G C N gn cn bn sc) {x kw tx p : Str} {i : Nat} {r : Expr} {params : Arguments} {scope : Scope} {p0 p3 p4 p5 p6 lpos kpos : Pos} (hx : x = "sorted") (hk : kw = "key") (hp : p = "p") (hg : gloN sc x = true) (hb : inB bn x = true) (hl : inB bn "<lambda>" = true)
    (hv : e.isVar = false) (hP : parP params = true) (ho : okA r = true) (hvis : visN N scope i tx = true) (hL : Kl.lam1B N sc scope "p" = true) (hr : PE X r (tE X.K W ex G C e)) :
    PE X (.Call (.Name x p0) [r] [⟨some kw, .Lambda params (.Subscript (.Name tx p3) (.Slice (some (.Name p p4)) none none p5) p6) scope lpos, kpos⟩] pos) (tE X.K W ex G C (.op .srtK (.cons (.var i) (.cons e .nil)))) := by
  subst hx hk hp
  obtain ⟨pp, rfl⟩ := par_of hP
  obtain ⟨cc, P, k, h1, h2, h3, h4⟩ := (c.lam (of_decide_eq_true hl)).ex
  have hg' := gloN_ok c hg
  unfold visN at hvis
  simp only [Bool.and_eq_true, decide_eq_true_eq, Bool.not_eq_true'] at hvis
  obtain ⟨⟨⟨v1, v2⟩, v3⟩, v4⟩ := hvis
  have V : Vis scope tx := by
    split at v2
    · rename_i e; exact .inl e
    · rename_i e; exact .inr (.inl e)
    · rename_i e; exact .inr (.inr e)
    · cases v2
  have s1 : starEach [r] X.env = (false, eval r X.env) :: starEach [] X.env := star_cons ho
  exact pe_weak (Kl.pe_srt hg'.1 (c.blt _ (of_decide_eq_true hb)) hr h2 h1 (Kl.lam1_by (by rw [c.hN, c.hsc]; exact hL)) rfl (fun _ _ _ _ _ _ _ => rfl) h4 (by rw [c.hN]; exact v1) V v3 v4 rfl rfl (by rw [s1]; rfl) (by rw [s1]; rfl) (pa_cons hr pa_nil s1)) fun σ H Q q => srtK_use h3 hv q
end
end Mi

set_option maxHeartbeats 1000000
/-! the check suffices: all expressions -/
namespace Mi
open PySem PySem.Spec PyProof.Rows L2
section
variable {X : Cx} {ex : Nat → Addr} {G : List Fn} {C : List D} {N : List Str} {gn : List (Str × Nat)} {cn bn : List Str}
theorem locF_ok {sc : Scope} {fn : Str → Bool} {i : Nat} {x : Str} {pos : Pos} (hN : X.N = N) (nd : N.Nodup) (hsc : X.env.scope = sc) (hfn : ∀ x, fn x = true → X.fn x = true) (h : locF N sc fn i x = true) : PG X (.Name x pos) (gName i) := by
  unfold locF at h
  simp only [Bool.and_eq_true, decide_eq_true_eq] at h
  obtain ⟨h1, h2⟩ := h
  split at h2
  · rename_i e
    refine pg_name (by rw [hN]; exact nd) (by rw [hN]; exact h1) (.inl (by rw [hsc]; exact e)) (.inr (by rw [hsc]; exact e))
  · rename_i e
    refine pg_name (by rw [hN]; exact nd) (by rw [hN]; exact h1) (.inr (by rw [hsc]; exact e)) (.inl (hfn x h2))
  · cases h2
theorem patN_ok {sc : Scope} {fn : Str → Bool} (hN : X.N = N) (nd : N.Nodup) (hsc : X.env.scope = sc) (hfn : ∀ x, fn x = true → X.fn x = true) : ∀ {is : List Nat} {es : List Expr}, patN N sc fn is es = true → PGs X es (gNames is) ∧ (assignEach es X.env).length = is.length ∧ (assignEach es X.env).findIdx? (fun x => x.fst) = none
  | [], [], _ => ⟨pgs_nil, rfl, rfl⟩
  | i :: is, e :: es, h => by
    cases e with
    | Name x p =>
      unfold patN at h
      rw [Bool.and_eq_true] at h
      obtain ⟨h1, h2, h3⟩ := patN_ok hN nd hsc hfn (is := is) (es := es) h.2
      refine ⟨pgs_cons (locF_ok hN nd hsc hfn h.1) h1, ?_, ?_⟩
      · show (assignEach es X.env).length + 1 = is.length + 1
        rw [h2]
      · show List.findIdx? (fun x => x.fst) ((false, _) :: assignEach es X.env) = none
        rw [List.findIdx?_cons, h3]
        rfl
    | _ => cases h
  | [], _ :: _, h => by cases h
  | _ :: _, [], h => by cases h
theorem pat_ok {sc : Scope} {fn : Str → Bool} {p : Pat} {tg : Expr} (hN : X.N = N) (nd : N.Nodup) (hsc : X.env.scope = sc) (hfn : ∀ x, fn x = true → X.fn x = true) (calm : X.calm = true) (h : patOk N sc fn p tg = true) : PG X tg (gPat X.K p) := by
  cases p with
  | nm i =>
    cases tg with
    | Name x pos => exact locF_ok hN nd hsc hfn h
    | _ => cases h
  | tp is =>
    cases tg with
    | Tuple es k pos =>
      obtain ⟨h1, h2, h3⟩ := patN_ok hN nd hsc hfn (show patN N sc fn is es = true from h)
      exact pg_tup (k := k) (pos := pos) calm h1 h2 h3
    | _ => cases h
theorem ctx_blk {W : WX} {sc : Scope} (c : Ctx X W ex G C N gn cn bn sc) (s : Shared) (H : Hp) (scope : Scope) (C' : Addr) (cl : List (Str × Addr)) (fp : List Addr) :
    Ctx (X.blk s H scope (compEnvC scope cl C' X.env) fp) WF ex G C N gn cn bn (relS scope sc) where
  hN := c.hN
  nd := c.nd
  hsc := by rw [← c.hsc]; rfl
  calm := c.calm
  tk := takes0
  hu := c.hu
  blt := c.blt
  calls := fun j x n h => let ⟨f, e, ok⟩ := c.calls j x n h; ⟨f, e, ok.blk ..⟩
  glob := c.glob
  lam := fun h => let ⟨c, P, k, a, b, d, e⟩ := (c.lam h).ex; ⟨⟨c, P, k, a, b, d, e⟩⟩
theorem own_slots (is : List Nat) : (is.map fun i => (N.getD i ("" : Str), i)).map (·.2) = is := by
  rw [List.map_map]
  exact List.map_id' is
theorem fold_no {iter : Expr} {env : PySem.Env} (h : okA iter = true) : ∀ x, foldedSetIterable iter env x = pure x := by
  intro x
  cases iter <;> first | rfl | cases h
theorem gT {W : WX} {sc : Scope} (c : Ctx X W ex G C N gn cn bn sc) {x : Str} (h : gloN sc x = true) : Gl X x := (gloN_ok c h).1
theorem bool_split {a b : Bool} (h : (a && b) = true) : a = true ∧ b = true := by rwa [Bool.and_eq_true] at h
theorem J.base {W : WX} {e : E} {a : Expr} (hv : e.isVar = false) (val : PE X a (tE X.K W ex G C e)) (h1 : ∀ op vs pos, a ≠ .BoolOp op vs pos) (h2 : ∀ x pos, a ≠ .UnaryOp .Not x pos) (h4 : ∀ l ops cs pos, a ≠ .Compare l ops cs pos) : J X W ex G C e a := .plain hv val h1 h2 h4
theorem frz_tst {W : WX} {e : E} {a : Expr} (h : PT X a (tT X.K W ex G C e)) : PT X a (tT X.K W ex G C (.frz e)) :=
  pt_weak h fun σ H Q ⟨Z, ρ, s, q⟩ => by
    refine ⟨Z, ρ, s, ?_⟩
    unfold evalE at q
    cases r : evalE G C e ρ with
    | exc c ρ1 => rw [r] at q; exact q
    | stk => rw [r] at q; exact q.elim
    | ok d ρ1 =>
      rw [r] at q
      cases d <;> exact q.elim
theorem mth_use {W : WX} {sc : Scope} (c : Ctx X W ex G C N gn cn bn sc) {m : Meth} {name : Str} {o b : Expr} {e f : E} {pos apos : Pos} (hn : (mname m).map Str.ofString = some name) (hl : (apos.endLine == pos.line) = true) (nc : noCall o = true) (h1 : PE X o (tE X.K W ex G C e)) (h2 : PE X b (tOpd X.K W ex G C f)) (ob : okA b = true) :
    PE X (.Call (.Attribute o name apos) [b] [] pos) (tE X.K W ex G C (.mth m e (.cons f .nil))) := by
  have hs : starEach [b] X.env = [(false, eval b X.env)] := star_cons ob
  cases m <;> first | (cases hn; done) | skip
  all_goals cases hn
  case join => exact pe_mthD ok_join (fun d => kind_str d) F.slot_str_join F.type_str_join mt_join h1 h2 hs (base_plain nc) hl
  all_goals first
    | exact pe_mthD ok_endswith (fun d => kind_str d) F.slot_str_endswith F.type_str_endswith mt_endswith h1 h2 hs (base_plain nc) hl
    | exact pe_mthD ok_count (fun d => kind_str d) F.slot_str_count F.type_str_count mt_count h1 h2 hs (base_plain nc) hl
theorem lmt_J {W : WX} {sc : Scope} (c : Ctx X W ex G C N gn cn bn sc) {m : Meth} {name x : Str} {px : Pos} {b : Expr} {i : Nat} {f : E} {pos apos : Pos} (hn : (lname m).map Str.ofString = some name) (hl : (apos.endLine == pos.line) = true) (hv : visN N sc i x = true) (h2 : PE X b (tE X.K W ex G C f)) (ob : okA b = true) :
    PE X (.Call (.Attribute (.Name x px) name apos) [b] [] pos) (tE X.K W ex G C (.lmt m i f)) := by
  have hs : starEach [b] X.env = (false, eval b X.env) :: starEach [] X.env := star_cons ob
  cases m <;> first | (cases hn; done) | skip
  all_goals cases hn
  · exact pe_weak (pe_bm F.plainAttrs_list F.slot_list_count F.type_list_count (mt_lcountD c.hu) (visN_ok c hv) (pa_cons h2 pa_nil hs) (base_plain rfl) (by rw [hs]; rfl) hl hs rfl) fun σ H Q q => lmt_use ok_lcount q
  · exact pe_weak (pe_bm F.plainAttrs_list F.slot_list_index F.type_list_index (mt_lindexD c.hu) (visN_ok c hv) (pa_cons h2 pa_nil hs) (base_plain rfl) (by rw [hs]; rfl) hl hs rfl) fun σ H Q q => lmt_use ok_lindex q
theorem JL.head {W : WX} {e : E} {a : Expr} {es : Es} {as : List Expr} : JL X W ex G C (.cons e es) (a :: as) → J X W ex G C e a
  | .cons _ j _ => j
theorem pe_weakL {e : Expr} {t t' : TE} (h : PE X e t) (w : ∀ σ H Q, σ.length = X.N.length → t' σ H Q → t σ H Q) : PE X e t' := ⟨fun pins s σ H Q I q => h.run pins s σ H Q I (w σ H Q I.len q)⟩
mutual
theorem snd : ∀ (e : E) (sc : Scope) (X : Cx) (W : WX) (c : Ctx X W ex G C N gn cn bn sc) (a : Expr), chk N gn cn bn e sc a = true → J X W ex G C e a
  | .var i, sc, X, W, c, a, h => by
    unfold chk at h
    cases a with
    | Name x p =>
      have pv := visN_ok (pos := p) c h
      exact ⟨pv, var_val pv, fun _ => pt_weak (pt_val (var_val pv)) fun σ H Q q => tT_tE q, fun _ _ _ z => by cases z⟩
    | _ => cases h
  | .fz i, sc, X, W, c, a, h => by
    unfold chk at h
    cases a with
    | Name x p => exact .plain rfl (fz_val (visN_ok c h)) (fun _ _ _ z => by cases z) (fun _ _ z => by cases z) (fun _ _ _ _ z => by cases z)
    | _ => cases h
  | .int n, sc, X, W, c, a, h => by
    unfold chk at h
    split at h
    · cases of_decide_eq_true h
      exact .plain rfl (pe_weak pe_int (tE_const (fun ρ => by rw [evalE]) fun H Z => .int _)) (fun _ _ _ z => by cases z) (fun _ _ z => by cases z) (fun _ _ _ _ z => by cases z)
    · cases h
  | .bl n, sc, X, W, c, a, h => by
    unfold chk at h
    split at h
    · cases of_decide_eq_true h
      exact .plain rfl (pe_weak pe_bl (tE_const (fun ρ => by rw [evalE]) fun H Z => .bl _)) (fun _ _ _ z => by cases z) (fun _ _ z => by cases z) (fun _ _ _ _ z => by cases z)
    · cases h
  | .non, sc, X, W, c, a, h => by
    unfold chk at h
    split at h
    · exact .plain rfl (pe_weak pe_non (tE_const (fun ρ => by rw [evalE]) fun H Z => .non)) (fun _ _ _ z => by cases z) (fun _ _ z => by cases z) (fun _ _ _ _ z => by cases z)
    · cases h
  | .str s, sc, X, W, c, a, h => by
    unfold chk at h
    split at h
    · rename_i x k p
      have hx : x = strV s := Str.ext' (Array.toList_inj.mp (by rw [of_decide_eq_true h]))
      subst hx
      exact .plain rfl (pe_weak pe_str (tE_const (fun ρ => by rw [evalE]) fun H Z => .str _)) (fun _ _ _ z => by cases z) (fun _ _ z => by cases z) (fun _ _ _ _ z => by cases z)
    · cases h
  | .glob j, sc, X, W, c, a, h => by
    unfold chk at h
    cases a with
    | Name x p =>
      obtain ⟨h1, h2⟩ := bool_split h
      obtain ⟨hg, hd⟩ := gloN_ok c h1
      obtain ⟨d, u, v, e1, e2, r, rp⟩ := c.glob j x (of_decide_eq_true h2)
      exact .plain rfl (pe_weak (pe_glob hg e2 r hd) (tE_const (fun ρ => by rw [evalE, e1]) rp)) (fun _ _ _ z => by cases z) (fun _ _ z => by cases z) (fun _ _ _ _ z => by cases z)
    | _ => cases h
  | .frz e, sc, X, W, c, a, h => by
    unfold chk at h
    have j := snd e sc X W c a h
    exact .mk' rfl (frz_val j.val) (fun n => frz_tst (j.tst n)) fun op vs pos z => ⟨fun whole pins s σ H Q I q => (j.bop op vs pos z).run whole pins s σ H Q I (by
      obtain ⟨Z, ρ, st, q⟩ := q
      refine ⟨Z, ρ, st, ?_⟩
      unfold evalE at q
      cases r : evalE G C e ρ with
      | exc c ρ1 => rw [r] at q; exact q
      | stk => rw [r] at q; exact q.elim
      | ok d ρ1 =>
        rw [r] at q
        cases d <;> exact q.elim)⟩
  | .not e, sc, X, W, c, a, h => by
    unfold chk at h
    split at h
    · obtain ⟨h1, h2⟩ := bool_split h
      have j := snd e sc X W c _ h1
      exact .mk' rfl (not_val j.val) (fun _ => not_tst (j.tst h2)) fun _ _ _ z => by cases z
    · cases h
  | .and e f, sc, X, W, c, a, h => by
    unfold chk at h
    split at h
    · rename_i x y p
      simp only [Bool.and_eq_true] at h
      obtain ⟨⟨⟨h1, h2⟩, h3⟩, h4⟩ := h
      have j1 := snd e sc X W c _ h1
      have j2 := snd f sc X W c _ h3
      have pw : PW X (.BoolOp .And [x, y] p) (tT X.K W ex G C (.and e f)) := by
        refine ⟨fun whole pins s σ H Q I q => (pw_and (pos := p) (j1.tst h2) (pw_and1 (pos := p) (j2.tst h4))).run whole pins s σ H Q I (and_tst' (fun _ _ _ z => z) q)⟩
      exact .mk' rfl (pe_weak (pe_and j1.val (pe_one j2.val)) fun σ H Q q => and_val' (fun _ _ _ z => z) q) (fun _ => pw.pt) fun op vs pos z => pw
    · rename_i x y z r p
      simp only [Bool.and_eq_true] at h
      obtain ⟨⟨h1, h2⟩, h3⟩ := h
      have j1 := snd e sc X W c _ h1
      have j2 := snd f sc X W c _ h3
      have pw : PW X (.BoolOp .And (x :: y :: z :: r) p) (tT X.K W ex G C (.and e f)) := by
        refine ⟨fun whole pins s σ H Q I q => (pw_and (pos := p) (j1.tst h2) (j2.bop _ _ _ rfl)).run whole pins s σ H Q I (and_tst' (fun _ _ _ z => z) q)⟩
      exact .mk' rfl (pe_weak (pe_and j1.val j2.val) fun σ H Q q => and_val' (fun _ _ _ z => z) q) (fun _ => pw.pt) fun op vs pos z => pw
    · cases h
  | .or e f, sc, X, W, c, a, h => by
    unfold chk at h
    split at h
    · rename_i x y p
      simp only [Bool.and_eq_true] at h
      obtain ⟨⟨⟨h1, h2⟩, h3⟩, h4⟩ := h
      have j1 := snd e sc X W c _ h1
      have j2 := snd f sc X W c _ h3
      have pw : PW X (.BoolOp .Or [x, y] p) (tT X.K W ex G C (.or e f)) := by
        refine ⟨fun whole pins s σ H Q I q => (pw_or (pos := p) (j1.tst h2) (pw_or1 (pos := p) (j2.tst h4))).run whole pins s σ H Q I (or_tst' (fun _ _ _ z => z) q)⟩
      exact .mk' rfl (pe_weak (pe_or j1.val (pe_one j2.val)) fun σ H Q q => or_val' (fun _ _ _ z => z) q) (fun _ => pw.pt) fun op vs pos z => pw
    · rename_i x y z r p
      simp only [Bool.and_eq_true] at h
      obtain ⟨⟨h1, h2⟩, h3⟩ := h
      have j1 := snd e sc X W c _ h1
      have j2 := snd f sc X W c _ h3
      have pw : PW X (.BoolOp .Or (x :: y :: z :: r) p) (tT X.K W ex G C (.or e f)) := by
        refine ⟨fun whole pins s σ H Q I q => (pw_or (pos := p) (j1.tst h2) (j2.bop _ _ _ rfl)).run whole pins s σ H Q I (or_tst' (fun _ _ _ z => z) q)⟩
      exact .mk' rfl (pe_weak (pe_or j1.val j2.val) fun σ H Q q => or_val' (fun _ _ _ z => z) q) (fun _ => pw.pt) fun op vs pos z => pw
    · cases h
  | .ite c0 e f, sc, X, W, c, a, h => by
    unfold chk at h
    split at h
    · simp only [Bool.and_eq_true] at h
      obtain ⟨⟨⟨h1, h2⟩, h3⟩, h4⟩ := h
      have j0 := snd c0 sc X W c _ h1
      have j1 := snd e sc X W c _ h3
      have j2 := snd f sc X W c _ h4
      exact .mk' rfl (ite_val (j0.tst h2) j1.val j2.val) (fun z => by cases z) fun _ _ _ z => by cases z
    · cases h
  | .chain o1 o2 e1 e2 e3, sc, X, W, c, a, h => by
    unfold chk at h
    split at h
    · simp only [Bool.and_eq_true] at h
      obtain ⟨⟨⟨⟨⟨h1, h2⟩, h3⟩, h4⟩, h5⟩, h6⟩ := h
      exact chain_J c h1 h2 (snd e1 sc X W c _ h3).val (snd e2 sc X W c _ h4).val (snd e3 sc X W c _ h5).val h6
    · cases h
  | .slc e lo hi, sc, X, W, c, a, h => by
    unfold chk at h
    split at h
    · simp only [Bool.and_eq_true] at h
      obtain ⟨⟨h1, h2⟩, h3⟩ := h
      exact .plain rfl (pe_slc (snd e sc X W c _ h1).opd (sndP lo sc X W c _ h2) (sndP hi sc X W c _ h3)) (fun _ _ _ z => by cases z) (fun _ _ z => by cases z) (fun _ _ _ _ z => by cases z)
    · cases h
  | .mth m e bs, sc, X, W, c, a, h => by
    unfold chk at h
    split at h
    · simp only [Bool.and_eq_true] at h
      obtain ⟨⟨⟨⟨h1, h2⟩, h3⟩, h4⟩, h5⟩ := h
      obtain ⟨f, rfl, jb, ob⟩ := (sndL bs sc X W c _ h5).one
      exact .plain rfl (mth_use c (of_decide_eq_true h1) h2 h3 (snd e sc X W c _ h4).val jb.opd ob) (fun _ _ _ z => by cases z) (fun _ _ z => by cases z) (fun _ _ _ _ z => by cases z)
    · cases h
  | .call j es, sc, X, W, c, a, h => by
    unfold chk at h
    split at h
    · rename_i x p1 args p2
      simp only [Bool.and_eq_true] at h
      obtain ⟨⟨⟨h1, h2⟩, h3⟩, h4⟩ := h
      have h4 := of_decide_eq_true h4
      obtain ⟨f, hj, ok⟩ := c.calls j _ _ (of_decide_eq_true h1)
      obtain ⟨hg, hd⟩ := gloN_ok c h2
      have jl := sndL es sc X W c _ h3
      refine .plain rfl ?_ (fun _ _ _ z => by cases z) (fun _ _ z => by cases z) (fun _ _ _ _ z => by cases z)
      cases args with
      | nil => cases jl; exact pe_callD0 ok h4 hj c.tk hg hd
      | cons a1 as =>
        exact pe_callD ok h4 hj c.tk hg hd jl.len jl.pa (star_cons (jl.ok a1 List.mem_cons_self)) (star_any fun b hb => jl.ok b (List.mem_cons_of_mem _ hb))
    · cases h
  | .fld e f, sc, X, W, c, a, h => by
    unfold chk at h
    split at h
    · simp only [Bool.and_eq_true] at h
      obtain ⟨⟨h1, h2⟩, h3⟩ := h
      have h1 := of_decide_eq_true h1
      subst h1
      exact .plain rfl (pe_fldD (snd e sc X W c _ h3).val (base_plain h2)) (fun _ _ _ z => by cases z) (fun _ _ z => by cases z) (fun _ _ _ _ z => by cases z)
    · cases h
  | .oln j c0 e, sc, X, W, c, a, h => by
    unfold chk at h
    split at h
    · simp only [Bool.and_eq_true] at h
      obtain ⟨⟨⟨⟨⟨h1, h2⟩, h3⟩, h4⟩, h5⟩, h6⟩ := h
      have h1 := of_decide_eq_true h1
      subst h1
      split at h6
      · rename_i x n hg
        rw [Bool.and_eq_true] at h6
        obtain ⟨f, hj, ok⟩ := c.calls j _ _ hg
        have e1 := of_decide_eq_true h6.1
        have e2 := of_decide_eq_true h6.2
        subst e1
        exact .plain rfl (pe_olnD ok e2 hj (gloN_ok c h2).1 (c.blt _ (of_decide_eq_true h3)) (snd e sc X W c _ h5).val (star_cons h4)) (fun _ _ _ z => by cases z) (fun _ _ z => by cases z) (fun _ _ _ _ z => by cases z)
      · cases h6
    · cases h
  | .mcl j c0 m e es, sc, X, W, c, a, h => by
    unfold chk at h
    split at h
    · rename_i o name apos args pos
      simp only [Bool.and_eq_true] at h
      obtain ⟨⟨⟨⟨⟨⟨h1, h2⟩, h3⟩, h4⟩, h5⟩, h6⟩, h7⟩ := h
      have h1 := of_decide_eq_true h1
      subst h1
      split at h7
      · rename_i x n hg
        rw [Bool.and_eq_true] at h7
        obtain ⟨f, hj, ok⟩ := c.calls j _ _ hg
        have e1 := of_decide_eq_true h7.1
        have e2 := of_decide_eq_true h7.2
        subst e1
        have jl := sndL es sc X W c _ h6
        refine .plain rfl ?_ (fun _ _ _ z => by cases z) (fun _ _ z => by cases z) (fun _ _ _ _ z => by cases z)
        cases args with
        | nil => cases jl; exact pe_mclD0 ok e2 hj c.tk (snd e sc X W c _ h5).val (base_plain h2) h3
        | cons a1 as =>
          exact pe_mclD ok e2 hj c.tk (by rw [jl.len]) (snd e sc X W c _ h5).val jl.pa (base_plain h2) h3 (of_decide_eq_true h4) (star_any fun b hb => jl.ok b hb) (star_cons (jl.ok a1 List.mem_cons_self)) (star_any fun b hb => jl.ok b (List.mem_cons_of_mem _ hb))
      · cases h7
    · cases h
  | .op o es, sc, X, W, c, a, h => by
    unfold chk at h
    split at h
    · simp only [Bool.and_eq_true] at h
      obtain ⟨e, f, rfl, j1, j2, o1, o2⟩ := (sndL es sc X W c _ h.2).two
      exact bin_J h.1 j1.opd j2.opd
    · simp only [Bool.and_eq_true] at h
      obtain ⟨e, f, rfl, j1, j2, o1, o2⟩ := (sndL es sc X W c _ h.2).two
      exact cmp_J c h.1 j1 j2 o2
    · obtain ⟨e, rfl, j1, o1⟩ := (sndL es sc X W c _ h).one
      exact .plain rfl (pe_negD j1.opd) (fun _ _ _ z => by cases z) (fun _ _ z => by cases z) (fun _ _ _ _ z => by cases z)
    · exact .plain rfl (pe_tupD (sndL es sc X W c _ h).pa) (fun _ _ _ z => by cases z) (fun _ _ z => by cases z) (fun _ _ _ _ z => by cases z)
    · exact .plain rfl (pe_lstD (sndL es sc X W c _ h).pa) (fun _ _ _ z => by cases z) (fun _ _ z => by cases z) (fun _ _ _ _ z => by cases z)
    · simp only [Bool.and_eq_true] at h
      obtain ⟨e, f, rfl, j1, j2, o1, o2⟩ := (sndL es sc X W c _ h.1).two
      exact .plain rfl (pe_weak (pe_ix ix_seq j1.opd j2.opd (plain_ix h.2)) fun σ H Q q => two ok_idx q) (fun _ _ _ z => by cases z) (fun _ _ z => by cases z) (fun _ _ _ _ z => by cases z)
    · rename_i p x p1 args p2
      simp only [Bool.and_eq_true] at h
      obtain ⟨⟨h1, h2⟩, h3⟩ := h
      refine .plain rfl ?_ (fun _ _ _ z => by cases z) (fun _ _ z => by cases z) (fun _ _ _ _ z => by cases z)
      split at h3
      · cases h3
      · simp only [Bool.and_eq_true, decide_eq_true_eq] at h3
        exact prim_J c h3.1 h1 h2 (sndL es sc X W c _ h3.2)
      · rename_i y z
        rw [Bool.or_eq_true] at h3
        rcases h3 with h3 | h3
        · simp only [Bool.and_eq_true, decide_eq_true_eq] at h3
          exact prim_J c h3.1 h1 h2 (sndL es sc X W c _ h3.2)
        · simp only [Bool.and_eq_true, decide_eq_true_eq] at h3
          obtain ⟨hx, h3⟩ := h3
          subst hx
          split at h3
          · rename_i t p3
            simp only [Bool.and_eq_true, decide_eq_true_eq] at h3
            obtain ⟨⟨⟨k1, k2⟩, k3⟩, k4⟩ := h3
            obtain ⟨e, rfl, j1, o1⟩ := (sndL es sc X W c _ k4).one
            cases kT : isaT p with
            | none => rw [kT] at k1; cases k1
            | some T =>
              rw [kT] at k1
              cases k1
              exact pe_isaD kT j1.opd (gT c h1) (c.blt _ (of_decide_eq_true h2)) (gT c k2) (c.blt _ (of_decide_eq_true k3)) (by rw [star_cons o1]; rfl)
          · cases h3
      · cases h3
    · have ev : es = .nil := by cases es <;> first | rfl | cases h
      subst ev
      exact .plain rfl (pe_weak pe_dnewK fun σ H Q q => dnew_use q) (fun _ _ _ z => by cases z) (fun _ _ z => by cases z) (fun _ _ _ _ z => by cases z)
    · simp only [Bool.and_eq_true, decide_eq_true_eq] at h
      obtain ⟨⟨⟨h1, h2⟩, h3⟩, h4⟩ := h
      exact .plain rfl (dlen_J c h1 h2 h3 (sndL es sc X W c _ h4)) (fun _ _ _ z => by cases z) (fun _ _ z => by cases z) (fun _ _ _ _ z => by cases z)
    · simp only [Bool.and_eq_true, decide_eq_true_eq] at h
      obtain ⟨⟨⟨h1, h2⟩, h3⟩, h4⟩ := h
      exact .plain rfl (dsrt_J c h1 h2 h3 (sndL es sc X W c _ h4)) (fun _ _ _ z => by cases z) (fun _ _ z => by cases z) (fun _ _ _ _ z => by cases z)
    · split at h
      · rename_i i e
        simp only [Bool.and_eq_true, decide_eq_true_eq, Bool.not_eq_true'] at h
        obtain ⟨⟨⟨⟨⟨⟨⟨⟨⟨⟨⟨h1, h2⟩, h3⟩, h4⟩, h5⟩, h6⟩, h7⟩, h8⟩, h9⟩, h10⟩, h11⟩, h12⟩ := h
        exact .plain rfl (srtK_J c h1 h2 h3 h4 h5 h6 h7 h8 h9 h10 h11 (snd e sc X W c _ h12).val) (fun _ _ _ z => by cases z) (fun _ _ z => by cases z) (fun _ _ _ _ z => by cases z)
      · cases h
    · obtain ⟨e, rfl, j1, o1⟩ := (sndL es sc X W c _ h).one
      exact .plain rfl (pe_revD j1.opd) (fun _ _ _ z => by cases z) (fun _ _ z => by cases z) (fun _ _ _ _ z => by cases z)
    · cases h
  | .dop q i k v, sc, X, W, c, a, h => by
    unfold chk at h
    split at h
    · simp only [Bool.and_eq_true] at h
      obtain ⟨⟨⟨h1, h2⟩, h3⟩, h4⟩ := h
      have ev : v = .non := by cases v <;> first | rfl | cases h4
      subst ev
      refine .plain rfl ?_ (fun _ _ _ z => by cases z) (fun _ _ z => by cases z) (fun _ _ _ _ z => by cases z)
      exact pe_weak (pe_dget (by have := c.hu; omega) (visN_ok c h1) (snd k sc X W c _ h3).val (noSl_of h2)) fun σ H Q q => by
        obtain ⟨a, ea, _, q⟩ := dop_use dop_get q
        exact ⟨_, ea, tE_mono q fun x H1 q => tE_non q⟩
    · simp only [Bool.and_eq_true, decide_eq_true_eq] at h
      obtain ⟨⟨⟨⟨⟨⟨h0, h1⟩, h2⟩, h3⟩, h4⟩, h5⟩, h6⟩ := h
      subst h0
      refine .plain rfl ?_ (fun _ _ _ z => by cases z) (fun _ _ z => by cases z) (fun _ _ _ _ z => by cases z)
      exact pe_weak (pe_dget2 (by have := c.hu; omega) (visN_ok c h1) (snd k sc X W c _ h5).val (snd v sc X W c _ h6).val (m2_of h2 h3 h4)) fun σ H Q q => by
        obtain ⟨a, ea, isd, q⟩ := dop_use dop_gtd q
        exact ⟨_, ea, a, rfl, isd, tE_mono q fun x H1 q => tE_mono q fun y H2 ⟨a', e', q⟩ => by cases e'; exact q⟩
    · simp only [Bool.and_eq_true] at h
      obtain ⟨⟨h1, h3⟩, h4⟩ := h
      have ev : v = .non := by cases v <;> first | rfl | cases h4
      subst ev
      have hu : X.A.units + 1 < cLine := by have := c.hu; omega
      refine .mk' rfl (pe_weak (pe_cmp (pc_din hu (snd k sc X W c _ h3).val (visN_ok c h1)) (marks_no rfl)) fun σ H Q q => ?_) (fun _ => pt_weak (pt_cmp (pc_din hu (snd k sc X W c _ h3).val (visN_ok c h1)) (marks_no rfl)) fun σ H Q q => ?_) fun _ _ _ z => by cases z
      · obtain ⟨a, ea, _, q⟩ := dop_use dop_isin q
        exact tE_mono q fun x H1 q => ⟨_, ea, tE_non q⟩
      · obtain ⟨a, ea, _, q⟩ := dop_use dop_isin (tT_tE q)
        exact tE_mono q fun x H1 q => ⟨_, ea, tE_non q⟩
    · simp only [Bool.and_eq_true] at h
      obtain ⟨⟨h1, h3⟩, h4⟩ := h
      have ev : v = .non := by cases v <;> first | rfl | cases h4
      subst ev
      have hu : X.A.units + 1 < cLine := by have := c.hu; omega
      refine .mk' rfl (pe_weak (pe_cmp (pc_dnotin hu (snd k sc X W c _ h3).val (visN_ok c h1)) (marks_no rfl)) fun σ H Q q => ?_) (fun _ => pt_weak (pt_cmp (pc_dnotin hu (snd k sc X W c _ h3).val (visN_ok c h1)) (marks_no rfl)) fun σ H Q q => ?_) fun _ _ _ z => by cases z
      · obtain ⟨a, ea, _, q⟩ := dop_use dop_notin q
        exact tE_mono q fun x H1 q => ⟨_, ea, tE_non q⟩
      · obtain ⟨a, ea, _, q⟩ := dop_use dop_notin (tT_tE q)
        exact tE_mono q fun x H1 q => ⟨_, ea, tE_non q⟩
    · cases h
  | .lmt m i e, sc, X, W, c, a, h => by
    unfold chk at h
    split at h
    · simp only [Bool.and_eq_true] at h
      obtain ⟨⟨⟨⟨h1, h2⟩, h3⟩, h4⟩, h5⟩ := h
      exact .plain rfl (lmt_J c (of_decide_eq_true h1) h3 h2 (snd e sc X W c _ h5).val h4) (fun _ _ _ z => by cases z) (fun _ _ z => by cases z) (fun _ _ _ _ z => by cases z)
    · cases h
  | .comp p it cs elt, sc, X, W, c, a, h => by
    unfold chk at h
    split at h
    · rename_i el tg iter ifs scope pos
      simp only [Bool.and_eq_true] at h
      obtain ⟨⟨⟨⟨⟨⟨h1, h2⟩, h3⟩, h4⟩, h5⟩, h6⟩, h7⟩ := h
      refine .plain rfl ?_ (fun _ _ _ z => by cases z) (fun _ _ z => by cases z) (fun _ _ _ _ z => by cases z)
      have hi : PI X tg iter (tI X.K W ex G C it) := sndI it sc X W c iter tg h1
      have hpat := of_decide_eq_true h5
      have hcs : (cs = .nil ∧ ifs = []) ∨ ∃ e t, cs = .cons e .nil ∧ ifs = [t] ∧ ∀ X' W', Ctx X' W' ex G C N gn cn bn (relS scope sc) → PT X' t (tT X'.K W' ex G C e) := by
        split at h6
        · split at h6
          · exact .inl ⟨rfl, rfl⟩
          · cases h6
        · rename_i t
          simp only [Bool.and_eq_true] at h6
          cases cs with
          | nil => unfold chkL at h6; cases h6.1
          | cons e es =>
            cases es with
            | cons _ _ => unfold chkL at h6; unfold chkL at h6; simp at h6
            | nil => exact .inr ⟨e, t, rfl, rfl, fun X' W' c' => (sndL (.cons e .nil) (relS scope sc) X' W' c' [t] h6.1).head.tst h6.2⟩
        · cases h6
      have hlc := pe_lc (pos := pos) (own := p.slots.map fun i => (N.getD i ("" : Str), i)) (wi := tI X.K W ex G C it) (g := gPat X.K p) (tt := tCs X.K WF ex G C cs) (te := tE X.K WF ex G C elt) (ifs := ifs) c.calm (by rw [c.hN]; exact c.nd) hi (by rw [c.hN, c.hsc]; exact blkOk_by h3)
        (fun s H C' cl fp => pat_ok (X := X.blk s H scope (compEnvC scope cl C' X.env) fp) c.hN c.nd (by rw [← c.hsc]; rfl) (fun x hx => hx) c.calm h4)
        (fun s H C' cl fp => by
          rcases hcs with ⟨rfl, rfl⟩ | ⟨e, t, rfl, rfl, q⟩
          · exact pts_nil
          · exact pts_one (q _ _ (ctx_blk c s H scope C' cl fp)))
        (fun s H C' cl fp => (snd elt (relS scope sc) _ WF (ctx_blk c s H scope C' cl fp) el h7).val) (fold_no h2)
      rw [own_slots] at hlc
      refine pe_weakL hlc fun σ H Q hl q => comp_use rfl ?_ (fun i hi => by rw [hl, c.hN]; exact hpat i hi) q
      rcases hcs with ⟨rfl, _⟩ | ⟨e, t, rfl, _⟩
      · exact .inl rfl
      · exact .inr ⟨e, rfl⟩
    · cases h
theorem sndL : ∀ (es : Es) (sc : Scope) (X : Cx) (W : WX) (c : Ctx X W ex G C N gn cn bn sc) (as : List Expr), chkL N gn cn bn es sc as = true → JL X W ex G C es as
  | .nil, sc, X, W, c, [], h => .nil
  | .nil, sc, X, W, c, _ :: _, h => by cases h
  | .cons e es, sc, X, W, c, [], h => by cases h
  | .cons e es, sc, X, W, c, a :: as, h => by
    unfold chkL at h
    simp only [Bool.and_eq_true] at h
    exact .cons h.1.1 (snd e sc X W c a h.1.2) (sndL es sc X W c as h.2)
theorem sndP : ∀ (es : Es) (sc : Scope) (X : Cx) (W : WX) (c : Ctx X W ex G C N gn cn bn sc) (o : Option Expr), chkP N gn cn bn es sc o = true → PO X o (tO X.K W ex G C es)
  | .nil, sc, X, W, c, none, h => po_nil
  | .nil, sc, X, W, c, some _, h => by cases h
  | .cons e .nil, sc, X, W, c, some a, h => by
    unfold chkP at h
    exact po_one (snd e sc X W c a h).val
  | .cons e .nil, sc, X, W, c, none, h => by cases h
  | .cons _ (.cons _ _), sc, X, W, c, _, h => by cases h
theorem sndI : ∀ (it : Es) (sc : Scope) (X : Cx) (W : WX) (c : Ctx X W ex G C N gn cn bn sc) (a tg : Expr), chkI N gn cn bn it sc a = true → PI X tg a (tI X.K W ex G C it)
  | .nil, sc, X, W, c, a, tg, h => by unfold chkI at h; cases h
  | .cons _ (.cons _ _), sc, X, W, c, a, tg, h => by unfold chkI at h; cases h
  | .cons e .nil, sc, X, W, c, a, tg, h => by
    unfold chkI at h
    rw [Bool.or_eq_true] at h
    rcases h with h | h
    · exact sndR e sc X W c a tg h
    · exact pi_exprD (snd e sc X W c _ h).opd
theorem sndR : ∀ (e : E) (sc : Scope) (X : Cx) (W : WX) (c : Ctx X W ex G C N gn cn bn sc) (a tg : Expr), chkR N gn cn bn e sc a = true → PI X tg a (tI X.K W ex G C (.cons e .nil))
  | .op o es, sc, X, W, c, a, tg, h => by
    unfold chkR at h
    split at h
    · rename_i x p1 args p2
      simp only [Bool.and_eq_true, decide_eq_true_eq] at h
      obtain ⟨⟨⟨hx, h1⟩, h2⟩, h3⟩ := h
      subst hx
      have hm := c.blt _ (of_decide_eq_true h2)
      have hg := gT c h1
      split at h3
      · obtain ⟨e, rfl, j1, o1⟩ := (sndL es sc X W c _ h3).one
        exact pi_rng1 hg hm j1.opd (star_cons o1)
      · obtain ⟨e, f, rfl, j1, j2, o1, o2⟩ := (sndL es sc X W c _ h3).two
        exact pi_rng2 hg hm j1.opd j2.opd (by rw [star_cons o1, star_cons o2]; rfl) (star_cons o2)
      · obtain ⟨e, f, g, rfl, j1, j2, j3, o1, o2, o3⟩ := (sndL es sc X W c _ h3).three
        exact pi_rng3 hg hm j1.opd j2.opd j3.opd (star_cons o1) (star_cons o2) (star_cons o3)
      · cases h3
    · simp only [Bool.and_eq_true, decide_eq_true_eq] at h
      obtain ⟨⟨⟨hx, h1⟩, h2⟩, h3⟩ := h
      subst hx
      obtain ⟨e, rfl, j1, o1⟩ := (sndL es sc X W c _ h3).one
      exact pi_revSD (gT c h1) (c.blt _ (of_decide_eq_true h2)) j1.opd (star_cons o1)
    · cases h
  | .var _, _, _, _, _, _, _, h => by unfold chkR at h; cases h
  | .int _, _, _, _, _, _, _, h => by unfold chkR at h; cases h
  | .bl _, _, _, _, _, _, _, h => by unfold chkR at h; cases h
  | .non, _, _, _, _, _, _, h => by unfold chkR at h; cases h
  | .str _, _, _, _, _, _, _, h => by unfold chkR at h; cases h
  | .glob _, _, _, _, _, _, _, h => by unfold chkR at h; cases h
  | .slc _ _ _, _, _, _, _, _, _, h => by unfold chkR at h; cases h
  | .mth _ _ _, _, _, _, _, _, _, h => by unfold chkR at h; cases h
  | .fld _ _, _, _, _, _, _, _, h => by unfold chkR at h; cases h
  | .oln _ _ _, _, _, _, _, _, _, h => by unfold chkR at h; cases h
  | .mcl _ _ _ _ _, _, _, _, _, _, _, h => by unfold chkR at h; cases h
  | .lmt _ _ _, _, _, _, _, _, _, h => by unfold chkR at h; cases h
  | .dop _ _ _ _, _, _, _, _, _, _, h => by unfold chkR at h; cases h
  | .not _, _, _, _, _, _, _, h => by unfold chkR at h; cases h
  | .and _ _, _, _, _, _, _, _, h => by unfold chkR at h; cases h
  | .or _ _, _, _, _, _, _, _, h => by unfold chkR at h; cases h
  | .ite _ _ _, _, _, _, _, _, _, h => by unfold chkR at h; cases h
  | .chain _ _ _ _ _, _, _, _, _, _, _, h => by unfold chkR at h; cases h
  | .call _ _, _, _, _, _, _, _, h => by unfold chkR at h; cases h
  | .comp _ _ _ _, _, _, _, _, _, _, h => by unfold chkR at h; cases h
  | .fz _, _, _, _, _, _, _, h => by unfold chkR at h; cases h
  | .frz _, _, _, _, _, _, _, h => by unfold chkR at h; cases h
end
end
end Mi

/-! statements: steps and promises -/
namespace Mi
open PySem PySem.Spec PyProof.Rows L2
/-- a statement's step: the slots at pr keep their values -/
structure StepP (K : PySem.W.Frag) (pr : List Nat) (σ : L2.St) (H : Hp) (Z : Addr → Prop) (ρ : Mi.Env) (σ' : L2.St) (H' : Hp) (Z' : Addr → Prop) (ρ' : Mi.Env) : Prop where
  st : Step K σ H Z ρ σ' H' Z' ρ'
  ln : σ'.length = σ.length
  fx : ∀ i ∈ pr, σ'[i]? = σ[i]?
/-- a value that no name holds; a container of it is new or was a name's -/
def FreeS (K : PySem.W.Frag) (σ : L2.St) (H : Hp) (ρ : Mi.Env) (H' : Hp) (Z' : Addr → Prop) (σ' : L2.St) (ρ' : Mi.Env) (v : V) (d : D) : Prop :=
  RepD K H' Z' v d ∧ (d.flat = false → ∃ a, v = .ref a ∧ ¬ Owns σ' ρ' a ∧ (H a = none ∨ Owns σ ρ a))
section
variable {K : PySem.W.Frag} {pr pr' : List Nat} {H H' H0 H1 H2 : Hp} {Z Z' Z1 Z2 : Addr → Prop} {σ σ' σ1 σ2 : L2.St} {ρ ρ' ρ1 ρ2 : Mi.Env} {v : V} {d : D}
theorem StepP.refl (s : Sat K H Z σ ρ) : StepP K pr σ H Z ρ σ H Z ρ := ⟨.refl s, rfl, fun _ _ => rfl⟩
theorem StepP.trans (p : StepP K pr σ H Z ρ σ1 H1 Z1 ρ1) (q : StepP K pr σ1 H1 Z1 ρ1 σ2 H2 Z2 ρ2) : StepP K pr σ H Z ρ σ2 H2 Z2 ρ2 :=
  ⟨p.st.trans q.st, q.ln.trans p.ln, fun i hi => (q.fx i hi).trans (p.fx i hi)⟩
theorem StepP.less (p : StepP K pr' σ H Z ρ σ1 H1 Z1 ρ1) (h : ∀ i ∈ pr, i ∈ pr') : StepP K pr σ H Z ρ σ1 H1 Z1 ρ1 := ⟨p.st, p.ln, fun i hi => p.fx i (h i hi)⟩
theorem StepP.of (p : Step K σ H Z ρ σ H1 Z1 ρ1) : StepP K pr σ H Z ρ σ H1 Z1 ρ1 := ⟨p, rfl, fun _ _ => rfl⟩
theorem FreeS.of (h : Free K H H' Z' σ ρ' v d) : FreeS K σ H ρ H' Z' σ ρ' v d := ⟨h.1, fun f => by
  obtain ⟨a, e, no, n⟩ := h.2 f
  exact ⟨a, e, no, .inl n⟩⟩
theorem FreeS.from (p : StepP K pr σ H Z ρ σ1 H1 Z1 ρ1) (h : FreeS K σ1 H1 ρ1 H2 Z2 σ2 ρ2 v d) : FreeS K σ H ρ H2 Z2 σ2 ρ2 v d := ⟨h.1, fun f => by
  obtain ⟨a, e, no, n⟩ := h.2 f
  refine ⟨a, e, no, ?_⟩
  rcases n with n | n
  · exact p.st.stay.free n
  · exact (p.st.own a n).symm⟩
/-- a name takes a value that no name holds -/
theorem set_free {i : Nat} (st : Step K σ H Z ρ σ1 H1 Z1 ρ1) (hi : i < ρ1.length) (fr : FreeS K σ H ρ H1 Z1 σ1 ρ1 v d) : Step K σ H Z ρ (σ1.set i (some v)) H1 Z1 (ρ1.set i (some d)) := by
  have his : i < σ1.length := by rw [← st.sat.len]; exact hi
  have gv : ∀ (j : Nat) (e : D), (ρ1.set i (some d))[j]? = some (some e) → (j = i ∧ e = d ∧ (σ1.set i (some v))[j]? = some (some v)) ∨ (j ≠ i ∧ ρ1[j]? = some (some e) ∧ (σ1.set i (some v))[j]? = σ1[j]?) := by
    intro j e q
    rw [List.getElem?_set] at q
    by_cases e0 : i = j
    · subst e0
      rw [if_pos rfl, if_pos hi] at q
      cases q
      exact .inl ⟨rfl, rfl, by rw [List.getElem?_set, if_pos rfl, if_pos his]⟩
    · rw [if_neg e0] at q
      exact .inr ⟨fun z => e0 z.symm, q, List.getElem?_set_ne e0⟩
  refine ⟨⟨by simp [st.sat.len], fun j e q => ?_, fun j k e1 e2 a h1 h2 f1 f2 g1 g2 => ?_, st.sat.zok, st.sat.tabs⟩, st.stay, st.z1, st.z2, fun a ⟨j, e, q, f, g⟩ => ?_, st.trk⟩
  · rcases gv j e q with ⟨rfl, rfl, g⟩ | ⟨_, q', g⟩
    · exact ⟨v, g, fr.1⟩
    · obtain ⟨w, ew, r⟩ := st.sat.rep j e q'
      exact ⟨w, g.trans ew, r⟩
  · rcases gv j e1 h1 with ⟨rfl, rfl, z1⟩ | ⟨n1, q1, z1⟩
    · rcases gv k e2 h2 with ⟨rfl, rfl, z2⟩ | ⟨n2, q2, z2⟩
      · rfl
      · exfalso
        obtain ⟨b, eb, no, _⟩ := fr.2 f1
        rw [z1, eb] at g1
        cases g1
        rw [z2] at g2
        exact no ⟨k, e2, q2, f2, g2⟩
    · rcases gv k e2 h2 with ⟨rfl, rfl, z2⟩ | ⟨n2, q2, z2⟩
      · exfalso
        obtain ⟨b, eb, no, _⟩ := fr.2 f2
        rw [z2, eb] at g2
        cases g2
        rw [z1] at g1
        exact no ⟨j, e1, q1, f1, g1⟩
      · rw [z1] at g1
        rw [z2] at g2
        exact st.sat.sep j k e1 e2 a q1 q2 f1 f2 g1 g2
  · rcases gv j e q with ⟨rfl, rfl, z1⟩ | ⟨n1, q1, z1⟩
    · obtain ⟨b, eb, no, n⟩ := fr.2 f
      rw [z1, eb] at g
      cases g
      exact n.symm
    · rw [z1] at g
      exact st.own a ⟨j, e, q1, f, g⟩
theorem set_freeP {i : Nat} (st : StepP K pr σ H Z ρ σ1 H1 Z1 ρ1) (hp : i ∉ pr) (hi : i < ρ1.length) (fr : FreeS K σ H ρ H1 Z1 σ1 ρ1 v d) : StepP K pr σ H Z ρ (σ1.set i (some v)) H1 Z1 (ρ1.set i (some d)) :=
  ⟨set_free st.st hi fr, by rw [List.length_set]; exact st.ln, fun j hj => by
    rw [List.getElem?_set_ne fun (z : i = j) => hp (by rw [z]; exact hj)]
    exact st.fx j hj⟩
/-- a container is written -/
theorem own_write {i : Nat} {a : Addr} {xs ys : List D} {us ws : List V} (s : Sat K H Z σ ρ) (hi : ρ[i]? = some (some (.lst xs))) (hs : σ[i]? = some (some (.ref a))) (ha : H a = some (.lst us)) (nz : ¬ Z a) (r : Rps K H Z ws ys) :
    Step K σ H Z ρ σ (upd H a (.lst ws)) Z (ρ.set i (some (.lst ys))) := by
  have hil : i < ρ.length := (List.getElem?_eq_some_iff.mp hi).1
  have l : Loose H Z (· = a) := fun b e => by subst e; exact ⟨nz, CO.lst us, ha⟩
  have stt : Stay K H (upd H a (.lst ws)) (· = a) := .upd (CO.lst us) ha rfl
  have gv : ∀ (j : Nat) (e : D), (ρ.set i (some (.lst ys)))[j]? = some (some e) → (j = i ∧ e = .lst ys) ∨ (j ≠ i ∧ ρ[j]? = some (some e)) := by
    intro j e q
    rw [List.getElem?_set] at q
    by_cases e0 : i = j
    · subst e0
      rw [if_pos rfl, if_pos hil] at q
      cases q
      exact .inl ⟨rfl, rfl⟩
    · rw [if_neg e0] at q
      exact .inr ⟨fun z => e0 z.symm, q⟩
  have fl : ∀ (j : Nat) (e : D), (ρ.set i (some (.lst ys)))[j]? = some (some e) → e.flat = false → ∃ e', ρ[j]? = some (some e') ∧ e'.flat = false := by
    intro j e q f
    rcases gv j e q with ⟨rfl, rfl⟩ | ⟨_, q⟩
    · exact ⟨_, hi, rfl⟩
    · exact ⟨_, q, f⟩
  refine ⟨⟨by simp [s.len], fun j e q => ?_, fun j k e1 e2 b h1 h2 f1 f2 g1 g2 => ?_, fun b z n => ?_, tabs_upd (u := CO.lst us) ha s.tabs⟩, .upd (CO.lst us) ha ⟨i, _, hi, rfl, hs⟩, fun _ z => z, fun _ z => .inl z, fun b ⟨j, e, q, f, g⟩ => ?_, fun b o e => ?_⟩
  · rcases gv j e q with ⟨rfl, rfl⟩ | ⟨n, q⟩
    · exact ⟨_, hs, a, ws, rfl, nz, upd_same, r.stay l stt fun _ z => z⟩
    · obtain ⟨w, ew, rw'⟩ := s.rep j e q
      refine ⟨w, ew, rw'.write ha nz fun f z => n ?_⟩
      rw [z] at ew
      exact s.sep j i e _ a q hi f rfl ew hs
  · obtain ⟨x1, p1, y1⟩ := fl j e1 h1 f1
    obtain ⟨x2, p2, y2⟩ := fl k e2 h2 f2
    exact s.sep j k x1 x2 b p1 p2 y1 y2 g1 g2
  · by_cases e : b = a
    · subst e; exact nz z
    · rw [upd_ne e] at n; exact s.zok b z n
  · obtain ⟨e', p, y⟩ := fl j e q f
    exact .inl ⟨j, e', p, y, g⟩
  · by_cases z : b = a
    · subst z; exact ⟨_, upd_same⟩
    · exact ⟨o, by rw [upd_ne z]; exact e⟩
/-- a container is written -/
theorem own_writeM {i : Nat} {a : Addr} {xs ys : List (D × D)} {us ws : List (Key × V)} (s : Sat K H Z σ ρ) (hi : ρ[i]? = some (some (.dct xs))) (hs : σ[i]? = some (some (.ref a))) (ha : H a = some (.dK us)) (nz : ¬ Z a) (r : Kvs K H Z ws ys) :
    Step K σ H Z ρ σ (upd H a (.dK ws)) Z (ρ.set i (some (.dct ys))) := by
  have hil : i < ρ.length := (List.getElem?_eq_some_iff.mp hi).1
  have l : Loose H Z (· = a) := fun b e => by subst e; exact ⟨nz, CO.dct us, ha⟩
  have stt : Stay K H (upd H a (.dK ws)) (· = a) := .upd (CO.dct us) ha rfl
  have gv : ∀ (j : Nat) (e : D), (ρ.set i (some (.dct ys)))[j]? = some (some e) → (j = i ∧ e = .dct ys) ∨ (j ≠ i ∧ ρ[j]? = some (some e)) := by
    intro j e q
    rw [List.getElem?_set] at q
    by_cases e0 : i = j
    · subst e0
      rw [if_pos rfl, if_pos hil] at q
      cases q
      exact .inl ⟨rfl, rfl⟩
    · rw [if_neg e0] at q
      exact .inr ⟨fun z => e0 z.symm, q⟩
  have fl : ∀ (j : Nat) (e : D), (ρ.set i (some (.dct ys)))[j]? = some (some e) → e.flat = false → ∃ e', ρ[j]? = some (some e') ∧ e'.flat = false := by
    intro j e q f
    rcases gv j e q with ⟨rfl, rfl⟩ | ⟨_, q⟩
    · exact ⟨_, hi, rfl⟩
    · exact ⟨_, q, f⟩
  refine ⟨⟨by simp [s.len], fun j e q => ?_, fun j k e1 e2 b h1 h2 f1 f2 g1 g2 => ?_, fun b z n => ?_, tabs_upd (u := CO.dct us) ha s.tabs⟩, .upd (CO.dct us) ha ⟨i, _, hi, rfl, hs⟩, fun _ z => z, fun _ z => .inl z, fun b ⟨j, e, q, f, g⟩ => ?_, fun b o e => ?_⟩
  · rcases gv j e q with ⟨rfl, rfl⟩ | ⟨n, q⟩
    · exact ⟨_, hs, a, ws, rfl, nz, upd_same, r.stay l stt fun _ z => z⟩
    · obtain ⟨w, ew, rw'⟩ := s.rep j e q
      refine ⟨w, ew, rw'.writeM ha nz fun f z => n ?_⟩
      rw [z] at ew
      exact s.sep j i e _ a q hi f rfl ew hs
  · obtain ⟨x1, p1, y1⟩ := fl j e1 h1 f1
    obtain ⟨x2, p2, y2⟩ := fl k e2 h2 f2
    exact s.sep j k x1 x2 b p1 p2 y1 y2 g1 g2
  · by_cases e : b = a
    · subst e; exact nz z
    · rw [upd_ne e] at n; exact s.zok b z n
  · obtain ⟨e', p, y⟩ := fl j e q f
    exact .inl ⟨j, e', p, y, g⟩
  · by_cases z : b = a
    · subst z; exact ⟨_, upd_same⟩
    · exact ⟨o, by rw [upd_ne z]; exact e⟩
/-- a list's own address -/
theorem Sat.lst {i : Nat} {xs : List D} (s : Sat K H Z σ ρ) (hi : ρ[i]? = some (some (.lst xs))) : ∃ a us, σ[i]? = some (some (.ref a)) ∧ ¬ Z a ∧ H a = some (.lst us) ∧ Rps K H Z us xs := by
  obtain ⟨w, ew, a, us, rfl, nz, ha, r⟩ := s.rep i _ hi
  exact ⟨a, us, ew, nz, ha, r⟩
theorem Sat.dct {i : Nat} {xs : List (D × D)} (s : Sat K H Z σ ρ) (hi : ρ[i]? = some (some (.dct xs))) : ∃ a us, σ[i]? = some (some (.ref a)) ∧ ¬ Z a ∧ H a = some (.dK us) ∧ Kvs K H Z us xs := by
  obtain ⟨w, ew, a, us, rfl, nz, ha, r⟩ := s.rep i _ hi
  exact ⟨a, us, ew, nz, ha, r⟩
end
section
variable (K : PySem.W.Frag) (W : WX) (ex : Nat → Addr) (pr : List Nat)
def PostS (σ : L2.St) (H : Hp) (Z : Addr → Prop) (ρ : Mi.Env) (o : O) (D : Ends) : Prop := match o with
  | .nx ρ' => ∀ σ' H' Z', StepP K pr σ H Z ρ σ' H' Z' ρ' → D.nx σ' H'
  | .bk ρ' => ∀ σ' H' Z', StepP K pr σ H Z ρ σ' H' Z' ρ' → D.bk σ' H'
  | .ct ρ' => ∀ σ' H' Z', StepP K pr σ H Z ρ σ' H' Z' ρ' → D.ct σ' H'
  | .rt d ρ' => ∀ v σ' H' Z', StepP K pr σ H Z ρ σ' H' Z' ρ' → FreeS K σ H ρ H' Z' σ' ρ' v d → D.rt v H'
  | .exc c ρ' => ∀ σ' H' Z', StepP K pr σ H Z ρ σ' H' Z' ρ' → W (.ref (ex c)) none σ' H'
  | .stk => False
variable (G : List Fn) (C : List D)
def tS (s : S) : TS := fun D σ H => ∃ Z ρ, Sat K H Z σ ρ ∧ PostS K W ex pr σ H Z ρ (exec G C s pr ρ) D
def tSs (ss : Ss) : TS := fun D σ H => ∃ Z ρ, Sat K H Z σ ρ ∧ PostS K W ex pr σ H Z ρ (execs G C ss pr ρ) D
end
section
variable {K : PySem.W.Frag} {W : WX} {ex : Nat → Addr} {pr pr' : List Nat} {G : List Fn} {C : List D} {H H1 : Hp} {Z Z1 : Addr → Prop} {σ σ1 : L2.St} {ρ ρ1 : Mi.Env} {D : Ends} {o : O}
/-- behind a step -/
theorem PostS.from (p : StepP K pr σ H Z ρ σ1 H1 Z1 ρ1) (h : PostS K W ex pr σ H Z ρ o D) : PostS K W ex pr σ1 H1 Z1 ρ1 o D := by
  cases o with
  | nx ρ' => exact fun σ' H' Z' q => h σ' H' Z' (p.trans q)
  | bk ρ' => exact fun σ' H' Z' q => h σ' H' Z' (p.trans q)
  | ct ρ' => exact fun σ' H' Z' q => h σ' H' Z' (p.trans q)
  | rt d ρ' => exact fun v σ' H' Z' q f => h v σ' H' Z' (p.trans q) (f.from p)
  | exc c ρ' => exact fun σ' H' Z' q => h σ' H' Z' (p.trans q)
  | stk => exact h
theorem ps_weakL {X : Cx} {st : Stmt} {t t' : TS} (h : PS X st t) (w : ∀ D σ H, σ.length = X.N.length → t' D σ H → t D σ H) : PS X st t' := ⟨fun pins s σ H D I q => h.run pins s σ H D I (w D σ H I.len q)⟩
theorem pss_weakL {X : Cx} {st : List Stmt} {t t' : TS} (h : PSs X st t) (w : ∀ D σ H, σ.length = X.N.length → t' D σ H → t D σ H) : PSs X st t' := ⟨fun pins s σ H D I q => h.run pins s σ H D I (w D σ H I.len q)⟩
/-- an expression's value within a statement -/
theorem tE_of {e : E} {Q : VK} (s : Sat K H Z σ ρ) (hx : ∀ c ρ', evalE G C e ρ = .exc c ρ' → PostS K W ex pr σ H Z ρ (.exc c ρ') D) (hn : evalE G C e ρ ≠ .stk)
    (h : ∀ d ρ', evalE G C e ρ = .ok d ρ' → ∀ v H' Z', StepP K pr σ H Z ρ σ H' Z' ρ' → Free K H H' Z' σ ρ' v d → Q v H') : tE K W ex G C e σ H Q := by
  refine ⟨Z, ρ, s, ?_⟩
  cases r : evalE G C e ρ with
  | ok d ρ' => exact fun v H' Z' st fr => h d ρ' r v H' Z' (.of st) fr
  | exc c ρ' => exact fun H' Z' st => hx c ρ' r σ H' Z' (.of st)
  | stk => exact hn r
theorem tT_of {e : E} {Q : Bool → Hp → Prop} (s : Sat K H Z σ ρ) (hx : ∀ c ρ', evalE G C e ρ = .exc c ρ' → PostS K W ex pr σ H Z ρ (.exc c ρ') D) (hn : evalE G C e ρ ≠ .stk) (hb : ∀ d ρ', evalE G C e ρ = .ok d ρ' → ∃ b, d = .bl b)
    (h : ∀ b ρ', evalE G C e ρ = .ok (.bl b) ρ' → ∀ H' Z', StepP K pr σ H Z ρ σ H' Z' ρ' → Q b H') : tT K W ex G C e σ H Q := by
  refine ⟨Z, ρ, s, ?_⟩
  cases r : evalE G C e ρ with
  | ok d ρ' =>
    obtain ⟨b, rfl⟩ := hb d ρ' r
    exact fun H' Z' st => h b ρ' r H' Z' (.of st)
  | exc c ρ' => exact fun H' Z' st => hx c ρ' r σ H' Z' (.of st)
  | stk => exact hn r
end
end Mi

/-! statements: each kind -/
namespace Mi
open PySem PySem.Spec PyProof.Rows L2
def notComp : Expr → Bool
  | .ListComp _ _ _ _ => false
  | .SetComp _ _ _ _ => false
  | .DictComp _ _ _ _ _ => false
  | _ => true
def notTup : Expr → Bool
  | .Tuple _ _ _ => false
  | .List _ _ => false
  | _ => true
theorem swaps_no {v : Expr} {tg : Option Expr} {l : Nat} {env : PySem.Env} (h : notComp v = true) : swapsWith v tg l env = pure false := by
  cases v <;> first | rfl | cases h
theorem swapsS_no {v tg : Expr} {l : Nat} {env : PySem.Env} (h : notComp v = true) : swapsWithSole [tg] v l env = pure false := swaps_no h
theorem stores_no {v tg : Expr} {env : PySem.Env} (h : notTup v = true) : swappedStores [tg] v env = pure none := by
  cases tg <;> cases v <;> first | rfl | cases h
theorem stores_sub {v a b : Expr} {p : Pos} {env : PySem.Env} : swappedStores [.Subscript a b p] v env = pure none := rfl
section
variable {K : PySem.W.Frag} {W : WX} {ex : Nat → Addr} {pr : List Nat} {G : List Fn} {C : List D} {H : Hp} {σ : L2.St} {Dn : Ends}
theorem asg_use {i : Nat} {e : E} (h : tS K W ex pr G C (.asg (.nm i) e) Dn σ H) (hl : i < σ.length) : tAsg (tE K W ex G C e) (gName i) Dn σ H := by
  obtain ⟨Z, ρ, s, q⟩ := h
  unfold exec at q
  by_cases hp : i ∈ pr
  · rw [if_pos hp] at q; exact q.elim
  · rw [if_neg hp] at q
    refine tE_of (pr := pr) (D := Dn) s (fun c ρ' r => by rw [r] at q; exact q) (fun r => by rw [r] at q; exact q) fun d ρ' r v H' Z' st fr => ?_
    rw [r] at q
    exact q _ H' Z' (set_freeP st hp (by rw [st.st.sat.len, st.ln]; exact hl) (.of fr))
theorem asgT_use {is : List Nat} {e : E} (h : tS K W ex pr G C (.asg (.tp is) e) Dn σ H) (hl : ∀ i ∈ is, i < σ.length) : tAsg (tE K W ex G C e) (gPat K (.tp is)) Dn σ H := by
  obtain ⟨Z, ρ, s, q⟩ := h
  unfold exec at q
  by_cases hp : (is.any fun i => decide (i ∈ pr)) = true
  · rw [if_pos hp] at q; exact q.elim
  · rw [if_neg hp] at q
    refine tE_of (pr := pr) (D := Dn) s (fun c ρ' r => by rw [r] at q; exact q) (fun r => by rw [r] at q; exact q) fun d ρ' r v H' Z' st fr => ?_
    rw [r] at q
    dsimp only at q
    cases b : (Pat.tp is).bind d ρ' with
    | none => rw [b] at q; exact q.elim
    | some ρ2 =>
      rw [b] at q
      have hf : d.flat = true := by cases d <;> first | rfl | cases b
      refine pat_use st.st.sat (fr.1.rp hf) (fun i hi => by rw [st.st.sat.len, st.ln]; exact hl i hi) b fun σ' st2 fx => q _ H' Z' ⟨st.st.trans st2, by
        have e1 := st2.sat.len
        have e2 := st.st.sat.len
        have e3 := bind_len b
        omega, fun i hi => fx i fun z => hp ?_⟩
      rw [List.any_eq_true]
      exact ⟨i, z, decide_eq_true hi⟩
theorem mov_use {i j : Nat} (h : tS K W ex pr G C (.mov i j) Dn σ H) (hl : i < σ.length) : tAsg (tVar j) (gName i) Dn σ H := by
  obtain ⟨Z, ρ, s, q⟩ := h
  unfold exec at q
  by_cases hp : i ∈ pr ∨ j ∈ pr
  · rw [if_pos hp] at q; exact q.elim
  · rw [if_neg hp] at q
    cases e : ρ[j]? with
    | none => rw [e] at q; exact q.elim
    | some o =>
      cases o with
      | none => rw [e] at q; exact q.elim
      | some d =>
        rw [e] at q
        obtain ⟨v, ev, r⟩ := s.rep j d e
        refine ⟨v, ev, q _ H Z (set_freeP (.of (kills_step s [j])) (fun z => hp (.inl z)) ?_ ⟨r, fun f => ?_⟩)⟩
        · show i < (ρ.set j none).length
          rw [List.length_set, s.len]; exact hl
        · cases d with
          | lst xs =>
            obtain ⟨a, us, rfl, _⟩ := r
            refine ⟨a, rfl, fun ⟨k, d', e1, f1, e2⟩ => ?_, .inr ⟨j, _, e, rfl, ev⟩⟩
            obtain ⟨q1, q2⟩ := (kills_get [j] ρ k d').mp e1
            exact q2 (by rw [s.sep k j d' _ a q1 e f1 rfl e2 ev]; exact List.mem_cons_self)
          | dct xs =>
            obtain ⟨a, us, rfl, _⟩ := r
            refine ⟨a, rfl, fun ⟨k, d', e1, f1, e2⟩ => ?_, .inr ⟨j, _, e, rfl, ev⟩⟩
            obtain ⟨q1, q2⟩ := (kills_get [j] ρ k d').mp e1
            exact q2 (by rw [s.sep k j d' _ a q1 e f1 rfl e2 ev]; exact List.mem_cons_self)
          | fdc _ => exact False.elim r
          | rdn _ _ => exact False.elim r
          | _ => cases f
theorem app_use {i : Nat} {e : E} (h : tS K W ex pr G C (.app i e) Dn σ H) : tDrop (tBM K "list" rAppend (tVar i) (tCons (tE K W ex G C e) tNil)) Dn σ H := by
  obtain ⟨Z, ρ, s, q⟩ := h
  unfold exec at q
  split at q
  · rename_i xs0 e0
    obtain ⟨a, us, es, nz, ha, r⟩ := s.lst e0
    refine ⟨_, es, .inl ⟨rfl, us, .of ha⟩, ?_⟩
    refine tE_of (pr := pr) (D := Dn) s (fun c ρ' r => by rw [r] at q; exact q) (fun r => by rw [r] at q; exact q) fun d ρ' r v H' Z' st fr => ?_
    rw [r] at q
    dsimp only at q
    split at q
    · rename_i xs e1
      split at q
      · rename_i hz
        obtain ⟨a', us', es', nz', ha', r'⟩ := st.st.sat.lst e1
        rw [es] at es'; cases es'
        refine ⟨a, us', v, rfl, rfl, ha', by rw [r'.length, ← sz_line]; exact hz.2, ?_⟩
        refine q σ _ Z' (st.trans (.of (own_write st.st.sat e1 es ha' nz' (r'.append (.cons (fr.1.rp hz.1) .nil)))))
      · exact q.elim
    · exact q.elim
  · exact q.elim
theorem seti_use {i : Nat} {ix e : E} (h : tS K W ex pr G C (.seti i ix e) Dn σ H) : tAsg (tE K W ex G C e) (gSub (tVar i) (tE K W ex G C ix) rSetL) Dn σ H := by
  obtain ⟨Z, ρ, s, q⟩ := h
  unfold exec at q
  refine tE_of (pr := pr) (D := Dn) s (fun c ρ' r => by rw [r] at q; exact q) (fun r => by rw [r] at q; exact q) fun d ρ0 r v H0 Z0 st0 fr => ?_
  rw [r] at q
  dsimp only at q
  split at q
  · rename_i xs0 e0
    obtain ⟨a, us, es, nz, ha, r0⟩ := st0.st.sat.lst e0
    refine ⟨_, es, ?_⟩
    have q' := PostS.from st0 q
    refine tE_of (pr := pr) (D := Dn) st0.st.sat (fun c ρ' r => by rw [r] at q'; exact q') (fun r => by rw [r] at q'; exact q') fun k ρ1 r1 w H1 Z1 st1 fr1 => ?_
    rw [r1] at q'
    cases k with
    | int k =>
      dsimp only at q'
      split at q'
      · rename_i xs e1
        split at q'
        · rename_i j hj
          split at q'
          · rename_i hf
            obtain ⟨a', us', es', nz', ha', r'⟩ := st1.st.sat.lst e1
            rw [es] at es'; cases es'
            refine ⟨a, us', k, j, rfl, rep_int fr1.1, ha', by rw [r'.length]; exact hj, ?_⟩
            exact q' σ _ Z1 (st1.trans (.of (own_write st1.st.sat e1 es ha' nz' (Rps.set (Step.rp st0.st.sat st1.st (fr.1.rp hf)) j r'))))
          · exact q'.elim
        · exact q'.elim
      · exact q'.elim
    | _ => exact q'.elim
  · exact q.elim
theorem setk_use {i : Nat} {k e : E} (h : tS K W ex pr G C (.setk i k e) Dn σ H) : sDPut (tVar i) (tE K W ex G C k) (tE K W ex G C e) Dn σ H := by
  obtain ⟨Z, ρ, s, q⟩ := h
  unfold exec at q
  refine tE_of (pr := pr) (D := Dn) s (fun c ρ' r => by rw [r] at q; exact q) (fun r => by rw [r] at q; exact q) fun d ρ0 r v H0 Z0 st0 fr => ?_
  rw [r] at q
  dsimp only at q
  split at q
  · rename_i xs0 e0
    obtain ⟨a, us, es, nz, ha, r0⟩ := st0.st.sat.dct e0
    refine ⟨_, es, ?_⟩
    have q' := PostS.from st0 q
    refine tE_of (pr := pr) (D := Dn) st0.st.sat (fun c ρ' r => by rw [r] at q'; exact q') (fun r => by rw [r] at q'; exact q') fun kd ρ1 r1 w H1 Z1 st1 fr1 => ?_
    rw [r1] at q'
    dsimp only at q'
    split at q'
    · rename_i xs e1
      split at q'
      · rename_i hz
        obtain ⟨a', us', es', nz', ha', r'⟩ := st1.st.sat.dct e1
        rw [es] at es'; cases es'
        obtain ⟨kk, rfl⟩ := keyOk_keyV hz.2.1
        have hw : w = kV kk := rep_key fr1.1
        subst hw
        refine ⟨a, _, rfl, DPut.k (v := v) ha' (by rw [r'.length, ← sz_line]; exact hz.2.2), ?_⟩
        exact q' σ _ Z1 (st1.trans (.of (own_writeM st1.st.sat e1 es ha' nz' (r'.put (Step.rp st0.st.sat st1.st (fr.1.rp hz.1))))))
      · exact q'.elim
    · exact q'.elim
  · exact q.elim
theorem ite_use {c : E} {a b : Ss} (h : tS K W ex pr G C (.ite c a b) Dn σ H) : tIfS (tT K W ex G C c) (tSs K W ex pr G C a) (tSs K W ex pr G C b) Dn σ H := by
  obtain ⟨Z, ρ, s, q⟩ := h
  unfold exec at q
  refine ⟨Z, ρ, s, ?_⟩
  cases r : evalE G C c ρ with
  | stk => rw [r] at q; exact q
  | exc c ρ' => rw [r] at q; exact fun H' Z' st => q σ H' Z' (.of st)
  | ok d ρ1 =>
    rw [r] at q
    cases d with
    | bl k =>
      intro H' Z' st
      cases k with
      | true => exact ⟨Z', ρ1, st.sat, PostS.from (.of st) q⟩
      | false => exact ⟨Z', ρ1, st.sat, PostS.from (.of st) q⟩
    | _ => exact q.elim
theorem seq_use {s1 : S} {ss : Ss} (h : tSs K W ex pr G C (.cons s1 ss) Dn σ H) : tSeq (tS K W ex pr G C s1) (tSs K W ex pr G C ss) Dn σ H := by
  obtain ⟨Z, ρ, s, q⟩ := h
  unfold execs at q
  refine ⟨Z, ρ, s, ?_⟩
  cases r : exec G C s1 pr ρ with
  | nx ρ1 =>
    rw [r] at q
    exact fun σ' H' Z' p => ⟨Z', ρ1, p.st.sat, PostS.from p q⟩
  | _ => rw [r] at q; exact q
theorem ret_use {e : E} (h : tS K W ex pr G C (.ret e) Dn σ H) : tRet (tE K W ex G C e) Dn σ H := by
  obtain ⟨Z, ρ, s, q⟩ := h
  unfold exec at q
  refine tE_of (pr := pr) (D := Dn) s (fun c ρ' r => by rw [r] at q; exact q) (fun r => by rw [r] at q; exact q) fun d ρ' r v H' Z' st fr => ?_
  rw [r] at q
  exact q v σ H' Z' st (.of fr)
theorem retV_use {i : Nat} (h : tS K W ex pr G C (.retV i) Dn σ H) : tRet (tVar i) Dn σ H := by
  obtain ⟨Z, ρ, s, q⟩ := h
  unfold exec at q
  by_cases hp : i ∈ pr
  · rw [if_pos hp] at q; exact q.elim
  · rw [if_neg hp] at q
    cases e : ρ[i]? with
    | none => rw [e] at q; exact q.elim
    | some o =>
      cases o with
      | none => rw [e] at q; exact q.elim
      | some d =>
        rw [e] at q
        obtain ⟨v, ev, r⟩ := s.rep i d e
        refine ⟨v, ev, q v σ H Z (.of (kills_step s [i])) ⟨r, fun f => ?_⟩⟩
        cases d with
        | lst xs =>
          obtain ⟨a, us, rfl, _⟩ := r
          refine ⟨a, rfl, fun ⟨k, d', e1, f1, e2⟩ => ?_, .inr ⟨i, _, e, rfl, ev⟩⟩
          obtain ⟨q1, q2⟩ := (kills_get [i] ρ k d').mp e1
          exact q2 (by rw [s.sep k i d' _ a q1 e f1 rfl e2 ev]; exact List.mem_cons_self)
        | dct xs =>
          obtain ⟨a, us, rfl, _⟩ := r
          refine ⟨a, rfl, fun ⟨k, d', e1, f1, e2⟩ => ?_, .inr ⟨i, _, e, rfl, ev⟩⟩
          obtain ⟨q1, q2⟩ := (kills_get [i] ρ k d').mp e1
          exact q2 (by rw [s.sep k i d' _ a q1 e f1 rfl e2 ev]; exact List.mem_cons_self)
        | fdc _ => exact False.elim r
        | rdn _ _ => exact False.elim r
        | _ => cases f
theorem retN_use (h : tS K W ex pr G C .retN Dn σ H) : tRetN Dn σ H := by
  obtain ⟨Z, ρ, s, q⟩ := h
  unfold exec at q
  exact q .non σ H Z (.refl s) ⟨.non, fun f => by cases f⟩
theorem brk_use (h : tS K W ex pr G C .brk Dn σ H) : tBreak Dn σ H := by
  obtain ⟨Z, ρ, s, q⟩ := h
  unfold exec at q
  exact q σ H Z (.refl s)
theorem cnt_use (h : tS K W ex pr G C .cnt Dn σ H) : tCont Dn σ H := by
  obtain ⟨Z, ρ, s, q⟩ := h
  unfold exec at q
  exact q σ H Z (.refl s)
theorem pass_use (h : tS K W ex pr G C .pass Dn σ H) : tNext Dn σ H := by
  obtain ⟨Z, ρ, s, q⟩ := h
  unfold exec at q
  exact q σ H Z (.refl s)
theorem nil_use (h : tSs K W ex pr G C .nil Dn σ H) : tNext Dn σ H := by
  obtain ⟨Z, ρ, s, q⟩ := h
  unfold execs at q
  exact q σ H Z (.refl s)
theorem ex_use {e : E} (h : tS K W ex pr G C (.ex e) Dn σ H) : tDrop (tE K W ex G C e) Dn σ H := by
  obtain ⟨Z, ρ, s, q⟩ := h
  unfold exec at q
  refine tE_of (pr := pr) (D := Dn) s (fun c ρ' r => by rw [r] at q; exact q) (fun r => by rw [r] at q; exact q) fun d ρ' r v H' Z' st fr => ?_
  rw [r] at q
  exact q σ H' Z' st
theorem rais_use {c : Nat} (h : tS K W ex pr G C (.rais c) Dn σ H) : W (.ref (ex c)) none σ H := by
  obtain ⟨Z, ρ, s, q⟩ := h
  unfold exec at q
  exact q σ H Z (.refl s)
end
end Mi

/-! statements: loops, try -/
namespace Mi
open PySem PySem.Spec PyProof.Rows L2
section
variable {K : PySem.W.Frag} {W : WX} {ex : Nat → Addr} {pr : List Nat} {G : List Fn} {C : List D} {H : Hp} {σ : L2.St} {Dn : Ends}
theorem whl_use {n : Mi.Env → Nat} {c : E} {body : Ss} {ks : List Nat} (h : tS K W ex pr G C (.whl n c body ks) Dn σ H) : tWhile (tT K W ex G C c) (tSs K W ex pr G C body) Dn σ H := by
  obtain ⟨Z, ρ, s, q⟩ := h
  unfold exec at q
  by_cases hp : (ks.any fun i => decide (i ∈ pr)) = true
  · rw [if_pos hp] at q; exact q.elim
  · rw [if_neg hp] at q
    refine ⟨fun m σ' H' => ∃ Z' ρ', StepP K pr σ H Z ρ σ' H' Z' ρ' ∧ PostS K W ex pr σ H Z ρ (whlLoop (evalE G C c) (fun ρ => execs G C body pr ρ) ks m ρ') Dn, ⟨_, Z, _, .of (kills_step s ks), q⟩, ?_⟩
    rintro m σ1 H1 ⟨Z1, ρ1, p1, q1⟩
    cases m with
    | zero => exact q1.elim
    | succ m =>
      unfold whlLoop at q1
      refine ⟨Z1, ρ1, p1.st.sat, ?_⟩
      cases r : evalE G C c ρ1 with
      | stk => rw [r] at q1; exact q1
      | exc c ρ' => rw [r] at q1; exact fun H' Z' st => q1 σ1 H' Z' (p1.trans (.of st))
      | ok d ρ2 =>
        rw [r] at q1
        cases d with
        | bl k =>
          intro H2 Z2 st2
          have p2 : StepP K pr σ H Z ρ σ1 H2 Z2 ρ2 := p1.trans (.of st2)
          cases k with
          | false => exact q1 σ1 H2 Z2 p2
          | true =>
            rw [if_pos rfl]
            refine ⟨fun σ' H' => ∃ Z' ρ', StepP K pr σ H Z ρ σ' H' Z' ρ' ∧ PostS K W ex pr σ H Z ρ (whlLoop (evalE G C c) (fun ρ => execs G C body pr ρ) ks m ρ') Dn, fun σ' H' w => ⟨m, Nat.lt_succ_self m, w⟩, Z2, ρ2, st2.sat, ?_⟩
            dsimp only at q1
            cases r3 : execs G C body pr ρ2 with
            | nx ρ3 => rw [r3] at q1; exact fun σ' H' Z' p3 => ⟨Z', _, p2.trans (p3.trans (.of (kills_step p3.st.sat ks))), q1⟩
            | ct ρ3 => rw [r3] at q1; exact fun σ' H' Z' p3 => ⟨Z', _, p2.trans (p3.trans (.of (kills_step p3.st.sat ks))), q1⟩
            | bk ρ3 => rw [r3] at q1; exact fun σ' H' Z' p3 => q1 σ' H' Z' (p2.trans (p3.trans (.of (kills_step p3.st.sat ks))))
            | rt d ρ3 => rw [r3] at q1; exact fun v σ' H' Z' p3 f => q1 v σ' H' Z' (p2.trans p3) (f.from p2)
            | exc c ρ3 => rw [r3] at q1; exact fun σ' H' Z' p3 => q1 σ' H' Z' (p2.trans p3)
            | stk => rw [r3] at q1; exact q1.elim
        | _ => exact q1.elim
theorem for_use {p : Pat} {it : Es} {body : Ss} {ks : List Nat} (h : tS K W ex pr G C (.for_ p it body ks) Dn σ H) (hl : ∀ i ∈ p.slots, i < σ.length) : tFor (tI K W ex G C it) (gPat K p) (tSs K W ex (itRoot it ++ pr) G C body) Dn σ H := by
  obtain ⟨Z, ρ, s, q⟩ := h
  unfold exec at q
  by_cases hp : ((ks ++ p.slots).any fun i => decide (i ∈ itRoot it ++ pr)) = true
  · rw [if_pos hp] at q; exact q.elim
  · rw [if_neg hp] at q
    have hps : ∀ i ∈ itRoot it ++ pr, i ∉ p.slots := fun i hi z => hp (by
      rw [List.any_eq_true]
      exact ⟨i, List.mem_append_right _ z, decide_eq_true hi⟩)
    have hin : ∀ i ∈ pr, i ∈ itRoot it ++ pr := fun i hi => List.mem_append_right _ hi
    refine ⟨Z, ρ, s, ?_⟩
    cases r : evalL G C it ρ with
    | exc c ρ1 => rw [r] at q; exact fun H' Z' st => q σ H' Z' (.of st)
    | stk => rw [r] at q; exact q.elim
    | ok ds ρ1 =>
      rw [r] at q
      match ds, q with
      | [], q => exact q.elim
      | _ :: _ :: _, q => exact q.elim
      | [d], q =>
        dsimp only at q
        cases hx : d.items? with
        | none => rw [hx] at q; exact q.elim
        | some xs =>
          rw [hx] at q
          refine ⟨by rw [hx]; exact Option.some_ne_none _, fun v J H1 Z1 st1 ro hj => ?_⟩
          dsimp only at q
          have p1 : StepP K (itRoot it ++ pr) σ H Z ρ σ H1 Z1 ρ1 := .of st1
          have k1 := kills_step st1.sat ks
          refine ⟨fun i m σ' H' => i + m = xs.length ∧ ∃ Z' ρ', StepP K (itRoot it ++ pr) σ H Z ρ σ' H' Z' ρ' ∧ Root K H H' Z' σ' ρ' v d it ∧ PostS K W ex pr σ H Z ρ (forLoop (still it d) p (fun ρ => execs G C body (itRoot it ++ pr) ρ) ks (xs.drop i) ρ') Dn,
            ⟨xs.length, by omega, Z1, _, p1.trans (.of k1), ro.step st1.sat k1 fun _ _ => rfl, by rw [List.drop_zero]; exact q⟩, ?_⟩
          rintro i m σ2 H2 ⟨em, Z2, ρ2, p2, ro2, q2⟩
          by_cases hi : i < xs.length
          · rw [List.drop_eq_getElem_cons hi] at q2
            unfold forLoop at q2
            by_cases ck : still it d ρ2
            · rw [if_pos ck] at q2
              obtain ⟨hgo, hyl⟩ := acc_go (ro2.acc p2.st.sat ck hj) hx hi
              refine .inr ⟨hgo, fun σ' H' => ∃ Z' ρ', StepP K (itRoot it ++ pr) σ H Z ρ σ' H' Z' ρ' ∧ Root K H H' Z' σ' ρ' v d it ∧ PostS K W ex pr σ H Z ρ (forLoop (still it d) p (fun ρ => execs G C body (itRoot it ++ pr) ρ) ks (xs.drop (i + 1)) ρ') Dn,
                fun σ' H' w => ⟨m - 1, by omega, by omega, w⟩, fun x H' hy => ?_⟩
              obtain ⟨rfl, y, ey, ry⟩ := hyl x H' hy
              have ey' : xs[i] = y := by
                rw [List.getElem?_eq_getElem hi] at ey
                exact Option.some.inj ey
              rw [ey'] at q2
              cases b : p.bind y ρ2 with
              | none => rw [b] at q2; exact q2.elim
              | some ρ3 =>
                rw [b] at q2
                dsimp only at q2
                refine pat_use p2.st.sat ry (fun i hi => by rw [p2.st.sat.len, p2.ln]; exact hl i hi) b fun σ3 st3 fx => ⟨Z2, ρ3, st3.sat, ?_⟩
                have p3' : StepP K (itRoot it ++ pr) σ2 H' Z2 ρ2 σ3 H' Z2 ρ3 := ⟨st3, by
                  have e1 := st3.sat.len
                  have e2 := p2.st.sat.len
                  have e3 := bind_len b
                  omega, fun i hi => fx i (hps i hi)⟩
                have ro3 := ro2.step p2.st.sat st3 fun i hi => p3'.fx i (List.mem_append_left _ hi)
                have p3 := p2.trans p3'
                cases r4 : execs G C body (itRoot it ++ pr) ρ3 with
                | nx ρ4 =>
                  rw [r4] at q2
                  exact fun σ' H'' Z' p4 => ⟨Z', _, p3.trans (p4.trans (.of (kills_step p4.st.sat ks))), (ro3.step st3.sat p4.st fun i hi => p4.fx i (List.mem_append_left _ hi)).step p4.st.sat (kills_step p4.st.sat ks) fun _ _ => rfl, q2⟩
                | ct ρ4 =>
                  rw [r4] at q2
                  exact fun σ' H'' Z' p4 => ⟨Z', _, p3.trans (p4.trans (.of (kills_step p4.st.sat ks))), (ro3.step st3.sat p4.st fun i hi => p4.fx i (List.mem_append_left _ hi)).step p4.st.sat (kills_step p4.st.sat ks) fun _ _ => rfl, q2⟩
                | bk ρ4 => rw [r4] at q2; exact fun σ' H'' Z' p4 => q2 σ' H'' Z' ((p3.trans (p4.trans (.of (kills_step p4.st.sat ks)))).less hin)
                | rt d ρ4 => rw [r4] at q2; exact fun v σ' H'' Z' p4 f => q2 v σ' H'' Z' ((p3.trans p4).less hin) (f.from p3)
                | exc c ρ4 => rw [r4] at q2; exact fun σ' H'' Z' p4 => q2 σ' H'' Z' ((p3.trans p4).less hin)
                | stk => rw [r4] at q2; exact q2.elim
            · rw [if_neg ck] at q2; exact q2.elim
          · rw [List.drop_of_length_le (by omega)] at q2
            unfold forLoop at q2
            by_cases ck : still it d ρ2
            · rw [if_pos ck] at q2
              exact .inl ⟨acc_stop (ro2.acc p2.st.sat ck hj) hx (by omega), q2 σ2 H2 Z2 (p2.less hin)⟩
            · rw [if_neg ck] at q2; exact q2.elim
/-- what a constant is -/
def constV : E → V
  | .int n => .int n
  | .bl b => .bl b
  | .str s => .str (strV s)
  | _ => .non
theorem const_rep {h : E} {d : D} {Z : Addr → Prop} (e : constE h = some d) : Rp K H Z (constV h) d := by
  cases h with
  | int n => cases e; exact .int n
  | bl n => cases e; exact .bl n
  | str n => cases e; exact .str n
  | non => cases e; exact .non
  | _ => cases e
theorem try_use {m k : Nat} {body : Ss} {h : E} (hk : ∀ c, c < m → PySem.W.exmOne K (.ref (ex c)) (.ref (ex k)) = some (catches c k)) (hq : tS K W ex pr G C (.try_ m body k h) Dn σ H) :
    tSs K (wOnly K (.ref (ex k)) (fun _ _ _ => tRet (tC (constV h))) W Dn) ex pr G C body Dn σ H := by
  obtain ⟨Z, ρ, s, q⟩ := hq
  unfold exec at q
  refine ⟨Z, ρ, s, ?_⟩
  cases r : execs G C body pr ρ with
  | exc c ρ1 =>
    rw [r] at q
    dsimp only at q
    intro σ' H' Z' p
    by_cases hm : m ≤ c
    · rw [if_pos hm] at q; exact q.elim
    · rw [if_neg hm] at q
      refine ⟨catches c k, hk c (by omega), fun hc a na => ?_, fun hc => ?_⟩
      · rw [if_pos hc] at q
        cases e : constE h with
        | none => rw [e] at q; exact q.elim
        | some d =>
          rw [e] at q
          exact q (constV h) σ' H' Z' p ⟨.of (const_rep e), fun f => by rw [(const_rep (K := K) (H := H') (Z := Z') e).flat] at f; cases f⟩
      · rw [if_neg (by rw [hc]; exact Bool.false_ne_true)] at q
        exact q σ' H' Z' p
  | _ => rw [r] at q; exact q
/-! ### except .. as e: the handler's answer, class by class -/
def hTest (sc : Scope) (bn en : List Str) (nm : Str) (c : Nat) : Expr → Option Bool
  | .Call (.Name f _) [.Name x _, .Name y _] [] _ => if f = "isinstance" ∧ x = nm ∧ gloN sc f = true ∧ inB bn f = true ∧ gloN sc y = true ∧ en.idxOf y < en.length then some (catches c (en.idxOf y)) else none
  | _ => none
def hCon (sc : Scope) (bn en : List Str) (nm : Str) (c : Nat) : Expr → Option D
  | .Constant (.str x) _ _ => some (.str x.cps.toList)
  | .Constant .none _ _ => some .non
  | .Constant (.int n) _ _ => some (.int n)
  | .Tuple [.Constant (.str x) _ _] _ _ => some (.tup [.str x.cps.toList])
  | .IfExp t a b _ => match hTest sc bn en nm c t with
    | some true => hCon sc bn en nm c a
    | some false => hCon sc bn en nm c b
    | none => none
  | _ => none
def hRun (N : List Str) (sc : Scope) (bn en : List Str) (nm : Str) (c x : Nat) : Option (List Nat) → List Stmt → Option D
  | acc, .Return (some v) _ :: _ => (match acc, v with
    | some s, .Name y _ => if visN N sc x y = true then some (.str s) else none
    | _, v => hCon sc bn en nm c v)
  | none, .Assign [.Name y _] (.Constant (.str z) _ _) _ :: r => if locF N sc (fun _ => true) x y = true ∧ N[x]? ≠ some nm then hRun N sc bn en nm c x (some z.cps.toList) r else none
  | acc, .If t [.Return (some v) _] [] _ :: r => (match hTest sc bn en nm c t with
    | some true => hCon sc bn en nm c v
    | some false => hRun N sc bn en nm c x acc r
    | none => none)
  | some s, .If t [.Assign [.Name y _] (.BinOp (.Name w _) .Add (.Constant (.str z) _ _) _) _] [] _ :: r => (match hTest sc bn en nm c t with
    | some true => if locF N sc (fun _ => true) x y = true ∧ visN N sc x w = true ∧ N[x]? ≠ some nm ∧ s.length + z.cps.toList.length ≤ SZ then hRun N sc bn en nm c x (some (s ++ z.cps.toList)) r else none
    | some false => hRun N sc bn en nm c x (some s) r
    | none => none)
  | _, _ => none
end
end Mi

/-! except .. as e: that the handler's answer is as read -/
namespace Mi
open PySem PySem.Spec PyProof.Rows L2
/-- what the handler's suite knows -/
structure HX (X : Cx) (ex : Nat → Addr) (N : List Str) (sc : Scope) (bn en : List Str) (i : Nat) (nm : Str) (a : Addr) (c : Nat) : Prop where
  hN : X.N = N
  nd : N.Nodup
  hsc : X.env.scope = sc
  hfn : ∀ x, X.fn x = true
  nmv : ∀ p, PE X (.Name nm p) (tVar i)
  blt : ∀ x, x ∈ bn → X.mg x = none
  isi : CallR X (.builtin "isinstance") (rIsE X.K (ex c) a)
  cls : ∀ k y, en[k]? = some y → X.mg y = some (.ref (ex k))
  kit : ∀ k, k < en.length → PySem.W.kitOne X.K (.ref (ex c)) (.ref (ex k)) = some (catches c k)
section
variable {X : Cx} {ex : Nat → Addr} {N : List Str} {sc : Scope} {bn en : List Str} {i : Nat} {nm : Str} {a : Addr} {c x : Nat}
theorem hx_glo (h : HX X ex N sc bn en i nm a c) {x : Str} (g : gloN sc x = true) : Gl X x ∧ (x == ("__debug__" : Str)) = false := by
  unfold gloN at g
  simp only [Bool.and_eq_true, Bool.not_eq_true'] at g
  refine ⟨?_, g.2⟩
  show X.env.scope.names.lookup x = some .globalImplicit
  rw [h.hsc]
  have h1 := g.1
  split at h1
  · rename_i e; exact e
  · cases h1
theorem hx_vis (h : HX X ex N sc bn en i nm a c) {j : Nat} {x : Str} {pos : Pos} (g : visN N sc j x = true) : PE X (.Name x pos) (tVar j) := by
  unfold visN at g
  simp only [Bool.and_eq_true, decide_eq_true_eq, Bool.not_eq_true'] at g
  obtain ⟨⟨⟨h1, h2⟩, h3⟩, h4⟩ := g
  refine pe_var (by rw [h.hN]; exact h1) ?_ h3 h4
  rw [Vis, h.hsc]
  split at h2
  · rename_i e; exact .inl e
  · rename_i e; exact .inr (.inl e)
  · rename_i e; exact .inr (.inr e)
  · cases h2
theorem hx_loc (h : HX X ex N sc bn en i nm a c) {j : Nat} {x : Str} (g : locF N sc (fun _ => true) j x = true) : X.N[j]? = some x ∧ L2.Loc X.env.scope x := by
  unfold locF at g
  simp only [Bool.and_eq_true, decide_eq_true_eq] at g
  obtain ⟨h1, h2⟩ := g
  refine ⟨by rw [h.hN]; exact h1, ?_⟩
  rw [L2.Loc, h.hsc]
  split at h2
  · rename_i e; exact .inl e
  · rename_i e; exact .inr e
  · cases h2
theorem hTest_ok (h : HX X ex N sc bn en i nm a c) {t : Expr} {b : Bool} (e : hTest sc bn en nm c t = some b) : PT X t (fun σ H Q => σ[i]? = some (some (.ref a)) ∧ Q b H) := by
  unfold hTest at e
  split at e
  · rename_i f fp x xp y yp pos
    split at e
    · rename_i hz
      obtain ⟨rfl, rfl, z1, z2, z3, z4⟩ := hz
      cases e
      have hm := h.blt _ (of_decide_eq_true z2)
      have gy := hx_glo h z3
      have ey : en[en.idxOf y]? = some y := by
        rw [List.getElem?_eq_getElem z4]
        exact congrArg some (List.getElem_idxOf z4)
      have pY : PE X (.Name y yp) (tC (.ref (ex (en.idxOf y)))) := pe_glob gy.1 (h.cls _ _ ey) rfl gy.2
      have pc := pe_callB (pos := pos) (p := fp) h.isi (hx_glo h z1).1 hm (by decide +kernel) (pa_cons (h.nmv xp) (pa_cons pY pa_nil) (by rfl)) (by decide) (by decide) (by rfl) (by rfl)
      refine pt_weak (pt_val pc (fun _ => rfl)) fun σ H Q q => ?_
      exact ⟨_, q.1, _, _, _, rfl, fun u r => r, h.kit _ z4, ⟨_, rfl, q.2⟩⟩
    · cases e
  · cases e
/-- a handler's value -/
def tH (K : PySem.W.Frag) (i : Nat) (a : Addr) (d : D) : TE := fun σ H Q => σ[i]? = some (some (.ref a)) ∧ ∃ Z, (∀ a, Z a → H a ≠ none) ∧ ∀ v H', New K H Z v d H' → Q v H'
theorem hCon_ok (h : HX X ex N sc bn en i nm a c) : ∀ {v : Expr} {d : D}, hCon sc bn en nm c v = some d → PE X v (tH X.K i a d) := by
  intro v
  induction v using hCon.induct (sc := sc) (bn := bn) (en := en) (nm := nm) (c := c) with
  | case1 x k p =>
    intro d e
    unfold hCon at e
    cases e
    exact pe_weak pe_str fun σ H Q q => by
      obtain ⟨_, Z, zk, q⟩ := q
      have r : New X.K H Z (.str (strV x.cps.toList)) (.str x.cps.toList) H := new_flat (.str _)
      exact q _ _ r
  | case2 k p =>
    intro d e
    unfold hCon at e
    cases e
    exact pe_weak pe_non fun σ H Q q => by
      obtain ⟨_, Z, zk, q⟩ := q
      exact q _ _ (new_flat .non)
  | case3 n k p =>
    intro d e
    unfold hCon at e
    cases e
    exact pe_weak pe_int fun σ H Q q => by
      obtain ⟨_, Z, zk, q⟩ := q
      exact q _ _ (new_flat (.int _))
  | case4 x k p k2 p2 =>
    intro d e
    unfold hCon at e
    cases e
    exact pe_weak (pe_tup (pa_cons pe_str pa_nil (by rfl))) fun σ H Q q => by
      obtain ⟨_, Z, zk, q⟩ := q
      have rs : Rps X.K H Z [.str (strV x.cps.toList)] [.str x.cps.toList] := .cons (.str _) .nil
      exact ⟨rng_line (show 1 ≤ SZ by decide), fun p n => q _ _ (new_tup n rs)⟩
  | case5 t x y p ht ih =>
    intro d e
    unfold hCon at e
    rw [ht] at e
    exact pe_weak (pe_ifExp (tb := fun _ _ _ => False) (hTest_ok h ht) (ih e) ⟨fun _ _ _ _ _ _ z => z.elim⟩) fun σ H Q q => ⟨q.1, by dsimp only; rw [if_pos rfl]; exact q⟩
  | case6 t x y p ht ih =>
    intro d e
    unfold hCon at e
    rw [ht] at e
    exact pe_weak (pe_ifExp (ta := fun _ _ _ => False) (hTest_ok h ht) ⟨fun _ _ _ _ _ _ z => z.elim⟩ (ih e)) fun σ H Q q => ⟨q.1, by dsimp only; rw [if_neg Bool.false_ne_true]; exact q⟩
  | case7 t x y p ht =>
    intro d e
    unfold hCon at e
    rw [ht] at e
    cases e
  | case8 v h1 h2 h3 h4 h5 =>
    intro d e
    unfold hCon at e
    split at e
    · exact absurd rfl (h1 _ _ _)
    · exact absurd rfl (h2 _ _)
    · exact absurd rfl (h3 _ _ _)
    · exact absurd rfl (h4 _ _ _ _ _)
    · exact absurd rfl (h5 _ _ _ _)
    · cases e
/-- the suite's reading -/
def tHS (K : PySem.W.Frag) (i x : Nat) (a : Addr) (acc : Option (List Nat)) (d : D) : TS := fun Dn σ H => σ[i]? = some (some (.ref a)) ∧ (∀ s, acc = some s → σ[x]? = some (some (.str (strV s)))) ∧ x < σ.length ∧ ∃ Z, (∀ a, Z a → H a ≠ none) ∧ ∀ v H', New K H Z v d H' → Dn.rt v H'
theorem ret_H {v : Expr} {d : D} {acc : Option (List Nat)} {pos : Pos} (h : PE X v (tH X.K i a d)) : PS X (.Return (some v) pos) (tHS X.K i x a acc d) := ps_weak (ps_ret h) fun D σ H q => ⟨q.1, q.2.2.2⟩
theorem set_ne (h : HX X ex N sc bn en i nm a c) (hi : N[i]? = some nm) (hx : N[x]? ≠ some nm) : x ≠ i := fun z => hx (by rw [z]; exact hi)
theorem never_ss {sts : List Stmt} : PSs X sts tNever := ⟨fun _ _ _ _ _ _ z => z.elim⟩
theorem hRun_ok (h : HX X ex N sc bn en i nm a c) (hi : N[i]? = some nm) : ∀ (sts : List Stmt) (acc : Option (List Nat)) (d : D), hRun N sc bn en nm c x acc sts = some d → PSs X sts (tHS X.K i x a acc d)
  | [], acc, d, e => by cases acc <;> (unfold hRun at e; cases e)
  | st :: r, acc, d, e => by
    have ih : ∀ acc d, hRun N sc bn en nm c x acc r = some d → PSs X r (tHS X.K i x a acc d) := fun acc d => hRun_ok h hi r acc d
    have one : PS X st (tHS X.K i x a acc d) → (∀ D D' σ H, D.rt = D'.rt → tHS X.K i x a acc d D σ H → tHS X.K i x a acc d D' σ H) → PSs X (st :: r) (tHS X.K i x a acc d) := fun h1 hd =>
      pss_weakL (pss_cons h1 never_ss) fun D σ H _ q => hd D _ σ H rfl q
    have hd : ∀ D D' σ H, D.rt = D'.rt → tHS X.K i x a acc d D σ H → tHS X.K i x a acc d D' σ H := fun D D' σ H e q => by
      obtain ⟨q1, q2, q3, Z, zk, q⟩ := q
      exact ⟨q1, q2, q3, Z, zk, by rw [← e]; exact q⟩
    unfold hRun at e
    split at e
    · rename_i v pos tl heq
      cases heq
      refine one ?_ hd
      split at e
      · rename_i s y yp
        split at e
        · rename_i hv
          cases e
          exact ps_weak (ps_ret (hx_vis h hv)) fun D σ H q => by
            obtain ⟨q1, q2, q3, Z, zk, q⟩ := q
            exact ⟨_, q2 s rfl, q _ _ (new_flat (.str _))⟩
        · cases e
      · exact ret_H (hCon_ok h e)
    · rename_i y yp z zk zp pos tl heq
      cases heq
      split at e
      · rename_i hv
        have hl := hx_loc h hv.1
        have nx := set_ne h hi hv.2
        exact pss_weakL (pss_cons (ps_set (by rw [h.hN]; exact h.nd) hl.1 hl.2 pe_str (by rfl) (.inl (h.hfn _))) (ih _ _ e)) fun D σ H hlen q => by
          obtain ⟨q1, q2, q3, Z, zk, q⟩ := q
          refine ⟨by rw [List.getElem?_set_ne nx]; exact q1, fun s es => ?_, by rw [List.length_set]; exact q3, Z, zk, q⟩
          cases es
          rw [List.getElem?_set, if_pos rfl, if_pos q3]
      · cases e
    · rename_i t v vp ip tl heq
      cases heq
      split at e
      · rename_i ht
        exact pss_weakL (pss_cons (ps_if (hTest_ok h ht) (pss_one (ret_H (x := x) (hCon_ok h e))) (u := tNever) never_ss) never_ss) fun D σ H _ q => by
          refine ⟨q.1, ?_⟩
          dsimp only
          rw [if_pos rfl]
          exact hd D _ σ H rfl q
      · rename_i ht
        exact pss_weakL (pss_cons (ps_if (t := tNever) (hTest_ok h ht) never_ss pss_nil) (ih _ _ e)) fun D σ H _ q => by
          refine ⟨q.1, ?_⟩
          dsimp only
          rw [if_neg Bool.false_ne_true]
          exact q
      · cases e
    · rename_i s t y yp w wp z zk zp bp ap ip tl heq
      cases heq
      split at e
      · rename_i ht
        split at e
        · rename_i hv
          obtain ⟨h1, h2, h3, h4⟩ := hv
          have hl := hx_loc h h1
          have nx := set_ne h hi h3
          exact pss_weakL (pss_cons (ps_if (u := tNever) (hTest_ok h ht) (pss_one (ps_set (by rw [h.hN]; exact h.nd) hl.1 hl.2 (pe_op op_add_str (hx_vis h h2) pe_str) (by rfl) (.inl (h.hfn _)))) never_ss) (ih _ _ e)) fun D σ H _ q => by
            obtain ⟨q1, q2, q3, Z, zk, q⟩ := q
            refine ⟨q1, ?_⟩
            dsimp only
            rw [if_pos rfl]
            refine ⟨_, q2 s rfl, strV s, z, rfl, rfl, by rw [strV_len]; exact rng_line h4, ?_⟩
            refine ⟨by rw [List.getElem?_set_ne nx]; exact q1, fun s' es => ?_, by rw [List.length_set]; exact q3, Z, zk, q⟩
            cases es
            rw [List.getElem?_set, if_pos rfl, if_pos q3, strV_append]
        · cases e
      · rename_i ht
        exact pss_weakL (pss_cons (ps_if (t := tNever) (hTest_ok h ht) never_ss pss_nil) (ih _ _ e)) fun D σ H _ q => by
          refine ⟨q.1, ?_⟩
          dsimp only
          rw [if_neg Bool.false_ne_true]
          exact q
      · cases e
    · cases e
/-- two answers are the same -/
def eqC : D → D → Bool
  | .str x, .str y => x == y
  | .non, .non => true
  | .int i, .int j => i == j
  | .tup [.str x], .tup [.str y] => x == y
  | _, _ => false
theorem eqC_eq {d e : D} (h : eqC d e = true) : d = e := by
  unfold eqC at h
  split at h
  · rw [beq_iff_eq.mp h]
  · rfl
  · rw [beq_iff_eq.mp h]
  · rw [beq_iff_eq.mp h]
  · cases h
def hOk (N : List Str) (sc : Scope) (bn en : List Str) (nm : Str) (k i x : Nat) (outs : List D) (sts : List Stmt) : Bool :=
  decide (N[i]? = some nm) && decide (sc.names.lookup nm = some .local) && decide (x < N.length) && !(nm == ("__debug__" : Str)) && !(nm == ("__classdict__" : Str)) && (List.range en.length).all fun c => !catches c k || (match hRun N sc bn en nm c x none sts, outs[c]? with
    | some d, some e => eqC d e
    | _, none => true
    | _, _ => false)
/-- the suite for any class that it is asked for -/
def tHX (K : PySem.W.Frag) (ex : Nat → Addr) (m k i x : Nat) (outs : List D) : Addr → Value → Option Addr → TS := fun a cls dd Dn σ H => ∃ c d, c < m ∧ catches c k = true ∧ outs[c]? = some d ∧ cls = .ref (ex c) ∧ dd = none ∧ tHS K i x a none d Dn σ H
end
section
variable {K : PySem.W.Frag} {W : WX} {ex : Nat → Addr} {pr : List Nat} {G : List Fn} {C : List D} {H : Hp} {σ : L2.St} {Dn : Ends}
theorem tryC_use {m k i x : Nat} {body : Ss} {outs : List D} (hi : i < σ.length) (hx : x < σ.length) (hk : ∀ c, c < m → PySem.W.exmOne K (.ref (ex c)) (.ref (ex k)) = some (catches c k)) (hq : tS K W ex pr G C (.tryC m body k i x outs) Dn σ H) :
    tSs K (wAs K (.ref (ex k)) i (tHX K ex m k i x outs) W Dn) ex pr G C body Dn σ H := by
  obtain ⟨Z, ρ, s, q⟩ := hq
  unfold exec at q
  by_cases hp : i ∈ pr ∨ x ∈ pr
  · rw [if_pos hp] at q; exact q.elim
  rw [if_neg hp] at q
  refine ⟨Z, ρ, s, ?_⟩
  cases r : execs G C body pr ρ with
  | exc c ρ1 =>
    rw [r] at q
    dsimp only at q
    intro σ' H' Z' p
    by_cases hm : m ≤ c
    · rw [if_pos hm] at q; exact q.elim
    · rw [if_neg hm] at q
      refine ⟨catches c k, hk c (by omega), fun hc a na => ?_, fun hc => ?_⟩
      · rw [if_pos hc] at q
        cases e : outs[c]? with
        | none => rw [e] at q; exact q.elim
        | some d =>
          rw [e] at q
          refine ⟨c, d, by omega, hc, e, rfl, rfl, ?_, (fun s z => by cases z), ?_, Z', p.st.sat.zok, fun v H2 n => ?_⟩
          · rw [List.getElem?_set, if_pos rfl, if_pos (by rw [p.ln]; exact hi)]
          · rw [List.length_set, p.ln]; exact hx
          · have k1 := kills_step p.st.sat [i, x]
            have p2 : StepP K pr σ H Z ρ σ' H' Z' (kills [i, x] ρ1) := p.trans (.of k1)
            obtain ⟨s3, fr⟩ := New.step k1.sat n
            exact q v σ' H2 Z' (p2.trans (.of s3)) (.from p2 (.of fr))
      · rw [if_neg (by rw [hc]; exact Bool.false_ne_true)] at q
        exact q σ' H' Z' p
  | _ => rw [r] at q; exact q
end
end Mi

/-! statements: the check, and that it suffices -/
namespace Mi
open PySem PySem.Spec PyProof.Rows L2
structure ExcOk (X : Cx) (C : Addr) (x : Str) : Prop where
  gC : X.mg x = some (.ref C)
  kC : PySem.W.keepIn X.K (.ref C) = true
  q : ∃ (bmB : List Value) (B newId initId : String), ExcBaseFacts B newId initId bmB ∧ PySem.W.excIn X.K C bmB newId = true
  r : Raises X (.ref C)
  ec : L2.ExcC X.K C
structure CtxS (X : Cx) (W : WX) (ex : Nat → Addr) (G : List Fn) (C : List D) (N : List Str) (gn : List (Str × Nat)) (cn bn : List Str) (sc : Scope) (en : List Str) : Prop where
  base : Ctx X W ex G C N gn cn bn sc
  hp : PassesOwn (model X.prog X.w) X.A X.env X.xe
  hfn : ∀ x, X.fn x = true
  stk : X.stack = X.env :: X.outer
  fr : X.env.frame = some X.env.locals
  exs : ∀ (c : Nat) (x : Str), en[c]? = some x → ExcOk X (ex c) x
  exm : ∀ c k, c < en.length → k < en.length → PySem.W.exmOne X.K (.ref (ex c)) (.ref (ex k)) = some (catches c k)
  kit : ∀ c k, c < en.length → k < en.length → PySem.W.kitOne X.K (.ref (ex c)) (.ref (ex k)) = some (catches c k)
def constOk : E → Expr → Bool
  | .int n, .Constant (.int m) _ _ => decide (n = m)
  | .bl n, .Constant (.bool m) _ _ => decide (n = m)
  | .str s, .Constant (.str x) _ _ => decide (x.cps.toList = s)
  | .non, .Constant .none _ _ => true
  | _, _ => false
theorem const_pe {X : Cx} {h : E} {v : Expr} (e : constOk h v = true) : PE X v (tC (constV h)) := by
  unfold constOk at e
  split at e
  · cases of_decide_eq_true e; exact pe_int
  · cases of_decide_eq_true e; exact pe_bl
  · rename_i s x k p
    have hx : x = strV s := Str.ext' (Array.toList_inj.mp (by rw [of_decide_eq_true e]))
    subst hx
    exact pe_str
  · exact pe_non
  · cases e
def isC : E → Bool
  | .comp _ _ _ _ => true
  | .frz (.comp _ _ _ _) => true
  | _ => false
/-- name = [..] on one line -/
def lcOk (sc : Scope) (x : Str) (p : Pos) : Expr → Bool
  | .ListComp _ _ scope pos => decide (sc.kind = .function) && decide (sc.names.lookup x = some .local) && (p.line == pos.line) && !(scope.names.any fun (n, k) => n == x && (k == .local || k == .cell))
  | _ => false
/-- name = [..], the name being seen from within another block -/
def lcNo (sc : Scope) (x : Str) : Expr → Bool
  | .ListComp _ _ _ _ => (match sc.names.lookup x with
    | some .cell => true
    | _ => false)
  | _ => false
theorem sw_no {v : Expr} {x : Str} {px : Pos} {l : Nat} {env : PySem.Env} (h : lcNo env.scope x v = true) : swapsWith v (some (.Name x px)) l env = pure false := by
  unfold lcNo at h
  split at h
  · split at h
    · rename_i e
      have ky : env.kindOf x = some .cell := e
      unfold swapsWith
      simp only [ky]
      have e2 : ((some NameKind.cell : Option NameKind) == some NameKind.local) = false := by decide
      rw [e2]
      simp only [Bool.and_false, Bool.false_and]
    · cases h
  · cases h
section
variable (N : List Str) (gn : List (Str × Nat)) (cn bn : List Str) (sc : Scope) (en : List Str)
mutual
def chkS : S → Stmt → Bool
  | .asg p e, st => (match st with
    | .Assign [tg] v _ => (match p, tg with
      | .nm i, .Name x px => locF N sc (fun _ => true) i x && chk N gn cn bn e sc v && (notComp v || (lcOk sc x px v && isC e) || lcNo sc x v)
      | .tp is, .Tuple es k px => patOk N sc (fun _ => true) (.tp is) (.Tuple es k px) && decide (∀ i ∈ is, i < N.length) && chk N gn cn bn e sc v && notComp v && notTup v
      | _, _ => false)
    | _ => false)
  | .mov i j, st => (match st with
    | .Assign [.Name x _] (.Name y _) _ => locF N sc (fun _ => true) i x && visN N sc j y
    | _ => false)
  | .app i e, st => (match st with
    | .Expr (.Call (.Attribute (.Name x _) name apos) [a] [] pos) _ => visN N sc i x && decide (name = "append") && (apos.endLine == pos.line) && okA a && chk N gn cn bn e sc a
    | _ => false)
  | .seti i ix e, st => (match st with
    | .Assign [.Subscript (.Name x _) k _] v _ => visN N sc i x && okIx k && chk N gn cn bn ix sc k && notComp v && chk N gn cn bn e sc v
    | _ => false)
  | .setk i k e, st => (match st with
    | .Assign [.Subscript (.Name x _) b _] v _ => visN N sc i x && okIx b && chk N gn cn bn k sc b && notComp v && chk N gn cn bn e sc v
    | _ => false)
  | .ite c a b, st => (match st with
    | .If t p q _ => chk N gn cn bn c sc t && noIf t && chkSs a p && chkSs b q
    | _ => false)
  | .whl _ c body _, st => (match st with
    | .While t p [] _ => chk N gn cn bn c sc t && noIf t && chkSs body p
    | _ => false)
  | .for_ p it body _, st => (match st with
    | .For tg iter bd [] _ => chkI N gn cn bn it sc iter && okA iter && patOk N sc (fun _ => true) p tg && decide (∀ i ∈ p.slots, i < N.length) && chkSs body bd
    | _ => false)
  | .ret e, st => (match st with
    | .Return (some v) _ => chk N gn cn bn e sc v
    | _ => false)
  | .retV i, st => (match st with
    | .Return (some (.Name x _)) _ => visN N sc i x
    | _ => false)
  | .retN, st => (match st with
    | .Return none _ => true
    | _ => false)
  | .brk, st => (match st with
    | .Break _ => true
    | _ => false)
  | .cnt, st => (match st with
    | .Continue _ => true
    | _ => false)
  | .pass, st => (match st with
    | .Pass _ => true
    | .Expr (.Constant (.str _) _ _) _ => true
    | _ => false)
  | .ex e, st => (match st with
    | .Expr v _ => notComp v && chk N gn cn bn e sc v
    | _ => false)
  | .rais c, st => (match st with
    | .Raise (some (.Call (.Name x _) [.Constant (.str _) _ _] [] _)) none _ => decide (en[c]? = some x) && gloN sc x
    | _ => false)
  | .try_ m body k h, st => (match st with
    | .Try bd [.ExceptHandler (some (.Name x _)) none [.Return (some v) _] _] [] [] _ => decide (m = en.length) && decide (en[k]? = some x) && gloN sc x && constOk h v && chkSs body bd
    | _ => false)
  | .tryC m body k i x outs, st => (match st with
    | .Try bd [.ExceptHandler (some (.Name y _)) (some nm) (s0 :: suite) _] [] [] _ => decide (m = en.length) && decide (en[k]? = some y) && gloN sc y && hOk N sc bn en nm k i x outs (s0 :: suite) && chkSs body bd
    | _ => false)
def chkSs : Ss → List Stmt → Bool
  | .nil, [] => true
  | .cons s ss, st :: sts => chkS s st && chkSs ss sts
  | _, _ => false
end
end
section
variable {X : Cx} {W : WX} {ex : Nat → Addr} {G : List Fn} {C : List D} {N : List Str} {gn : List (Str × Nat)} {cn bn en : List Str} {sc : Scope}
theorem CtxS.tr (c : CtxS X W ex G C N gn cn bn sc en) {W' : WX} {pn : List (Addr × Obj)} {xe : Value → Shared → Prop} (tk : Takes (X.tr pn xe) W') (hp : PassesOwn (model X.prog X.w) X.A X.env xe) : CtxS (X.tr pn xe) W' ex G C N gn cn bn sc en where
  base := ⟨c.base.hN, c.base.nd, c.base.hsc, c.base.calm, tk, c.base.hu, c.base.blt, (fun j x n h => let ⟨f, e, ok⟩ := c.base.calls j x n h; ⟨f, e, ok.tr⟩), c.base.glob, fun h => let ⟨c, P, k, a, b, d, e⟩ := (c.base.lam h).ex; ⟨⟨c, P, k, a, b, d, e⟩⟩⟩
  hp := hp
  hfn := c.hfn
  stk := c.stk
  fr := c.fr
  exs := fun k x e => ⟨(c.exs k x e).gC, (c.exs k x e).kC, (c.exs k x e).q, (c.exs k x e).r, (c.exs k x e).ec⟩
  exm := c.exm
  kit := c.kit
theorem loc_split (c : Ctx X W ex G C N gn cn bn sc) {i : Nat} {x : Str} (h : locF N sc (fun _ => true) i x = true) : X.N[i]? = some x ∧ L2.Loc X.env.scope x := by
  unfold locF at h
  simp only [Bool.and_eq_true, decide_eq_true_eq] at h
  obtain ⟨h1, h2⟩ := h
  refine ⟨by rw [c.hN]; exact h1, ?_⟩
  rw [L2.Loc, c.hsc]
  split at h2
  · rename_i e; exact .inl e
  · rename_i e; exact .inr e
  · cases h2
theorem loc_lt (c : Ctx X W ex G C N gn cn bn sc) {i : Nat} {x : Str} (h : locF N sc (fun _ => true) i x = true) : i < X.N.length := (List.getElem?_eq_some_iff.mp (loc_split c h).1).1
/-- name = [..] -/
theorem set_comp {i : Nat} {x : Str} {p it cs elt : _} {px spos : Pos} {v : Expr} (c : Ctx X W ex G C N gn cn bn sc) (hl : locF N sc (fun _ => true) i x = true) (lo : lcOk sc x px v = true) (h : chk N gn cn bn (.comp p it cs elt) sc v = true) :
    PS X (.Assign [.Name x px] v spos) (tAsg (tE X.K W ex G C (.comp p it cs elt)) (gName i)) := by
  unfold chk at h
  split at h
  · rename_i el tg iter ifs scope pos
    simp only [Bool.and_eq_true] at h
    obtain ⟨⟨⟨⟨⟨⟨h1, h2⟩, h3⟩, h4⟩, h5⟩, h6⟩, h7⟩ := h
    unfold lcOk at lo
    simp only [Bool.and_eq_true, decide_eq_true_eq, Bool.not_eq_true'] at lo
    obtain ⟨⟨⟨l1, l2⟩, l3⟩, l4⟩ := lo
    have hi : PI X tg iter (tI X.K W ex G C it) := sndI it sc X W c iter tg h1
    have hpat := of_decide_eq_true h5
    have hcs : (cs = .nil ∧ ifs = []) ∨ ∃ e t, cs = .cons e .nil ∧ ifs = [t] ∧ ∀ X' W', Ctx X' W' ex G C N gn cn bn (relS scope sc) → PT X' t (tT X'.K W' ex G C e) := by
      split at h6
      · split at h6
        · exact .inl ⟨rfl, rfl⟩
        · cases h6
      · rename_i t
        simp only [Bool.and_eq_true] at h6
        cases cs with
        | nil => unfold chkL at h6; cases h6.1
        | cons e es =>
          cases es with
          | cons _ _ => unfold chkL at h6; unfold chkL at h6; simp at h6
          | nil => exact .inr ⟨e, t, rfl, rfl, fun X' W' c' => (sndL (.cons e .nil) (relS scope sc) X' W' c' [t] h6.1).head.tst h6.2⟩
      · cases h6
    have hlc := ps_setLc (pos := pos) (spos := spos) (py := px) (own := p.slots.map fun i => (N.getD i ("" : Str), i)) (wi := tI X.K W ex G C it) (g := gPat X.K p) (tt := tCs X.K WF ex G C cs) (te := tE X.K WF ex G C elt) (ifs := ifs) c.calm (by rw [c.hN]; exact c.nd) (loc_split c hl).1 (by rw [c.hsc]; exact l2)
      (sw_true (by rw [c.hsc]; exact l1) (by rw [c.hsc]; exact l2) l3 l4) hi (by rw [c.hN, c.hsc]; exact blkOk_by h3)
      (fun s H C' cl fp => pat_ok (X := X.blk s H scope (compEnvC scope cl C' X.env) fp) c.hN c.nd (by rw [← c.hsc]; rfl) (fun x hx => hx) c.calm h4)
      (fun s H C' cl fp => by
        rcases hcs with ⟨rfl, rfl⟩ | ⟨e, t, rfl, rfl, q⟩
        · exact pts_nil
        · exact pts_one (q _ _ (ctx_blk c s H scope C' cl fp)))
      (fun s H C' cl fp => (snd elt (relS scope sc) _ WF (ctx_blk c s H scope C' cl fp) el h7).val) (fold_no h2)
    rw [own_slots] at hlc
    refine ps_weakL hlc fun D σ H hl q => comp_use rfl ?_ (fun i hi => by rw [hl, c.hN]; exact hpat i hi) q
    rcases hcs with ⟨rfl, _⟩ | ⟨e, t, rfl, _⟩
    · exact .inl rfl
    · exact .inr ⟨e, rfl⟩
  · cases h
theorem frz_imp {K : PySem.W.Frag} {e : E} {σ : L2.St} {H : Hp} {Q : VK} (q : tE K W ex G C (.frz e) σ H Q) : tE K W ex G C e σ H Q := by
  obtain ⟨Z, ρ, s, q⟩ := q
  refine ⟨Z, ρ, s, ?_⟩
  unfold evalE at q
  cases r : evalE G C e ρ with
  | exc c ρ1 => rw [r] at q; exact q
  | stk => rw [r] at q; exact q.elim
  | ok d ρ1 =>
    rw [r] at q
    cases d with
    | lst xs =>
      intro v H1 Z1 st fr
      obtain ⟨b, us, rfl, nz, hb, rs⟩ := fr.1
      obtain ⟨b', eb, no, nb⟩ := fr.2 rfl
      cases eb
      have l : Loose H1 Z1 fun _ => False := fun _ w => w.elim
      have sy : Stay K H1 H1 fun _ => False := .of fun _ _ e => e
      have rp : Rp K H1 (fun c => Z1 c ∨ c = b) (.ref b) (.fls xs) := .fls (.inl (.inr rfl)) (.of hb) (rs.stay l sy fun _ z => .inl z)
      obtain ⟨s2, ow⟩ := lock_step (a := b) (ρ' := ρ1) st.sat (by rw [hb]; exact fun z => nomatch z) rfl (fun j d ej => .inl ⟨ej, fun f z => no ⟨j, d, ej, f, z⟩⟩) (.inr trivial)
      refine q (.ref b) H1 _ ⟨s2, st.stay, fun a z => .inl (st.z1 a z), fun c z => ?_, st.own, st.trk⟩ ⟨rp, fun f => by cases f⟩
      rcases z with z | z
      · exact st.z2 c z
      · rw [z]; exact .inr (.inl nb)
    | _ => exact q.elim
mutual
theorem sndS : ∀ (s : S) (X : Cx) (W : WX) (c : CtxS X W ex G C N gn cn bn sc en) (pr : List Nat) (st : Stmt), chkS N gn cn bn sc en s st = true → PS X st (tS X.K W ex pr G C s)
  | .asg p e, X, W, c, pr, st, h => by
    unfold chkS at h
    split at h
    · rename_i tg v pos
      split at h
      · rename_i i x px
        simp only [Bool.and_eq_true, Bool.or_eq_true] at h
        obtain ⟨⟨h1, h2⟩, h3⟩ := h
        have use : ∀ D σ H, σ.length = X.N.length → tS X.K W ex pr G C (.asg (.nm i) e) D σ H → tAsg (tE X.K W ex G C e) (gName i) D σ H := fun D σ H hl q => asg_use q (by rw [hl]; exact loc_lt c.base h1)
        rcases h3 with (h3 | ⟨h3, h4⟩) | h3
        · exact ps_weakL (ps_set (by rw [c.base.hN]; exact c.base.nd) (loc_split c.base h1).1 (loc_split c.base h1).2 (snd e sc X W c.base v h2).val (swaps_no h3) (.inl (c.hfn x))) use
        · unfold isC at h4
          split at h4
          · exact ps_weakL (set_comp c.base h1 h3 h2) use
          · refine ps_weakL (set_comp c.base h1 h3 (by unfold chk at h2; exact h2)) fun D σ H hl q => frz_imp (use D σ H hl q)
          · cases h4
        · exact ps_weakL (ps_set (by rw [c.base.hN]; exact c.base.nd) (loc_split c.base h1).1 (loc_split c.base h1).2 (snd e sc X W c.base v h2).val (sw_no (by rw [c.base.hsc]; exact h3)) (.inl (c.hfn x))) use
      · rename_i is es k px
        simp only [Bool.and_eq_true] at h
        obtain ⟨⟨⟨⟨h1, h2⟩, h3⟩, h4⟩, h5⟩ := h
        have hb := of_decide_eq_true h2
        exact ps_weakL (ps_asg (snd e sc X W c.base v h3).val (pat_ok c.base.hN c.base.nd c.base.hsc (fun x _ => c.hfn x) c.base.calm h1) (swapsS_no h4) (stores_no h5)) fun D σ H hl q => asgT_use q fun i hi => by rw [hl, c.base.hN]; exact hb i hi
      · cases h
    · cases h
  | .mov i j, X, W, c, pr, st, h => by
    unfold chkS at h
    split at h
    · rename_i x px y py pos
      obtain ⟨h1, h2⟩ := bool_split h
      exact ps_weakL (ps_set (by rw [c.base.hN]; exact c.base.nd) (loc_split c.base h1).1 (loc_split c.base h1).2 (visN_ok c.base h2) (swaps_no rfl) (.inl (c.hfn x))) fun D σ H hl q => mov_use q (by rw [hl]; exact loc_lt c.base h1)
    · cases h
  | .app i e, X, W, c, pr, st, h => by
    unfold chkS at h
    split at h
    · rename_i x px name apos a pos pos'
      simp only [Bool.and_eq_true, decide_eq_true_eq] at h
      obtain ⟨⟨⟨⟨h1, h2⟩, h3⟩, h4⟩, h5⟩ := h
      subst h2
      have hs : starEach [a] X.env = (false, eval a X.env) :: starEach [] X.env := star_cons h4
      exact ps_weakL (ps_expr (pe_bm F.plainAttrs_list F.slot_list_append F.type_list_append mt_append (visN_ok c.base h1) (pa_cons (snd e sc X W c.base a h5).val pa_nil hs) (base_plain rfl) (by rw [hs]; rfl) h3 hs rfl) (swaps_no rfl)) fun D σ H hl q => app_use q
    · cases h
  | .seti i ix e, X, W, c, pr, st, h => by
    unfold chkS at h
    split at h
    · rename_i x px k kp v pos
      simp only [Bool.and_eq_true] at h
      obtain ⟨⟨⟨⟨h1, h2⟩, h3⟩, h4⟩, h5⟩ := h
      exact ps_weakL (ps_asg (snd e sc X W c.base v h5).val (pg_sub (visN_ok c.base h1) (snd ix sc X W c.base k h3).val set_list (fun v => by cases k <;> first | rfl | cases h2)) (swapsS_no h4) stores_sub) fun D σ H hl q => seti_use q
    · cases h
  | .setk i k e, X, W, c, pr, st, h => by
    unfold chkS at h
    split at h
    · rename_i x px b kp v pos
      simp only [Bool.and_eq_true] at h
      obtain ⟨⟨⟨⟨h1, h2⟩, h3⟩, h4⟩, h5⟩ := h
      exact ps_weakL (ps_dput (by have := c.base.hu; omega) (visN_ok c.base h1) (snd k sc X W c.base b h3).val (snd e sc X W c.base v h5).val (swaps_no h4)) fun D σ H hl q => setk_use q
    · cases h
  | .ite t a b, X, W, c, pr, st, h => by
    unfold chkS at h
    split at h
    · simp only [Bool.and_eq_true] at h
      obtain ⟨⟨⟨h1, h2⟩, h3⟩, h4⟩ := h
      exact ps_weakL (ps_if ((snd t sc X W c.base _ h1).tst h2) (sndSs a X W c pr _ h3) (sndSs b X W c pr _ h4)) fun D σ H hl q => ite_use q
    · cases h
  | .whl n t body ks, X, W, c, pr, st, h => by
    unfold chkS at h
    split at h
    · simp only [Bool.and_eq_true] at h
      obtain ⟨⟨h1, h2⟩, h3⟩ := h
      exact ps_weakL (ps_while c.hp ((snd t sc X W c.base _ h1).tst h2) (sndSs body X W c pr _ h3)) fun D σ H hl q => whl_use q
    · cases h
  | .for_ p it body ks, X, W, c, pr, st, h => by
    unfold chkS at h
    split at h
    · simp only [Bool.and_eq_true] at h
      obtain ⟨⟨⟨⟨h1, h2⟩, h3⟩, h4⟩, h5⟩ := h
      have hb := of_decide_eq_true h4
      exact ps_weakL (ps_for c.hp c.base.calm (sndI it sc X W c.base _ _ h1) (pat_ok c.base.hN c.base.nd c.base.hsc (fun x _ => c.hfn x) c.base.calm h3) (sndSs body X W c (itRoot it ++ pr) _ h5) (fold_no h2)) fun D σ H hl q => for_use q fun i hi => by rw [hl, c.base.hN]; exact hb i hi
    · cases h
  | .ret e, X, W, c, pr, st, h => by
    unfold chkS at h
    split at h
    · exact ps_weakL (ps_ret (snd e sc X W c.base _ h).val) fun D σ H hl q => ret_use q
    · cases h
  | .retV i, X, W, c, pr, st, h => by
    unfold chkS at h
    split at h
    · exact ps_weakL (ps_ret (visN_ok c.base h)) fun D σ H hl q => retV_use q
    · cases h
  | .retN, X, W, c, pr, st, h => by
    unfold chkS at h
    split at h
    · exact ps_weakL ps_retN fun D σ H hl q => retN_use q
    · cases h
  | .brk, X, W, c, pr, st, h => by
    unfold chkS at h
    split at h
    · exact ps_weakL ps_break fun D σ H hl q => brk_use q
    · cases h
  | .cnt, X, W, c, pr, st, h => by
    unfold chkS at h
    split at h
    · exact ps_weakL ps_continue fun D σ H hl q => cnt_use q
    · cases h
  | .pass, X, W, c, pr, st, h => by
    unfold chkS at h
    split at h
    · exact ps_weakL ps_pass fun D σ H hl q => pass_use q
    · exact ps_weakL ps_doc fun D σ H hl q => pass_use q
    · cases h
  | .ex e, X, W, c, pr, st, h => by
    unfold chkS at h
    split at h
    · obtain ⟨h1, h2⟩ := bool_split h
      exact ps_weakL (ps_expr (snd e sc X W c.base _ h2).val (swaps_no h1)) fun D σ H hl q => ex_use q
    · cases h
  | .rais k, X, W, c, pr, st, h => by
    unfold chkS at h
    split at h
    · obtain ⟨h1, h2⟩ := bool_split h
      obtain ⟨hg, hd⟩ := gloN_ok c.base h2
      have q := c.exs k _ (of_decide_eq_true h1)
      obtain ⟨bmB, B, newId, initId, F, e⟩ := q.q
      exact ps_weakL (ps_raise c.base.calm c.base.tk (pmk_own F e q.gC q.kC q.r hg hd)) fun D σ H hl q => rais_use q
    · cases h
  | .try_ m body k hh, X, W, c, pr, st, h => by
    unfold chkS at h
    split at h
    · rename_i bd x px v pv ph pos
      simp only [Bool.and_eq_true, decide_eq_true_eq] at h
      obtain ⟨⟨⟨⟨h1, h2⟩, h3⟩, h4⟩, h5⟩ := h
      subst h1
      obtain ⟨hg, hd⟩ := gloN_ok c.base h3
      refine ps_weakL (ps_try_only (tb := fun W' => tSs X.K W' ex pr G C body) (ts := fun _ _ _ => tRet (tC (constV hh))) c.stk c.fr (c := .ref (ex k)) ⟨hg, hd, .inl (c.exs k x h2).gC⟩ c.base.tk (fun W' pn xe tk hp => sndSs body (X.tr pn xe) W' (c.tr tk hp) pr bd h5)
        (fun a oe cls d pn _ _ => pss_one (ps_ret (const_pe h4)))) fun D σ H hl q => try_use (fun c' hc => c.exm c' k hc (List.getElem?_eq_some_iff.mp h2).1) q
    · cases h
  | .tryC m body k i x outs, X, W, c, pr, st, h => by
    unfold chkS at h
    split at h
    · rename_i bd y yp nm s0 suite hp pos
      simp only [Bool.and_eq_true, decide_eq_true_eq] at h
      obtain ⟨⟨⟨⟨h1, h2⟩, h3⟩, h4⟩, h5⟩ := h
      subst h1
      unfold hOk at h4
      simp only [Bool.and_eq_true, decide_eq_true_eq, Bool.not_eq_true', List.all_eq_true] at h4
      obtain ⟨⟨⟨⟨⟨w1, w2⟩, w3⟩, w4⟩, w5⟩, w6⟩ := h4
      obtain ⟨hg, hd⟩ := gloN_ok c.base h3
      have kO : X.env.scope.names.lookup nm = some .local := by rw [c.base.hsc]; exact w2
      have iN : i < N.length := (List.getElem?_eq_some_iff.mp w1).1
      refine ps_weakL (ps_try_as (i := i) (tb := fun W' => tSs X.K W' ex pr G C body) (ts := tHX X.K ex en.length k i x outs) c.stk c.fr (by rw [c.base.hN]; exact c.base.nd) (by rw [c.base.hN]; exact w1) kO (c := .ref (ex k)) ⟨hg, hd, .inl (c.exs k y h2).gC⟩ c.base.tk (fun W' pn xe tk hp => sndSs body (X.tr pn xe) W' (c.tr tk hp) pr bd h5)
        (fun a oe cls d pn hz hf => ?_)) fun D σ H hl q => tryC_use (by rw [hl, c.base.hN]; exact iN) (by rw [hl, c.base.hN]; exact w3) (fun c' hc => c.exm c' k hc (List.getElem?_eq_some_iff.mp h2).1) q
      refine ⟨fun pins s σ H D I q => ?_⟩
      obtain ⟨c', d', lc, hc, ho, rfl, rfl, q⟩ := q
      obtain ⟨z, hz'⟩ : ∃ z, en[c']? = some z := ⟨_, List.getElem?_eq_getElem lc⟩
      have HXs : HX (X.suite a ((a, oe) :: pn)) ex N sc bn en i nm a c' :=
        { hN := c.base.hN, nd := c.base.nd, hsc := c.base.hsc, hfn := c.hfn,
          nmv := fun p => pe_var (X := X.suite a ((a, oe) :: pn)) (by rw [show (X.suite a ((a, oe) :: pn)).N = X.N from rfl, c.base.hN]; exact w1) (.inl kO) w4 w5,
          blt := c.base.blt, isi := call_isE (c.exs c' z hz').ec hz hf, cls := fun j y e => (c.exs j y e).gC, kit := fun j hj => c.kit c' j lc hj }
      have er : hRun N sc bn en nm c' x none (s0 :: suite) = some d' := by
        have w := w6 c' (List.mem_range.mpr lc)
        rw [hc, ho] at w
        simp only [Bool.not_true, Bool.false_or] at w
        split at w
        · rename_i d1 e1 q1 q2
          cases q2
          rw [q1, eqC_eq w]
        · rename_i q1 q2; cases q2
        · cases w
      exact (hRun_ok HXs w1 (s0 :: suite) none d' er).run pins s σ H D I q
    · cases h
theorem sndSs : ∀ (ss : Ss) (X : Cx) (W : WX) (c : CtxS X W ex G C N gn cn bn sc en) (pr : List Nat) (sts : List Stmt), chkSs N gn cn bn sc en ss sts = true → PSs X sts (tSs X.K W ex pr G C ss)
  | .nil, X, W, c, pr, [], h => pss_weakL pss_nil fun D σ H hl q => nil_use q
  | .nil, X, W, c, pr, _ :: _, h => by cases h
  | .cons s ss, X, W, c, pr, [], h => by cases h
  | .cons s ss, X, W, c, pr, st :: sts, h => by
    unfold chkSs at h
    obtain ⟨h1, h2⟩ := bool_split h
    exact pss_weakL (pss_cons (sndS s X W c pr st h1) (sndSs ss X W c pr sts h2)) fun D σ H hl q => seq_use q
end
end
end Mi

/-! a def of the text: its meaning -/
namespace Mi
open PySem PySem.Spec PyProof.Rows L2
def scCk (N P : List Str) (sc : Scope) : Bool :=
  decide (sc.kind = .function) && !sc.isCoroutine && !sc.isGenerator && decide N.Nodup && decide (N.take P.length = P) && P.all (fun x => decide (sc.names.lookup x = some .local) || decide (sc.names.lookup x = some .cell)) && sc.names.all (fun y => !decide (y.2 = .free))
theorem scope_by {N P : List Str} {sc : Scope} (h : scCk N P sc = true) : FnScope N P sc := by
  unfold scCk at h
  simp only [Bool.and_eq_true, Bool.not_eq_true', decide_eq_true_eq, List.all_eq_true, Bool.or_eq_true, decide_eq_false_iff_not] at h
  obtain ⟨⟨⟨⟨⟨⟨h1, h2⟩, h3⟩, h4⟩, h5⟩, h6⟩, h7⟩ := h
  exact ⟨h1, h2, h3, h4, h5, h6, h7⟩
theorem finals_get : ∀ {ds : List D} {ρ : Mi.Env} {ds' : List D}, finals ds ρ = some ds' → ds'.length = ds.length ∧ ∀ (i : Nat) (d : D), ds[i]? = some d → (d.flat = true ∧ ds'[i]? = some d) ∨ (d.flat = false ∧ ∃ d', ds'[i]? = some d' ∧ d'.flat = false ∧ ρ[i]? = some (some d'))
  | [], ρ, ds', h => by
    unfold finals at h
    cases h
    exact ⟨rfl, fun i d e => by simp at e⟩
  | d0 :: ds, [], ds', h => by unfold finals at h; cases h
  | d0 :: ds, o :: ρ, ds', h => by
    unfold finals at h
    cases e : finals ds ρ with
    | none => rw [e] at h; cases h
    | some ds1 =>
      rw [e] at h
      dsimp only at h
      obtain ⟨l, ih⟩ := finals_get e
      by_cases f : d0.flat = true
      · rw [if_pos f] at h
        cases h
        refine ⟨by simp [l], fun i d hd => ?_⟩
        cases i with
        | zero => simp at hd; subst hd; exact .inl ⟨f, rfl⟩
        | succ i => simpa using ih i d (by simpa using hd)
      · rw [if_neg f] at h
        cases o with
        | none => cases h
        | some d' =>
          dsimp only at h
          by_cases f' : d'.flat = true
          · rw [if_pos f'] at h; cases h
          · rw [if_neg f'] at h
            cases h
            refine ⟨by simp [l], fun i d hd => ?_⟩
            cases i with
            | zero => simp at hd; subst hd; exact .inr ⟨by simpa using f, d', rfl, by simpa using f', rfl⟩
            | succ i => simpa using ih i d (by simpa using hd)
theorem fits_get {pr : List Nat} : ∀ {ds : List D} {k : Nat}, fits pr k ds = true → ∀ (i : Nat) (d : D), ds[i]? = some d → d.flat = false → k + i ∈ pr
  | [], k, h, i, d, e, f => by simp at e
  | d0 :: ds, k, h, i, d, e, f => by
    unfold fits at h
    obtain ⟨h1, h2⟩ := bool_split h
    cases i with
    | zero =>
      simp at e
      subst e
      rw [f] at h1
      simpa using h1
    | succ i =>
      have q := fits_get h2 i d (by simpa using e) f
      rw [show k + (i + 1) = k + 1 + i by omega]
      exact q
section
variable {K : PySem.W.Frag} {H H' : Hp} {Z Z' : Addr → Prop} {vs : List V} {ds ds' : List D} {N : List Str} {ρ' : Mi.Env} {σ' : L2.St} {pr : List Nat} {v : V} {d : D}
theorem start_get {i : Nat} {v : V} (h : i < vs.length) : (L2.start N vs)[i]? = (vs.map some)[i]? := by
  unfold L2.start
  rw [List.getElem?_append_left (by simpa using h)]
/-- the body's state from the call's -/
theorem body_sat (s : Sat K H Z (vs.map some) (ds.map some)) (hN : vs.length ≤ N.length) : Sat K H Z (L2.start N vs) (ds.map some ++ List.replicate (N.length - ds.length) none) := by
  have hl : ds.length = vs.length := by have := s.len; simpa using this
  have g : ∀ (i : Nat) (d : D), (ds.map some ++ List.replicate (N.length - ds.length) none)[i]? = some (some d) → (ds.map some)[i]? = some (some d) ∧ (L2.start N vs)[i]? = (vs.map some)[i]? := by
    intro i d e
    by_cases hi : i < ds.length
    · rw [List.getElem?_append_left (by simpa using hi)] at e
      exact ⟨e, start_get (v := .non) (by omega)⟩
    · rw [List.getElem?_append_right (by simpa using hi), List.getElem?_replicate] at e
      split at e <;> cases e
  refine ⟨by unfold L2.start; simp [hl], fun i d e => ?_, fun i j d e a h1 h2 f1 f2 g1 g2 => ?_, s.zok, s.tabs⟩
  · obtain ⟨q, w⟩ := g i d e
    rw [w]
    exact s.rep i d q
  · obtain ⟨q1, w1⟩ := g i d h1
    obtain ⟨q2, w2⟩ := g j e h2
    rw [w1] at g1
    rw [w2] at g2
    exact s.sep i j d e a q1 q2 f1 f2 g1 g2
theorem body_owns (hl : ds.length = vs.length) {a : Addr} : Owns (L2.start N vs) (ds.map some ++ List.replicate (N.length - ds.length) none) a ↔ Owns (vs.map some) (ds.map some) a := by
  have g : ∀ (i : Nat) (d : D), (ds.map some ++ List.replicate (N.length - ds.length) none)[i]? = some (some d) ↔ (ds.map some)[i]? = some (some d) := by
    intro i d
    by_cases hi : i < ds.length
    · rw [List.getElem?_append_left (by simpa using hi)]
    · rw [List.getElem?_append_right (by simpa using hi), List.getElem?_replicate]
      constructor
      · intro e; split at e <;> cases e
      · intro e
        rw [List.getElem?_eq_none (by simpa using hi)] at e
        cases e
  have lt : ∀ (i : Nat) (d : D), (ds.map some)[i]? = some (some d) → i < vs.length := fun i d e => by
    have := (List.getElem?_eq_some_iff.mp e).1
    simpa [hl] using this
  constructor
  · rintro ⟨i, d, e, f, s⟩
    have e' := (g i d).mp e
    rw [start_get (v := .non) (lt i d e')] at s
    exact ⟨i, d, e', f, s⟩
  · rintro ⟨i, d, e, f, s⟩
    refine ⟨i, d, (g i d).mpr e, f, ?_⟩
    rw [start_get (v := .non) (lt i d e)]
    exact s
/-- behind the body: the call's step -/
theorem body_step (s : Sat K H Z (vs.map some) (ds.map some)) (hN : vs.length ≤ N.length) (p : StepP K pr (L2.start N vs) H Z (ds.map some ++ List.replicate (N.length - ds.length) none) σ' H' Z' ρ') (ft : fits pr 0 ds = true) (fn : finals ds ρ' = some ds') :
    Step K (vs.map some) H Z (ds.map some) (vs.map some) H' Z' (ds'.map some) ∧
      ∀ a, Owns (vs.map some) (ds'.map some) a → Owns σ' ρ' a := by
  have hl : ds.length = vs.length := by have := s.len; simpa using this
  have sb := body_sat s hN
  obtain ⟨fl, fg⟩ := finals_get fn
  have ow : ∀ a, Owns (vs.map some) (ds'.map some) a → Owns σ' ρ' a ∧ Owns (vs.map some) (ds.map some) a := by
    rintro a ⟨i, d', e, f, ea⟩
    rw [map_some_get] at e ea
    have hi : i < ds.length := by rw [← fl]; exact (List.getElem?_eq_some_iff.mp e).1
    obtain ⟨d, hd⟩ : ∃ d, ds[i]? = some d := ⟨ds[i], List.getElem?_eq_getElem hi⟩
    rcases fg i d hd with ⟨f1, e1⟩ | ⟨f1, d2, e1, f2, e2⟩
    · rw [e1] at e; cases e; rw [f1] at f; cases f
    · rw [e1] at e; cases e
      have hp : i ∈ pr := by have := fits_get ft i d hd f1; simpa using this
      refine ⟨⟨i, _, e2, f2, ?_⟩, i, d, by rw [map_some_get]; exact hd, f1, by rw [map_some_get]; exact ea⟩
      rw [p.fx i hp, start_get (v := .non) (by omega), map_some_get]
      exact ea
  refine ⟨⟨⟨by simp [fl, hl], fun i d' e => ?_, fun i j d1 d2 a h1 h2 f1 f2 g1 g2 => ?_, p.st.sat.zok, p.st.sat.tabs⟩, p.st.stay.mono fun a z => (body_owns hl).mp z, p.st.z1, fun a z => ?_, fun a z => .inl (ow a z).2, p.st.trk⟩, fun a z => (ow a z).1⟩
  · rw [map_some_get] at e
    have hi : i < ds.length := by rw [← fl]; exact (List.getElem?_eq_some_iff.mp e).1
    obtain ⟨d, hd⟩ : ∃ d, ds[i]? = some d := ⟨ds[i], List.getElem?_eq_getElem hi⟩
    rcases fg i d hd with ⟨f1, e1⟩ | ⟨f1, d2, e1, f2, e2⟩
    · rw [e1] at e; cases e
      obtain ⟨v, ev, r⟩ := s.rep i _ (by rw [map_some_get]; exact hd)
      exact ⟨v, ev, .of ((r.rp f1).stay sb.loose p.st.stay p.st.z1)⟩
    · rw [e1] at e; cases e
      have hp : i ∈ pr := by have := fits_get ft i d hd f1; simpa using this
      obtain ⟨v, ev, r⟩ := p.st.sat.rep i _ e2
      rw [p.fx i hp, start_get (v := .non) (by omega)] at ev
      exact ⟨v, ev, r⟩
  · obtain ⟨v1, ev1, -⟩ := s.rep i (ds.getD i .non) (by
      rw [map_some_get] at h1 ⊢
      have hi : i < ds.length := by rw [← fl]; exact (List.getElem?_eq_some_iff.mp h1).1
      rw [List.getD_eq_getElem?_getD, List.getElem?_eq_getElem hi]; rfl)
    have key : ∀ (i : Nat) (d' : D), (ds'.map some)[i]? = some (some d') → d'.flat = false → ∃ d, (ds.map some)[i]? = some (some d) ∧ d.flat = false := by
      intro i d' e f
      rw [map_some_get] at e
      have hi : i < ds.length := by rw [← fl]; exact (List.getElem?_eq_some_iff.mp e).1
      obtain ⟨d, hd⟩ : ∃ d, ds[i]? = some d := ⟨ds[i], List.getElem?_eq_getElem hi⟩
      rcases fg i d hd with ⟨f1, e1⟩ | ⟨f1, _⟩
      · rw [e1] at e; cases e; rw [f1] at f; cases f
      · exact ⟨d, by rw [map_some_get]; exact hd, f1⟩
    obtain ⟨x1, y1, z1⟩ := key i d1 h1 f1
    obtain ⟨x2, y2, z2⟩ := key j d2 h2 f2
    exact s.sep i j x1 x2 a y1 y2 z1 z2 g1 g2
  · rcases p.st.z2 a z with z | z | z
    · exact .inl z
    · exact .inr (.inl z)
    · exact .inr (.inr ((body_owns hl).mp z))
theorem body_free (s : Sat K H Z (vs.map some) (ds.map some)) (hN : vs.length ≤ N.length) (p : StepP K pr (L2.start N vs) H Z (ds.map some ++ List.replicate (N.length - ds.length) none) σ' H' Z' ρ') (ft : fits pr 0 ds = true) (fn : finals ds ρ' = some ds')
    (fr : FreeS K (L2.start N vs) H (ds.map some ++ List.replicate (N.length - ds.length) none) H' Z' σ' ρ' v d) : Free K H H' Z' (vs.map some) (ds'.map some) v d := by
  have hl : ds.length = vs.length := by have := s.len; simpa using this
  obtain ⟨fl, fg⟩ := finals_get fn
  refine ⟨fr.1, fun f => ?_⟩
  obtain ⟨a, ea, no, n⟩ := fr.2 f
  refine ⟨a, ea, fun w => no ((body_step s hN p ft fn).2 a w), ?_⟩
  rcases n with n | n
  · exact n
  · exfalso
    obtain ⟨i, d1, e, f1, es⟩ := (body_owns hl).mp n
    rw [map_some_get] at e es
    rcases fg i d1 e with ⟨f2, _⟩ | ⟨_, d2, e1, f2, e2⟩
    · rw [f2] at f1; cases f1
    · have hp : i ∈ pr := by have := fits_get ft i d1 e f1; simpa using this
      refine no ⟨i, d2, e2, f2, ?_⟩
      rw [p.fx i hp, start_get (v := .non) (by rw [← hl]; exact (List.getElem?_eq_some_iff.mp e).1), map_some_get]
      exact es
end
end Mi

/-! defs of the text, one above the other -/
namespace Mi
open PySem PySem.Spec PyProof.Rows L2
/-- the text's def stands behind the top -/
def DefAt (K : PySem.W.Frag) (x : Str) (st : Stmt) : Prop := ∃ (f : Addr) (fd : FuncData), PySem.W.nsIn K mainGlobals x = some (some (.ref f)) ∧ Fun K x x st f fd
theorem defAt_mk {K : PySem.W.Frag} {x : Str} {st : Stmt} {f : Addr} {oc : Value} {od an : Option Addr} {osl : Array (Option Value)} {kV doc pm cdv ct : Value}
    (a : PySem.W.nsIn K mainGlobals x = some (some (.ref f))) (l : K.lookup f = some ⟨oc, od, .func (PySem.W.fnOf x x (defArgs st) (defBody st) (defScope st) .none kV doc pm an cdv ct), osl⟩)
    (c : PySem.W.codeIn K cdv x = true) (k : PySem.W.keepIn K (.ref f) = true) : DefAt K x st := ⟨f, _, a, fun_mk l c k⟩
/-- an own exception class stands behind the top -/
structure ExcAt (K : PySem.W.Frag) (C : Addr) (x : Str) : Prop where
  a : PySem.W.nsIn K mainGlobals x = some (some (.ref C))
  k : PySem.W.keepIn K (.ref C) = true
  q : ∃ (bmB : List Value) (B newId initId : String), ExcBaseFacts B newId initId bmB ∧ PySem.W.excIn K C bmB newId = true
  s : PySem.W.subIn K (.ref C) (.type "BaseException") = some true
  t : PySem.W.typeIn K (.ref C) = some (.type "type")
  ec : L2.ExcC K C
/-- all that a law's defs want of the top -/
structure Top (K : PySem.W.Frag) (ex : Nat → Addr) (bn en : List Str) : Prop where
  blt : ∀ x, x ∈ bn → PySem.W.nsIn K mainGlobals x = some none
  exs : ∀ (c : Nat) (x : Str), en[c]? = some x → ExcAt K (ex c) x
  exm : ∀ c k, c < en.length → k < en.length → PySem.W.exmOne K (.ref (ex c)) (.ref (ex k)) = some (catches c k)
  kit : ∀ c k, c < en.length → k < en.length → PySem.W.kitOne K (.ref (ex c)) (.ref (ex k)) = some (catches c k)
section
variable (P : Program) (w : World) (K : PySem.W.Frag) (mg : Str → Option Value) (base : Heap) (ex : Nat → Addr)
inductive DefOk (k : Nat) (x : Str) (n : Nat) (F : Fn) : Prop
  | fn (fa : Addr) (fd : FuncData) (ps : List Str) (j : Nat) : mthName x = none → mg x = some (.ref fa) → PySem.W.keepIn K (.ref fa) = true → Binds K fd ps [] → j ≤ k → FnOk P w K mg base (L2.CX P w) j fa fd ps (spD K ex n F) → DefOk k x n F
  | cls (C fa : Addr) (fd : FuncData) (ps : List Str) (j : Nat) (spI : Sp) : mthName x = none → mg x = some (.ref C) → L2.Mk K C fa → Binds K fd ps [] → j + 1 ≤ k → FnOk P w K mg base (L2.CX P w) j fa fd ps spI →
      (∀ vs H Q E, spD K ex n F vs H Q E → ∀ o dx, H o = none → H dx = none → dx ≠ o → spI (.ref o :: vs) (upd (upd H dx (.own o)) o (.ins C dx [])) (fun v H2 => v = .non ∧ Q (.ref o) H2) E) → DefOk k x n F
  | mth (c m : List Nat) (C fa : Addr) (fd : FuncData) (ps : List Str) (j : Nat) : mthName x = some (c, m) → PySem.W.nsIn K mainGlobals (strV c) = some (some (.ref C)) → L2.Cls K C → L2.Meth K C (strV m) fa → Binds K fd ps [] → j + 1 ≤ k →
      FnOk P w K mg base (L2.CX P w) j fa fd ps (spD K ex n F) → DefOk k x n F
def Calls (k : Nat) (gn : List (Str × Nat)) (G : List Fn) : Prop := gn.length = G.length ∧ ∀ (j : Nat) (x : Str) (n : Nat), gn[j]? = some (x, n) → ∃ f, G[j]? = some f ∧ DefOk P w K mg base ex k x n f
end
section
variable {P : Program} {w : World} {K : PySem.W.Frag} {mg : Str → Option Value} {base : Heap} {ex : Nat → Addr} {k j : Nat} {x : Str} {n : Nat} {f F F' : Fn} {gn : List (Str × Nat)} {G : List Fn} {C : List D} {cn bn en : List Str}
theorem DefOk.mono (h : DefOk P w K mg base ex k x n F) (l : k ≤ j) : DefOk P w K mg base ex j x n F := by
  cases h with
  | fn fa fd ps i z a b c d e => exact .fn fa fd ps i z a b c (Nat.le_trans d l) e
  | cls C fa fd ps i spI z a b c d e f => exact .cls C fa fd ps i spI z a b c (Nat.le_trans d l) e f
  | mth c m C fa fd ps i z a b c1 d e f => exact .mth c m C fa fd ps i z a b c1 d (Nat.le_trans e l) f
theorem DefOk.call (h : DefOk P w K mg base ex k x n F) {X : Cx} (hP : X.prog = P) (hw : X.w = w) (hK : X.K = K) (hm : X.mg = mg) (hb : X.base = base) (hr : Room k X.A) : CallOk X ex x n F := by
  subst hP hw hK hm hb
  cases h with
  | fn fa fd ps i z a b c d e => exact .fn fa fd ps i z a b c (hr.mono d) e
  | cls C fa fd ps i spI z a b c d e f => exact .cls C fa fd ps i spI z a b c (hr.mono d) e f
  | mth c m C fa fd ps i z a b c1 d e f => exact .mth c m C fa fd ps i z a b c1 d (hr.mono e) f
theorem Calls.nil : Calls P w K mg base ex 0 [] [] := ⟨rfl, fun j x n e => by simp at e⟩
theorem Calls.snoc (c : Calls P w K mg base ex k gn G) (d : DefOk P w K mg base ex (k + 1) x n F) : Calls P w K mg base ex (k + 1) (gn ++ [(x, n)]) (G ++ [F]) := by
  refine ⟨by simp [c.1], fun j y m e => ?_⟩
  by_cases hj : j < gn.length
  · rw [List.getElem?_append_left hj] at e
    obtain ⟨f, e1, d1⟩ := c.2 j y m e
    exact ⟨f, by rw [List.getElem?_append_left (by rw [← c.1]; exact hj)]; exact e1, d1.mono (Nat.le_succ k)⟩
  · rw [List.getElem?_append_right (by omega)] at e
    have h0 : j - gn.length = 0 := by
      have := (List.getElem?_eq_some_iff.mp e).1
      simp at this
      omega
    rw [h0] at e
    cases e
    exact ⟨F, by rw [List.getElem?_append_right (by rw [← c.1]; omega), ← c.1, h0]; rfl, d⟩
/-- a def's body, its meaning told by runDef -/
theorem def_body {st : Stmt} {fa : Addr} {N ps : List Str} {body : Ss} {pr : List Nat} (KX : ∀ x o, PySem.W.nsIn K mainGlobals x = some o → mg x = o) (T : Top K ex bn en) (c : Calls P w K mg base ex k gn G)
    (hg : ∀ (j : Nat) (y : Str), cn[j]? = some y → ∃ (d : D) (u : Value) (v : V), C[j]? = some d ∧ mg y = some u ∧ RelV v u ∧ ∀ H Z, Rp K H Z v d)
    (hs : scCk N ps (defScope st) = true) (hc : chkSs N gn cn bn (defScope st) en body (defBody st) = true)
    (cdv : Value) (A : Around) (outer : List PySem.Env) (s : Shared) (H : Hp) (vs : List V) (Q : VK) (E : XK) (hr : Room k (A.deeper (envOfC x (defScope st) s.heap.objs.size fa cdv)))
    (lm : ("<lambda>" : Str) ∈ bn → LamOk (cxOf (L2.CX P w) P w K mg base N x (defScope st) fa cdv A outer s H E)) (h : spD K ex ps.length (runDef G C body N.length pr) vs H Q E) :
    ∃ t, PSs (cxOf (L2.CX P w) P w K mg base N x (defScope st) fa cdv A outer s H E) (defBody st) t ∧ t { nx := fun _ H' => Q .non H', rt := Q } (L2.start N vs) H := by
  have S := scope_by hs
  have hpl : ps.length ≤ N.length := by have := congrArg List.length S.pre; rw [List.length_take] at this; omega
  obtain ⟨hl, Z, ds, sat, q⟩ := h
  have cS : CtxS (cxOf (L2.CX P w) P w K mg base N x (defScope st) fa cdv A outer s H E) (fun cls d _ H => E cls d H) ex G C N gn cn bn (defScope st) en :=
    { base := { hN := rfl, nd := S.nd, hsc := rfl, calm := rfl, tk := takes_of rfl rfl rfl rfl, hu := hr.units, blt := fun y hy => KX _ _ (T.blt y hy),
                calls := fun j y m e => by
                  obtain ⟨g, e1, d⟩ := c.2 j y m e
                  exact ⟨g, e1, d.call rfl rfl rfl rfl rfl hr⟩
                glob := hg
                lam := lm }
      hp := passes_of rfl
      hfn := fun _ => rfl
      stk := rfl
      fr := rfl
      exs := fun i y e => ⟨KX _ _ (T.exs i y e).a, (T.exs i y e).k, (T.exs i y e).q, raises_own (T.exs i y e).s (T.exs i y e).t, (T.exs i y e).ec⟩
      exm := T.exm
      kit := T.kit }
  refine ⟨_, sndSs body _ _ cS pr _ hc, Z, _, body_sat sat (by omega), ?_⟩
  show PostS K (fun cls d _ H => E cls d H) ex pr (L2.start N vs) H Z (ds.map some ++ List.replicate (N.length - ds.length) none) (execs G C body pr (ds.map some ++ List.replicate (N.length - ds.length) none)) _
  unfold runDef at q
  by_cases ft : fits pr 0 ds = true
  · rw [if_pos ft] at q
    cases r : execs G C body pr (ds.map some ++ List.replicate (N.length - ds.length) none) with
    | nx ρ' =>
      rw [r] at q
      dsimp only at q
      cases e : finals ds ρ' with
      | none => rw [e] at q; exact q.elim
      | some ds' =>
        rw [e] at q
        exact fun σ' H' Z' p => q .non H' Z' (body_step sat (by omega) p ft e).1 ⟨.non, fun f => by cases f⟩
    | rt d ρ' =>
      rw [r] at q
      dsimp only at q
      cases e : finals ds ρ' with
      | none => rw [e] at q; exact q.elim
      | some ds' =>
        rw [e] at q
        exact fun v σ' H' Z' p fr => q v H' Z' (body_step sat (by omega) p ft e).1 (body_free sat (by omega) p ft e fr)
    | exc i ρ' =>
      rw [r] at q
      dsimp only at q
      cases e : finals ds ρ' with
      | none => rw [e] at q; exact q.elim
      | some ds' =>
        rw [e] at q
        exact fun σ' H' Z' p => q H' Z' (body_step sat (by omega) p ft e).1
    | bk ρ' => rw [r] at q; exact q.elim
    | ct ρ' => rw [r] at q; exact q.elim
    | stk => rw [r] at q; exact q.elim
  · rw [if_neg ft] at q; exact q.elim
/-- a def by its text, its meaning told by runDef -/
theorem def_fn {st : Stmt} {nm : Str} {fa : Addr} {fd : FuncData} {N ps : List Str} {body : Ss} {pr : List Nat} (KX : ∀ x o, PySem.W.nsIn K mainGlobals x = some o → mg x = o) (T : Top K ex bn en) (F : Fun K nm x st fa fd) (c : Calls P w K mg base ex k gn G)
    (hg : ∀ (j : Nat) (y : Str), cn[j]? = some y → ∃ (d : D) (u : Value) (v : V), C[j]? = some d ∧ mg y = some u ∧ RelV v u ∧ ∀ H Z, Rp K H Z v d)
    (hs : scCk N ps (defScope st) = true) (hc : chkSs N gn cn bn (defScope st) en body (defBody st) = true) (hl : ("<lambda>" : Str) ∉ bn) :
    FnOk P w K mg base (L2.CX P w) (k + 1) fa fd ps (spD K ex ps.length (runDef G C body N.length pr)) := by
  have S := scope_by hs
  exact F.okX S (fun vs H Q E h => h.1) fun cdv A outer s H vs Q E hr h => def_body KX T c hg hs hc cdv A outer s H vs Q E hr (fun z => absurd z hl) h
theorem def_run {st : Stmt} {N ps : List Str} {body : Ss} {pr : List Nat} (KX : ∀ x o, PySem.W.nsIn K mainGlobals x = some o → mg x = o) (T : Top K ex bn en) (A : DefAt K x st) (c : Calls P w K mg base ex k gn G)
    (hg : ∀ (j : Nat) (y : Str), cn[j]? = some y → ∃ (d : D) (u : Value) (v : V), C[j]? = some d ∧ mg y = some u ∧ RelV v u ∧ ∀ H Z, Rp K H Z v d)
    (hb : ∀ (kV doc pm : Value) (an : Option Addr) (cdv ct : Value) (us : List Value), us.length = ps.length → bindArgs (PySem.W.fnOf x x (defArgs st) (defBody st) (defScope st) .none kV doc pm an cdv ct) ⟨us, []⟩ = pure (ps.zip us))
    (hs : scCk N ps (defScope st) = true) (hc : chkSs N gn cn bn (defScope st) en body (defBody st) = true) (hl : ("<lambda>" : Str) ∉ bn) (hx : mthName x = none := by decide +kernel) :
    DefOk P w K mg base ex (k + 1) x ps.length (runDef G C body N.length pr) := by
  obtain ⟨f, fd, a, F⟩ := A
  exact .fn f fd ps (k + 1) hx (KX _ _ a) F.kp (F.binds hb) (Nat.le_refl _) (def_fn KX T F c hg hs hc hl)
/-- a method of the text stands behind the top -/
def MethAt (K : PySem.W.Frag) (c m : List Nat) (nm q : Str) (st : Stmt) : Prop := ∃ (C f : Addr) (fd : FuncData), PySem.W.nsIn K mainGlobals (strV c) = some (some (.ref C)) ∧ L2.Cls K C ∧ L2.Meth K C (strV m) f ∧ Fun K nm q st f fd
theorem methAt_mk {c m : List Nat} {x nm q : Str} {st : Stmt} {C f : Addr} {oc : Value} {od an : Option Addr} {osl : Array (Option Value)} {kV doc pm cdv ct : Value} (hc : x = strV c) (hm : nm = strV m)
    (a : PySem.W.nsIn K mainGlobals x = some (some (.ref C))) (cl : L2.Cls K C) (at_ : PySem.W.findIn K (.ref C) nm = some (some (.ref f))) (fn : PySem.W.isFn K (.ref f) = true)
    (l : K.lookup f = some ⟨oc, od, .func (PySem.W.fnOf nm q (defArgs st) (defBody st) (defScope st) .none kV doc pm an cdv ct), osl⟩) (cd : PySem.W.codeIn K cdv q = true) (k : PySem.W.keepIn K (.ref f) = true) : MethAt K c m nm q st := by
  subst hc hm
  exact ⟨C, f, _, a, cl, ⟨at_, fn, k⟩, fun_mk l cd k⟩
theorem def_meth {st : Stmt} {N ps : List Str} {body : Ss} {pr : List Nat} {c0 m : List Nat} {nm q : Str} (KX : ∀ x o, PySem.W.nsIn K mainGlobals x = some o → mg x = o) (T : Top K ex bn en) (A : MethAt K c0 m nm q st) (c : Calls P w K mg base ex k gn G)
    (hg : ∀ (j : Nat) (y : Str), cn[j]? = some y → ∃ (d : D) (u : Value) (v : V), C[j]? = some d ∧ mg y = some u ∧ RelV v u ∧ ∀ H Z, Rp K H Z v d)
    (hb : ∀ (kV doc pm : Value) (an : Option Addr) (cdv ct : Value) (us : List Value), us.length = ps.length → bindArgs (PySem.W.fnOf nm q (defArgs st) (defBody st) (defScope st) .none kV doc pm an cdv ct) ⟨us, []⟩ = pure (ps.zip us))
    (hs : scCk N ps (defScope st) = true) (hc : chkSs N gn cn bn (defScope st) en body (defBody st) = true) (hl : ("<lambda>" : Str) ∉ bn) (hx : mthName x = some (c0, m) := by decide +kernel) :
    DefOk P w K mg base ex (k + 2) x ps.length (runDef G C body N.length pr) := by
  obtain ⟨C0, f, fd, a, cl, mt, F⟩ := A
  exact .mth c0 m C0 f fd ps (k + 1) hx a cl mt (F.binds hb) (Nat.le_refl _) (def_fn KX T F c hg hs hc hl)
/-- a class of the text that is made by an __init__ of its own -/
def InitAt (K : PySem.W.Frag) (c : List Nat) (ns : List (List Nat)) (x q : Str) (st : Stmt) : Prop := ∃ (C f : Addr) (fd : FuncData), PySem.W.nsIn K mainGlobals x = some (some (.ref C)) ∧ ClsOk K c C ns ∧ L2.Mk K C f ∧ Fun K "__init__" q st f fd
theorem na_of {C : Addr} {x : Str} {f : List Nat} (e : x = strV f) (h : PySem.W.findIn K (.ref C) x = some none) : L2.NoAttr K C (strV f) := by
  subst e
  exact h
theorem initAt_mk {c : List Nat} {ns : List (List Nat)} {x q : Str} {st : Stmt} {C f : Addr} {oc : Value} {od an : Option Addr} {osl : Array (Option Value)} {kV doc pm cdv ct : Value} (hc : x = strV c)
    (a : PySem.W.nsIn K mainGlobals x = some (some (.ref C))) (nmC : (PySem.W.clsIn K C).map (·.name) = some x) (cl : L2.Cls K C) (na : ∀ f ∈ ns, L2.NoAttr K C (strV f)) (mk : PySem.W.makesIn K C = true) (at_ : PySem.W.findIn K (.ref C) "__init__" = some (some (.ref f))) (fn : PySem.W.isFn K (.ref f) = true) (kC : PySem.W.keepIn K (.ref C) = true)
    (l : K.lookup f = some ⟨oc, od, .func (PySem.W.fnOf "__init__" q (defArgs st) (defBody st) (defScope st) .none kV doc pm an cdv ct), osl⟩) (cd : PySem.W.codeIn K cdv q = true) (k : PySem.W.keepIn K (.ref f) = true) : InitAt K c ns x q st := by
  subst hc
  exact ⟨C, f, _, a, ⟨nmC, a, cl, na⟩, ⟨mk, at_, fn, kC⟩, fun_mk l cd k⟩
/-! ### a def that makes a lambda -/
/-- the code object and the table of the def x -/
def cOf (K : PySem.W.Frag) (x : Str) : Addr := ((PySem.W.tabIn K x).getD (0, 0)).1
def pOf (K : PySem.W.Frag) (x : Str) : Addr := ((PySem.W.tabIn K x).getD (0, 0)).2
theorem Top.lam (T : Top K ex bn en) (z : PySem.W.nsIn K mainGlobals "<lambda>" = some none) : Top K ex ("<lambda>" :: bn) en :=
  ⟨fun y hy => by
    rcases List.mem_cons.mp hy with e | e
    · rw [e]; exact z
    · exact T.blt y e, T.exs, T.exm, T.kit⟩
/-- such a def stands behind the top -/
def DefAtL (K : PySem.W.Frag) (x : Str) (st : Stmt) : Prop := ∃ (f : Addr) (oc : Value) (od : Option Addr) (kV doc pm : Value) (an : Option Addr) (ct : Value) (osl : Array (Option Value)),
  PySem.W.nsIn K mainGlobals x = some (some (.ref f)) ∧ K.lookup f = some ⟨oc, od, .func (PySem.W.fnOf x x (defArgs st) (defBody st) (defScope st) .none kV doc pm an (.ref (cOf K x)) ct), osl⟩ ∧ PySem.W.codeIn K (.ref (cOf K x)) x = true ∧ PySem.W.keepIn K (.ref f) = true
theorem defAtL_mk {K : PySem.W.Frag} {x : Str} {st : Stmt} {f : Addr} {oc : Value} {od an : Option Addr} {osl : Array (Option Value)} {kV doc pm cdv ct : Value}
    (a : PySem.W.nsIn K mainGlobals x = some (some (.ref f))) (l : K.lookup f = some ⟨oc, od, .func (PySem.W.fnOf x x (defArgs st) (defBody st) (defScope st) .none kV doc pm an cdv ct), osl⟩)
    (c : PySem.W.codeIn K cdv x = true) (k : PySem.W.keepIn K (.ref f) = true) (e : cdv = .ref (cOf K x)) : DefAtL K x st := by
  subst e
  exact ⟨f, oc, od, kV, doc, pm, an, ct, osl, a, l, c, k⟩
theorem def_runL {st : Stmt} {N ps : List Str} {body : Ss} {pr : List Nat} (KX : ∀ x o, PySem.W.nsIn K mainGlobals x = some o → mg x = o) (T : Top K ex bn en) (A : DefAtL K x st) (c : Calls P w K mg base ex k gn G)
    (hg : ∀ (j : Nat) (y : Str), cn[j]? = some y → ∃ (d : D) (u : Value) (v : V), C[j]? = some d ∧ mg y = some u ∧ RelV v u ∧ ∀ H Z, Rp K H Z v d)
    (hb : ∀ (kV doc pm : Value) (an : Option Addr) (cdv ct : Value) (us : List Value), us.length = ps.length → bindArgs (PySem.W.fnOf x x (defArgs st) (defBody st) (defScope st) .none kV doc pm an cdv ct) ⟨us, []⟩ = pure (ps.zip us))
    (hs : scCk N ps (defScope st) = true) (hc : chkSs N gn cn bn (defScope st) en body (defBody st) = true)
    (TB : LamX.TabB base mg (cOf K x) (pOf K x)) (hT : TabK K = [(pOf K x, x ++ ".<locals>." ++ "<lambda>")]) (hx : mthName x = none := by decide +kernel) :
    DefOk P w K mg base ex (k + 4) x ps.length (runDef G C body N.length pr) := by
  obtain ⟨f, oc, od, kV, doc, pm, an, ct, osl, a, l, cd, kp⟩ := A
  have S := scope_by hs
  have F : Fun K x x st f _ := fun_mk l cd kp
  refine .fn f _ ps (k + 4) hx (KX _ _ a) kp (F.binds hb) (Nat.le_refl _) ?_
  exact fn_of l cd S (fun vs H Q E h => h.1) fun A outer s H vs Q E hr h => def_body KX T c hg hs hc _ A outer s H vs Q E (hr.mono (Nat.le_add_right k 3)) (fun _ => ⟨⟨cOf K x, pOf K x, k, rfl, TB, hT, hr⟩⟩) h
theorem Calls.up (c : Calls P w K mg base ex k gn G) (l : k ≤ j) : Calls P w K mg base ex j gn G := ⟨c.1, fun i y m e => by
  obtain ⟨f, e1, d⟩ := c.2 i y m e
  exact ⟨f, e1, d.mono l⟩⟩
/-- a def that is never called in earnest: the bottom of an unrolled recursion -/
theorem def_stk {st : Stmt} {ps : List Str} (KX : ∀ x o, PySem.W.nsIn K mainGlobals x = some o → mg x = o) (A : DefAt K x st)
    (hb : ∀ (kV doc pm : Value) (an : Option Addr) (cdv ct : Value) (us : List Value), us.length = ps.length → bindArgs (PySem.W.fnOf x x (defArgs st) (defBody st) (defScope st) .none kV doc pm an cdv ct) ⟨us, []⟩ = pure (ps.zip us)) (hx : mthName x = none := by decide +kernel) :
    DefOk P w K mg base ex (k + 1) x ps.length (fun _ => .stk) := by
  obtain ⟨f, fd, a, F⟩ := A
  refine .fn f fd ps (k + 1) hx (KX _ _ a) F.kp (F.binds hb) (Nat.le_refl _) ⟨fun vs H Q E h => h.1, fun A outer s H args us vs Q E hr e0 hb r h => ?_⟩
  obtain ⟨_, _, _, _, z⟩ := h
  exact z.elim
theorem no_cn {j : Nat} {y : Str} {Q : Prop} (e : ([] : List Str)[j]? = some y) : Q := by simp at e
theorem cx_no {H : Hp} {s : Shared} {e : Value} {s' : Shared} (h : L2.CX P w [] H s (fun _ _ _ => False) e s') : False := by
  obtain ⟨_, _, _, _, _, _, _, _, _, _, _, _, z⟩ := h
  exact z
/-- what a law's own def promises: no exception -/
def spT (K : PySem.W.Frag) (F : Fn) : Sp := fun vs H Q _ => vs.length = 1 ∧ ∃ Z ds, Sat K H Z (vs.map some) (ds.map some) ∧ match F ds with
  | .ok d ds' => ∀ v H' Z', Step K (vs.map some) H Z (ds.map some) (vs.map some) H' Z' (ds'.map some) → Free K H H' Z' (vs.map some) (ds'.map some) v d → Q v H'
  | _ => False
theorem fn_top {fa : Addr} {fd : FuncData} {ps : List Str} (h : FnOk P w K mg base (L2.CX P w) k fa fd ps (spD K ex 1 F)) : FnOk P w K mg base (L2.CX P w) k fa fd ps (spT K F) :=
  h.imp fun vs H Q E q => by
    obtain ⟨hl, Z, ds, s, q⟩ := q
    refine ⟨hl, Z, ds, s, ?_⟩
    cases r : F ds with
    | ok d ds' => rw [r] at q; exact q
    | exc c ds' => rw [r] at q; exact q.elim
    | stk => rw [r] at q; exact q.elim
theorem exm_by {C S : Addr} {b : Bool} (h1 : PySem.W.subIn K (.ref S) (.type "BaseException") = some true) (h2 : PySem.W.isClsIn K S = true) (h3 : PySem.W.typeIn K (.ref S) = some (.type "type")) (h4 : PySem.W.subIn K (.ref C) (.ref S) = some b) :
    PySem.W.exmOne K (.ref C) (.ref S) = some b := by
  have q : (PySem.W.clsIn K S).isSome = true := h2
  unfold PySem.W.exmOne PySem.W.kitCls
  simp [h1, h3, q, h4]
theorem excAt_mk {C : Addr} {x : Str} (a : PySem.W.nsIn K mainGlobals x = some (some (.ref C))) (k : PySem.W.keepIn K (.ref C) = true)
    (q : PySem.W.excIn K C [.type "ValueError", .type "Exception", .type "BaseException", .type "object"] "ValueError.__new__" = true)
    (s : PySem.W.subIn K (.ref C) (.type "BaseException") = some true) (t : PySem.W.typeIn K (.ref C) = some (.type "type")) (ec : L2.ExcC K C) : ExcAt K C x := ⟨a, k, ⟨_, _, _, _, PySem.F.excBase_ValueError, q⟩, s, t, ec⟩
theorem kit_by {C S : Addr} {b : Bool} (h2 : PySem.W.isClsIn K S = true) (h3 : PySem.W.typeIn K (.ref S) = some (.type "type")) (h4 : PySem.W.subIn K (.ref C) (.ref S) = some b) (h5 : PySem.W.subIn K (.ref S) (.ref S) = some true) :
    PySem.W.kitOne K (.ref C) (.ref S) = some b := by
  have q : (PySem.W.clsIn K S).isSome = true := h2
  unfold PySem.W.kitOne
  by_cases e : ((Value.ref C) == (Value.ref S)) = true
  · rw [if_pos e]
    have e' : C = S := Value.ref.inj (beq_iff_eq.mp e)
    subst e'
    rw [h5] at h4
    exact h4
  · rw [if_neg e]
    unfold PySem.W.kitCls
    simp [q, h3, h4]
/-- the law's own def: true at every script -/
theorem law_trueT {H : Hp} {a : Addr} {ns : List Int} (ht : LamX.Tabs (TabK K) H) (hf : F [.fls (ns.map D.int)] = .ok (.bl true) [.fls (ns.map D.int)]) (hS : SqL K H a (ns.map V.int)) : spT K F [.ref a] H (fun v _ => v = .bl true) fun _ _ _ => False := by
  have r : ∀ Z : Addr → Prop, (Z a ∨ SqK K a (ns.map V.int)) → Rp K H Z (.ref a) (.fls (ns.map D.int)) := fun Z z => .fls z hS (Rps.of_ints ns)
  have one : ∀ (Z : Addr → Prop), (Z a ∨ SqK K a (ns.map V.int)) → (∀ b, Z b → H b ≠ none) → Sat K H Z ([V.ref a].map some) ([D.fls (ns.map D.int)].map some) := fun Z z zk => by
    refine ⟨rfl, fun i d e => ?_, fun i j d e b h1 h2 f1 f2 g1 g2 => ?_, zk, ht⟩
    · cases i with
      | zero => cases e; exact ⟨_, rfl, .of (r Z z)⟩
      | succ i => simp at e
    · cases i with
      | zero => cases h1; cases f1
      | succ i => simp at h1
  have fin : ∀ Z : Addr → Prop, Sat K H Z ([V.ref a].map some) ([D.fls (ns.map D.int)].map some) → spT K F [.ref a] H (fun v _ => v = .bl true) fun _ _ _ => False := fun Z s => by
    refine ⟨rfl, Z, _, s, ?_⟩
    rw [hf]
    exact fun v H' Z' st fr => rep_bl fr.1
  rcases hS with h | h
  · refine fin (· = a) (one _ (.inl rfl) fun b e => ?_)
    subst e
    rcases h with h | ⟨o, h⟩ <;> (rw [h]; exact fun z => nomatch z)
  · exact fin (fun _ => False) (one _ (.inr h) fun b z => z.elim)
theorem law_true {H : Hp} {a : Addr} {ns : List Int} (ht : TabK K = []) (hf : F [.fls (ns.map D.int)] = .ok (.bl true) [.fls (ns.map D.int)]) (ho : Only H) (hS : SqL K H a (ns.map V.int)) : spT K F [.ref a] H (fun v _ => v = .bl true) fun _ _ _ => False :=
  law_trueT (by rw [ht]; exact fun p hp => absurd hp List.not_mem_nil) hf hS
end
end Mi

/-! the small language: what simp knows of it -/
namespace Mi
@[simp] theorem SZ_val : SZ = 16777216 := rfl
@[simp] theorem flat_non : D.flat .non = true := rfl
@[simp] theorem flat_bl {b : Bool} : D.flat (.bl b) = true := rfl
@[simp] theorem flat_int {i : Int} : D.flat (.int i) = true := rfl
@[simp] theorem flat_str {s : List Nat} : D.flat (.str s) = true := rfl
@[simp] theorem flat_tup {xs : List D} : D.flat (.tup xs) = true := rfl
@[simp] theorem flat_fls {xs : List D} : D.flat (.fls xs) = true := rfl
@[simp] theorem flat_lst {xs : List D} : D.flat (.lst xs) = false := rfl
@[simp] theorem opD_bin {o : Bop} {a b : D} : opD (.bin o) [a, b] = binD o a b := rfl
@[simp] theorem opD_cmp {o : Cop} {a b : D} : opD (.cmp o) [a, b] = cmpD o a b := rfl
@[simp] theorem opD_neg {i : Int} : opD .neg [.int i] = some (.int (-i)) := rfl
@[simp] theorem opD_tup {ds : List D} : opD .tup ds = if ds.length ≤ SZ ∧ ds.all D.flat = true then some (.tup ds) else none := rfl
@[simp] theorem opD_lst {ds : List D} : opD .lst ds = if ds.length ≤ SZ ∧ ds.all D.flat = true then some (.lst ds) else none := rfl
@[simp] theorem opD_idx {a b : D} : opD .idx [a, b] = idxD a b := rfl
@[simp] theorem opD_prim {p : Prim} {ds : List D} : opD (.prim p) ds = primD p ds := rfl
@[simp] theorem add_int {i j : Int} : binD .add (.int i) (.int j) = some (.int (i + j)) := rfl
@[simp] theorem add_str {x y : List Nat} : binD .add (.str x) (.str y) = if x.length + y.length ≤ SZ then some (.str (x ++ y)) else none := rfl
@[simp] theorem add_tup {x y : List D} : binD .add (.tup x) (.tup y) = if x.length + y.length ≤ SZ then some (.tup (x ++ y)) else none := rfl
@[simp] theorem add_lst {x y : List D} : binD .add (.lst x) (.lst y) = if x.length + y.length ≤ SZ then some (.lst (x ++ y)) else none := rfl
@[simp] theorem sub_int {i j : Int} : binD .sub (.int i) (.int j) = some (.int (i - j)) := rfl
@[simp] theorem mul_int {i j : Int} : binD .mul (.int i) (.int j) = if small64 i || small64 j then some (.int (i * j)) else none := rfl
@[simp] theorem mul_str {x : List Nat} {j : Int} : binD .mul (.str x) (.int j) = if -1000000 ≤ j ∧ j ≤ 1000000 ∧ x.length * j.toNat ≤ SZ then some (.str (List.replicate j.toNat x).flatten) else none := rfl
@[simp] theorem mul_lst {x : List D} {j : Int} : binD .mul (.lst x) (.int j) = if -1000000 ≤ j ∧ j ≤ 1000000 ∧ x.length * j.toNat ≤ SZ then some (.lst (List.replicate j.toNat x).flatten) else none := rfl
@[simp] theorem fdiv_int {i j : Int} : binD .fdiv (.int i) (.int j) = if j ≠ 0 ∧ j.natAbs < 1073741824 then some (.int (i.fdiv j)) else none := rfl
@[simp] theorem mod_int {i j : Int} : binD .mod (.int i) (.int j) = if j ≠ 0 then some (.int (i.fmod j)) else none := rfl
@[simp] theorem pow_int {i j : Int} : binD .pow (.int i) (.int j) = if 0 ≤ j ∧ j ≤ 1000 ∧ small64 i = true then some (.int (i ^ j.toNat)) else none := rfl
@[simp] theorem eq_int {i j : Int} : cmpD .eq (.int i) (.int j) = some (.bl (decide (i = j))) := by
  show some (D.bl (i == j)) = _
  rfl
@[simp] theorem ne_int {i j : Int} : cmpD .ne (.int i) (.int j) = some (.bl (!decide (i = j))) := by
  show some (D.bl (!(i == j))) = _
  rfl
@[simp] theorem eq_str {x y : List Nat} : cmpD .eq (.str x) (.str y) = some (.bl (decide (x = y))) := by
  show some (D.bl (x == y)) = _
  congr 2
  by_cases h : x = y <;> simp [h]
@[simp] theorem ne_str {x y : List Nat} : cmpD .ne (.str x) (.str y) = some (.bl (!decide (x = y))) := by
  show some (D.bl (!(x == y))) = _
  congr 2
  by_cases h : x = y <;> simp [h]
@[simp] theorem lt_int {i j : Int} : cmpD .lt (.int i) (.int j) = some (.bl (decide (i < j))) := rfl
@[simp] theorem le_int {i j : Int} : cmpD .le (.int i) (.int j) = some (.bl (decide (i ≤ j))) := rfl
@[simp] theorem gt_int {i j : Int} : cmpD .gt (.int i) (.int j) = some (.bl (decide (j < i))) := rfl
@[simp] theorem ge_int {i j : Int} : cmpD .ge (.int i) (.int j) = some (.bl (decide (j ≤ i))) := rfl
@[simp] theorem lt_str {x y : List Nat} : cmpD .lt (.str x) (.str y) = some (.bl (lexN x y)) := rfl
@[simp] theorem le_str {x y : List Nat} : cmpD .le (.str x) (.str y) = some (.bl (!lexN y x)) := rfl
@[simp] theorem gt_str {x y : List Nat} : cmpD .gt (.str x) (.str y) = some (.bl (lexN y x)) := rfl
@[simp] theorem ge_str {x y : List Nat} : cmpD .ge (.str x) (.str y) = some (.bl (!lexN x y)) := rfl
@[simp] theorem is_non {a : D} : cmpD .is_ a .non = some (.bl (isNon a)) := rfl
@[simp] theorem isnot_non {a : D} : cmpD .isnot a .non = some (.bl (!isNon a)) := rfl
@[simp] theorem in_str {x y : List Nat} : cmpD .isin (.str x) (.str y) = some (.bl (hasSub y x)) := rfl
@[simp] theorem nin_str {x y : List Nat} : cmpD .notin (.str x) (.str y) = some (.bl (!hasSub y x)) := rfl
@[simp] theorem idx_str {s : List Nat} {i : Int} : idxD (.str s) (.int i) = if s.length ≤ SZ then (atI s i).map fun c => .str [c] else none := rfl
@[simp] theorem idx_tup {s : List D} {i : Int} : idxD (.tup s) (.int i) = atI s i := rfl
@[simp] theorem idx_lst {s : List D} {i : Int} : idxD (.lst s) (.int i) = atI s i := rfl
@[simp] theorem idx_fls {s : List D} {i : Int} : idxD (.fls s) (.int i) = atI s i := rfl
@[simp] theorem slc_str {s : List Nat} {lo hi : Option Int} : slcD lo hi (.str s) = if s.length ≤ SZ then some (.str (cutL s lo hi)) else none := rfl
@[simp] theorem slc_lst {s : List D} {lo hi : Option Int} : slcD lo hi (.lst s) = some (.lst (cutL s lo hi)) := rfl
@[simp] theorem slc_fls {s : List D} {lo hi : Option Int} : slcD lo hi (.fls s) = some (.lst (cutL s lo hi)) := rfl
@[simp] theorem slc_tup {xs : List D} {lo hi : Option Int} : slcD lo hi (.tup xs) = some (.tup (cutL xs lo hi)) := rfl
@[simp] theorem len_str {s : List Nat} : primD .len [.str s] = if s.length ≤ SZ then some (.int s.length) else none := rfl
@[simp] theorem len_tup {s : List D} : primD .len [.tup s] = some (.int s.length) := rfl
@[simp] theorem len_lst {s : List D} : primD .len [.lst s] = some (.int s.length) := rfl
@[simp] theorem len_fls {s : List D} : primD .len [.fls s] = some (.int s.length) := rfl
@[simp] theorem tuple_tup {s : List D} : primD .tuple [.tup s] = some (.tup s) := rfl
@[simp] theorem tuple_lst {s : List D} : primD .tuple [.lst s] = some (.tup s) := rfl
@[simp] theorem tuple_fls {s : List D} : primD .tuple [.fls s] = some (.tup s) := rfl
@[simp] theorem list_tup {s : List D} : primD .list [.tup s] = some (.lst s) := rfl
@[simp] theorem list_lst {s : List D} : primD .list [.lst s] = some (.lst s) := rfl
@[simp] theorem list_fls {s : List D} : primD .list [.fls s] = some (.lst s) := rfl
@[simp] theorem sorted_lst {s : List D} : primD .sorted [.lst s] = sortedD s := rfl
@[simp] theorem sorted_fls {s : List D} : primD .sorted [.fls s] = sortedD s := rfl
@[simp] theorem abs_int {n : Int} : primD .abs [.int n] = some (.int (if n < 0 then -n else n)) := rfl
@[simp] theorem int_int {n : Int} : primD .int [.int n] = some (.int n) := rfl
@[simp] theorem int_bl {b : Bool} : primD .int [.bl b] = some (.int (if b then 1 else 0)) := rfl
@[simp] theorem min_two {m n : Int} : primD .min [.int m, .int n] = some (.int (if n < m then n else m)) := rfl
@[simp] theorem max_two {m n : Int} : primD .max [.int m, .int n] = some (.int (if n > m then n else m)) := rfl
@[simp] theorem isTuple_tup {xs : List D} : primD .isTuple [.tup xs] = some (.bl true) := rfl
@[simp] theorem isTuple_non : primD .isTuple [.non] = some (.bl false) := rfl
@[simp] theorem isTuple_str {xs : List Nat} : primD .isTuple [.str xs] = some (.bl false) := rfl
@[simp] theorem isInt_int {n : Int} : primD .isInt [.int n] = some (.bl true) := rfl
@[simp] theorem isInt_bl {n : Bool} : primD .isInt [.bl n] = some (.bl true) := rfl
@[simp] theorem isInt_non : primD .isInt [.non] = some (.bl false) := rfl
@[simp] theorem isInt_str {n : List Nat} : primD .isInt [.str n] = some (.bl false) := rfl
@[simp] theorem isBool_int {n : Int} : primD .isBool [.int n] = some (.bl false) := rfl
@[simp] theorem isBool_bl {n : Bool} : primD .isBool [.bl n] = some (.bl true) := rfl
@[simp] theorem isStr_str {n : List Nat} : primD .isStr [.str n] = some (.bl true) := rfl
@[simp] theorem isStr_int {n : Int} : primD .isStr [.int n] = some (.bl false) := rfl
/-- a bound that range takes -/
def rOk (j : Int) : Bool := decide (-(2 ^ 62) ≤ j) && decide (j < 2 ^ 62)
theorem two62 : (2 : Int) ^ 62 = 4611686018427387904 := by decide
theorem rOk_of {j : Int} (h1 : -1000000000 ≤ j) (h2 : j ≤ 1000000000) : rOk j = true := by
  unfold rOk
  rw [two62, Bool.and_eq_true, decide_eq_true_eq, decide_eq_true_eq]
  omega
@[simp] theorem rOk_0 : rOk 0 = true := rOk_of (by omega) (by omega)
@[simp] theorem rOk_1 : rOk 1 = true := rOk_of (by omega) (by omega)
@[simp] theorem rOk_2 : rOk 2 = true := rOk_of (by omega) (by omega)
@[simp] theorem range_one {j : Int} : primD .range [.int j] = if rOk j = true then some (.rng 0 j.toNat) else none := by
  show (if -(2 ^ 62) ≤ j ∧ j < 2 ^ 62 then some (D.rng 0 j.toNat) else none) = _
  unfold rOk
  simp only [Bool.and_eq_true, decide_eq_true_eq]
@[simp] theorem rangeV_one {j : Int} : primD .rangeV [.int j] = if rOk j = true then some (.rng 0 j.toNat) else none := by
  show (if -(2 ^ 62) ≤ j ∧ j < 2 ^ 62 then some (D.rng 0 j.toNat) else none) = _
  unfold rOk
  simp only [Bool.and_eq_true, decide_eq_true_eq]
@[simp] theorem range_two {i j : Int} : primD .range [.int i, .int j] = if rOk i = true ∧ rOk j = true then some (.rng i (j - i).toNat) else none := by
  show (if -(2 ^ 62) ≤ i ∧ i < 2 ^ 62 ∧ -(2 ^ 62) ≤ j ∧ j < 2 ^ 62 then some (D.rng i (j - i).toNat) else none) = _
  unfold rOk
  simp only [Bool.and_eq_true, decide_eq_true_eq, and_assoc]
@[simp] theorem items_tup {xs : List D} : D.items? (.tup xs) = some xs := rfl
@[simp] theorem items_lst {xs : List D} : D.items? (.lst xs) = some xs := rfl
@[simp] theorem items_fls {xs : List D} : D.items? (.fls xs) = some xs := rfl
@[simp] theorem items_str {s : List Nat} : D.items? (.str s) = some (s.map fun c => .str [c]) := rfl
@[simp] theorem items_rng {lo : Int} {n : Nat} : D.items? (.rng lo n) = some ((List.range n).map fun k => .int (lo + (k : Nat))) := rfl
@[simp] theorem bind_nm {i : Nat} {d : D} {ρ : Env} : Pat.bind (.nm i) d ρ = if d.flat then some (ρ.set i (some d)) else none := rfl
@[simp] theorem slots_nm {i : Nat} : Pat.slots (.nm i) = [i] := rfl
@[simp] theorem kills_nil {ρ : Env} : kills [] ρ = ρ := rfl
@[simp] theorem kills_cons {k : Nat} {ks : List Nat} {ρ : Env} : kills (k :: ks) ρ = kills ks (ρ.set k none) := rfl
theorem atI_nat {α : Type} {xs : List α} {i : Nat} : atI xs (i : Int) = xs[i]? := by
  unfold atI ixN
  by_cases h : i < xs.length
  · simp [h]
  · rw [if_pos (Int.natCast_nonneg i), if_neg (by omega)]
    simp at h
    simp [h]
theorem atI_pos {α : Type} {xs : List α} {i : Int} (h : 0 ≤ i) : atI xs i = xs[i.toNat]? := by
  obtain ⟨n, rfl⟩ := Int.eq_ofNat_of_zero_le h
  exact atI_nat
@[simp] theorem atI_0 {α : Type} {a : α} {xs : List α} : atI (a :: xs) 0 = some a := atI_nat (i := 0)
@[simp] theorem atI_1 {α : Type} {a b : α} {xs : List α} : atI (a :: b :: xs) 1 = some b := atI_nat (i := 1)
@[simp] theorem atI_2 {α : Type} {a b c : α} {xs : List α} : atI (a :: b :: c :: xs) 2 = some c := atI_nat (i := 2)
@[simp] theorem atI_3 {α : Type} {a b c d : α} {xs : List α} : atI (a :: b :: c :: d :: xs) 3 = some d := atI_nat (i := 3)
theorem atI_last {α : Type} {xs : List α} {a : α} : atI (xs ++ [a]) (-1) = some a := by
  have l : (xs ++ [a]).length = xs.length + 1 := by simp
  unfold atI ixN
  rw [if_neg (by omega), if_pos (by rw [l]; omega), l]
  have e : (-1 + ((xs.length + 1 : Nat) : Int)).toNat = xs.length := by omega
  rw [e]
  simp
@[simp] theorem still_var {i : Nat} {es : Es} {d : D} {ρ : Env} : still (.cons (.var i) es) d ρ = (ρ[i]? = some (some d)) := rfl
@[simp] theorem still_op {o : Op} {fs es : Es} {d : D} {ρ : Env} : still (.cons (.op o fs) es) d ρ = True := rfl
@[simp] theorem still_call {j : Nat} {fs es : Es} {d : D} {ρ : Env} : still (.cons (.call j fs) es) d ρ = True := rfl
@[simp] theorem root_var {i : Nat} {es : Es} : itRoot (.cons (.var i) es) = [i] := rfl
@[simp] theorem root_op {o : Op} {fs es : Es} : itRoot (.cons (.op o fs) es) = [] := rfl
@[simp] theorem root_call {j : Nat} {fs es : Es} : itRoot (.cons (.call j fs) es) = [] := rfl
@[simp] theorem meth_join {s : List Nat} : Meth.kind .join (.str s) = true := rfl
theorem join_strs {s : List Nat} {ys : List (List Nat)} : methD .join [.str s, .lst (ys.map .str)] = if (ys.map List.length).sum + ys.length * s.length ≤ SZ then some (.str (joinL s ys)) else none := by
  show ((strs? (ys.map .str)).bind fun ys => if (ys.map List.length).sum + ys.length * s.length ≤ SZ then some (D.str (joinL s ys)) else none) = _
  rw [strs?_map]
  rfl
/-! ### loops -/
/-- a for whose turns all go on -/
theorem for_fold {St : Type} (chk : Env → Prop) [DecidablePred chk] {p : Pat} {body : Env → O} {ks : List Nat} (env : St → Env) (step : St → D → St) (inv : Nat → St → Prop) :
    ∀ (xs : List D) (i : Nat) (s : St), inv i s → (∀ j s, inv j s → chk (env s)) →
      (∀ (j : Nat) (x : D) (s : St), xs[j]? = some x → inv (i + j) s → inv (i + j + 1) (step s x) ∧ ∃ ρ1 ρ2, p.bind x (env s) = some ρ1 ∧ (body ρ1 = .nx ρ2 ∨ body ρ1 = .ct ρ2) ∧ kills ks ρ2 = env (step s x)) →
      forLoop chk p body ks xs (env s) = .nx (env (xs.foldl step s)) ∧ inv (i + xs.length) (xs.foldl step s)
  | [], i, s, h, hc, ht => by
    unfold forLoop
    rw [if_pos (hc i s h)]
    exact ⟨rfl, h⟩
  | x :: xs, i, s, h, hc, ht => by
    obtain ⟨h1, ρ1, ρ2, e1, e2, e3⟩ := ht 0 x s rfl h
    unfold forLoop
    rw [if_pos (hc i s h), e1]
    have ih := for_fold chk env step inv xs (i + 1) (step s x) h1 hc (fun j y t hy hj => by
      have q := ht (j + 1) y t (by simpa using hy) (by rw [show i + (j + 1) = i + 1 + j by omega]; exact hj)
      rw [show i + (j + 1) = i + 1 + j by omega] at q
      exact q)
    rw [← e3] at ih
    refine ⟨?_, by rw [show i + (x :: xs).length = i + 1 + xs.length by simp; omega]; exact ih.2⟩
    dsimp only
    rcases e2 with e2 | e2 <;> (rw [e2]; exact ih.1)
theorem whl_fold {St : Type} {c : Env → R D} {body : Env → O} {ks : List Nat} (env : St → Env) (inv : St → Prop) (mu : St → Nat) (done : St → Prop)
    (turn : ∀ s, inv s → (done s ∧ ∃ ρ', c (env s) = .ok (.bl false) ρ' ∧ ρ' = env s) ∨ ∃ ρ1 ρ2 s', c (env s) = .ok (.bl true) ρ1 ∧ (body ρ1 = .nx ρ2 ∨ body ρ1 = .ct ρ2) ∧ kills ks ρ2 = env s' ∧ inv s' ∧ mu s' < mu s) :
    ∀ (n : Nat) (s : St), inv s → mu s < n → ∃ s', inv s' ∧ done s' ∧ whlLoop c body ks n (env s) = .nx (env s')
  | 0, s, h, l => by omega
  | n + 1, s, h, l => by
    unfold whlLoop
    rcases turn s h with ⟨d, ρ', e, rfl⟩ | ⟨ρ1, ρ2, s', e1, e2, e3, h', l'⟩
    · rw [e]; exact ⟨s, h, d, rfl⟩
    · obtain ⟨s2, q1, q2, q3⟩ := whl_fold env inv mu done turn n s' h' (by omega)
      refine ⟨s2, q1, q2, ?_⟩
      rw [e1, ← q3, ← e3]
      dsimp only
      rcases e2 with e2 | e2 <;> rw [e2]
/-- a comprehension whose turns all go on -/
theorem comp_fold {St : Type} (chk : Env → Prop) [DecidablePred chk] {p : Pat} {c f : Env → R D} (env : St → Env) (inv : Nat → St → List D → Prop) :
    ∀ (xs : List D) (i : Nat) (s : St) (acc : List D), inv i s acc → (∀ j s acc, inv j s acc → chk (env s)) →
      (∀ (j : Nat) (x : D) (s : St) (acc : List D), xs[j]? = some x → inv (i + j) s acc → ∃ ρ1, p.bind x (kills p.slots (env s)) = some ρ1 ∧
        ((∃ ρ2 s', c ρ1 = .ok (.bl false) ρ2 ∧ kills p.slots ρ2 = env s' ∧ inv (i + j + 1) s' acc) ∨
          ∃ ρ2 ρ3 d s', c ρ1 = .ok (.bl true) ρ2 ∧ f ρ2 = .ok d ρ3 ∧ d.flat = true ∧ acc.length < SZ ∧ kills p.slots ρ3 = env s' ∧ inv (i + j + 1) s' (acc ++ [d]))) →
      ∃ s' acc', compLoop chk p c f xs acc (env s) = .ok acc' (env s') ∧ inv (i + xs.length) s' acc'
  | [], i, s, acc, h, hc, ht => by
    unfold compLoop
    rw [if_pos (hc i s acc h)]
    exact ⟨s, acc, rfl, h⟩
  | x :: xs, i, s, acc, h, hc, ht => by
    obtain ⟨ρ1, e1, q⟩ := ht 0 x s acc rfl h
    have rest : ∀ s' acc', inv (i + 1) s' acc' → ∃ s2 acc2, compLoop chk p c f xs acc' (env s') = .ok acc2 (env s2) ∧ inv (i + (x :: xs).length) s2 acc2 := fun s' acc' h' => by
      have ih := comp_fold chk env inv xs (i + 1) s' acc' h' hc (fun j y t a hy hj => by
        have q := ht (j + 1) y t a (by simpa using hy) (by rw [show i + (j + 1) = i + 1 + j by omega]; exact hj)
        rw [show i + (j + 1) = i + 1 + j by omega] at q
        exact q)
      rw [show i + (x :: xs).length = i + 1 + xs.length by simp; omega]
      exact ih
    unfold compLoop
    rw [if_pos (hc i s acc h), e1]
    dsimp only
    rcases q with ⟨ρ2, s', e2, e3, h'⟩ | ⟨ρ2, ρ3, d, s', e2, e3, e4, e5, e6, h'⟩
    · rw [e2]
      dsimp only
      rw [e3]
      exact rest s' acc h'
    · rw [e2]
      dsimp only
      rw [e3]
      dsimp only
      rw [if_pos ⟨e4, e5⟩, e6]
      exact rest s' _ h'
end Mi

/-! the draws that all the laws share -/
namespace Mi
@[simp] theorem ixN_40 : ixN 4 0 = some 0 := rfl
@[simp] theorem ixN_41 : ixN 4 1 = some 1 := rfl
@[simp] theorem ixN_42 : ixN 4 2 = some 2 := rfl
@[simp] theorem ixN_43 : ixN 4 3 = some 3 := rfl
def P_take : Ss := (.cons (.ite (.and (.op (.cmp .eq) (.cons (.op .idx (.cons (.var 0) (.cons (.int 2) .nil))) (.cons (.int 0) .nil))) (.op (.cmp .lt) (.cons (.op .idx (.cons (.var 0) (.cons (.int 1) .nil))) (.cons (.op (.prim .len) (.cons (.op .idx (.cons (.var 0) (.cons (.int 0) .nil))) .nil)) .nil)))) (.cons (.seti 0 (.int 2) (.op (.prim .abs) (.cons (.op (.prim .int) (.cons (.op .idx (.cons (.op .idx (.cons (.var 0) (.cons (.int 0) .nil))) (.cons (.op .idx (.cons (.var 0) (.cons (.int 1) .nil))) .nil))) .nil)) .nil))) (.cons (.seti 0 (.int 1) (.op (.bin .add) (.cons (.op .idx (.cons (.var 0) (.cons (.int 1) .nil))) (.cons (.int 1) .nil)))) (.cons (.ite (.op (.cmp .lt) (.cons (.op .idx (.cons (.var 0) (.cons (.int 2) .nil))) (.cons (.op (.bin .pow) (.cons (.int 10) (.cons (.int 18) .nil))) .nil))) (.cons (.asg (.nm 2) (.op (.prim .int) (.cons (.op .idx (.cons (.var 0) (.cons (.int 2) .nil))) .nil))) (.cons (.seti 0 (.int 2) (.int 0)) (.cons (.ret (.op (.bin .mod) (.cons (.var 2) (.cons (.var 1) .nil)))) .nil))) .nil) .nil))) .nil) (.cons (.ite (.op (.cmp .gt) (.cons (.op .idx (.cons (.var 0) (.cons (.int 2) .nil))) (.cons (.int 0) .nil))) (.cons (.asg (.nm 3) (.op (.bin .mod) (.cons (.op (.prim .int) (.cons (.op .idx (.cons (.var 0) (.cons (.int 2) .nil))) .nil)) (.cons (.var 1) .nil)))) (.cons (.seti 0 (.int 2) (.op (.bin .fdiv) (.cons (.op (.prim .int) (.cons (.op .idx (.cons (.var 0) (.cons (.int 2) .nil))) .nil)) (.cons (.var 1) .nil)))) (.cons (.ret (.var 3)) .nil))) .nil) (.cons (.seti 0 (.int 3) (.op (.bin .mod) (.cons (.op (.prim .int) (.cons (.op (.bin .add) (.cons (.op (.bin .mul) (.cons (.op .idx (.cons (.var 0) (.cons (.int 3) .nil))) (.cons (.int 48271) .nil))) (.cons (.int 11) .nil))) .nil)) (.cons (.int 2147483647) .nil)))) (.cons (.ret (.op (.bin .mod) (.cons (.op (.prim .int) (.cons (.op (.bin .fdiv) (.cons (.op .idx (.cons (.var 0) (.cons (.int 3) .nil))) (.cons (.int 3) .nil))) .nil)) (.cons (.var 1) .nil)))) .nil))))
def P_begin : Ss := (.cons (.asg (.nm 1) (.int 1)) (.cons (.for_ (.nm 2) (.cons (.var 0) .nil) (.cons (.asg (.nm 1) (.op (.bin .mod) (.cons (.op (.bin .add) (.cons (.op (.bin .add) (.cons (.op (.bin .mul) (.cons (.var 1) (.cons (.int 69621) .nil))) (.cons (.op (.bin .mod) (.cons (.op (.prim .int) (.cons (.var 2) .nil)) (.cons (.int 2147483629) .nil))) .nil))) (.cons (.int 7) .nil))) (.cons (.int 2147483647) .nil)))) .nil) [2]) (.cons (.ret (.op .lst (.cons (.frz (.op (.prim .list) (.cons (.var 0) .nil))) (.cons (.int 0) (.cons (.int 0) (.cons (.var 1) .nil)))))) .nil)))
def P_int : Ss := (.cons (.ret (.and (.op (.prim .isInt) (.cons (.var 0) .nil)) (.not (.op (.prim .isBool) (.cons (.var 0) .nil))))) .nil)
def P_letters : Ss := (.cons (.ret (.str [33, 35, 36, 38, 40, 41, 42, 43, 44, 45, 46, 47, 48, 49, 50, 51, 52, 53, 54, 55, 56, 57, 58, 59, 60, 61, 62, 63, 64, 65, 66, 67, 68, 69, 70, 71, 72, 73, 74, 75, 76, 77, 78, 79, 80, 81, 82, 83, 84, 85, 86, 87, 88, 89, 90, 91, 93, 94, 95, 97, 98, 99, 100, 101, 102, 103, 104, 105, 106, 107, 108, 109, 110, 111, 112, 113, 114, 115, 116, 117, 118, 119, 120, 121, 122, 123, 124, 125, 126])) .nil)
def P_signs (jt jl : Nat) : Ss := (.cons (.asg (.nm 1) (.op .tup (.cons (.str [97, 98]) (.cons (.str [97, 98, 99]) (.cons (.str [98, 97]) (.cons (.str [122, 121, 48]) (.cons (.str [43, 65]) (.cons (.str [97, 98, 99, 100]) .nil)))))))) (.cons (.asg (.nm 2) (.op .idx (.cons (.var 1) (.cons (.call jt (.cons (.var 0) (.cons (.int 6) .nil))) .nil)))) (.cons (.ite (.op (.cmp .eq) (.cons (.call jt (.cons (.var 0) (.cons (.int 4) .nil))) (.cons (.int 1) .nil))) (.cons (.asg (.nm 3) (.call jt (.cons (.var 0) (.cons (.int 80) .nil)))) (.cons (.asg (.nm 2) (.slc (.call jl .nil) (.cons (.var 3) .nil) (.cons (.op (.bin .add) (.cons (.op (.bin .add) (.cons (.var 3) (.cons (.int 1) .nil))) (.cons (.call jt (.cons (.var 0) (.cons (.int 5) .nil))) .nil))) .nil))) .nil)) .nil) (.cons (.ret (.var 2)) .nil))))
def P_text (jt : Nat) : Ss := (.cons (.ret (.mth .join (.str []) (.cons (.comp (.nm 3) (.cons (.op (.prim .range) (.cons (.var 2) .nil)) .nil) .nil (.op .idx (.cons (.var 1) (.cons (.call jt (.cons (.var 0) (.cons (.op (.prim .len) (.cons (.var 1) .nil)) .nil))) .nil)))) .nil))) .nil)
def P_fuel : Env → Nat := fun ρ => match ρ[2]? with
  | some (some (D.int n)) => n.toNat + 1
  | _ => 1
def P_rich (jt jx : Nat) : Ss := (.cons (.asg (.nm 3) (.call jx (.cons (.var 0) (.cons (.var 1) (.cons (.op (.bin .add) (.cons (.int 1) (.cons (.call jt (.cons (.var 0) (.cons (.int 4) .nil))) .nil))) .nil))))) (.cons (.whl P_fuel (.op (.cmp .lt) (.cons (.op (.prim .len) (.cons (.var 3) .nil)) (.cons (.var 2) .nil))) (.cons (.asg (.nm 4) (.call jt (.cons (.var 0) (.cons (.int 3) .nil)))) (.cons (.ite (.op (.cmp .eq) (.cons (.var 4) (.cons (.int 0) .nil))) (.cons (.asg (.nm 3) (.op (.bin .add) (.cons (.var 3) (.cons (.var 3) .nil)))) .nil) (.cons (.ite (.op (.cmp .eq) (.cons (.var 4) (.cons (.int 1) .nil))) (.cons (.asg (.nm 5) (.call jt (.cons (.var 0) (.cons (.op (.prim .len) (.cons (.var 3) .nil)) .nil)))) (.cons (.asg (.nm 3) (.op (.bin .add) (.cons (.var 3) (.cons (.slc (.var 3) (.cons (.var 5) .nil) (.cons (.op (.bin .add) (.cons (.var 5) (.cons (.int 3) .nil))) .nil)) .nil)))) .nil)) (.cons (.asg (.nm 3) (.op (.bin .add) (.cons (.var 3) (.cons (.op .idx (.cons (.var 1) (.cons (.call jt (.cons (.var 0) (.cons (.op (.prim .len) (.cons (.var 1) .nil)) .nil))) .nil))) .nil)))) .nil)) .nil)) .nil)) [4, 5]) (.cons (.ret (.slc (.var 3) .nil (.cons (.var 2) .nil))) .nil)))
def Dr (d : D) : Prop := ∃ (ns : List Int) (p acc seed : Int), d = .lst [.fls (ns.map D.int), .int p, .int acc, .int seed] ∧ 0 ≤ p ∧ 0 ≤ acc
def Tk (f : Fn) : Prop := ∀ d m, Dr d → 0 < m → m < 1000000000 → ∃ r d', f [d, .int m] = .ok (.int r) [d', .int m] ∧ 0 ≤ r ∧ r < m ∧ Dr d'
theorem small64_of {i : Int} (h1 : -(2 ^ 64) < i) (h2 : i < 2 ^ 64) : small64 i = true := decide_eq_true ⟨h1, h2⟩
@[simp] theorem sm10 : small64 10 = true := by decide
@[simp] theorem sm48271 : small64 48271 = true := by decide
@[simp] theorem sm69621 : small64 69621 = true := by decide
theorem fmod_lo {a m : Int} (h : 0 < m) : 0 ≤ a.fmod m := Int.fmod_nonneg_of_pos a h
theorem fmod_hi {a m : Int} (h : 0 < m) : a.fmod m < m := Int.fmod_lt_of_pos a h
theorem fdiv_lo {a m : Int} (h : 0 < m) (ha : 0 ≤ a) : 0 ≤ a.fdiv m := Int.fdiv_nonneg ha (by omega)
set_option maxHeartbeats 4000000 in
theorem take_ok {G : List Fn} {C : List D} : Tk (runDef G C P_take 4 [0]) := by
  rintro d m ⟨ns, p, acc, seed, rfl, hp, ha⟩ hm hm2
  have e2 : m ≠ 0 := by omega
  have e3 : m.natAbs < 1073741824 := by omega
  by_cases h0 : acc = 0
  · subst h0
    by_cases hl : p < (ns.length : Int)
    · have hn : p.toNat < ns.length := by omega
      have hi : atI (ns.map D.int) p = some (.int ns[p.toNat]) := by
        rw [atI_pos hp, List.getElem?_map, List.getElem?_eq_getElem hn]
        rfl
      have hv : 0 ≤ (if ns[p.toNat] < 0 then -ns[p.toNat] else ns[p.toNat]) := by split <;> omega
      generalize hw : (if ns[p.toNat] < 0 then -ns[p.toNat] else ns[p.toNat]) = v at hv
      by_cases hs : v < 1000000000000000000
      · refine ⟨v.fmod m, _, ?_, fmod_lo hm, fmod_hi hm, ns, p + 1, 0, seed, rfl, by omega, by omega⟩
        simp [P_take, runDef, fits, finals, execs, exec, evalE, evalL, E.isVar, e2, e3, hl, hi, hw, hs]
      · have hs2 : 0 < v := by omega
        refine ⟨v.fmod m, _, ?_, fmod_lo hm, fmod_hi hm, ns, p + 1, v.fdiv m, seed, rfl, by omega, fdiv_lo hm hv⟩
        simp [P_take, runDef, fits, finals, execs, exec, evalE, evalL, E.isVar, e2, e3, hl, hi, hw, hs, hs2]
    · refine ⟨(((seed * 48271 + 11).fmod 2147483647).fdiv 3).fmod m, _, ?_, fmod_lo hm, fmod_hi hm, ns, p, 0, ((seed * 48271 + 11).fmod 2147483647), rfl, by omega, by omega⟩
      · simp [P_take, runDef, fits, finals, execs, exec, evalE, evalL, E.isVar, e2, e3, hl]
  · have hs2 : 0 < acc := by omega
    refine ⟨acc.fmod m, _, ?_, fmod_lo hm, fmod_hi hm, ns, p, acc.fdiv m, seed, rfl, by omega, fdiv_lo hm ha⟩
    simp [P_take, runDef, fits, finals, execs, exec, evalE, evalL, E.isVar, e2, e3, h0, hs2]
theorem begin_ok {G : List Fn} {C : List D} (ns : List Int) : ∃ d', runDef G C P_begin 3 [] [.fls (ns.map D.int)] = .ok d' [.fls (ns.map D.int)] ∧ Dr d' := by
  have lp := for_fold (St := Int) (still (.cons (.var 0) .nil) (.fls (ns.map D.int))) (p := .nm 2) (ks := [2])
    (body := fun ρ => execs G C (.cons (.asg (.nm 1) (.op (.bin .mod) (.cons (.op (.bin .add) (.cons (.op (.bin .add) (.cons (.op (.bin .mul) (.cons (.var 1) (.cons (.int 69621) .nil))) (.cons (.op (.bin .mod) (.cons (.op (.prim .int) (.cons (.var 2) .nil)) (.cons (.int 2147483629) .nil))) .nil))) (.cons (.int 7) .nil))) (.cons (.int 2147483647) .nil)))) .nil) (itRoot (.cons (.var 0) .nil) ++ []) ρ)
    (fun s => [some (.fls (ns.map D.int)), some (.int s), none]) (fun s x => match x with
      | .int c => (s * 69621 + c.fmod 2147483629 + 7).fmod 2147483647
      | _ => s) (fun _ _ => True) (ns.map D.int) 0 1 trivial (fun _ _ _ => rfl) (fun j x s hx _ => ?_)
  · obtain ⟨lp, -⟩ := lp
    generalize (ns.map D.int).foldl _ (1 : Int) = sd at lp
    refine ⟨.lst [.fls (ns.map D.int), .int 0, .int 0, .int sd], ?_, ns, 0, 0, sd, rfl, by omega, by omega⟩
    simp [P_begin, runDef, fits, finals, execs, exec, evalE, evalL, E.isVar] at lp ⊢
    rw [lp]
    simp [evalE, evalL, E.isVar, finals]
  · refine ⟨trivial, ?_⟩
    rw [List.getElem?_map] at hx
    cases e : ns[j]? with
    | none => rw [e] at hx; cases hx
    | some c =>
      rw [e] at hx
      cases hx
      refine ⟨_, [some (.fls (ns.map D.int)), some (.int ((s * 69621 + c.fmod 2147483629 + 7).fmod 2147483647)), some (.int c)], rfl, .inl ?_, rfl⟩
      simp [execs, exec, evalE, evalL, E.isVar]
theorem int_ok {G : List Fn} {C : List D} (n : Int) : runDef G C P_int 1 [] [.int n] = .ok (.bl true) [.int n] := by
  simp [P_int, runDef, fits, finals, execs, exec, evalE, evalL, E.isVar]
def Lts : List Nat := [33, 35, 36, 38, 40, 41, 42, 43, 44, 45, 46, 47, 48, 49, 50, 51, 52, 53, 54, 55, 56, 57, 58, 59, 60, 61, 62, 63, 64, 65, 66, 67, 68, 69, 70, 71, 72, 73, 74, 75, 76, 77, 78, 79, 80, 81, 82, 83, 84, 85, 86, 87, 88, 89, 90, 91, 93, 94, 95, 97, 98, 99, 100, 101, 102, 103, 104, 105, 106, 107, 108, 109, 110, 111, 112, 113, 114, 115, 116, 117, 118, 119, 120, 121, 122, 123, 124, 125, 126]
theorem letters_ok {G : List Fn} {C : List D} : runDef G C P_letters 0 [] [] = .ok (.str Lts) [] := by
  simp [P_letters, runDef, fits, finals, execs, exec, evalE, Lts]
theorem Dr.flat {d : D} (h : Dr d) : d.flat = false := by
  obtain ⟨ns, p, acc, seed, rfl, _⟩ := h
  rfl
def Sg (s : List Nat) : Prop := s ≠ [] ∧ s.length ≤ 10 ∧ ∀ c ∈ s, c < 128
theorem Sg.pos {s : List Nat} (h : Sg s) : 0 < s.length := List.length_pos_iff.mpr h.1
theorem sIx_nat {n d a : Nat} : sIx n d (some (a : Int)) = min a n := by
  show (if (a : Int) < 0 then ((a : Int) + n).toNat else min (a : Int).toNat n) = min a n
  rw [if_neg (by omega), Int.toNat_natCast]
theorem cutL_nat {α : Type} {xs : List α} {a b : Nat} : cutL xs (some (a : Int)) (some (b : Int)) = (xs.take b).drop a := by
  unfold cutL
  rw [sIx_nat, sIx_nat]
  apply List.ext_getElem?
  intro i
  simp only [List.getElem?_take, List.getElem?_drop]
  by_cases h1 : a ≤ xs.length
  · rw [Nat.min_eq_left h1]
    by_cases h2 : i < min b xs.length - a
    · rw [if_pos h2, if_pos (by omega)]
    · rw [if_neg h2]
      by_cases h3 : a + i < b
      · rw [if_pos h3, List.getElem?_eq_none (by omega)]
      · rw [if_neg h3]
  · rw [if_neg (by omega)]
    by_cases h3 : a + i < b
    · rw [if_pos h3, List.getElem?_eq_none (by omega)]
    · rw [if_neg h3]
theorem cutL_lo {α : Type} {xs : List α} {a : Nat} : cutL xs (some (a : Int)) none = xs.drop a := by
  have e : cutL xs (some (a : Int)) none = cutL xs (some (a : Int)) (some (xs.length : Int)) := by
    unfold cutL
    rw [sIx_nat, sIx_nat, Nat.min_self]
    rfl
  rw [e, cutL_nat, List.take_length]
theorem cutL_hi {α : Type} {xs : List α} {b : Nat} : cutL xs none (some (b : Int)) = xs.take b := by
  have e : cutL xs none (some (b : Int)) = cutL xs (some ((0 : Nat) : Int)) (some (b : Int)) := by
    unfold cutL
    rw [sIx_nat, sIx_nat, Nat.zero_min]
    rfl
  rw [e, cutL_nat, List.drop_zero]
theorem sum_ones : ∀ cs : List Nat, ((cs.map fun c => [c]).map List.length).sum = cs.length
  | [] => rfl
  | c :: cs => by
    have ih := sum_ones cs
    simp only [List.map_cons, List.sum_cons, List.length_cons, List.length_nil] at ih ⊢
    omega
theorem flat_ones : ∀ cs : List Nat, (cs.map fun c => [c]).flatten = cs
  | [] => rfl
  | c :: cs => by rw [List.map_cons, List.flatten_cons, flat_ones cs]; rfl
set_option maxHeartbeats 4000000 in
theorem signs_ok {G : List Fn} {C : List D} {jt jl : Nat} {ft fl : Fn} (h1 : G[jt]? = some ft) (h2 : G[jl]? = some fl) (t : Tk ft) (l : fl [] = .ok (.str Lts) []) {d : D} (hd : Dr d) :
    ∃ s d', runDef G C (P_signs jt jl) 4 [0] [d] = .ok (.str s) [d'] ∧ Sg s ∧ Dr d' := by
  obtain ⟨r1, d1, e1, l1, u1, hd1⟩ := t d 6 hd (by omega) (by omega)
  obtain ⟨r2, d2, e2, l2, u2, hd2⟩ := t d1 4 hd1 (by omega) (by omega)
  have f0 := hd.flat
  have f1 := hd1.flat
  have f2 := hd2.flat
  obtain ⟨s, es, hs⟩ : ∃ s, atI [D.str [97, 98], D.str [97, 98, 99], D.str [98, 97], D.str [122, 121, 48], D.str [43, 65], D.str [97, 98, 99, 100]] r1 = some (.str s) ∧ Sg s := by
    have : r1 = 0 ∨ r1 = 1 ∨ r1 = 2 ∨ r1 = 3 ∨ r1 = 4 ∨ r1 = 5 := by omega
    rcases this with h | h | h | h | h | h <;> subst h <;> exact ⟨_, rfl, by decide, by decide, by decide⟩
  by_cases h : r2 = 1
  · subst h
    obtain ⟨r3, d3, e3, l3, u3, hd3⟩ := t d2 80 hd2 (by omega) (by omega)
    obtain ⟨r4, d4, e4, l4, u4, hd4⟩ := t d3 5 hd3 (by omega) (by omega)
    have f3 := hd3.flat
    have f4 := hd4.flat
    obtain ⟨a, rfl⟩ := Int.eq_ofNat_of_zero_le l3
    obtain ⟨b, rfl⟩ := Int.eq_ofNat_of_zero_le l4
    refine ⟨(Lts.take (a + 1 + b)).drop a, d4, ?_, ⟨?_, ?_, ?_⟩, hd4⟩
    · have hc : cutL Lts (some (a : Int)) (some ((a : Int) + 1 + (b : Int))) = (Lts.take (a + 1 + b)).drop a := cutL_nat
      have hz : Lts.length ≤ 16777216 := by decide
      simp [P_signs, runDef, fits, finals, execs, exec, evalE, evalL, evalP, E.isVar, runF, refs, wb, h1, h2, l, e1, e2, e3, e4, f0, f1, f2, f3, f4, es, hc, hz]
    · intro z
      have q := congrArg List.length z
      simp at q
      have : Lts.length = 89 := rfl
      omega
    · simp
      omega
    · intro c hc
      have hm : c ∈ Lts := List.mem_of_mem_take (List.mem_of_mem_drop hc)
      have all : ∀ c ∈ Lts, c < 128 := by decide
      exact all c hm
  · refine ⟨s, d2, ?_, hs, hd2⟩
    simp [P_signs, runDef, fits, finals, execs, exec, evalE, evalL, evalP, E.isVar, runF, refs, wb, h1, h2, l, e1, e2, f0, f1, f2, es, h]
theorem joinL_nil : ∀ ys : List (List Nat), joinL [] ys = ys.flatten
  | [] => rfl
  | [x] => by simp [joinL]
  | x :: y :: r => by
    have ih := joinL_nil (y :: r)
    show x ++ ([] ++ joinL [] (y :: r)) = _
    rw [ih]
    simp
set_option maxHeartbeats 4000000 in
theorem text_ok {G : List Fn} {C : List D} {jt : Nat} {ft : Fn} (h1 : G[jt]? = some ft) (t : Tk ft) {d : D} (hd : Dr d) {s : List Nat} (hs : s ≠ []) (hs2 : s.length ≤ 1000) {n : Int} (hn : 0 ≤ n) (hn2 : n ≤ 100000) :
    ∃ x d', runDef G C (P_text jt) 4 [0] [d, .str s, .int n] = .ok (.str x) [d', .str s, .int n] ∧ x.length = n.toNat ∧ (∀ c ∈ x, c ∈ s) ∧ Dr d' := by
  have hsp := List.length_pos_iff.mpr hs
  have lp := comp_fold (St := D) (still (.cons (.op (.prim .range) (.cons (.var 2) .nil)) .nil) (.rng 0 n.toNat)) (p := .nm 3) (c := evalC G C .nil)
    (f := evalE G C (.op .idx (.cons (.var 1) (.cons (.call jt (.cons (.var 0) (.cons (.op (.prim .len) (.cons (.var 1) .nil)) .nil))) .nil))))
    (fun d => [some d, some (.str s), some (.int n), none]) (fun j d acc => Dr d ∧ ∃ cs : List Nat, acc = cs.map (fun c => D.str [c]) ∧ cs.length = j ∧ ∀ c ∈ cs, c ∈ s)
    ((List.range n.toNat).map fun k => D.int (0 + (k : Nat))) 0 d [] ⟨hd, [], rfl, rfl, fun c z => by cases z⟩ (fun _ _ _ _ => trivial) (fun j x d0 acc hx ⟨hd0, cs, ec, lc, mc⟩ => ?_)
  · obtain ⟨d', acc, lp, hd', cs, rfl, lc, mc⟩ := lp
    rw [List.length_map, List.length_range, Nat.zero_add] at lc
    refine ⟨cs, d', ?_, lc, mc, hd'⟩
    have f0 := hd.flat
    have f1 := hd'.flat
    have hr : rOk n = true := rOk_of (by omega) (by omega)
    have hj : methD .join [.str [], .lst (cs.map fun c => D.str [c])] = some (.str cs) := by
      have e : (cs.map fun c => D.str [c]) = (cs.map fun c => [c]).map D.str := by rw [List.map_map]; rfl
      rw [e, join_strs, joinL_nil]
      rw [if_pos (by rw [sum_ones, SZ_val]; simp; omega), flat_ones]
    simp [P_text, runDef, fits, finals, execs, exec, evalE, evalL, evalP, E.isVar, hr, f0, f1] at lp ⊢
    rw [lp]
    simp [hj, finals, f0, f1]
  · rw [List.getElem?_map] at hx
    obtain ⟨r, d1, e1, l1, u1, hd1⟩ := t d0 s.length hd0 (by omega) (by omega)
    have f0 := hd0.flat
    have f1 := hd1.flat
    have hr : r.toNat < s.length := by omega
    have hj : j < n.toNat := by
      cases q : (List.range n.toNat)[j]? with
      | none => rw [q] at hx; cases hx
      | some k =>
        have := (List.getElem?_eq_some_iff.mp q).1
        simpa using this
    rw [List.getElem?_range hj] at hx
    cases hx
    have hi : atI s r = some s[r.toNat] := by rw [atI_pos l1, List.getElem?_eq_getElem hr]
    have hz : s.length ≤ 16777216 := by omega
    refine ⟨_, rfl, .inr ⟨[some d0, some (.str s), some (.int n), some (.int (0 + (j : Nat)))], [some d1, some (.str s), some (.int n), some (.int (0 + (j : Nat)))], .str [s[r.toNat]], d1, ?_, ?_, rfl, ?_, rfl, hd1, cs ++ [s[r.toNat]], ?_, ?_, ?_⟩⟩
    · simp [evalC]
    · simp [evalE, evalL, E.isVar, runF, refs, wb, h1, e1, f0, f1, hi, hz]
    · rw [ec, List.length_map, lc]
      simp
      omega
    · rw [ec, List.map_append]; rfl
    · rw [List.length_append, lc]; simp
    · intro c hc
      rcases List.mem_append.mp hc with q | q
      · exact mc c q
      · simp at q
        rw [q]
        exact List.getElem_mem hr
end Mi

/-! rich texts -/
namespace Mi
def Tx (f : Fn) : Prop := ∀ d s n, Dr d → s ≠ [] → s.length ≤ 1000 → 0 ≤ n → n ≤ 100000 → ∃ x d', f [d, .str s, .int n] = .ok (.str x) [d', .str s, .int n] ∧ x.length = n.toNat ∧ (∀ c ∈ x, c ∈ s) ∧ Dr d'
theorem text_tx {G : List Fn} {C : List D} {jt : Nat} {ft : Fn} (h1 : G[jt]? = some ft) (t : Tk ft) : Tx (runDef G C (P_text jt) 4 [0]) := fun d s n hd hs hs2 hn hn2 => text_ok h1 t hd hs hs2 hn hn2
def W_rich (jt : Nat) : Ss := (.cons (.asg (.nm 4) (.call jt (.cons (.var 0) (.cons (.int 3) .nil)))) (.cons (.ite (.op (.cmp .eq) (.cons (.var 4) (.cons (.int 0) .nil))) (.cons (.asg (.nm 3) (.op (.bin .add) (.cons (.var 3) (.cons (.var 3) .nil)))) .nil) (.cons (.ite (.op (.cmp .eq) (.cons (.var 4) (.cons (.int 1) .nil))) (.cons (.asg (.nm 5) (.call jt (.cons (.var 0) (.cons (.op (.prim .len) (.cons (.var 3) .nil)) .nil)))) (.cons (.asg (.nm 3) (.op (.bin .add) (.cons (.var 3) (.cons (.slc (.var 3) (.cons (.var 5) .nil) (.cons (.op (.bin .add) (.cons (.var 5) (.cons (.int 3) .nil))) .nil)) .nil)))) .nil)) (.cons (.asg (.nm 3) (.op (.bin .add) (.cons (.var 3) (.cons (.op .idx (.cons (.var 1) (.cons (.call jt (.cons (.var 0) (.cons (.op (.prim .len) (.cons (.var 1) .nil)) .nil))) .nil))) .nil)))) .nil)) .nil)) .nil))
set_option maxHeartbeats 4000000 in
theorem rich_turn {G : List Fn} {C : List D} {jt : Nat} {ft : Fn} (h1 : G[jt]? = some ft) (t : Tk ft) {d : D} (hd : Dr d) {s x : List Nat} (hs : s ≠ []) (hs2 : s.length ≤ 1000) {n : Int} (hn2 : n ≤ 100000) (hx : x ≠ []) (mc : ∀ c ∈ x, c ∈ s) (hl : (x.length : Int) < n) :
    ∃ d' x' ρ2, execs G C (W_rich jt) [0] [some d, some (.str s), some (.int n), some (.str x), none, none] = .nx ρ2 ∧ kills [4, 5] ρ2 = [some d', some (.str s), some (.int n), some (.str x'), none, none] ∧ Dr d' ∧ x' ≠ [] ∧ (∀ c ∈ x', c ∈ s) ∧ x.length < x'.length ∧ x'.length ≤ 2 * x.length + 1 := by
  have hxp := List.length_pos_iff.mpr hx
  have hsp := List.length_pos_iff.mpr hs
  have f0 := hd.flat
  obtain ⟨r, d1, e1, l1, u1, hd1⟩ := t d 3 hd (by omega) (by omega)
  have f1 := hd1.flat
  have z1 : x.length + x.length ≤ 16777216 := by omega
  have z2 : x.length ≤ 16777216 := by omega
  by_cases q0 : r = 0
  · subst q0
    refine ⟨d1, x ++ x, [some d1, some (.str s), some (.int n), some (.str (x ++ x)), some (.int 0), none], ?_, rfl, hd1, ?_, ?_, ?_, ?_⟩
    · simp [W_rich, execs, exec, evalE, evalL, evalP, E.isVar, runF, refs, wb, h1, e1, f0, f1, z1]
    · simp [hx]
    · intro c hc
      rcases List.mem_append.mp hc with q | q <;> exact mc c q
    · simp; omega
    · simp; omega
  · by_cases q1 : r = 1
    · subst q1
      obtain ⟨a, d2, e2, l2, u2, hd2⟩ := t d1 x.length hd1 (by omega) (by omega)
      have f2 := hd2.flat
      obtain ⟨b, rfl⟩ := Int.eq_ofNat_of_zero_le l2
      have hc : cutL x (some (b : Int)) (some ((b : Int) + 3)) = (x.take (b + 3)).drop b := cutL_nat
      have z3 : x.length + (min (b + 3) x.length - b) ≤ 16777216 := by omega
      refine ⟨d2, x ++ (x.take (b + 3)).drop b, [some d2, some (.str s), some (.int n), some (.str (x ++ (x.take (b + 3)).drop b)), some (.int 1), some (.int b)], ?_, rfl, hd2, ?_, ?_, ?_, ?_⟩
      · simp [W_rich, execs, exec, evalE, evalL, evalP, E.isVar, runF, refs, wb, h1, e1, e2, f0, f1, f2, z1, z2, z3, hc]
      · simp [hx]
      · intro c hc
        rcases List.mem_append.mp hc with q | q
        · exact mc c q
        · exact mc c (List.mem_of_mem_take (List.mem_of_mem_drop q))
      · simp; omega
      · simp; omega
    · obtain ⟨a, d2, e2, l2, u2, hd2⟩ := t d1 s.length hd1 (by omega) (by omega)
      have f2 := hd2.flat
      have hr : a.toNat < s.length := by omega
      have hi : atI s a = some s[a.toNat] := by rw [atI_pos l2, List.getElem?_eq_getElem hr]
      have hz : s.length ≤ 16777216 := by omega
      have z3 : x.length + 1 ≤ 16777216 := by omega
      refine ⟨d2, x ++ [s[a.toNat]], [some d2, some (.str s), some (.int n), some (.str (x ++ [s[a.toNat]])), some (.int r), none], ?_, rfl, hd2, ?_, ?_, ?_, ?_⟩
      · simp [W_rich, execs, exec, evalE, evalL, evalP, E.isVar, runF, refs, wb, h1, e1, e2, f0, f1, f2, z3, hz, hi, q0, q1]
      · simp
      · intro c hc
        rcases List.mem_append.mp hc with q | q
        · exact mc c q
        · simp at q
          rw [q]
          exact List.getElem_mem hr
      · simp
      · simp; omega
def Rc (f : Fn) : Prop := ∀ d s n, Dr d → s ≠ [] → s.length ≤ 1000 → 0 ≤ n → n ≤ 100000 → ∃ x d', f [d, .str s, .int n] = .ok (.str x) [d', .str s, .int n] ∧ x.length = n.toNat ∧ (∀ c ∈ x, c ∈ s) ∧ Dr d'
set_option maxHeartbeats 4000000 in
theorem rich_ok {G : List Fn} {C : List D} {jt jx : Nat} {ft fx : Fn} (h1 : G[jt]? = some ft) (h2 : G[jx]? = some fx) (t : Tk ft) (tx : Tx fx) : Rc (runDef G C (P_rich jt jx) 6 [0]) := by
  intro d s n hd hs hs2 hn hn2
  obtain ⟨r, d1, e1, l1, u1, hd1⟩ := t d 4 hd (by omega) (by omega)
  obtain ⟨x, d2, e2, lx, mx, hd2⟩ := tx d1 s (1 + r) hd1 hs hs2 (by omega) (by omega)
  have f0 := hd.flat
  have f1 := hd1.flat
  have f2 := hd2.flat
  have wl := whl_fold (St := D × List Nat) (c := evalE G C (.op (.cmp .lt) (.cons (.op (.prim .len) (.cons (.var 3) .nil)) (.cons (.var 2) .nil)))) (body := fun ρ => execs G C (W_rich jt) [0] ρ) (ks := [4, 5])
    (fun p => [some p.1, some (.str s), some (.int n), some (.str p.2), none, none]) (fun p => Dr p.1 ∧ p.2 ≠ [] ∧ (∀ c ∈ p.2, c ∈ s) ∧ p.2.length ≤ 400000) (fun p => n.toNat - p.2.length) (fun p => n ≤ (p.2.length : Int)) (fun p hp => ?_) (n.toNat + 1) (d2, x)
    ⟨hd2, List.length_pos_iff.mp (by show 0 < x.length; omega), mx, by show x.length ≤ 400000; omega⟩ (by show n.toNat - x.length < n.toNat + 1; omega)
  · obtain ⟨⟨d3, y⟩, ⟨hd3, hy, my, ly⟩, dn, e3⟩ := wl
    have f3 := hd3.flat
    dsimp only at hd3 hy my ly dn e3 f3
    refine ⟨y.take n.toNat, d3, ?_, ?_, fun c hc => my c (List.mem_of_mem_take hc), hd3⟩
    · obtain ⟨m, rfl⟩ := Int.eq_ofNat_of_zero_le hn
      have hc : cutL y none (some (m : Int)) = y.take m := cutL_hi
      have hz : y.length ≤ 16777216 := by omega
      have hf : P_fuel [some d2, some (.str s), some (.int (m : Int)), some (.str x), none, none] = m + 1 := rfl
      rw [Int.toNat_natCast] at e3
      unfold P_rich
      change runDef G C (.cons _ (.cons (.whl P_fuel _ (W_rich jt) [4, 5]) _)) 6 [0] _ = _
      simp [runDef, fits, finals, execs, exec, evalE, evalL, evalP, E.isVar, runF, refs, wb, h1, h2, e1, e2, f0, f1, f2, hf] at e3 ⊢
      rw [e3]
      simp [evalE, evalL, evalP, E.isVar, finals, f0, f3, hc, hz]
    · rw [List.length_take]
      omega
  · obtain ⟨d0, y⟩ := p
    obtain ⟨hd0, hy, my, ly⟩ := hp
    dsimp only at hd0 hy my ly ⊢
    have hz : y.length ≤ 16777216 := by omega
    by_cases h : (y.length : Int) < n
    · right
      obtain ⟨d', y', ρ2, q1, q2, q3, q4, q5, q6, q7⟩ := rich_turn (C := C) h1 t hd0 hs hs2 hn2 hy my h
      refine ⟨[some d0, some (.str s), some (.int n), some (.str y), none, none], ρ2, (d', y'), ?_, .inl q1, q2, ⟨q3, q4, q5, ?_⟩, ?_⟩
      · simp [evalE, evalL, E.isVar, hz, h]
      · show y'.length ≤ 400000
        omega
      · show n.toNat - y'.length < n.toNat - y.length
        omega
    · left
      refine ⟨by omega, _, ?_, rfl⟩
      simp [evalE, evalL, E.isVar, hz, h]
end Mi

/-! running, step by step -/
namespace Mi
section
variable {G : List Fn} {C : List D} {pr : List Nat} {s : S} {ss body a b : Ss} {ρ ρ1 ρ2 : Env} {d : D} {ds ds' xs : List D} {p : Pat} {it es : Es} {ks : List Nat} {o : O} {n i : Nat} {c e : E}
theorem go_nil : execs G C .nil pr ρ = .nx ρ := by rw [execs]
theorem go_nx (h : exec G C s pr ρ = .nx ρ1) : execs G C (.cons s ss) pr ρ = execs G C ss pr ρ1 := by rw [execs, h]
theorem go_one (h : exec G C s pr ρ = .nx ρ1) : execs G C (.cons s .nil) pr ρ = .nx ρ1 := by rw [go_nx h, go_nil]
theorem go_rt (h : exec G C s pr ρ = .rt d ρ1) : execs G C (.cons s ss) pr ρ = .rt d ρ1 := by rw [execs, h]
theorem go_exc (h : exec G C s pr ρ = .exc i ρ1) : execs G C (.cons s ss) pr ρ = .exc i ρ1 := by rw [execs, h]
theorem el_nil : evalL G C .nil ρ = .ok [] ρ := by rw [evalL]
theorem el_val {e : E} (hv : e.isVar = false) (h : evalE G C e ρ = .ok d ρ1) (hs : evalL G C es ρ1 = .ok ds ρ2) : evalL G C (.cons e es) ρ = .ok (d :: ds) ρ2 := by
  unfold evalL
  rw [if_neg (by rw [hv]; exact Bool.false_ne_true), h]
  dsimp only
  rw [hs]
theorem el_var {d0 : D} (h0 : ρ[i]? = some (some d0)) (hs : evalL G C es ρ = .ok ds ρ1) (h : ρ1[i]? = some (some d)) : evalL G C (.cons (.var i) es) ρ = .ok (d :: ds) ρ1 := by
  unfold evalL
  rw [if_pos (show (E.var i).isVar = true from rfl)]
  dsimp only
  rw [h0]
  dsimp only
  rw [hs]
  dsimp only
  rw [h]
theorem ev_op {q : Op} (h : evalL G C es ρ = .ok ds ρ1) (ho : opD q ds = some d) : evalE G C (.op q es) ρ = .ok d ρ1 := by
  rw [evalE, h]
  dsimp only
  rw [ho]
theorem ev_int {k : Int} : evalE G C (.int k) ρ = .ok (.int k) ρ := by rw [evalE]
theorem ev_call {j : Nat} {f : Fn} (h : evalL G C es ρ = .ok ds ρ1) (hj : G[j]? = some f) (hn : (refs es ds).Nodup) (hf : f ds = .ok d ds') : evalE G C (.call j es) ρ = .ok d (wb es ds ds' ρ1) := by
  rw [evalE, h]
  dsimp only
  rw [hj]
  dsimp only
  rw [runF, if_pos hn, hf]
theorem ev_asg (hp : i ∉ pr) (h : evalE G C e ρ = .ok d ρ1) : exec G C (.asg (.nm i) e) pr ρ = .nx (ρ1.set i (some d)) := by rw [exec, if_neg hp, h]
theorem ev_ret (h : evalE G C e ρ = .ok d ρ1) : exec G C (.ret e) pr ρ = .rt d ρ1 := by rw [exec, h]
theorem ev_ite_t (h : evalE G C c ρ = .ok (.bl true) ρ1) : exec G C (.ite c a b) pr ρ = execs G C a pr ρ1 := by rw [exec, h]
theorem ev_ite_f (h : evalE G C c ρ = .ok (.bl false) ρ1) : exec G C (.ite c a b) pr ρ = execs G C b pr ρ1 := by rw [exec, h]
theorem ev_for (hk : ((ks ++ p.slots).any fun i => decide (i ∈ itRoot it ++ pr)) = false) (he : evalL G C it ρ = .ok [d] ρ1) (hx : d.items? = some xs)
    (hl : forLoop (still it d) p (fun ρ => execs G C body (itRoot it ++ pr) ρ) ks xs (kills ks ρ1) = o) : exec G C (.for_ p it body ks) pr ρ = o := by
  rw [exec, if_neg (by rw [hk]; exact Bool.false_ne_true), he]
  dsimp only
  rw [hx]
  exact hl
theorem ev_whl {f : Env → Nat} (hk : (ks.any fun i => decide (i ∈ pr)) = false) (hl : whlLoop (evalE G C c) (fun ρ => execs G C body pr ρ) ks (f (kills ks ρ)) (kills ks ρ) = o) : exec G C (.whl f c body ks) pr ρ = o := by
  rw [exec, if_neg (by rw [hk]; exact Bool.false_ne_true)]
  exact hl
theorem ev_comp {cs : Es} {elt : E} (he : evalL G C it ρ = .ok [d] ρ1) (hx : d.items? = some xs) (hl : compLoop (still it d) p (evalC G C cs) (evalE G C elt) xs [] (kills p.slots ρ1) = .ok ds ρ2) : evalE G C (.comp p it cs elt) ρ = .ok (.lst ds) ρ2 := by
  rw [evalE, he]
  dsimp only
  rw [hx]
  dsimp only
  rw [hl]
theorem run_rt (hf : fits pr 0 ds = true) (h : execs G C body pr (ds.map some ++ List.replicate (n - ds.length) none) = .rt d ρ) (hn : finals ds ρ = some ds') : runDef G C body n pr ds = .ok d ds' := by
  rw [runDef, if_pos hf, h]
  dsimp only
  rw [hn]
theorem run_nx (hf : fits pr 0 ds = true) (h : execs G C body pr (ds.map some ++ List.replicate (n - ds.length) none) = .nx ρ) (hn : finals ds ρ = some ds') : runDef G C body n pr ds = .ok .non ds' := by
  rw [runDef, if_pos hf, h]
  dsimp only
  rw [hn]
theorem run_exc (hf : fits pr 0 ds = true) (h : execs G C body pr (ds.map some ++ List.replicate (n - ds.length) none) = .exc i ρ) (hn : finals ds ρ = some ds') : runDef G C body n pr ds = .exc i ds' := by
  rw [runDef, if_pos hf, h]
  dsimp only
  rw [hn]
end
end Mi

/-! loops that change nothing -/
namespace Mi
theorem comp_pure {chk : Env → Prop} [DecidablePred chk] {p : Pat} {c f : Env → R D} {xs : List D} {ρ : Env} (q : D → Bool) (g : D → D) (hc : chk ρ) (hl : xs.length ≤ 1000000)
    (h : ∀ x ∈ xs, ∃ ρ1, p.bind x (kills p.slots ρ) = some ρ1 ∧ c ρ1 = .ok (.bl (q x)) ρ1 ∧ (q x = true → f ρ1 = .ok (g x) ρ1 ∧ (g x).flat = true) ∧ kills p.slots ρ1 = ρ) :
    compLoop chk p c f xs [] ρ = .ok ((xs.filter q).map g) ρ := by
  obtain ⟨_, acc, l1, l2⟩ := comp_fold (St := Unit) chk (p := p) (c := c) (f := f) (fun _ => ρ) (fun i _ acc => acc = ((xs.take i).filter q).map g) xs 0 () [] (by simp) (fun _ _ _ _ => hc) (fun j x _ acc hx hacc => by
    have hm : x ∈ xs := List.mem_of_getElem? hx
    obtain ⟨ρ1, e1, e2, e3, e4⟩ := h x hm
    rw [Nat.zero_add] at hacc
    rw [Nat.zero_add]
    have et : xs.take (j + 1) = xs.take j ++ [x] := by rw [List.take_add_one, hx]; rfl
    have hj : j < xs.length := (List.getElem?_eq_some_iff.mp hx).1
    refine ⟨ρ1, e1, ?_⟩
    rw [et, List.filter_append]
    by_cases z : q x = true
    · obtain ⟨e5, e6⟩ := e3 z
      rw [z] at e2
      refine .inr ⟨ρ1, ρ1, g x, (), e2, e5, e6, ?_, e4, ?_⟩
      · rw [hacc, List.length_map]
        have l := List.length_filter_le q (xs.take j)
        rw [List.length_take] at l
        rw [SZ_val]
        omega
      · rw [hacc]
        simp [z]
    · have z' : q x = false := by simpa using z
      rw [z'] at e2
      refine .inl ⟨ρ1, (), e2, e4, ?_⟩
      rw [hacc]
      simp [z'])
  rw [l1, l2, Nat.zero_add, List.take_length]
theorem for_pure {chk : Env → Prop} [DecidablePred chk] {p : Pat} {body : Env → O} {ks : List Nat} {xs : List D} {ρ : Env} (hc : chk ρ)
    (h : ∀ x ∈ xs, ∃ ρ1 ρ2, p.bind x ρ = some ρ1 ∧ (body ρ1 = .nx ρ2 ∨ body ρ1 = .ct ρ2) ∧ kills ks ρ2 = ρ) : forLoop chk p body ks xs ρ = .nx ρ :=
  (for_fold (St := Unit) chk (p := p) (body := body) (ks := ks) (fun _ => ρ) (fun _ _ => ()) (fun _ _ => True) xs 0 () trivial (fun _ _ _ => hc) fun j x _ hx _ => by
    obtain ⟨ρ1, ρ2, e1, e2, e3⟩ := h x (List.mem_of_getElem? hx)
    exact ⟨trivial, ρ1, ρ2, e1, e2, e3⟩).1
theorem rng_mem {lo : Int} {n : Nat} {x : D} (h : x ∈ (List.range n).map fun k => D.int (lo + (k : Nat))) : ∃ j, j < n ∧ x = .int (lo + (j : Nat)) := by
  obtain ⟨j, hj, e⟩ := List.mem_map.mp h
  exact ⟨j, List.mem_range.mp hj, e.symm⟩
section
variable {G : List Fn} {C : List D} {ρ ρ1 ρ2 : Env} {es cs : Es} {p : Pat} {elt e : E} {j n i : Nat} {d : D} {ds : List D}
/-- a range from 0 over an expression -/
theorem el_rng {n : Int} (h : evalE G C e ρ = .ok (.int n) ρ1) (hv : e.isVar = false) (h1 : -1000000000 ≤ n) (h2 : n ≤ 1000000000) :
    evalL G C (.cons (.op (.prim .range) (.cons e .nil)) .nil) ρ = .ok [.rng 0 n.toNat] ρ1 :=
  el_val rfl (ev_op (el_val hv h el_nil) (by rw [opD_prim, range_one, if_pos (rOk_of h1 h2)])) el_nil
theorem el_rngV {n : Int} (h : ρ[i]? = some (some (.int n))) (h1 : -1000000000 ≤ n) (h2 : n ≤ 1000000000) :
    evalL G C (.cons (.op (.prim .range) (.cons (.var i) .nil)) .nil) ρ = .ok [.rng 0 n.toNat] ρ :=
  el_val rfl (ev_op (el_var h el_nil h) (by rw [opD_prim, range_one, if_pos (rOk_of h1 h2)])) el_nil
theorem ev_var (h : ρ[i]? = some (some d)) (hf : d.flat = true) : evalE G C (.var i) ρ = .ok d ρ := by
  rw [evalE, h]
  dsimp only
  rw [if_pos hf]
theorem ev_lenS {s : List Nat} (h : ρ[i]? = some (some (.str s))) (hs : s.length ≤ 1000000) : evalE G C (.op (.prim .len) (.cons (.var i) .nil)) ρ = .ok (.int s.length) ρ :=
  ev_op (el_var h el_nil h) (by rw [opD_prim, len_str, if_pos (by rw [SZ_val]; omega)])
theorem ev_join {s : List Nat} (h : evalL G C es ρ = .ok [d] ρ1) {r : D} (hm : methD .join [.str s, d] = some r) : evalE G C (.mth .join (.str s) es) ρ = .ok r ρ1 := by
  rw [evalE, evalE]
  dsimp only
  rw [if_pos (show Meth.kind .join (.str s) = true from rfl), h]
  dsimp only
  rw [hm]
theorem ev_bl {b : Bool} : evalE G C (.bl b) ρ = .ok (.bl b) ρ := by rw [evalE]
theorem ev_str {s : List Nat} : evalE G C (.str s) ρ = .ok (.str s) ρ := by rw [evalE]
theorem ec_nil : evalC G C .nil ρ = .ok (.bl true) ρ := by rw [evalC]
theorem ec_one : evalC G C (.cons e .nil) ρ = evalE G C e ρ := by rw [evalC]
end
end Mi

/-! running towards a promise -/
namespace Mi
section
variable (G : List Fn) (C : List D)
structure wE (e : E) (ρ : Env) (Q : D → Env → Prop) : Prop where
  ex : ∃ d ρ', evalE G C e ρ = .ok d ρ' ∧ Q d ρ'
structure wL (es : Es) (ρ : Env) (Q : List D → Env → Prop) : Prop where
  ex : ∃ ds ρ', evalL G C es ρ = .ok ds ρ' ∧ Q ds ρ'
structure wP (es : Es) (ρ : Env) (Q : Option Int → Env → Prop) : Prop where
  ex : ∃ l ρ', evalP G C es ρ = .ok l ρ' ∧ Q l ρ'
structure wC (cs : Es) (ρ : Env) (Q : D → Env → Prop) : Prop where
  ex : ∃ d ρ', evalC G C cs ρ = .ok d ρ' ∧ Q d ρ'
structure xE (e : E) (ρ : Env) (Q : Nat → Env → Prop) : Prop where
  ex : ∃ c ρ', evalE G C e ρ = .exc c ρ' ∧ Q c ρ'
structure wS (ss : Ss) (pr : List Nat) (ρ : Env) (Q : O → Prop) : Prop where
  run : Q (execs G C ss pr ρ)
def thn (ss : Ss) (pr : List Nat) (Q : O → Prop) (o : O) : Prop := match o with
  | .nx ρ => wS G C ss pr ρ Q
  | o => Q o
/-- the body of a try -/
def tryQ (m k i x : Nat) (outs : List D) (ss : Ss) (pr : List Nat) (Q : O → Prop) (o : O) : Prop := match o with
  | .nx ρ => wS G C ss pr ρ Q
  | .exc c ρ => c < m ∧ ((catches c k = true ∧ ∃ d, outs[c]? = some d ∧ Q (.rt d (kills [i, x] ρ))) ∨ (catches c k = false ∧ Q (.exc c ρ)))
  | o => Q o
def try0Q (m k : Nat) (h : E) (ss : Ss) (pr : List Nat) (Q : O → Prop) (o : O) : Prop := match o with
  | .nx ρ => wS G C ss pr ρ Q
  | .exc c ρ => c < m ∧ ((catches c k = true ∧ ∃ d, constE h = some d ∧ Q (.rt d ρ)) ∨ (catches c k = false ∧ Q (.exc c ρ)))
  | o => Q o
end
structure opQ (o : Op) (ds : List D) (P : D → Prop) : Prop where
  ex : ∃ d, opD o ds = some d ∧ P d
structure slQ (l h : Option Int) (d : D) (P : D → Prop) : Prop where
  ex : ∃ d', slcD l h d = some d' ∧ P d'
structure atQ (ρ : Env) (i : Nat) (P : D → Prop) : Prop where
  ex : ∃ d, ρ[i]? = some (some d) ∧ P d
structure mtQ (m : Meth) (ds : List D) (P : D → Prop) : Prop where
  ex : ∃ d, methD m ds = some d ∧ P d
structure callQ (G : List Fn) (j : Nat) (es : Es) (ds : List D) (ρ : Env) (Q : D → Env → Prop) : Prop where
  ex : ∃ f d ρ', G[j]? = some f ∧ runF f es ds ρ = .ok d ρ' ∧ Q d ρ'
structure xcallQ (G : List Fn) (j : Nat) (es : Es) (ds : List D) (ρ : Env) (Q : Nat → Env → Prop) : Prop where
  ex : ∃ f c ρ', G[j]? = some f ∧ runF f es ds ρ = .exc c ρ' ∧ Q c ρ'
structure blQ (d : D) (P : Bool → Prop) : Prop where
  ex : ∃ b, d = .bl b ∧ P b
structure ixQ (d : D) (P : Option Int → Prop) : Prop where
  ex : ∃ i, d = .int i ∧ P (some i)
section
variable {G : List Fn} {C : List D} {e a b c : E} {es it cs : Es} {ρ ρ1 : Env} {Q Q' : D → Env → Prop} {d : D} {i j k m x : Nat}
/-! ### operands -/
theorem wL_nil {Q : List D → Env → Prop} (h : Q [] ρ) : wL G C .nil ρ Q := ⟨[], ρ, el_nil, h⟩
theorem wL_var {Q : List D → Env → Prop} {d0 : D} (h0 : ρ[i]? = some (some d0)) (h : wL G C es ρ fun ds ρ1 => atQ ρ1 i fun d => Q (d :: ds) ρ1) : wL G C (.cons (.var i) es) ρ Q := by
  obtain ⟨ds, ρ', h1, d, h2, h3⟩ := h
  exact ⟨_, _, el_var h0 h1 h2, h3⟩
theorem wL_val {Q : List D → Env → Prop} (hv : e.isVar = false) (h : wE G C e ρ fun d ρ1 => wL G C es ρ1 fun ds ρ2 => Q (d :: ds) ρ2) : wL G C (.cons e es) ρ Q := by
  obtain ⟨d, ρ1, h1, ds, ρ2, h2, h3⟩ := h
  exact ⟨_, _, el_val hv h1 h2, h3⟩
theorem at_of {P : D → Prop} (h : ρ[i]? = some (some d)) (hp : P d) : atQ ρ i P := ⟨d, h, hp⟩
/-! ### expressions -/
theorem wE_var (h : ρ[i]? = some (some d)) (hf : d.flat = true) (q : Q d ρ) : wE G C (.var i) ρ Q := ⟨d, ρ, ev_var h hf, q⟩
theorem wE_int {n : Int} (q : Q (.int n) ρ) : wE G C (.int n) ρ Q := ⟨_, _, ev_int, q⟩
theorem wE_bl {n : Bool} (q : Q (.bl n) ρ) : wE G C (.bl n) ρ Q := ⟨_, _, ev_bl, q⟩
theorem wE_str {n : List Nat} (q : Q (.str n) ρ) : wE G C (.str n) ρ Q := ⟨_, _, ev_str, q⟩
theorem wE_non (q : Q .non ρ) : wE G C .non ρ Q := ⟨_, _, by rw [evalE], q⟩
theorem wE_glob (h : C[j]? = some d) (q : Q d ρ) : wE G C (.glob j) ρ Q := ⟨d, ρ, by rw [evalE, h], q⟩
theorem wE_op {o : Op} (h : wL G C es ρ fun ds ρ1 => opQ o ds fun d => Q d ρ1) : wE G C (.op o es) ρ Q := by
  obtain ⟨ds, ρ1, h1, d, h2, h3⟩ := h
  exact ⟨d, ρ1, ev_op h1 h2, h3⟩
theorem wE_not (h : wE G C a ρ fun d ρ1 => blQ d fun b => Q (.bl !b) ρ1) : wE G C (.not a) ρ Q := by
  obtain ⟨d, ρ1, h1, b, rfl, h3⟩ := h
  exact ⟨_, ρ1, by rw [evalE, h1] <;> rfl, h3⟩
theorem bl_of {P : Bool → Prop} {b : Bool} (h : P b) : blQ (.bl b) P := ⟨b, rfl, h⟩
theorem wE_and {x y : Bool} (h1 : wE G C a ρ fun d ρ1 => d = .bl x ∧ ρ1 = ρ) (h2 : x = true → wE G C b ρ fun d ρ1 => d = .bl y ∧ ρ1 = ρ) (q : Q (.bl (x && y)) ρ) : wE G C (.and a b) ρ Q := by
  obtain ⟨d, ρ1, e1, rfl, rfl⟩ := h1
  cases x with
  | false => exact ⟨_, ρ1, by rw [evalE, e1] <;> rfl, q⟩
  | true =>
    obtain ⟨d, ρ2, e2, rfl, rfl⟩ := h2 rfl
    exact ⟨_, ρ2, by rw [evalE, e1]; dsimp only; rw [e2] <;> rfl, q⟩
theorem wE_or {x y : Bool} (h1 : wE G C a ρ fun d ρ1 => d = .bl x ∧ ρ1 = ρ) (h2 : x = false → wE G C b ρ fun d ρ1 => d = .bl y ∧ ρ1 = ρ) (q : Q (.bl (x || y)) ρ) : wE G C (.or a b) ρ Q := by
  obtain ⟨d, ρ1, e1, rfl, rfl⟩ := h1
  cases x with
  | true => exact ⟨_, ρ1, by rw [evalE, e1] <;> rfl, q⟩
  | false =>
    obtain ⟨d, ρ2, e2, rfl, rfl⟩ := h2 rfl
    exact ⟨_, ρ2, by rw [evalE, e1]; dsimp only; rw [e2] <;> rfl, q⟩
/-- the same, way by way -/
theorem wE_and2 (h1 : wE G C a ρ fun d ρ1 => blQ d fun x => (x = true → wE G C b ρ1 fun d ρ2 => blQ d fun y => Q (.bl y) ρ2) ∧ (x = false → Q (.bl false) ρ1)) : wE G C (.and a b) ρ Q := by
  obtain ⟨d, ρ1, e1, x, rfl, h2, h3⟩ := h1
  cases x with
  | false => exact ⟨_, ρ1, by rw [evalE, e1] <;> rfl, h3 rfl⟩
  | true =>
    obtain ⟨d, ρ2, e2, y, rfl, q⟩ := h2 rfl
    exact ⟨_, ρ2, by rw [evalE, e1]; dsimp only; rw [e2] <;> rfl, q⟩
theorem wE_or2 (h1 : wE G C a ρ fun d ρ1 => blQ d fun x => (x = false → wE G C b ρ1 fun d ρ2 => blQ d fun y => Q (.bl y) ρ2) ∧ (x = true → Q (.bl true) ρ1)) : wE G C (.or a b) ρ Q := by
  obtain ⟨d, ρ1, e1, x, rfl, h2, h3⟩ := h1
  cases x with
  | true => exact ⟨_, ρ1, by rw [evalE, e1] <;> rfl, h3 rfl⟩
  | false =>
    obtain ⟨d, ρ2, e2, y, rfl, q⟩ := h2 rfl
    exact ⟨_, ρ2, by rw [evalE, e1]; dsimp only; rw [e2] <;> rfl, q⟩
theorem wE_ite (h1 : wE G C c ρ fun d ρ1 => blQ d fun x => (x = true → wE G C a ρ1 Q) ∧ (x = false → wE G C b ρ1 Q)) : wE G C (.ite c a b) ρ Q := by
  obtain ⟨d, ρ1, e1, x, rfl, h2, h3⟩ := h1
  cases x with
  | true =>
    obtain ⟨d, ρ2, e2, q⟩ := h2 rfl
    exact ⟨d, ρ2, by rw [evalE, e1]; exact e2, q⟩
  | false =>
    obtain ⟨d, ρ2, e2, q⟩ := h3 rfl
    exact ⟨d, ρ2, by rw [evalE, e1]; exact e2, q⟩
theorem wE_iteI {x : Bool} {n1 n2 : Int} (h1 : wE G C c ρ fun d ρ1 => d = .bl x ∧ ρ1 = ρ) (h2 : x = true → wE G C a ρ fun d ρ1 => d = .int n1 ∧ ρ1 = ρ) (h3 : x = false → wE G C b ρ fun d ρ1 => d = .int n2 ∧ ρ1 = ρ) (q : Q (.int (if x then n1 else n2)) ρ) : wE G C (.ite c a b) ρ Q := by
  refine wE_ite ?_
  obtain ⟨d, ρ1, e1, rfl, rfl⟩ := h1
  refine ⟨_, _, e1, x, rfl, fun hx => ?_, fun hx => ?_⟩
  · obtain ⟨d, ρ2, e2, rfl, rfl⟩ := h2 hx
    subst hx
    exact ⟨_, _, e2, q⟩
  · obtain ⟨d, ρ2, e2, rfl, rfl⟩ := h3 hx
    subst hx
    exact ⟨_, _, e2, q⟩
theorem wE_chain {o1 o2 : Cop} {x y z : D} {k1 k2 : Bool} (h1 : wE G C a ρ fun d ρ1 => d = x ∧ ρ1 = ρ) (h2 : wE G C b ρ fun d ρ1 => d = y ∧ ρ1 = ρ) (h3 : opQ (.cmp o1) [x, y] fun d => d = .bl k1)
    (h4 : wE G C c ρ fun d ρ1 => d = z ∧ ρ1 = ρ) (h5 : opQ (.cmp o2) [y, z] fun d => d = .bl k2) (q : Q (.bl (k1 && k2)) ρ) : wE G C (.chain o1 o2 a b c) ρ Q := by
  obtain ⟨_, ρ1, e1, rfl, rfl⟩ := h1
  obtain ⟨_, ρ2, e2, rfl, rfl⟩ := h2
  obtain ⟨_, e3, rfl⟩ := h3
  obtain ⟨_, ρ4, e4, rfl, rfl⟩ := h4
  obtain ⟨_, e5, rfl⟩ := h5
  have e3' : cmpD o1 _ _ = some (.bl k1) := e3
  have e5' : cmpD o2 _ _ = some (.bl k2) := e5
  refine ⟨_, ρ4, ?_, q⟩
  rw [evalE, e1]; dsimp only; rw [e2]; dsimp only; rw [e3']
  cases k1 with
  | false => rfl
  | true => dsimp only; rw [e4]; dsimp only; rw [e5']; rfl
theorem wE_call (h : wL G C es ρ fun ds ρ1 => callQ G j es ds ρ1 Q) : wE G C (.call j es) ρ Q := by
  obtain ⟨ds, ρ1, h1, f, d, ρ2, h2, h3, h4⟩ := h
  refine ⟨d, ρ2, ?_, h4⟩
  rw [evalE, h1]; dsimp only; rw [h2]; exact h3
theorem refs_flat : ∀ (es : Es) (ds : List D), ds.all D.flat = true → refs es ds = []
  | .nil, ds, _ => by cases ds <;> rfl
  | .cons e es, [], _ => by cases e <;> rfl
  | .cons e es, d :: ds, h => by
    rw [List.all_cons, Bool.and_eq_true] at h
    have ih := refs_flat es ds h.2
    cases e <;> simp [refs, ih, h.1]
theorem wb_flat : ∀ (es : Es) (ds ds' : List D) (ρ : Env), ds.all D.flat = true → wb es ds ds' ρ = ρ
  | .nil, ds, ds', _, _ => by cases ds <;> cases ds' <;> rfl
  | .cons e es, [], ds', _, _ => by cases e <;> cases ds' <;> rfl
  | .cons e es, d :: ds, [], _, _ => by cases e <;> rfl
  | .cons e es, d :: ds, d' :: ds', ρ, h => by
    rw [List.all_cons, Bool.and_eq_true] at h
    have ih := wb_flat es ds ds' ρ h.2
    cases e <;> simp [wb, ih, h.1]
/-- a call that leaves its arguments alone -/
theorem call_of {f : Fn} {ds ds' : List D} (hj : G[j]? = some f) (hf : f ds = .ok d ds') (fl : ds.all D.flat = true) (q : Q d ρ) : callQ G j es ds ρ Q := by
  refine ⟨f, d, ρ, hj, ?_, q⟩
  rw [runF, if_pos (by rw [refs_flat es ds fl]; exact List.nodup_nil), hf]
  dsimp only
  rw [wb_flat es ds ds' ρ fl]
/-- a call that draws: its first argument is a name's container -/
theorem call_dr {f : Fn} {d0 d1 : D} {ds ds' : List D} (hj : G[j]? = some f) (hf : f (d0 :: ds) = .ok d (d1 :: ds')) (nf : d0.flat = false) (fl : ds.all D.flat = true) (q : Q d (ρ.set i (some d1))) : callQ G j (.cons (.var i) es) (d0 :: ds) ρ Q := by
  refine ⟨f, d, _, hj, ?_, q⟩
  rw [runF, if_pos (by rw [refs, nf, refs_flat es ds fl]; simp), hf]
  dsimp only
  rw [wb, nf, wb_flat es ds ds' _ fl]
  simp
theorem xcall_of {f : Fn} {ds ds' : List D} {Q : Nat → Env → Prop} (hj : G[j]? = some f) (hf : f ds = .exc k ds') (fl : ds.all D.flat = true) (hn : es ≠ .nil) (q : Q k ρ) : xcallQ G j es ds ρ Q := by
  refine ⟨f, k, ρ, hj, ?_, q⟩
  rw [runF, if_pos (by rw [refs_flat es ds fl]; exact List.nodup_nil), hf]
  dsimp only
  rw [wb_flat es ds ds' ρ fl]
  cases es with
  | nil => exact absurd rfl hn
  | cons _ _ => rfl
theorem xE_call {Q : Nat → Env → Prop} (h : wL G C es ρ fun ds ρ1 => xcallQ G j es ds ρ1 Q) : xE G C (.call j es) ρ Q := by
  obtain ⟨ds, ρ1, h1, f, d, ρ2, h2, h3, h4⟩ := h
  refine ⟨d, ρ2, ?_, h4⟩
  rw [evalE, h1]; dsimp only; rw [h2]; exact h3
theorem xE_op1 {o : Op} {Q : Nat → Env → Prop} (hv : e.isVar = false) (h : xE G C e ρ Q) : xE G C (.op o (.cons e es)) ρ Q := by
  obtain ⟨k, ρ1, h1, h2⟩ := h
  refine ⟨k, ρ1, ?_, h2⟩
  rw [evalE]
  unfold evalL
  rw [if_neg (by rw [hv]; exact Bool.false_ne_true), h1]
theorem xE_call1 {Q : Nat → Env → Prop} (hv : e.isVar = false) (h : xE G C e ρ Q) : xE G C (.call j (.cons e es)) ρ Q := by
  obtain ⟨k, ρ1, h1, h2⟩ := h
  refine ⟨k, ρ1, ?_, h2⟩
  rw [evalE]
  unfold evalL
  rw [if_neg (by rw [hv]; exact Bool.false_ne_true), h1]
theorem xE_ite {Q : Nat → Env → Prop} (h1 : wE G C c ρ fun d ρ1 => blQ d fun x => (x = true → xE G C a ρ1 Q) ∧ (x = false → xE G C b ρ1 Q)) : xE G C (.ite c a b) ρ Q := by
  obtain ⟨d, ρ1, e1, x, rfl, h2, h3⟩ := h1
  cases x with
  | true =>
    obtain ⟨d, ρ2, e2, q⟩ := h2 rfl
    exact ⟨d, ρ2, by rw [evalE, e1]; exact e2, q⟩
  | false =>
    obtain ⟨d, ρ2, e2, q⟩ := h3 rfl
    exact ⟨d, ρ2, by rw [evalE, e1]; exact e2, q⟩
/-! ### slices -/
theorem wP_nil {Q : Option Int → Env → Prop} (h : Q none ρ) : wP G C .nil ρ Q := ⟨none, ρ, by rw [evalP], h⟩
theorem wP_one {Q : Option Int → Env → Prop} (h : wE G C e ρ fun d ρ1 => ixQ d fun l => Q l ρ1) : wP G C (.cons e .nil) ρ Q := by
  obtain ⟨d, ρ1, h1, i, rfl, h3⟩ := h
  exact ⟨_, ρ1, by rw [evalP, h1], h3⟩
theorem ix_of {P : Option Int → Prop} {n : Int} (h : P (some n)) : ixQ (.int n) P := ⟨n, rfl, h⟩
theorem wE_slcV {lo hi : Es} {d0 : D} (h0 : ρ[i]? = some (some d0)) (h : wP G C lo ρ fun l ρ1 => wP G C hi ρ1 fun h ρ2 => atQ ρ2 i fun d => slQ l h d fun d' => Q d' ρ2) : wE G C (.slc (.var i) lo hi) ρ Q := by
  obtain ⟨l, ρ1, h1, u, ρ2, h2, d, h3, d', h4, h5⟩ := h
  refine ⟨d', ρ2, ?_, h5⟩
  rw [evalE, if_pos (show (E.var i).isVar = true from rfl), h0]; dsimp only; rw [h1]; dsimp only; rw [h2]; dsimp only; rw [h3]; dsimp only; rw [h4]
theorem wE_slc {lo hi : Es} (hv : a.isVar = false) (h : wE G C a ρ fun d ρ0 => wP G C lo ρ0 fun l ρ1 => wP G C hi ρ1 fun h ρ2 => slQ l h d fun d' => Q d' ρ2) : wE G C (.slc a lo hi) ρ Q := by
  obtain ⟨d, ρ0, h0, l, ρ1, h1, u, ρ2, h2, d', h4, h5⟩ := h
  refine ⟨d', ρ2, ?_, h5⟩
  unfold evalE
  rw [if_neg (by rw [hv]; exact Bool.false_ne_true), h0]
  dsimp only
  rw [h1]; dsimp only; rw [h2]; dsimp only; rw [h4]
theorem wE_mth {q : Meth} (h : wE G C a ρ fun d ρ1 => q.kind d = true ∧ wL G C es ρ1 fun ds ρ2 => mtQ q (d :: ds) fun r => Q r ρ2) : wE G C (.mth q a es) ρ Q := by
  obtain ⟨d, ρ1, h1, hk, ds, ρ2, h2, r, h3, h4⟩ := h
  refine ⟨r, ρ2, ?_, h4⟩
  rw [evalE, h1]; dsimp only; rw [if_pos hk, h2]; dsimp only; rw [h3]
theorem wE_fz {xs : List D} (h : ρ[i]? = some (some (.lst xs))) (q : Q (.fls xs) (ρ.set i (some (.fls xs)))) : wE G C (.fz i) ρ Q := ⟨_, _, by rw [evalE, h], q⟩
theorem wE_frz (h : wE G C a ρ fun d ρ1 => ∃ xs, d = .lst xs ∧ Q (.fls xs) ρ1) : wE G C (.frz a) ρ Q := by
  obtain ⟨d, ρ1, h1, xs, rfl, h3⟩ := h
  exact ⟨_, ρ1, by rw [evalE, h1] <;> rfl, h3⟩
theorem wC_nil (q : Q (.bl true) ρ) : wC G C .nil ρ Q := ⟨_, _, ec_nil, q⟩
theorem wC_one (h : wE G C e ρ Q) : wC G C (.cons e .nil) ρ Q := by
  obtain ⟨d, ρ1, h1, h2⟩ := h
  exact ⟨d, ρ1, by rw [ec_one]; exact h1, h2⟩
end
end Mi

/-! operations towards a promise -/
namespace Mi
section
variable {P : D → Prop} {a b n m : Nat} {i j : Int} {s t : List Nat} {α β : Type} {xs ys : List D}
abbrev nI (n : Nat) : D := .int (n : Nat)
theorem o_of {o : Op} {ds : List D} {d : D} (h : opD o ds = some d) (p : P d) : opQ o ds P := ⟨d, h, p⟩
/-! numbers -/
theorem o_addN (p : P (.int ((a + b : Nat) : Int))) : opQ (.bin .add) [.int (a : Nat), .int (b : Nat)] P := ⟨_, rfl, by rw [← Int.natCast_add]; exact p⟩
theorem o_add (p : P (.int (i + j))) : opQ (.bin .add) [.int i, .int j] P := ⟨_, rfl, p⟩
theorem o_subN (h : b ≤ a) (p : P (.int ((a - b : Nat) : Int))) : opQ (.bin .sub) [.int (a : Nat), .int (b : Nat)] P := ⟨_, rfl, by rw [← Int.natCast_sub h]; exact p⟩
theorem o_sub (p : P (.int (i - j))) : opQ (.bin .sub) [.int i, .int j] P := ⟨_, rfl, p⟩
theorem sm_nat (h : a < 18446744073709551616) : small64 (a : Int) = true := small64_of (by omega) (by omega)
theorem o_mulN (h : a < 18446744073709551616) (p : P (.int ((a * b : Nat) : Int))) : opQ (.bin .mul) [.int (a : Nat), .int (b : Nat)] P := by
  refine o_of (opD_bin.trans (mul_int.trans ?_)) p
  rw [sm_nat h]
  simp
theorem o_mulN2 (h : b < 18446744073709551616) (p : P (.int ((a * b : Nat) : Int))) : opQ (.bin .mul) [.int (a : Nat), .int (b : Nat)] P := by
  refine o_of (opD_bin.trans (mul_int.trans ?_)) p
  rw [sm_nat h]
  simp
theorem o_fdivN (h : b ≠ 0) (h2 : b < 1073741824) (p : P (.int ((a / b : Nat) : Int))) : opQ (.bin .fdiv) [.int (a : Nat), .int (b : Nat)] P := by
  refine o_of (opD_bin.trans (fdiv_int.trans ?_)) p
  rw [if_pos (by omega), Int.fdiv_eq_ediv_of_nonneg _ (by omega)]
  rfl
theorem o_modN (h : b ≠ 0) (p : P (.int ((a % b : Nat) : Int))) : opQ (.bin .mod) [.int (a : Nat), .int (b : Nat)] P := by
  refine o_of (opD_bin.trans (mod_int.trans ?_)) p
  rw [if_pos (by omega), Int.fmod_eq_emod_of_nonneg _ (by omega)]
  rfl
theorem o_mod (h : j ≠ 0) (p : P (.int (i.fmod j))) : opQ (.bin .mod) [.int i, .int j] P := o_of (opD_bin.trans (mod_int.trans (if_pos h))) p
theorem o_fdiv (h : j ≠ 0) (h2 : j.natAbs < 1073741824) (p : P (.int (i.fdiv j))) : opQ (.bin .fdiv) [.int i, .int j] P := o_of (opD_bin.trans (fdiv_int.trans (if_pos ⟨h, h2⟩))) p
theorem o_neg (p : P (.int (-i))) : opQ .neg [.int i] P := ⟨_, rfl, p⟩
theorem o_abs (p : P (.int (i.natAbs : Nat))) : opQ (.prim .abs) [.int i] P := by
  refine o_of (opD_prim.trans abs_int) ?_
  have e : (if i < 0 then -i else i) = ((i.natAbs : Nat) : Int) := by split <;> omega
  rw [e]; exact p
theorem o_int (p : P (.int i)) : opQ (.prim .int) [.int i] P := ⟨_, rfl, p⟩
theorem o_intB {k : Bool} (p : P (.int (if k then 1 else 0))) : opQ (.prim .int) [.bl k] P := ⟨_, rfl, p⟩
theorem o_minN (p : P (.int ((min a b : Nat) : Int))) : opQ (.prim .min) [.int (a : Nat), .int (b : Nat)] P := by
  refine o_of (opD_prim.trans min_two) ?_
  have e : (if (b : Int) < (a : Int) then (b : Int) else (a : Int)) = ((min a b : Nat) : Int) := by split <;> omega
  rw [e]; exact p
theorem o_maxN (p : P (.int ((max a b : Nat) : Int))) : opQ (.prim .max) [.int (a : Nat), .int (b : Nat)] P := by
  refine o_of (opD_prim.trans max_two) ?_
  have e : (if (b : Int) > (a : Int) then (b : Int) else (a : Int)) = ((max a b : Nat) : Int) := by split <;> omega
  rw [e]; exact p
theorem o_min (p : P (.int (min i j))) : opQ (.prim .min) [.int i, .int j] P := by
  refine o_of (opD_prim.trans min_two) ?_
  have e : (if j < i then j else i) = min i j := by split <;> omega
  rw [e]; exact p
theorem o_max (p : P (.int (max i j))) : opQ (.prim .max) [.int i, .int j] P := by
  refine o_of (opD_prim.trans max_two) ?_
  have e : (if j > i then j else i) = max i j := by split <;> omega
  rw [e]; exact p
/-! comparisons -/
theorem o_eqN (p : P (.bl (decide (a = b)))) : opQ (.cmp .eq) [.int (a : Nat), .int (b : Nat)] P := by
  refine o_of (opD_cmp.trans eq_int) ?_
  rw [show decide ((a : Int) = (b : Int)) = decide (a = b) from decide_eq_decide.mpr Int.ofNat_inj]; exact p
theorem o_neN (p : P (.bl (!decide (a = b)))) : opQ (.cmp .ne) [.int (a : Nat), .int (b : Nat)] P := by
  refine o_of (opD_cmp.trans ne_int) ?_
  rw [show decide ((a : Int) = (b : Int)) = decide (a = b) from decide_eq_decide.mpr Int.ofNat_inj]; exact p
theorem o_ltN (p : P (.bl (decide (a < b)))) : opQ (.cmp .lt) [.int (a : Nat), .int (b : Nat)] P := by
  refine o_of (opD_cmp.trans lt_int) ?_
  simpa using p
theorem o_leN (p : P (.bl (decide (a ≤ b)))) : opQ (.cmp .le) [.int (a : Nat), .int (b : Nat)] P := by
  refine o_of (opD_cmp.trans le_int) ?_
  simpa using p
theorem o_gtN (p : P (.bl (decide (b < a)))) : opQ (.cmp .gt) [.int (a : Nat), .int (b : Nat)] P := by
  refine o_of (opD_cmp.trans gt_int) ?_
  simpa using p
theorem o_geN (p : P (.bl (decide (b ≤ a)))) : opQ (.cmp .ge) [.int (a : Nat), .int (b : Nat)] P := by
  refine o_of (opD_cmp.trans ge_int) ?_
  simpa using p
theorem o_eqI (p : P (.bl (decide (i = j)))) : opQ (.cmp .eq) [.int i, .int j] P := o_of (opD_cmp.trans eq_int) p
theorem o_neI (p : P (.bl (!decide (i = j)))) : opQ (.cmp .ne) [.int i, .int j] P := o_of (opD_cmp.trans ne_int) p
theorem o_ltI (p : P (.bl (decide (i < j)))) : opQ (.cmp .lt) [.int i, .int j] P := ⟨_, rfl, p⟩
theorem o_leI (p : P (.bl (decide (i ≤ j)))) : opQ (.cmp .le) [.int i, .int j] P := ⟨_, rfl, p⟩
theorem o_gtI (p : P (.bl (decide (j < i)))) : opQ (.cmp .gt) [.int i, .int j] P := ⟨_, rfl, p⟩
theorem o_geI (p : P (.bl (decide (j ≤ i)))) : opQ (.cmp .ge) [.int i, .int j] P := ⟨_, rfl, p⟩
theorem o_eqS (p : P (.bl (decide (s = t)))) : opQ (.cmp .eq) [.str s, .str t] P := o_of (opD_cmp.trans eq_str) p
theorem o_neS (p : P (.bl (!decide (s = t)))) : opQ (.cmp .ne) [.str s, .str t] P := o_of (opD_cmp.trans ne_str) p
theorem o_ltS (p : P (.bl (decide (s < t)))) : opQ (.cmp .lt) [.str s, .str t] P := ⟨_, rfl, p⟩
theorem o_gtS (p : P (.bl (decide (t < s)))) : opQ (.cmp .gt) [.str s, .str t] P := ⟨_, rfl, p⟩
theorem o_leS (p : P (.bl (!decide (t < s)))) : opQ (.cmp .le) [.str s, .str t] P := ⟨_, rfl, p⟩
theorem o_geS (p : P (.bl (!decide (s < t)))) : opQ (.cmp .ge) [.str s, .str t] P := ⟨_, rfl, p⟩
mutual
theorem peq_self : ∀ (n : Nat) (d : D), d.okD n = true → D.peq d d = true
  | _, .non, _ => rfl
  | _, .bl b, _ => by cases b <;> rfl
  | _, .int i, _ => by show (i == i) = true; simp
  | _, .str s, _ => by show (s == s) = true; simp
  | n + 1, .tup xs, h => by
    have h' : xs.all (D.okD n) = true := h
    exact peqs_self n xs h'
  | n + 1, .lst xs, h => by
    have h' : xs.all (D.okD n) = true := h
    exact peqs_self n xs h'
  | n + 1, .fls xs, h => by
    have h' : xs.all (D.okD n) = true := h
    exact peqs_self n xs h'
  | 0, .tup xs, h => by cases h
  | 0, .lst xs, h => by cases h
  | 0, .fls xs, h => by cases h
  | 0, .rng _ _, h => by cases h
  | 0, .rdn _ _, h => by cases h
  | 0, .dct _, h => by cases h
  | 0, .fdc _, h => by cases h
  | 0, .obj _ _, h => by cases h
  | _ + 1, .rng _ _, h => by cases h
  | _ + 1, .rdn _ _, h => by cases h
  | _ + 1, .dct _, h => by cases h
  | _ + 1, .fdc _, h => by cases h
theorem peqs_self : ∀ (n : Nat) (xs : List D), xs.all (D.okD n) = true → D.peqs xs xs = true
  | _, [], _ => rfl
  | n, x :: xs, h => by
    rw [List.all_cons, Bool.and_eq_true] at h
    show (D.peq x x && D.peqs xs xs) = true
    rw [peq_self n x h.1, peqs_self n xs h.2]
    rfl
end
/-- the same data -/
theorem o_neSame {d e : D} (h : d = e) (ok : d.okD 20 = true) (p : P (.bl false)) : opQ (.cmp .ne) [d, e] P := by
  subst h
  refine o_of (d := .bl false) ?_ p
  show (if d.okD 20 && d.okD 20 then some (D.bl (!D.peq d d)) else none) = _
  rw [ok, peq_self 20 d ok]
  rfl
theorem o_eqSame {d e : D} (h : d = e) (ok : d.okD 20 = true) (p : P (.bl true)) : opQ (.cmp .eq) [d, e] P := by
  subst h
  refine o_of (d := .bl true) ?_ p
  show (if d.okD 20 && d.okD 20 then some (D.bl (D.peq d d)) else none) = _
  rw [ok, peq_self 20 d ok]
  rfl
theorem ok_map {f : α → D} {l : List α} (h : ∀ x, (f x).okD n = true) : (l.map f).all (D.okD n) = true := by
  rw [List.all_eq_true]
  intro x hx
  obtain ⟨y, _, rfl⟩ := List.mem_map.mp hx
  exact h y
theorem okD_int : (D.int i).okD n = true := by cases n <;> rfl
theorem okD_str : (D.str s).okD n = true := by cases n <;> rfl
theorem okD_bl {k : Bool} : (D.bl k).okD n = true := by cases n <;> rfl
theorem okD_non : D.non.okD n = true := by cases n <;> rfl
theorem okD_tup (h : xs.all (D.okD n) = true) : (D.tup xs).okD (n + 1) = true := h
theorem okD_fls (h : xs.all (D.okD n) = true) : (D.fls xs).okD (n + 1) = true := h
theorem okD_lst (h : xs.all (D.okD n) = true) : (D.lst xs).okD (n + 1) = true := h
/-- data of two kinds that are compared: by a fact -/
theorem o_ne {d e : D} {k : Bool} (h : cmpD .ne d e = some (.bl k)) (p : P (.bl k)) : opQ (.cmp .ne) [d, e] P := o_of h p
theorem o_eq {d e : D} {k : Bool} (h : cmpD .eq d e = some (.bl k)) (p : P (.bl k)) : opQ (.cmp .eq) [d, e] P := o_of h p
theorem o_isN0 (p : P (.bl true)) : opQ (.cmp .is_) [.non, .non] P := ⟨_, rfl, p⟩
theorem o_isN {d : D} (h : isNon d = false) (p : P (.bl false)) : opQ (.cmp .is_) [d, .non] P := o_of (opD_cmp.trans (is_non.trans (by rw [h]))) p
theorem o_isnN0 (p : P (.bl false)) : opQ (.cmp .isnot) [.non, .non] P := ⟨_, rfl, p⟩
theorem o_isnN {d : D} (h : isNon d = false) (p : P (.bl true)) : opQ (.cmp .isnot) [d, .non] P := o_of (opD_cmp.trans (isnot_non.trans (by rw [h]; rfl))) p
/-! in -/
theorem o_inS (p : P (.bl (hasSub t s))) : opQ (.cmp .isin) [.str s, .str t] P := ⟨_, rfl, p⟩
theorem o_ninS (p : P (.bl (!hasSub t s))) : opQ (.cmp .notin) [.str s, .str t] P := ⟨_, rfl, p⟩
theorem any_map {f : α → D} {l : List α} {x : α} [DecidableEq α] [dec : Decidable (x ∈ l)] (h : ∀ x y, D.peq (f x) (f y) = decide (x = y)) : (l.map f).any (fun y => D.peq y (f x)) = decide (x ∈ l) := by
  rw [Bool.eq_iff_iff, List.any_eq_true, decide_eq_true_iff]
  constructor
  · rintro ⟨_, hy, hp⟩
    obtain ⟨y, hy2, rfl⟩ := List.mem_map.mp hy
    rw [h, decide_eq_true_iff] at hp
    rw [← hp]; exact hy2
  · intro hx
    exact ⟨f x, List.mem_map.mpr ⟨x, hx, rfl⟩, by rw [h]; simp⟩
theorem peq_str : ∀ s t : List Nat, D.peq (.str s) (.str t) = decide (s = t) := fun s t => by
  show (s == t) = _
  by_cases h : s = t <;> simp [h]
theorem peq_int : ∀ s t : Int, D.peq (.int s) (.int t) = decide (s = t) := fun s t => rfl
theorem peq_nat : ∀ s t : Nat, D.peq (nI s) (nI t) = decide (s = t) := fun s t => by
  rw [peq_int]
  exact decide_eq_decide.mpr Int.ofNat_inj
theorem inD_tup {d : D} {f : α → D} {l : List α} {x : α} [DecidableEq α] [dec : Decidable (x ∈ l)] (h : ∀ x y, D.peq (f x) (f y) = decide (x = y)) (o : ∀ x n, (f x).okD n = true) : inD (f x) (.tup (l.map f)) = some (decide (x ∈ l)) := by
  have e : inD (f x) (.tup (l.map f)) = if (f x).okD 20 && (l.map f).all (D.okD 20) then some ((l.map f).any fun y => D.peq y (f x)) else none := by
    cases f x <;> rfl
  rw [e, o, ok_map fun x => o x 20, any_map h]
  rfl
theorem inD_lst {d : D} {f : α → D} {l : List α} {x : α} [DecidableEq α] [dec : Decidable (x ∈ l)] (h : ∀ x y, D.peq (f x) (f y) = decide (x = y)) (o : ∀ x n, (f x).okD n = true) : inD (f x) (.lst (l.map f)) = some (decide (x ∈ l)) := by
  have e : inD (f x) (.lst (l.map f)) = if (f x).okD 20 && (l.map f).all (D.okD 20) then some ((l.map f).any fun y => D.peq y (f x)) else none := by
    cases f x <;> rfl
  rw [e, o, ok_map fun x => o x 20, any_map h]
  rfl
theorem inD_fls {d : D} {f : α → D} {l : List α} {x : α} [DecidableEq α] [dec : Decidable (x ∈ l)] (h : ∀ x y, D.peq (f x) (f y) = decide (x = y)) (o : ∀ x n, (f x).okD n = true) : inD (f x) (.fls (l.map f)) = some (decide (x ∈ l)) := by
  have e : inD (f x) (.fls (l.map f)) = if (f x).okD 20 && (l.map f).all (D.okD 20) then some ((l.map f).any fun y => D.peq y (f x)) else none := by
    cases f x <;> rfl
  rw [e, o, ok_map fun x => o x 20, any_map h]
  rfl
theorem o_in {d e : D} {k : Bool} (h : inD d e = some k) (p : P (.bl k)) : opQ (.cmp .isin) [d, e] P := o_of (d := .bl k) (by show (inD d e).map D.bl = _; rw [h]; rfl) p
theorem o_nin {d e : D} {k : Bool} (h : inD d e = some k) (p : P (.bl !k)) : opQ (.cmp .notin) [d, e] P := o_of (d := .bl !k) (by show (inD d e).map (fun k => D.bl (!k)) = _; rw [h]; rfl) p
theorem o_inST {l : List (List Nat)} (p : P (.bl (decide (s ∈ l)))) : opQ (.cmp .isin) [.str s, .tup (l.map D.str)] P := o_in (inD_tup (d := .non) peq_str fun _ _ => okD_str) p
theorem o_inSL {l : List (List Nat)} (p : P (.bl (decide (s ∈ l)))) : opQ (.cmp .isin) [.str s, .lst (l.map D.str)] P := o_in (inD_lst (d := .non) peq_str fun _ _ => okD_str) p
theorem o_inSF {l : List (List Nat)} (p : P (.bl (decide (s ∈ l)))) : opQ (.cmp .isin) [.str s, .fls (l.map D.str)] P := o_in (inD_fls (d := .non) peq_str fun _ _ => okD_str) p
theorem o_ninST {l : List (List Nat)} (p : P (.bl (!decide (s ∈ l)))) : opQ (.cmp .notin) [.str s, .tup (l.map D.str)] P := o_nin (inD_tup (d := .non) peq_str fun _ _ => okD_str) p
theorem o_ninSL {l : List (List Nat)} (p : P (.bl (!decide (s ∈ l)))) : opQ (.cmp .notin) [.str s, .lst (l.map D.str)] P := o_nin (inD_lst (d := .non) peq_str fun _ _ => okD_str) p
theorem o_ninSF {l : List (List Nat)} (p : P (.bl (!decide (s ∈ l)))) : opQ (.cmp .notin) [.str s, .fls (l.map D.str)] P := o_nin (inD_fls (d := .non) peq_str fun _ _ => okD_str) p
/-! displays, lengths -/
theorem o_tup (h : xs.length ≤ 16777216) (h2 : xs.all D.flat = true) (p : P (.tup xs)) : opQ .tup xs P := o_of (opD_tup.trans (if_pos ⟨h, h2⟩)) p
theorem o_lst (h : xs.length ≤ 16777216) (h2 : xs.all D.flat = true) (p : P (.lst xs)) : opQ .lst xs P := o_of (opD_lst.trans (if_pos ⟨h, h2⟩)) p
theorem o_lenS (h : s.length ≤ 16777216) (p : P (.int (s.length : Nat))) : opQ (.prim .len) [.str s] P := o_of (opD_prim.trans (len_str.trans (if_pos h))) p
theorem o_lenTm {f : α → D} {l : List α} (p : P (.int (l.length : Nat))) : opQ (.prim .len) [.tup (l.map f)] P := ⟨_, rfl, by rw [List.length_map]; exact p⟩
theorem o_lenLm {f : α → D} {l : List α} (p : P (.int (l.length : Nat))) : opQ (.prim .len) [.lst (l.map f)] P := ⟨_, rfl, by rw [List.length_map]; exact p⟩
theorem o_lenFm {f : α → D} {l : List α} (p : P (.int (l.length : Nat))) : opQ (.prim .len) [.fls (l.map f)] P := ⟨_, rfl, by rw [List.length_map]; exact p⟩
theorem o_lenT (p : P (.int (xs.length : Nat))) : opQ (.prim .len) [.tup xs] P := ⟨_, rfl, p⟩
theorem o_lenL (p : P (.int (xs.length : Nat))) : opQ (.prim .len) [.lst xs] P := ⟨_, rfl, p⟩
theorem o_lenF (p : P (.int (xs.length : Nat))) : opQ (.prim .len) [.fls xs] P := ⟨_, rfl, p⟩
theorem o_tuT (p : P (.tup xs)) : opQ (.prim .tuple) [.tup xs] P := ⟨_, rfl, p⟩
theorem o_tuL (p : P (.tup xs)) : opQ (.prim .tuple) [.lst xs] P := ⟨_, rfl, p⟩
theorem o_tuF (p : P (.tup xs)) : opQ (.prim .tuple) [.fls xs] P := ⟨_, rfl, p⟩
theorem o_liT (p : P (.lst xs)) : opQ (.prim .list) [.tup xs] P := ⟨_, rfl, p⟩
theorem o_liL (p : P (.lst xs)) : opQ (.prim .list) [.lst xs] P := ⟨_, rfl, p⟩
theorem o_liF (p : P (.lst xs)) : opQ (.prim .list) [.fls xs] P := ⟨_, rfl, p⟩
/-! + and * of sequences -/
theorem o_addS (h : s.length + t.length ≤ 16777216) (p : P (.str (s ++ t))) : opQ (.bin .add) [.str s, .str t] P := o_of (opD_bin.trans (add_str.trans (if_pos h))) p
theorem o_addLm {f : α → D} {k l : List α} (h : k.length + l.length ≤ 16777216) (p : P (.lst ((k ++ l).map f))) : opQ (.bin .add) [.lst (k.map f), .lst (l.map f)] P :=
  o_of (opD_bin.trans (add_lst.trans (if_pos (by rw [List.length_map, List.length_map]; exact h)))) (by rw [← List.map_append]; exact p)
theorem o_addTm {f : α → D} {k l : List α} (h : k.length + l.length ≤ 16777216) (p : P (.tup ((k ++ l).map f))) : opQ (.bin .add) [.tup (k.map f), .tup (l.map f)] P :=
  o_of (opD_bin.trans (add_tup.trans (if_pos (by rw [List.length_map, List.length_map]; exact h)))) (by rw [← List.map_append]; exact p)
theorem o_addL (h : xs.length + ys.length ≤ 16777216) (p : P (.lst (xs ++ ys))) : opQ (.bin .add) [.lst xs, .lst ys] P := o_of (opD_bin.trans (add_lst.trans (if_pos h))) p
theorem o_addT (h : xs.length + ys.length ≤ 16777216) (p : P (.tup (xs ++ ys))) : opQ (.bin .add) [.tup xs, .tup ys] P := o_of (opD_bin.trans (add_tup.trans (if_pos h))) p
theorem o_mulS (h1 : a ≤ 1000000) (h : s.length * a ≤ 16777216) (p : P (.str (List.replicate a s).flatten)) : opQ (.bin .mul) [.str s, .int (a : Nat)] P :=
  o_of (opD_bin.trans (mul_str.trans (if_pos ⟨by omega, by omega, by rw [Int.toNat_natCast]; exact h⟩))) (by rw [Int.toNat_natCast]; exact p)
theorem o_mulL (h1 : a ≤ 1000000) (h : xs.length * a ≤ 16777216) (p : P (.lst (List.replicate a xs).flatten)) : opQ (.bin .mul) [.lst xs, .int (a : Nat)] P :=
  o_of (opD_bin.trans (mul_lst.trans (if_pos ⟨by omega, by omega, by rw [Int.toNat_natCast]; exact h⟩))) (by rw [Int.toNat_natCast]; exact p)
/-! items -/
theorem o_ixS (h0 : s.length ≤ 16777216) (h : a < s.length) (p : P (.str [s.getD a 0])) : opQ .idx [.str s, .int (a : Nat)] P := by
  refine o_of (opD_idx.trans (idx_str.trans ((if_pos h0).trans ?_))) p
  rw [atI_nat, List.getElem?_eq_getElem h]
  simp [List.getD_eq_getElem?_getD, List.getElem?_eq_getElem h]
theorem at_map {f : α → D} {l : List α} {x : α} (h : a < l.length) : atI (l.map f) ((a : Nat) : Int) = some (f (l.getD a x)) := by
  rw [atI_nat, List.getElem?_map, List.getD_eq_getElem?_getD, List.getElem?_eq_getElem h]
  rfl
theorem o_ixTm {f : α → D} {l : List α} (x : α) (h : a < l.length) (p : P (f (l.getD a x))) : opQ .idx [.tup (l.map f), .int (a : Nat)] P := o_of (opD_idx.trans (idx_tup.trans (at_map h))) p
theorem o_ixLm {f : α → D} {l : List α} (x : α) (h : a < l.length) (p : P (f (l.getD a x))) : opQ .idx [.lst (l.map f), .int (a : Nat)] P := o_of (opD_idx.trans (idx_lst.trans (at_map h))) p
theorem o_ixFm {f : α → D} {l : List α} (x : α) (h : a < l.length) (p : P (f (l.getD a x))) : opQ .idx [.fls (l.map f), .int (a : Nat)] P := o_of (opD_idx.trans (idx_fls.trans (at_map h))) p
theorem at_last {l : List α} {x : α} (h : 0 < l.length) : atI l (-1) = some (l.getD (l.length - 1) x) := by
  unfold atI ixN
  rw [if_neg (by omega), if_pos (by omega)]
  have e : (-1 + ((l.length : Nat) : Int)).toNat = l.length - 1 := by omega
  rw [e, List.getD_eq_getElem?_getD, List.getElem?_eq_getElem (by omega)]
  simp [List.getElem?_eq_getElem (show l.length - 1 < l.length by omega)]
theorem o_ixS1 (h0 : s.length ≤ 16777216) (h : 0 < s.length) (p : P (.str [s.getD (s.length - 1) 0])) : opQ .idx [.str s, .int (-1)] P := by
  refine o_of (opD_idx.trans (idx_str.trans ((if_pos h0).trans ?_))) p
  rw [at_last (x := 0) h]
  rfl
theorem at_last_map {f : α → D} {l : List α} {x : α} (h : 0 < l.length) : atI (l.map f) (-1) = some (f (l.getD (l.length - 1) x)) := by
  rw [at_last (x := f x) (by rw [List.length_map]; exact h), List.length_map]
  simp [List.getD_eq_getElem?_getD, List.getElem?_eq_getElem (show l.length - 1 < l.length by omega)]
theorem o_ixTm1 {f : α → D} {l : List α} (x : α) (h : 0 < l.length) (p : P (f (l.getD (l.length - 1) x))) : opQ .idx [.tup (l.map f), .int (-1)] P := o_of (opD_idx.trans (idx_tup.trans (at_last_map h))) p
theorem o_ixLm1 {f : α → D} {l : List α} (x : α) (h : 0 < l.length) (p : P (f (l.getD (l.length - 1) x))) : opQ .idx [.lst (l.map f), .int (-1)] P := o_of (opD_idx.trans (idx_lst.trans (at_last_map h))) p
theorem o_ixT {d : D} (h : atI xs i = some d) (p : P d) : opQ .idx [.tup xs, .int i] P := o_of (opD_idx.trans (idx_tup.trans h)) p
theorem o_ixL {d : D} (h : atI xs i = some d) (p : P d) : opQ .idx [.lst xs, .int i] P := o_of (opD_idx.trans (idx_lst.trans h)) p
theorem o_ixF {d : D} (h : atI xs i = some d) (p : P d) : opQ .idx [.fls xs, .int i] P := o_of (opD_idx.trans (idx_fls.trans h)) p
/-! slices -/
theorem s_of {l h : Option Int} {d d' : D} (e : slcD l h d = some d') (p : P d') : slQ l h d P := ⟨d', e, p⟩
theorem cut_at {l : List α} : cutL l (some (a : Int)) (some ((a + n : Nat) : Int)) = (l.drop a).take n := by
  rw [cutL_nat, List.take_drop.symm]
theorem cut_m1 {l : List α} : cutL l none (some (-1)) = l.dropLast := by
  have e : sIx l.length l.length (some (-1)) = l.length - 1 := by
    show (if (-1 : Int) < 0 then ((-1 : Int) + (l.length : Nat)).toNat else min (-1 : Int).toNat l.length) = _
    rw [if_pos (by omega)]
    omega
  unfold cutL
  rw [e, List.dropLast_eq_take]
  rfl
theorem cut_1 {l : List α} : cutL l (some 1) none = l.drop 1 := cutL_lo (a := 1)
theorem s_S0 (h0 : s.length ≤ 16777216) (p : P (.str (s.take b))) : slQ none (some (b : Nat)) (.str s) P := s_of (slc_str.trans (if_pos h0)) (by rw [cutL_hi]; exact p)
theorem s_S1 (h0 : s.length ≤ 16777216) (p : P (.str (s.drop a))) : slQ (some (a : Nat)) none (.str s) P := s_of (slc_str.trans (if_pos h0)) (by rw [cutL_lo]; exact p)
theorem s_Sat (h0 : s.length ≤ 16777216) (p : P (.str ((s.drop a).take n))) : slQ (some (a : Nat)) (some ((a + n : Nat) : Int)) (.str s) P := s_of (slc_str.trans (if_pos h0)) (by rw [cut_at]; exact p)
theorem s_S2 (h0 : s.length ≤ 16777216) (p : P (.str ((s.take b).drop a))) : slQ (some (a : Nat)) (some (b : Nat)) (.str s) P := s_of (slc_str.trans (if_pos h0)) (by rw [cutL_nat]; exact p)
theorem s_Sm (h0 : s.length ≤ 16777216) (p : P (.str s.dropLast)) : slQ none (some (-1)) (.str s) P := s_of (slc_str.trans (if_pos h0)) (by rw [cut_m1]; exact p)
theorem s_Sl1 (h0 : s.length ≤ 16777216) (p : P (.str (s.drop 1))) : slQ (some 1) none (.str s) P := s_of (slc_str.trans (if_pos h0)) (by rw [cut_1]; exact p)
theorem s_S (h0 : s.length ≤ 16777216) {l h : Option Int} (p : P (.str (cutL s l h))) : slQ l h (.str s) P := s_of (slc_str.trans (if_pos h0)) p
theorem cutL_map {f : α → D} {l : List α} {u h : Option Int} : cutL (l.map f) u h = (cutL l u h).map f := by
  unfold cutL
  rw [List.length_map, ← List.map_drop, ← List.map_take]
theorem s_Lm0 {f : α → D} {l : List α} (p : P (.lst ((l.take b).map f))) : slQ none (some (b : Nat)) (.lst (l.map f)) P := s_of slc_lst (by rw [cutL_map, cutL_hi]; exact p)
theorem s_Lm1 {f : α → D} {l : List α} (p : P (.lst ((l.drop a).map f))) : slQ (some (a : Nat)) none (.lst (l.map f)) P := s_of slc_lst (by rw [cutL_map, cutL_lo]; exact p)
theorem s_Lmat {f : α → D} {l : List α} (p : P (.lst (((l.drop a).take n).map f))) : slQ (some (a : Nat)) (some ((a + n : Nat) : Int)) (.lst (l.map f)) P := s_of slc_lst (by rw [cutL_map, cut_at]; exact p)
theorem s_Lml1 {f : α → D} {l : List α} (p : P (.lst ((l.drop 1).map f))) : slQ (some 1) none (.lst (l.map f)) P := s_of slc_lst (by rw [cutL_map, cut_1]; exact p)
theorem s_Tm0 {f : α → D} {l : List α} (p : P (.tup ((l.take b).map f))) : slQ none (some (b : Nat)) (.tup (l.map f)) P := s_of slc_tup (by rw [cutL_map, cutL_hi]; exact p)
theorem s_Tm1 {f : α → D} {l : List α} (p : P (.tup ((l.drop a).map f))) : slQ (some (a : Nat)) none (.tup (l.map f)) P := s_of slc_tup (by rw [cutL_map, cutL_lo]; exact p)
theorem s_Tmat {f : α → D} {l : List α} (p : P (.tup (((l.drop a).take n).map f))) : slQ (some (a : Nat)) (some ((a + n : Nat) : Int)) (.tup (l.map f)) P := s_of slc_tup (by rw [cutL_map, cut_at]; exact p)
theorem s_Tml1 {f : α → D} {l : List α} (p : P (.tup ((l.drop 1).map f))) : slQ (some 1) none (.tup (l.map f)) P := s_of slc_tup (by rw [cutL_map, cut_1]; exact p)
/-! built-in functions on lists -/
theorem o_sumI {g : α → Int} {l : List α} (p : P (.int (l.map g).sum)) : opQ (.prim .sum) [.lst (l.map fun x => D.int (g x))] P := by
  have e : (l.map fun x => D.int (g x)) = (l.map g).map D.int := by rw [List.map_map]; rfl
  refine o_of (d := .int (l.map g).sum) ?_ p
  rw [e]
  show (ints? ((l.map g).map D.int)).map (fun ns => D.int ns.sum) = _
  rw [ints?_map]; rfl
theorem sum_cast : ∀ l : List Nat, (l.map fun n => ((n : Nat) : Int)).sum = ((l.sum : Nat) : Int)
  | [] => rfl
  | n :: l => by rw [List.map_cons, List.sum_cons, List.sum_cons, sum_cast l, Int.natCast_add]
theorem o_sumN {g : α → Nat} {l : List α} (p : P (.int ((l.map g).sum : Nat))) : opQ (.prim .sum) [.lst (l.map fun x => D.int ((g x : Nat) : Int))] P := by
  refine o_sumI ?_
  have e : (l.map fun x => ((g x : Nat) : Int)) = (l.map g).map fun n => ((n : Nat) : Int) := by rw [List.map_map]; rfl
  rw [e, sum_cast]
  exact p
theorem o_any {g : α → Bool} {l : List α} (p : P (.bl (l.any g))) : opQ (.prim .any) [.lst (l.map fun x => D.bl (g x))] P := by
  have e : (l.map fun x => D.bl (g x)) = (l.map g).map D.bl := by rw [List.map_map]; rfl
  refine o_of (d := .bl (l.any g)) ?_ p
  rw [e]
  show (bls? ((l.map g).map D.bl)).map (fun bs => D.bl (bs.any id)) = _
  rw [bls?_map]
  show some (D.bl ((l.map g).any id)) = _
  rw [List.any_map]; rfl
theorem o_all {g : α → Bool} {l : List α} (p : P (.bl (l.all g))) : opQ (.prim .all) [.lst (l.map fun x => D.bl (g x))] P := by
  have e : (l.map fun x => D.bl (g x)) = (l.map g).map D.bl := by rw [List.map_map]; rfl
  refine o_of (d := .bl (l.all g)) ?_ p
  rw [e]
  show (bls? ((l.map g).map D.bl)).map (fun bs => D.bl (bs.all id)) = _
  rw [bls?_map]
  show some (D.bl ((l.map g).all id)) = _
  rw [List.all_map]; rfl
theorem sorted_strs {l : List (List Nat)} : sortedD (l.map D.str) = some (.lst ((sortS l).map D.str)) := by
  unfold sortedD
  cases l with
  | nil => rfl
  | cons x l =>
    rw [show ints? ((x :: l).map D.str) = none from rfl, strs?_map]
theorem sorted_ints {l : List Int} : sortedD (l.map D.int) = some (.lst ((sortI l).map D.int)) := by
  unfold sortedD
  rw [ints?_map]
theorem o_sortS {l : List (List Nat)} (p : P (.lst ((sortS l).map D.str))) : opQ (.prim .sorted) [.lst (l.map D.str)] P := o_of (opD_prim.trans (sorted_lst.trans sorted_strs)) p
theorem o_sortSF {l : List (List Nat)} (p : P (.lst ((sortS l).map D.str))) : opQ (.prim .sorted) [.fls (l.map D.str)] P := o_of (opD_prim.trans (sorted_fls.trans sorted_strs)) p
theorem o_rng (h : a ≤ 1000000000) (p : P (.rng 0 a)) : opQ (.prim .range) [.int (a : Nat)] P := o_of (opD_prim.trans (range_one.trans (if_pos (rOk_of (by omega) (by omega))))) (by rw [Int.toNat_natCast]; exact p)
theorem o_rngS (h : a < 1000000000) (h2 : b ≤ 1000000000) (p : P (.rng 0 (a + 1 - b))) : opQ (.prim .range) [.int ((a : Int) - (b : Int) + 1)] P :=
  o_of (opD_prim.trans (range_one.trans (if_pos (rOk_of (by omega) (by omega))))) (by rw [show ((a : Int) - (b : Int) + 1).toNat = a + 1 - b by omega]; exact p)
theorem o_rngI (h : -1000000000 ≤ i) (h2 : i ≤ 1000000000) (p : P (.rng 0 i.toNat)) : opQ (.prim .range) [.int i] P := o_of (opD_prim.trans (range_one.trans (if_pos (rOk_of h h2)))) p
theorem o_rng2 (h : a ≤ 1000000000) (h2 : b ≤ 1000000000) (p : P (.rng (a : Nat) (b - a))) : opQ (.prim .range) [.int (a : Nat), .int (b : Nat)] P :=
  o_of (opD_prim.trans (range_two.trans (if_pos ⟨rOk_of (by omega) (by omega), rOk_of (by omega) (by omega)⟩))) (by rw [show ((b : Int) - (a : Int)).toNat = b - a by omega]; exact p)
theorem o_rng2I (h : -1000000000 ≤ i ∧ i ≤ 1000000000) (h2 : -1000000000 ≤ j ∧ j ≤ 1000000000) (p : P (.rng i (j - i).toNat)) : opQ (.prim .range) [.int i, .int j] P :=
  o_of (opD_prim.trans (range_two.trans (if_pos ⟨rOk_of h.1 h.2, rOk_of h2.1 h2.2⟩))) p
theorem o_rngD (h : -1000000000 ≤ i ∧ i ≤ 1000000000) (h2 : -1000000000 ≤ j ∧ j ≤ 1000000000) (p : P (.rdn i (i - j).toNat)) : opQ (.prim .range) [.int i, .int j, .int (-1)] P := by
  refine o_of (d := .rdn i (i - j).toNat) ?_ p
  show (if -(2 ^ 62) ≤ i ∧ i < 2 ^ 62 ∧ -(2 ^ 62) ≤ j ∧ j < 2 ^ 62 ∧ (-1 : Int) = -1 then some (D.rdn i (i - j).toNat) else none) = _
  have e : (2 : Int) ^ 62 = 4611686018427387904 := by decide
  rw [if_pos (by rw [e]; omega)]
theorem o_isaT (p : P (.bl true)) : opQ (.prim .isTuple) [.tup xs] P := ⟨_, rfl, p⟩
theorem o_isaI (p : P (.bl true)) : opQ (.prim .isInt) [.int i] P := ⟨_, rfl, p⟩
theorem o_isaB (p : P (.bl false)) : opQ (.prim .isBool) [.int i] P := ⟨_, rfl, p⟩
theorem o_isaBB {k : Bool} (p : P (.bl true)) : opQ (.prim .isBool) [.bl k] P := ⟨_, rfl, p⟩
theorem o_isaS (p : P (.bl true)) : opQ (.prim .isStr) [.str s] P := ⟨_, rfl, p⟩
/-! join -/
theorem m_join1 {g : α → Nat} {l : List α} (h : l.length ≤ 1000000) (p : P (.str (l.map g))) : mtQ .join [.str [], .lst (l.map fun x => D.str [g x])] P := by
  have e : (l.map fun x => D.str [g x]) = ((l.map g).map fun c => [c]).map D.str := by rw [List.map_map, List.map_map]; rfl
  refine ⟨.str (l.map g), ?_, p⟩
  rw [e, join_strs, joinL_nil, if_pos (by rw [sum_ones, SZ_val]; simp; omega), flat_ones]
theorem m_join {ys : List (List Nat)} (h : (ys.map List.length).sum ≤ 16777216) (p : P (.str ys.flatten)) : mtQ .join [.str [], .lst (ys.map D.str)] P := by
  refine ⟨.str ys.flatten, ?_, p⟩
  rw [join_strs, joinL_nil, if_pos (by rw [SZ_val]; simp; omega)]
theorem m_joing {g : α → List Nat} {l : List α} (h : ((l.map g).map List.length).sum ≤ 16777216) (p : P (.str (l.map g).flatten)) : mtQ .join [.str [], .lst (l.map fun x => D.str (g x))] P := by
  have e : (l.map fun x => D.str (g x)) = (l.map g).map D.str := by rw [List.map_map]; rfl
  rw [e]
  exact m_join h p
theorem m_joinT {ys : List (List Nat)} (h : (ys.map List.length).sum ≤ 16777216) (p : P (.str ys.flatten)) : mtQ .join [.str [], .tup (ys.map D.str)] P := by
  refine ⟨.str ys.flatten, ?_, p⟩
  show ((strs? (ys.map .str)).bind fun ys => if (ys.map List.length).sum + ys.length * ([] : List Nat).length ≤ SZ then some (D.str (joinL [] ys)) else none) = _
  rw [strs?_map]
  show (if (ys.map List.length).sum + ys.length * ([] : List Nat).length ≤ SZ then some (D.str (joinL [] ys)) else none) = _
  rw [joinL_nil, if_pos (by rw [SZ_val]; simp; omega)]
end
end Mi

/-! statements and loops towards a promise -/
namespace Mi
section
variable {G : List Fn} {C : List D} {pr : List Nat} {ss A B body : Ss} {ρ ρ1 ρ2 : Env} {Q : O → Prop} {e c it1 elt : E} {i j k m x : Nat} {is ks : List Nat} {d : D} {ds xs : List D} {p : Pat} {it cs : Es} {α : Type}
theorem s_nil (q : Q (.nx ρ)) : wS G C .nil pr ρ Q := by refine ⟨?_⟩; rw [go_nil]; exact q
theorem s_asg (hp : i ∉ pr) (h : wE G C e ρ fun d ρ1 => wS G C ss pr (ρ1.set i (some d)) Q) : wS G C (.cons (.asg (.nm i) e) ss) pr ρ Q := by
  obtain ⟨d, ρ1, h1, h2⟩ := h
  refine ⟨?_⟩; rw [go_nx (ev_asg hp h1)]; exact (h2).run
theorem s_asgT (hp : (is.any fun i => decide (i ∈ pr)) = false) (h : wE G C e ρ fun d ρ1 => ∃ ds, d = .tup ds ∧ ds.length = is.length ∧ wS G C ss pr (setAll is ds ρ1) Q) : wS G C (.cons (.asg (.tp is) e) ss) pr ρ Q := by
  obtain ⟨d, ρ1, h1, ds, rfl, h2, h3⟩ := h
  refine ⟨?_⟩
  rw [go_nx (ρ1 := setAll is ds ρ1)]
  · exact (h3).run
  · rw [exec, if_neg (by rw [hp]; exact Bool.false_ne_true), h1]
    dsimp only
    rw [Pat.bind, if_pos h2]
theorem s_asgX {Q' : Nat → Env → Prop} (hp : i ∉ pr) (h : xE G C e ρ fun c ρ1 => Q (.exc c ρ1)) : wS G C (.cons (.asg (.nm i) e) ss) pr ρ Q := by
  obtain ⟨c, ρ1, h1, h2⟩ := h
  refine ⟨?_⟩; rw [go_exc (i := c) (ρ1 := ρ1)]
  · exact h2
  · rw [exec, if_neg hp, h1]
theorem s_mov (hp : i ∉ pr) (hq : j ∉ pr) (h0 : ρ[j]? = some (some d)) (h : wS G C ss pr ((ρ.set j none).set i (some d)) Q) : wS G C (.cons (.mov i j) ss) pr ρ Q := by
  refine ⟨?_⟩; rw [go_nx (ρ1 := (ρ.set j none).set i (some d))]
  · exact (h).run
  · rw [exec, if_neg (fun z => z.elim hp hq), h0]
theorem s_app {ys : List D} (h0 : ρ[i]? = some (some (.lst ys))) (h : wE G C e ρ fun d ρ1 => ∃ xs, ρ1[i]? = some (some (.lst xs)) ∧ d.flat = true ∧ xs.length < 16777216 ∧ wS G C ss pr (ρ1.set i (some (.lst (xs ++ [d])))) Q) : wS G C (.cons (.app i e) ss) pr ρ Q := by
  obtain ⟨d, ρ1, h1, xs, h2, h3, h4, h5⟩ := h
  refine ⟨?_⟩; rw [go_nx (ρ1 := ρ1.set i (some (.lst (xs ++ [d]))))]
  · exact (h5).run
  · rw [exec, h0]; dsimp only; rw [h1]; dsimp only; rw [h2]; dsimp only; rw [if_pos ⟨h3, by rw [SZ_val]; exact h4⟩]
theorem s_seti {ix : E} (h : wE G C e ρ fun d ρ0 => (∃ ys, ρ0[i]? = some (some (.lst ys))) ∧ wE G C ix ρ0 fun kd ρ1 => ∃ n xs j, kd = .int n ∧ ρ1[i]? = some (some (.lst xs)) ∧ ixN xs.length n = some j ∧ d.flat = true ∧ wS G C ss pr (ρ1.set i (some (.lst (xs.set j d)))) Q) : wS G C (.cons (.seti i ix e) ss) pr ρ Q := by
  obtain ⟨d, ρ0, h1, ⟨ys, h0⟩, kd, ρ1, h2, n, xs, j, rfl, h3, h4, h5, h6⟩ := h
  refine ⟨?_⟩; rw [go_nx (ρ1 := ρ1.set i (some (.lst (xs.set j d))))]
  · exact (h6).run
  · rw [exec, h1]; dsimp only; rw [h0]; dsimp only; rw [h2]; dsimp only; rw [h3]; dsimp only; rw [h4]; dsimp only; rw [if_pos h5]
theorem thn_of {s : S} (h : thn G C ss pr Q (exec G C s pr ρ)) : wS G C (.cons s ss) pr ρ Q := by
  refine ⟨?_⟩
  rw [execs]
  cases r : exec G C s pr ρ <;> rw [r] at h <;> first | exact h | exact wS.run h
theorem s_ite (h : wE G C c ρ fun d ρ1 => blQ d fun b => (b = true → wS G C A pr ρ1 (thn G C ss pr Q)) ∧ (b = false → wS G C B pr ρ1 (thn G C ss pr Q))) : wS G C (.cons (.ite c A B) ss) pr ρ Q := by
  obtain ⟨d, ρ1, h1, b, rfl, h2, h3⟩ := h
  refine thn_of ?_
  cases b with
  | true => rw [ev_ite_t h1]; exact (h2 rfl).run
  | false => rw [ev_ite_f h1]; exact (h3 rfl).run
theorem th_nx (h : wS G C ss pr ρ Q) : thn G C ss pr Q (.nx ρ) := h
theorem th_rt (h : Q (.rt d ρ)) : thn G C ss pr Q (.rt d ρ) := h
theorem th_exc (h : Q (.exc i ρ)) : thn G C ss pr Q (.exc i ρ) := h
theorem th_bk (h : Q (.bk ρ)) : thn G C ss pr Q (.bk ρ) := h
theorem th_ct (h : Q (.ct ρ)) : thn G C ss pr Q (.ct ρ) := h
/-- an if both of whose ways are told -/
theorem ite_of {b : Bool} {P1 P2 : Prop} (h1 : b = true → P1) (h2 : b = false → P2) : (b = true → P1) ∧ (b = false → P2) := ⟨h1, h2⟩
theorem ite_t {b : Bool} {P1 P2 : Prop} (h : b = true) (h1 : P1) : (b = true → P1) ∧ (b = false → P2) := ⟨fun _ => h1, fun z => by rw [h] at z; cases z⟩
theorem ite_f {b : Bool} {P1 P2 : Prop} (h : b = false) (h2 : P2) : (b = true → P1) ∧ (b = false → P2) := ⟨fun z => (by rw [h] at z; cases z), fun _ => h2⟩
/-- the same, with or: the second is asked for where the first is false -/
theorem ite_f2 {b : Bool} {P1 P2 : Prop} (h : b = true) (h1 : P1) : (b = false → P2) ∧ (b = true → P1) := ⟨fun z => (by rw [h] at z; cases z), fun _ => h1⟩
theorem ite_t2 {b : Bool} {P1 P2 : Prop} (h : b = false) (h2 : P2) : (b = false → P2) ∧ (b = true → P1) := ⟨fun _ => h2, fun z => by rw [h] at z; cases z⟩
theorem s_ret (h : wE G C e ρ fun d ρ1 => Q (.rt d ρ1)) : wS G C (.cons (.ret e) ss) pr ρ Q := by
  obtain ⟨d, ρ1, h1, h2⟩ := h
  refine ⟨?_⟩; rw [go_rt (ev_ret h1)]; exact h2
theorem s_retX (h : xE G C e ρ fun d ρ1 => Q (.exc d ρ1)) : wS G C (.cons (.ret e) ss) pr ρ Q := by
  obtain ⟨c, ρ1, h1, h2⟩ := h
  refine ⟨?_⟩; rw [go_exc (i := c) (ρ1 := ρ1)]
  · exact h2
  · rw [exec, h1]
theorem s_retV (hp : i ∉ pr) (h0 : ρ[i]? = some (some d)) (h : Q (.rt d (ρ.set i none))) : wS G C (.cons (.retV i) ss) pr ρ Q := by
  refine ⟨?_⟩; rw [go_rt (d := d) (ρ1 := ρ.set i none)]
  · exact h
  · rw [exec, if_neg hp, h0]
theorem s_retN (h : Q (.rt .non ρ)) : wS G C (.cons .retN ss) pr ρ Q := by
  refine ⟨?_⟩; rw [go_rt (d := .non) (ρ1 := ρ)]
  · exact h
  · rw [exec]
theorem s_brk (h : Q (.bk ρ)) : wS G C (.cons .brk ss) pr ρ Q := by
  refine ⟨?_⟩; rw [execs, exec]; exact h
theorem s_cnt (h : Q (.ct ρ)) : wS G C (.cons .cnt ss) pr ρ Q := by
  refine ⟨?_⟩; rw [execs, exec]; exact h
theorem s_pass (h : wS G C ss pr ρ Q) : wS G C (.cons .pass ss) pr ρ Q := by
  refine ⟨?_⟩; rw [go_nx (ρ1 := ρ)]
  · exact (h).run
  · rw [exec]
theorem s_ex (h : wE G C e ρ fun d ρ1 => wS G C ss pr ρ1 Q) : wS G C (.cons (.ex e) ss) pr ρ Q := by
  obtain ⟨d, ρ1, h1, h2⟩ := h
  refine ⟨?_⟩; rw [go_nx (ρ1 := ρ1)]
  · exact (h2).run
  · rw [exec, h1]
theorem s_exX (h : xE G C e ρ fun c ρ1 => Q (.exc c ρ1)) : wS G C (.cons (.ex e) ss) pr ρ Q := by
  obtain ⟨c, ρ1, h1, h2⟩ := h
  refine ⟨?_⟩; rw [go_exc (i := c) (ρ1 := ρ1)]
  · exact h2
  · rw [exec, h1]
theorem s_rais (h : Q (.exc k ρ)) : wS G C (.cons (.rais k) ss) pr ρ Q := by
  refine ⟨?_⟩; rw [go_exc (i := k) (ρ1 := ρ)]
  · exact h
  · rw [exec]
theorem s_tryC {outs : List D} (hp : ¬ (i ∈ pr ∨ x ∈ pr)) (h : wS G C A pr ρ (tryQ G C m k i x outs ss pr Q)) : wS G C (.cons (.tryC m A k i x outs) ss) pr ρ Q := by
  refine thn_of ?_
  replace h := h.run
  rw [exec, if_neg hp]
  cases r : execs G C A pr ρ with
  | exc c ρ1 =>
    rw [r] at h
    obtain ⟨h1, ⟨h2, d, h3, h4⟩ | ⟨h2, h4⟩⟩ := h
    · dsimp only
      rw [if_neg (by omega), if_pos h2, h3]
      exact h4
    · dsimp only
      rw [if_neg (by omega), if_neg (by rw [h2]; exact Bool.false_ne_true)]
      exact h4
  | _ => rw [r] at h; exact h
theorem s_try {h0 : E} (h : wS G C A pr ρ (try0Q G C m k h0 ss pr Q)) : wS G C (.cons (.try_ m A k h0) ss) pr ρ Q := by
  refine thn_of ?_
  replace h := h.run
  rw [exec]
  cases r : execs G C A pr ρ with
  | exc c ρ1 =>
    rw [r] at h
    obtain ⟨h1, ⟨h2, d, h3, h4⟩ | ⟨h2, h4⟩⟩ := h
    · dsimp only
      rw [if_neg (by omega), if_pos h2, h3]
      exact h4
    · dsimp only
      rw [if_neg (by omega), if_neg (by rw [h2]; exact Bool.false_ne_true)]
      exact h4
  | _ => rw [r] at h; exact h
theorem tq_nx {outs : List D} (h : wS G C ss pr ρ Q) : tryQ G C m k i x outs ss pr Q (.nx ρ) := h
theorem tq_rt {outs : List D} (h : Q (.rt d ρ)) : tryQ G C m k i x outs ss pr Q (.rt d ρ) := h
theorem tq_exc {outs : List D} {c : Nat} (h1 : c < m) (h2 : catches c k = true) (h3 : outs[c]? = some d) (h : Q (.rt d (kills [i, x] ρ))) : tryQ G C m k i x outs ss pr Q (.exc c ρ) := ⟨h1, .inl ⟨h2, d, h3, h⟩⟩
theorem t0_nx {h0 : E} (h : wS G C ss pr ρ Q) : try0Q G C m k h0 ss pr Q (.nx ρ) := h
theorem t0_rt {h0 : E} (h : Q (.rt d ρ)) : try0Q G C m k h0 ss pr Q (.rt d ρ) := h
theorem t0_exc {h0 : E} {c : Nat} (h1 : c < m) (h2 : catches c k = true) (h3 : constE h0 = some d) (h : Q (.rt d ρ)) : try0Q G C m k h0 ss pr Q (.exc c ρ) := ⟨h1, .inl ⟨h2, d, h3, h⟩⟩
/-! ### what a turn of a loop ends in -/
def turnQ (ks : List Nat) (I : Env → Prop) (K Q : O → Prop) (o : O) : Prop := match o with
  | .nx ρ => I (kills ks ρ)
  | .ct ρ => I (kills ks ρ)
  | .bk ρ => K (.nx (kills ks ρ))
  | o => Q o
section
variable {I : Env → Prop} {K : O → Prop}
theorem tu_nx (h : I (kills ks ρ)) : turnQ ks I K Q (.nx ρ) := h
theorem tu_ct (h : I (kills ks ρ)) : turnQ ks I K Q (.ct ρ) := h
theorem tu_bk (h : K (.nx (kills ks ρ))) : turnQ ks I K Q (.bk ρ) := h
theorem tu_rt (h : Q (.rt d ρ)) : turnQ ks I K Q (.rt d ρ) := h
theorem tu_exc (h : Q (.exc i ρ)) : turnQ ks I K Q (.exc i ρ) := h
end
theorem forLoop_inv {chk : Env → Prop} [DecidablePred chk] {bd : Env → O} {K : O → Prop} (I : Nat → Env → Prop) :
    ∀ (xs : List D) (n : Nat) (ρ : Env), I n ρ → (∀ n ρ, I n ρ → chk ρ) →
      (∀ k y ρ, xs[k]? = some y → I (n + k) ρ → ∃ ρ1, p.bind y ρ = some ρ1 ∧ turnQ ks (I (n + k + 1)) K K (bd ρ1)) → (∀ ρ, I (n + xs.length) ρ → K (.nx ρ)) → K (forLoop chk p bd ks xs ρ)
  | [], n, ρ, h, hc, ht, hq => by
    unfold forLoop
    rw [if_pos (hc n ρ h)]
    exact hq ρ h
  | y :: xs, n, ρ, h, hc, ht, hq => by
    obtain ⟨ρ1, e1, q⟩ := ht 0 y ρ rfl h
    unfold forLoop
    rw [if_pos (hc n ρ h), e1]
    dsimp only
    have go : ∀ ρ2, I (n + 0 + 1) (kills ks ρ2) → K (forLoop chk p bd ks xs (kills ks ρ2)) := fun ρ2 h2 =>
      forLoop_inv I xs (n + 1) (kills ks ρ2) h2 hc (fun k z ρ hz hI => by
        have q := ht (k + 1) z ρ (by simpa using hz) (by rw [show n + (k + 1) = n + 1 + k by omega]; exact hI)
        rw [show n + (k + 1) = n + 1 + k by omega] at q
        exact q) fun ρ hI => hq ρ (by rw [show n + (y :: xs).length = n + 1 + xs.length by simp; omega]; exact hI)
    cases r : bd ρ1 with
    | nx ρ2 => rw [r] at q; exact go ρ2 q
    | ct ρ2 => rw [r] at q; exact go ρ2 q
    | bk ρ2 => rw [r] at q; exact q
    | rt d ρ2 => rw [r] at q; exact q
    | exc c ρ2 => rw [r] at q; exact q
    | stk => rw [r] at q; exact q
/-- a for, by an invariant of the turn and the names -/
theorem s_for (I : Nat → Env → Prop) (hk : ((ks ++ p.slots).any fun i => decide (i ∈ itRoot it ++ pr)) = false)
    (h : wL G C it ρ fun ds ρ1 => ∃ d xs, ds = [d] ∧ d.items? = some xs ∧ (∀ n ρ, I n ρ → still it d ρ) ∧ I 0 (kills ks ρ1) ∧
      (∀ n y ρ, xs[n]? = some y → I n ρ → ∃ ρ2, p.bind y ρ = some ρ2 ∧ wS G C body (itRoot it ++ pr) ρ2 (turnQ ks (I (n + 1)) (thn G C ss pr Q) (thn G C ss pr Q))) ∧
      ∀ ρ, I xs.length ρ → wS G C ss pr ρ Q) : wS G C (.cons (.for_ p it body ks) ss) pr ρ Q := by
  obtain ⟨ds, ρ1, h1, d, xs, rfl, h2, h3, h4, h5, h6⟩ := h
  refine thn_of ?_
  rw [exec, if_neg (by rw [hk]; exact Bool.false_ne_true), h1]
  dsimp only
  rw [h2]
  dsimp only
  refine forLoop_inv (K := thn G C ss pr Q) I xs 0 (kills ks ρ1) h4 h3 (fun k y ρ hy hI => ?_) fun ρ hI => ?_
  · rw [Nat.zero_add] at hI
    obtain ⟨ρ2, e1, q⟩ := h5 k y ρ hy hI
    rw [Nat.zero_add]
    exact ⟨ρ2, e1, q.run⟩
  · rw [Nat.zero_add] at hI
    exact h6 ρ hI
/-- a for over a range of naturals -/
theorem s_forN {es : Es} {lo cnt : Nat} (I : Nat → Env → Prop) (hk : ((ks ++ [i]).any fun i => decide (i ∈ ([] : List Nat) ++ pr)) = false)
    (h : wL G C (.cons (.op (.prim .range) es) .nil) ρ fun ds ρ1 => ds = [.rng ((lo : Nat) : Int) cnt] ∧ I 0 (kills ks ρ1))
    (ht : ∀ n ρ, n < cnt → I n ρ → wS G C body pr (ρ.set i (some (.int ((lo + n : Nat) : Int)))) (turnQ ks (I (n + 1)) (thn G C ss pr Q) (thn G C ss pr Q)))
    (hq : ∀ ρ, I cnt ρ → wS G C ss pr ρ Q) : wS G C (.cons (.for_ (.nm i) (.cons (.op (.prim .range) es) .nil) body ks) ss) pr ρ Q := by
  refine s_for I hk ?_
  obtain ⟨ds, ρ1, h1, rfl, h2⟩ := h
  refine ⟨_, ρ1, h1, _, _, rfl, rfl, fun _ _ _ => trivial, h2, fun n y ρ hy hI => ?_, fun ρ hI => hq ρ (by simpa using hI)⟩
  rw [List.getElem?_map] at hy
  have hn : n < cnt := by
    cases z : (List.range cnt)[n]? with
    | none => rw [z] at hy; cases hy
    | some w => have := (List.getElem?_eq_some_iff.mp z).1; simpa using this
  rw [List.getElem?_range hn] at hy
  have hy' : D.int ((lo : Int) + (n : Nat)) = y := by simpa using hy
  refine ⟨_, by rw [← hy']; rfl, ?_⟩
  have q := ht n ρ hn hI
  rw [Int.natCast_add] at q
  exact q
theorem s_for0 {es : Es} {cnt : Nat} (I : Nat → Env → Prop) (hk : ((ks ++ [i]).any fun i => decide (i ∈ ([] : List Nat) ++ pr)) = false)
    (h : wL G C (.cons (.op (.prim .range) es) .nil) ρ fun ds ρ1 => ds = [.rng 0 cnt] ∧ I 0 (kills ks ρ1))
    (ht : ∀ n ρ, n < cnt → I n ρ → wS G C body pr (ρ.set i (some (.int ((n : Nat) : Int)))) (turnQ ks (I (n + 1)) (thn G C ss pr Q) (thn G C ss pr Q)))
    (hq : ∀ ρ, I cnt ρ → wS G C ss pr ρ Q) : wS G C (.cons (.for_ (.nm i) (.cons (.op (.prim .range) es) .nil) body ks) ss) pr ρ Q :=
  s_forN (lo := 0) I hk h (fun n ρ hn hI => by rw [Nat.zero_add]; exact ht n ρ hn hI) hq
/-- a for over a list of data of a kind, held by a name or an expression -/
theorem s_forM {l : List α} {f : α → D} (I : Nat → Env → Prop) (hk : ((ks ++ p.slots).any fun i => decide (i ∈ itRoot it ++ pr)) = false)
    (h : wL G C it ρ fun ds ρ1 => ∃ d, ds = [d] ∧ d.items? = some (l.map f) ∧ (∀ n ρ, I n ρ → still it d ρ) ∧ I 0 (kills ks ρ1))
    (ht : ∀ n y ρ, l[n]? = some y → I n ρ → ∃ ρ2, p.bind (f y) ρ = some ρ2 ∧ wS G C body (itRoot it ++ pr) ρ2 (turnQ ks (I (n + 1)) (thn G C ss pr Q) (thn G C ss pr Q)))
    (hq : ∀ ρ, I l.length ρ → wS G C ss pr ρ Q) : wS G C (.cons (.for_ p it body ks) ss) pr ρ Q := by
  refine s_for I hk ?_
  obtain ⟨ds, ρ1, h1, d, rfl, h2, h3, h4⟩ := h
  refine ⟨_, ρ1, h1, d, _, rfl, h2, h3, h4, fun n y ρ hy hI => ?_, fun ρ hI => hq ρ (by simpa using hI)⟩
  rw [List.getElem?_map] at hy
  cases z : l[n]? with
  | none => rw [z] at hy; cases hy
  | some w =>
    rw [z] at hy
    have hy' : f w = y := by simpa using hy
    rw [← hy']
    exact ht n w ρ z hI
theorem whlLoop_inv {c : Env → R D} {bd : Env → O} {K : O → Prop} (I : Env → Prop) (mu : Env → Nat)
    (turn : ∀ ρ, I ρ → ∃ b ρ1, c ρ = .ok (.bl b) ρ1 ∧ (b = true → turnQ ks (fun ρ' => I ρ' ∧ mu ρ' < mu ρ) K K (bd ρ1)) ∧ (b = false → K (.nx ρ1))) :
    ∀ (n : Nat) (ρ : Env), I ρ → mu ρ < n → K (whlLoop c bd ks n ρ)
  | 0, ρ, h, l => by omega
  | n + 1, ρ, h, l => by
    obtain ⟨b, ρ1, e1, h1, h2⟩ := turn ρ h
    unfold whlLoop
    rw [e1]
    cases b with
    | false => exact h2 rfl
    | true =>
      have q := h1 rfl
      dsimp only
      cases r : bd ρ1 with
      | nx ρ2 => rw [r] at q; exact whlLoop_inv I mu turn n _ q.1 (by have := q.2; omega)
      | ct ρ2 => rw [r] at q; exact whlLoop_inv I mu turn n _ q.1 (by have := q.2; omega)
      | bk ρ2 => rw [r] at q; exact q
      | rt d ρ2 => rw [r] at q; exact q
      | exc c ρ2 => rw [r] at q; exact q
      | stk => rw [r] at q; exact q
theorem s_whl {fu : Env → Nat} (I : Env → Prop) (mu : Env → Nat) (hk : (ks.any fun i => decide (i ∈ pr)) = false) (h0 : I (kills ks ρ)) (hf : mu (kills ks ρ) < fu (kills ks ρ))
    (turn : ∀ ρ, I ρ → wE G C c ρ fun d ρ1 => blQ d fun b => (b = true → wS G C body pr ρ1 (turnQ ks (fun ρ' => I ρ' ∧ mu ρ' < mu ρ) (thn G C ss pr Q) (thn G C ss pr Q))) ∧ (b = false → wS G C ss pr ρ1 Q)) :
    wS G C (.cons (.whl fu c body ks) ss) pr ρ Q := by
  refine thn_of ?_
  rw [exec, if_neg (by rw [hk]; exact Bool.false_ne_true)]
  refine whlLoop_inv (K := thn G C ss pr Q) I mu (fun ρ hI => ?_) _ _ h0 hf
  obtain ⟨d, ρ1, h1, b, rfl, h2, h3⟩ := turn ρ hI
  exact ⟨b, ρ1, h1, fun z => (h2 z).run, h3⟩
/-! ### comprehensions -/
theorem set_set_none {ρ : Env} {i : Nat} {o : Option D} (h : ρ[i]? = some none) : (ρ.set i o).set i none = ρ := by
  rw [List.set_set]
  apply List.ext_getElem?
  intro j
  rw [List.getElem?_set]
  by_cases e : i = j
  · subst e
    have hi : i < ρ.length := (List.getElem?_eq_some_iff.mp h).1
    rw [if_pos rfl, if_pos hi, h]
  · rw [if_neg e]
theorem set_none {ρ : Env} {i : Nat} (h : ρ[i]? = some none) : ρ.set i none = ρ := by
  have e := set_set_none (o := none) h
  rwa [List.set_set] at e
section
variable {Q : D → Env → Prop} {q : α → Bool} {g : α → D} {l : List α} {f : α → D}
/-- a comprehension over data of a kind, one name, one test -/
theorem w_compQ (hi : ρ[i]? = some none) (hl : l.length ≤ 1000000)
    (h : wL G C it ρ fun ds ρ1 => ∃ d, ds = [d] ∧ ρ1 = ρ ∧ d.items? = some (l.map f) ∧ still it d ρ)
    (hc : ∀ y ∈ l, (f y).flat = true ∧ wC G C cs (ρ.set i (some (f y))) fun d ρ1 => d = .bl (q y) ∧ ρ1 = ρ.set i (some (f y)))
    (he : ∀ y ∈ l, q y = true → wE G C elt (ρ.set i (some (f y))) fun d ρ1 => d = g y ∧ d.flat = true ∧ ρ1 = ρ.set i (some (f y)))
    (hq : Q (.lst ((l.filter q).map g)) ρ) : wE G C (.comp (.nm i) it cs elt) ρ Q := by
  obtain ⟨ds, ρ1, h1, d, rfl, rfl, h2, h3⟩ := h
  have e0 : kills [i] ρ1 = ρ1 := set_none hi
  have lp : ∃ acc', compLoop (still it d) (.nm i) (evalC G C cs) (evalE G C elt) (l.map f) [] ρ1 = .ok acc' ρ1 ∧ acc' = (l.filter q).map g := by
    obtain ⟨_, acc, l1, l2⟩ := comp_fold (St := Unit) (still it d) (p := .nm i) (c := evalC G C cs) (f := evalE G C elt) (fun _ => ρ1) (fun n _ acc => acc = ((l.take n).filter q).map g) (l.map f) 0 () [] (by simp) (fun _ _ _ _ => h3) (fun n y _ acc hy hacc => by
      rw [List.getElem?_map] at hy
      cases z : l[n]? with
      | none => rw [z] at hy; cases hy
      | some w =>
        rw [z] at hy
        have hy' : f w = y := by simpa using hy
        subst hy'
        have hm : w ∈ l := List.mem_of_getElem? z
        have hn : n < l.length := (List.getElem?_eq_some_iff.mp z).1
        obtain ⟨hfl, dc, ρc, ec, rfl, rfl⟩ := hc w hm
        rw [Nat.zero_add] at hacc
        rw [Nat.zero_add]
        have et : l.take (n + 1) = l.take n ++ [w] := by rw [List.take_add_one, z]; rfl
        refine ⟨ρ1.set i (some (f w)), ?_, ?_⟩
        · show Pat.bind (.nm i) (f w) (kills [i] ρ1) = _
          rw [e0, bind_nm, if_pos hfl]
        · by_cases zq : q w = true
          · obtain ⟨de, ρe, ee, rfl, hf, rfl⟩ := he w hm zq
            rw [zq] at ec
            refine .inr ⟨_, _, _, (), ec, ee, hf, ?_, set_set_none hi, ?_⟩
            · rw [hacc, List.length_map]
              have l3 := List.length_filter_le q (l.take n)
              rw [List.length_take] at l3
              rw [SZ_val]
              omega
            · rw [hacc, et]; simp [zq]
          · have zq' : q w = false := by simpa using zq
            rw [zq'] at ec
            refine .inl ⟨_, (), ec, set_set_none hi, ?_⟩
            rw [hacc, et]; simp [zq'])
    rw [List.length_map, Nat.zero_add] at l2
    exact ⟨acc, l1, by rw [l2, List.take_length]⟩
  obtain ⟨acc, l1, rfl⟩ := lp
  exact ⟨_, ρ1, ev_comp h1 h2 (by show compLoop _ _ _ _ _ _ (kills [i] ρ1) = _; rw [e0]; exact l1), hq⟩
theorem w_comp (hi : ρ[i]? = some none) (hl : l.length ≤ 1000000)
    (h : wL G C it ρ fun ds ρ1 => ∃ d, ds = [d] ∧ ρ1 = ρ ∧ d.items? = some (l.map f) ∧ still it d ρ)
    (hf : ∀ y ∈ l, (f y).flat = true)
    (he : ∀ y ∈ l, wE G C elt (ρ.set i (some (f y))) fun d ρ1 => d = g y ∧ d.flat = true ∧ ρ1 = ρ.set i (some (f y)))
    (hq : Q (.lst (l.map g)) ρ) : wE G C (.comp (.nm i) it .nil elt) ρ Q :=
  w_compQ (q := fun _ => true) hi hl h (fun y hy => ⟨hf y hy, wC_nil ⟨rfl, rfl⟩⟩) (fun y hy _ => he y hy) (by rw [List.filter_eq_self.mpr fun _ _ => rfl]; exact hq)
end
section
variable {Q : D → Env → Prop} {q : Nat → Bool} {g : Nat → D} {es : Es} {n lo : Nat}
theorem rng_items0 : D.items? (.rng 0 n) = some ((List.range n).map fun k => D.int ((k : Nat) : Int)) := by
  rw [items_rng]; simp
theorem rng_itemsN : D.items? (.rng ((lo : Nat) : Int) n) = some ((List.range n).map fun k => D.int ((lo + k : Nat) : Int)) := by
  rw [items_rng]
  congr 1
/-- over a range from 0, with a test -/
theorem w_cRq (hi : ρ[i]? = some none) (h : wL G C (.cons (.op (.prim .range) es) .nil) ρ fun ds ρ1 => ds = [.rng 0 n] ∧ ρ1 = ρ) (hl : n ≤ 1000000)
    (hc : ∀ y, y < n → wC G C cs (ρ.set i (some (.int ((y : Nat) : Int)))) fun d ρ1 => d = .bl (q y) ∧ ρ1 = ρ.set i (some (.int ((y : Nat) : Int))))
    (he : ∀ y, y < n → q y = true → wE G C elt (ρ.set i (some (.int ((y : Nat) : Int)))) fun d ρ1 => d = g y ∧ d.flat = true ∧ ρ1 = ρ.set i (some (.int ((y : Nat) : Int))))
    (hq : Q (.lst (((List.range n).filter q).map g)) ρ) : wE G C (.comp (.nm i) (.cons (.op (.prim .range) es) .nil) cs elt) ρ Q :=
  w_compQ (l := List.range n) (f := fun k => D.int ((k : Nat) : Int)) hi (by rw [List.length_range]; exact hl) (by
    obtain ⟨ds, ρ1, h1, rfl, rfl⟩ := h
    exact ⟨_, _, h1, _, rfl, rfl, rng_items0, trivial⟩) (fun y hy => ⟨rfl, hc y (List.mem_range.mp hy)⟩) (fun y hy => he y (List.mem_range.mp hy)) hq
theorem w_cR (hi : ρ[i]? = some none) (h : wL G C (.cons (.op (.prim .range) es) .nil) ρ fun ds ρ1 => ds = [.rng 0 n] ∧ ρ1 = ρ) (hl : n ≤ 1000000)
    (he : ∀ y, y < n → wE G C elt (ρ.set i (some (.int ((y : Nat) : Int)))) fun d ρ1 => d = g y ∧ d.flat = true ∧ ρ1 = ρ.set i (some (.int ((y : Nat) : Int))))
    (hq : Q (.lst ((List.range n).map g)) ρ) : wE G C (.comp (.nm i) (.cons (.op (.prim .range) es) .nil) .nil elt) ρ Q :=
  w_comp (l := List.range n) (f := fun k => D.int ((k : Nat) : Int)) hi (by rw [List.length_range]; exact hl) (by
    obtain ⟨ds, ρ1, h1, rfl, rfl⟩ := h
    exact ⟨_, _, h1, _, rfl, rfl, rng_items0, trivial⟩) (fun y hy => rfl) (fun y hy => he y (List.mem_range.mp hy)) hq
/-- over a range from a natural, with a test -/
theorem w_cNq (hi : ρ[i]? = some none) (h : wL G C (.cons (.op (.prim .range) es) .nil) ρ fun ds ρ1 => ds = [.rng ((lo : Nat) : Int) n] ∧ ρ1 = ρ) (hl : n ≤ 1000000)
    (hc : ∀ y, y < n → wC G C cs (ρ.set i (some (.int ((lo + y : Nat) : Int)))) fun d ρ1 => d = .bl (q y) ∧ ρ1 = ρ.set i (some (.int ((lo + y : Nat) : Int))))
    (he : ∀ y, y < n → q y = true → wE G C elt (ρ.set i (some (.int ((lo + y : Nat) : Int)))) fun d ρ1 => d = g y ∧ d.flat = true ∧ ρ1 = ρ.set i (some (.int ((lo + y : Nat) : Int))))
    (hq : Q (.lst (((List.range n).filter q).map g)) ρ) : wE G C (.comp (.nm i) (.cons (.op (.prim .range) es) .nil) cs elt) ρ Q :=
  w_compQ (l := List.range n) (f := fun k => D.int ((lo + k : Nat) : Int)) hi (by rw [List.length_range]; exact hl) (by
    obtain ⟨ds, ρ1, h1, rfl, rfl⟩ := h
    exact ⟨_, _, h1, _, rfl, rfl, rng_itemsN, trivial⟩) (fun y hy => ⟨rfl, hc y (List.mem_range.mp hy)⟩) (fun y hy => he y (List.mem_range.mp hy)) hq
theorem w_cN (hi : ρ[i]? = some none) (h : wL G C (.cons (.op (.prim .range) es) .nil) ρ fun ds ρ1 => ds = [.rng ((lo : Nat) : Int) n] ∧ ρ1 = ρ) (hl : n ≤ 1000000)
    (he : ∀ y, y < n → wE G C elt (ρ.set i (some (.int ((lo + y : Nat) : Int)))) fun d ρ1 => d = g y ∧ d.flat = true ∧ ρ1 = ρ.set i (some (.int ((lo + y : Nat) : Int))))
    (hq : Q (.lst ((List.range n).map g)) ρ) : wE G C (.comp (.nm i) (.cons (.op (.prim .range) es) .nil) .nil elt) ρ Q :=
  w_comp (l := List.range n) (f := fun k => D.int ((lo + k : Nat) : Int)) hi (by rw [List.length_range]; exact hl) (by
    obtain ⟨ds, ρ1, h1, rfl, rfl⟩ := h
    exact ⟨_, _, h1, _, rfl, rfl, rng_itemsN, trivial⟩) (fun y hy => rfl) (fun y hy => he y (List.mem_range.mp hy)) hq
end
/-! ### a def -/
def RetE (ds : List D) (P : D → List D → Prop) (o : O) : Prop := match o with
  | .rt d ρ => ∃ ds', finals ds ρ = some ds' ∧ P d ds'
  | .nx ρ => ∃ ds', finals ds ρ = some ds' ∧ P .non ds'
  | _ => False
def ExcE (ds : List D) (P : Nat → List D → Prop) (o : O) : Prop := match o with
  | .exc d ρ => ∃ ds', finals ds ρ = some ds' ∧ P d ds'
  | _ => False
theorem re_rt {P : D → List D → Prop} {ds' : List D} (h : finals ds ρ = some ds') (hp : P d ds') : RetE ds P (.rt d ρ) := ⟨ds', h, hp⟩
theorem re_nx {P : D → List D → Prop} {ds' : List D} (h : finals ds ρ = some ds') (hp : P .non ds') : RetE ds P (.nx ρ) := ⟨ds', h, hp⟩
theorem xe_exc {P : Nat → List D → Prop} {ds' : List D} (h : finals ds ρ = some ds') (hp : P i ds') : ExcE ds P (.exc i ρ) := ⟨ds', h, hp⟩
theorem run_e {P : D → List D → Prop} {n : Nat} (hf : fits pr 0 ds = true) (h : wS G C body pr (ds.map some ++ List.replicate (n - ds.length) none) (RetE ds P)) : ∃ d ds', runDef G C body n pr ds = .ok d ds' ∧ P d ds' := by
  replace h := h.run
  rw [runDef, if_pos hf]
  cases r : execs G C body pr (ds.map some ++ List.replicate (n - ds.length) none) with
  | nx ρ => rw [r] at h; obtain ⟨ds', h1, h2⟩ := h; exact ⟨_, ds', by dsimp only; rw [h1], h2⟩
  | rt d ρ => rw [r] at h; obtain ⟨ds', h1, h2⟩ := h; exact ⟨_, ds', by dsimp only; rw [h1], h2⟩
  | _ => rw [r] at h; exact h.elim
theorem run_q {r : D} {ds' : List D} {n : Nat} (hf : fits pr 0 ds = true) (h : wS G C body pr (ds.map some ++ List.replicate (n - ds.length) none) (RetE ds fun d es => d = r ∧ es = ds')) : runDef G C body n pr ds = .ok r ds' := by
  obtain ⟨d, es, h1, rfl, rfl⟩ := run_e hf h
  exact h1
theorem run_x {ds' : List D} {n : Nat} (hf : fits pr 0 ds = true) (h : wS G C body pr (ds.map some ++ List.replicate (n - ds.length) none) (ExcE ds fun d es => d = i ∧ es = ds')) : runDef G C body n pr ds = .exc i ds' := by
  replace h := h.run
  rw [runDef, if_pos hf]
  cases r : execs G C body pr (ds.map some ++ List.replicate (n - ds.length) none) with
  | exc d ρ => rw [r] at h; obtain ⟨ds', h1, rfl, rfl⟩ := h; dsimp only; rw [h1]
  | _ => rw [r] at h; exact h.elim
end
end Mi

/-! draws towards a promise -/
namespace Mi
section
variable {G : List Fn} {C : List D} {ρ : Env} {Q : D → Env → Prop} {es : Es} {i j n : Nat} {f : Fn} {d : D} {s : List Nat}
theorem c_take (hj : G[j]? = some f) (t : Tk f) (hd : Dr d) (h0 : 0 < n) (h1 : n < 1000000000) (q : ∀ (r : Nat) (d1 : D), r < n → Dr d1 → Q (.int ((r : Nat) : Int)) (ρ.set i (some d1))) : callQ G j (.cons (.var i) es) [d, .int ((n : Nat) : Int)] ρ Q := by
  obtain ⟨r, d1, e, l, u, hd1⟩ := t d (n : Nat) hd (by omega) (by omega)
  obtain ⟨k, rfl⟩ := Int.eq_ofNat_of_zero_le l
  exact call_dr hj e hd.flat rfl (q k d1 (by omega) hd1)
theorem c_begin {ns : List Int} (hj : G[j]? = some f) (hb : ∃ d', f [.fls (ns.map D.int)] = .ok d' [.fls (ns.map D.int)] ∧ Dr d') (q : ∀ d1, Dr d1 → Q d1 ρ) : callQ G j es [.fls (ns.map D.int)] ρ Q := by
  obtain ⟨d1, e, h1⟩ := hb
  exact call_of hj e rfl (q d1 h1)
theorem c_signs (hj : G[j]? = some f) (hs : ∀ {d : D} (hd : Dr d), ∃ s d', f [d] = .ok (.str s) [d'] ∧ Sg s ∧ Dr d') (hd : Dr d) (q : ∀ (s : List Nat) d1, s ≠ [] → 0 < s.length → s.length ≤ 10 → (∀ c ∈ s, c < 128) → Dr d1 → Q (.str s) (ρ.set i (some d1))) : callQ G j (.cons (.var i) es) [d] ρ Q := by
  obtain ⟨s, d1, e, h1, h2⟩ := hs hd
  exact call_dr hj e hd.flat rfl (q s d1 h1.1 h1.pos h1.2.1 h1.2.2 h2)
theorem c_text (hj : G[j]? = some f) (t : Tx f) (hd : Dr d) (hs : s ≠ []) (hs2 : s.length ≤ 1000) (hn : n ≤ 100000) (q : ∀ (x : List Nat) d1, x.length = n → (∀ c ∈ x, c ∈ s) → Dr d1 → Q (.str x) (ρ.set i (some d1))) : callQ G j (.cons (.var i) es) [d, .str s, .int ((n : Nat) : Int)] ρ Q := by
  obtain ⟨x, d1, e, l, u, hd1⟩ := t d s (n : Nat) hd hs hs2 (by omega) (by omega)
  exact call_dr hj e hd.flat rfl (q x d1 (by simpa using l) u hd1)
theorem c_rich (hj : G[j]? = some f) (t : Rc f) (hd : Dr d) (hs : s ≠ []) (hs2 : s.length ≤ 1000) (hn : n ≤ 100000) (q : ∀ (x : List Nat) d1, x.length = n → (∀ c ∈ x, c ∈ s) → Dr d1 → Q (.str x) (ρ.set i (some d1))) : callQ G j (.cons (.var i) es) [d, .str s, .int ((n : Nat) : Int)] ρ Q := c_text hj t hd hs hs2 hn q
/-- a draw that is given as a promise: the answer and the draws behind it -/
theorem c_dr {P : D → Prop} {ds : List D} (hj : G[j]? = some f) (hf : ∃ r d1 ds', f (d :: ds) = .ok r (d1 :: ds') ∧ P r ∧ Dr d1) (hd : Dr d) (fl : ds.all D.flat = true) (q : ∀ r d1, P r → Dr d1 → Q r (ρ.set i (some d1))) : callQ G j (.cons (.var i) es) (d :: ds) ρ Q := by
  obtain ⟨r, d1, ds', e, h1, h2⟩ := hf
  exact call_dr hj e hd.flat fl (q r d1 h1 h2)
end
theorem ite_p {b : Bool} {p P1 P2 : Prop} (hb : b = true ↔ p) (h1 : p → P1) (h2 : ¬ p → P2) : (b = true → P1) ∧ (b = false → P2) := ⟨fun z => h1 (hb.mp z), fun z => h2 fun w => by rw [hb.mpr w] at z; cases z⟩
theorem ite_p2 {b : Bool} {p P1 P2 : Prop} (hb : b = true ↔ p) (h1 : p → P1) (h2 : ¬ p → P2) : (b = false → P2) ∧ (b = true → P1) := ⟨fun z => h2 fun w => (by rw [hb.mpr w] at z; cases z), fun z => h1 (hb.mp z)⟩
def toRF (ds : List D) (o : O) : RF := match o with
  | .nx ρ => match finals ds ρ with
    | some ds' => .ok .non ds'
    | none => .stk
  | .rt d ρ => match finals ds ρ with
    | some ds' => .ok d ds'
    | none => .stk
  | .exc c ρ => match finals ds ρ with
    | some ds' => .exc c ds'
    | none => .stk
  | _ => .stk
structure Fin (ds : List D) (r : RF) (o : O) : Prop where
  eq : toRF ds o = r
structure Eqq {α : Type} (a b : α) : Prop where
  eq : a = b
section
variable {ds ds' : List D} {r : RF} {ρ : Env} {d : D} {i : Nat}
theorem fin_rt (h : finals ds ρ = some ds') (q : Eqq (RF.ok d ds') r) : Fin ds r (.rt d ρ) := ⟨by rw [← q.eq, toRF, h]⟩
theorem fin_nx (h : finals ds ρ = some ds') (q : Eqq (RF.ok .non ds') r) : Fin ds r (.nx ρ) := ⟨by rw [← q.eq, toRF, h]⟩
theorem fin_exc (h : finals ds ρ = some ds') (q : Eqq (RF.exc i ds') r) : Fin ds r (.exc i ρ) := ⟨by rw [← q.eq, toRF, h]⟩
theorem run_o {G : List Fn} {C : List D} {body : Ss} {pr : List Nat} {n : Nat} (hf : fits pr 0 ds = true) (h : wS G C body pr (ds.map some ++ List.replicate (n - ds.length) none) (Fin ds r)) : runDef G C body n pr ds = r := by
  have h := h.run.eq
  rw [runDef, if_pos hf]
  cases q : execs G C body pr (ds.map some ++ List.replicate (n - ds.length) none) <;> rw [q] at h <;> exact h
end
theorem rep_len {α : Type} {s : List α} {n : Nat} : (List.replicate n s).flatten.length = n * s.length := by simp
theorem nI_eq {n : Nat} {i : Int} (h : (n : Int) = i) : D.int i = nI n := by rw [← h]
def Ss.tk : Nat → Ss → Ss
  | n + 1, .cons s ss => .cons s (Ss.tk n ss)
  | _, _ => .nil
def Ss.dp : Nat → Ss → Ss
  | n + 1, .cons s ss => Ss.dp n ss
  | _, ss => ss
theorem exec_tk {G : List Fn} {C : List D} {pr : List Nat} : ∀ (n : Nat) (ss : Ss) (ρ ρ' : Env), execs G C (ss.tk n) pr ρ = .nx ρ' → execs G C ss pr ρ = execs G C (ss.dp n) pr ρ'
  | 0, ss, ρ, ρ', h => by
    have h' : execs G C .nil pr ρ = .nx ρ' := by cases ss <;> exact h
    rw [go_nil] at h'
    cases h'
    cases ss <;> rfl
  | n + 1, .nil, ρ, ρ', h => by
    have h' : execs G C .nil pr ρ = .nx ρ' := h
    rw [go_nil] at h'
    cases h'
    rfl
  | n + 1, .cons s ss, ρ, ρ', h => by
    have h' : execs G C (.cons s (ss.tk n)) pr ρ = .nx ρ' := h
    rw [execs] at h'
    show execs G C (.cons s ss) pr ρ = execs G C (ss.dp n) pr ρ'
    rw [execs]
    cases r : exec G C s pr ρ with
    | nx ρ1 => rw [r] at h'; exact exec_tk n ss ρ1 ρ' h'
    | _ => rw [r] at h'; cases h'
structure NxQ (I : Env → Prop) (o : O) : Prop where
  ex : ∃ ρ, o = .nx ρ ∧ I ρ
section
variable {G : List Fn} {C : List D} {pr : List Nat} {ρ : Env} {s : S} {ss : Ss} {Q : O → Prop} {e : E} {i j : Nat} {es : Es}
theorem nx_of {I : Env → Prop} (h : I ρ) : NxQ I (.nx ρ) := ⟨ρ, rfl, h⟩
/-- a statement up to what is known behind it -/
theorem s_mid (I : Env → Prop) (h : wS G C (.cons s .nil) pr ρ (NxQ I)) (k : ∀ ρ', I ρ' → wS G C ss pr ρ' Q) : wS G C (.cons s ss) pr ρ Q := by
  obtain ⟨ρ', e, hI⟩ := h.run.ex
  refine ⟨?_⟩
  rw [execs] at e ⊢
  cases r : exec G C s pr ρ <;> rw [r] at e
  case nx ρ1 =>
    dsimp only at e
    rw [go_nil] at e
    cases e
    exact (k _ hI).run
  all_goals cases e
/-- the first n statements -/
theorem s_upto (n : Nat) (I : Env → Prop) (h : wS G C (ss.tk n) pr ρ (NxQ I)) (k : ∀ ρ', I ρ' → wS G C (ss.dp n) pr ρ' Q) : wS G C ss pr ρ Q := by
  obtain ⟨ρ', e, hI⟩ := h.run.ex
  refine ⟨?_⟩
  rw [exec_tk n ss ρ ρ' e]
  exact (k ρ' hI).run
/-- an expression up to what is known of its value -/
theorem w_mid {Q : D → Env → Prop} (I : D → Env → Prop) (h : wE G C e ρ I) (k : ∀ d ρ', I d ρ' → Q d ρ') : wE G C e ρ Q := by
  obtain ⟨d, ρ', e1, h1⟩ := h
  exact ⟨d, ρ', e1, k d ρ' h1⟩
theorem s_for0Q {body : Ss} {ks : List Nat} (I : Nat → Env → Prop) (hk : ((ks ++ [i]).any fun i => decide (i ∈ ([] : List Nat) ++ pr)) = false)
    (h : wL G C (.cons (.op (.prim .range) es) .nil) ρ fun ds ρ1 => ∃ cnt, ds = [.rng 0 cnt] ∧ I 0 (kills ks ρ1) ∧
      (∀ n ρ, n < cnt → I n ρ → wS G C body pr (ρ.set i (some (.int ((n : Nat) : Int)))) (turnQ ks (I (n + 1)) (thn G C ss pr Q) (thn G C ss pr Q))) ∧ ∀ ρ, I cnt ρ → wS G C ss pr ρ Q) : wS G C (.cons (.for_ (.nm i) (.cons (.op (.prim .range) es) .nil) body ks) ss) pr ρ Q := by
  obtain ⟨ds, ρ1, h1, cnt, rfl, h2, h3, h4⟩ := h
  have e : evalL G C (.cons (.op (.prim .range) es) .nil) ρ = .ok [.rng 0 cnt] ρ1 := h1
  refine s_for I hk ⟨_, ρ1, h1, _, _, rfl, rfl, fun _ _ _ => trivial, h2, fun n y ρ hy hI => ?_, fun ρ hI => h4 ρ (by simpa using hI)⟩
  rw [List.getElem?_map] at hy
  have hn : n < cnt := by
    cases z : (List.range cnt)[n]? with
    | none => rw [z] at hy; cases hy
    | some w => have := (List.getElem?_eq_some_iff.mp z).1; simpa using this
  rw [List.getElem?_range hn] at hy
  have hy' : D.int (0 + (n : Nat)) = y := by simpa using hy
  refine ⟨_, by rw [← hy']; rfl, ?_⟩
  rw [Int.zero_add]
  exact h3 n ρ hn hI
/-- a for over a range downwards -/
theorem s_forD {body : Ss} {ks : List Nat} (I : Nat → Env → Prop) (hk : ((ks ++ [i]).any fun i => decide (i ∈ ([] : List Nat) ++ pr)) = false)
    (h : wL G C (.cons (.op (.prim .range) es) .nil) ρ fun ds ρ1 => ∃ a cnt : Nat, ds = [.rdn ((a : Nat) : Int) cnt] ∧ cnt ≤ a ∧ I 0 (kills ks ρ1) ∧
      (∀ n ρ, n < cnt → I n ρ → wS G C body pr (ρ.set i (some (.int ((a - n : Nat) : Int)))) (turnQ ks (I (n + 1)) (thn G C ss pr Q) (thn G C ss pr Q))) ∧ ∀ ρ, I cnt ρ → wS G C ss pr ρ Q) : wS G C (.cons (.for_ (.nm i) (.cons (.op (.prim .range) es) .nil) body ks) ss) pr ρ Q := by
  obtain ⟨ds, ρ1, h1, a, cnt, rfl, hc, h2, h3, h4⟩ := h
  refine s_for I hk ⟨_, ρ1, h1, _, _, rfl, rfl, fun _ _ _ => trivial, h2, fun n y ρ hy hI => ?_, fun ρ hI => h4 ρ (by simpa using hI)⟩
  rw [List.getElem?_map] at hy
  have hn : n < cnt := by
    cases z : (List.range cnt)[n]? with
    | none => rw [z] at hy; cases hy
    | some w => have := (List.getElem?_eq_some_iff.mp z).1; simpa using this
  rw [List.getElem?_range hn] at hy
  have hy' : D.int ((a : Int) - (n : Nat)) = y := by simpa using hy
  refine ⟨_, by rw [← hy']; rfl, ?_⟩
  have q := h3 n ρ hn hI
  rw [show ((a - n : Nat) : Int) = (a : Int) - (n : Nat) by omega] at q
  exact q
theorem o_rngD0 {P : D → Prop} {a : Nat} (h : a ≤ 1000000000) (p : P (.rdn ((a : Nat) : Int) a)) : opQ (.prim .range) [.int ((a : Nat) : Int), .int ((0 : Nat) : Int), .int (-((1 : Nat) : Int))] P :=
  o_rngD (i := (a : Nat)) (j := ((0 : Nat) : Int)) (by omega) (by omega) (by rw [show ((a : Int) - ((0 : Nat) : Int)).toNat = a by omega]; exact p)
theorem o_neBl {P : D → Prop} {x y : Bool} (p : P (.bl (!(x == y)))) : opQ (.cmp .ne) [.bl x, .bl y] P := ⟨_, rfl, p⟩
theorem o_eqBl {P : D → Prop} {x y : Bool} (p : P (.bl (x == y))) : opQ (.cmp .eq) [.bl x, .bl y] P := ⟨_, rfl, p⟩
theorem in_nats {k : Int} {l : List Nat} : (l.map nI).any (fun y => D.peq y (.int k)) = decide (k ∈ l.map fun n => ((n : Nat) : Int)) := by
  rw [Bool.eq_iff_iff, List.any_eq_true, decide_eq_true_iff]
  constructor
  · rintro ⟨_, hy, hp⟩
    obtain ⟨y, hy2, rfl⟩ := List.mem_map.mp hy
    exact List.mem_map.mpr ⟨y, hy2, of_decide_eq_true hp⟩
  · intro hx
    obtain ⟨y, hy, rfl⟩ := List.mem_map.mp hx
    exact ⟨nI y, List.mem_map.mpr ⟨y, hy, rfl⟩, by rw [peq_int]; simp⟩
theorem o_inNT {P : D → Prop} {k : Int} {l : List Nat} (p : P (.bl (decide (k ∈ l.map fun n => ((n : Nat) : Int))))) : opQ (.cmp .isin) [.int k, .tup (l.map nI)] P := by
  refine o_in ?_ p
  show (if (D.int k).okD 20 && (l.map nI).all (D.okD 20) then some ((l.map nI).any fun y => D.peq y (.int k)) else none) = _
  rw [okD_int, ok_map fun x => okD_int, in_nats]
  rfl
theorem ixN_nat {n k : Nat} (h : k < n) : ixN n (k : Nat) = some k := by
  unfold ixN
  rw [if_pos (by omega), if_pos (by omega)]
  simp
/-- a store into a list of data of a kind -/
theorem s_setM {α : Type} {f : α → D} {ix : E} (h : wE G C e ρ fun d ρ0 => ∃ x, d = f x ∧ d.flat = true ∧ (∃ ys, ρ0[i]? = some (some (.lst ys))) ∧ wE G C ix ρ0 fun kd ρ1 => ∃ (k : Nat) (l : List α), kd = .int (k : Nat) ∧ ρ1[i]? = some (some (.lst (l.map f))) ∧ k < l.length ∧ wS G C ss pr (ρ1.set i (some (.lst ((l.set k x).map f)))) Q) :
    wS G C (.cons (.seti i ix e) ss) pr ρ Q := by
  obtain ⟨d, ρ0, h1, x, rfl, hf, hy, kd, ρ1, h2, k, l, rfl, h3, h4, h5⟩ := h
  refine s_seti ⟨_, ρ0, h1, hy, _, ρ1, h2, _, _, k, rfl, h3, ?_, hf, ?_⟩
  · rw [List.length_map]; exact ixN_nat h4
  · rw [List.map_set] at h5
    exact h5
/-- a call that is handed a name's list and leaves it -/
theorem call_lst {Q : D → Env → Prop} {f : Fn} {d0 d : D} {ds ds' : List D} (hj : G[j]? = some f) (hf : f (d0 :: ds) = .ok d (d0 :: ds')) (nf : d0.flat = false) (fl : ds.all D.flat = true) (h0 : ρ.set i (some d0) = ρ) (q : Q d ρ) : callQ G j (.cons (.var i) es) (d0 :: ds) ρ Q :=
  call_dr hj hf nf fl (by rw [h0]; exact q)
end
end Mi

/-! the same rules, in the order in which they are answered -/
namespace Mi
structure Whn (b : Bool) (P : Prop) : Prop where
  h : b = true → P
structure Unl (b : Bool) (P : Prop) : Prop where
  h : b = false → P
structure Ech (n : Nat) (P : Nat → Prop) : Prop where
  h : ∀ y, y < n → P y
structure EchL {α : Type} (l : List α) (P : α → Prop) : Prop where
  h : ∀ y, y ∈ l → P y
/-- what a comprehension walks -/
structure ItQ {α : Type} (ds : List D) (ρ1 ρ : Env) (it : Es) (l : List α) (f : α → D) : Prop where
  h : ∃ d, ds = [d] ∧ ρ1 = ρ ∧ d.items? = some (l.map f) ∧ still it d ρ
section
variable {G : List Fn} {C : List D} {a b elt : E} {es it cs : Es} {ρ : Env} {Q : D → Env → Prop} {i n lo : Nat} {x y : Bool} {q : Nat → Bool} {g : Nat → D} {α : Type}
theorem wE_andW (h1 : wE G C a ρ fun d ρ1 => d = .bl x ∧ ρ1 = ρ) (h2 : Whn x (wE G C b ρ fun d ρ1 => d = .bl y ∧ ρ1 = ρ)) (q : Q (.bl (x && y)) ρ) : wE G C (.and a b) ρ Q := wE_and h1 h2.h q
theorem wE_orW (h1 : wE G C a ρ fun d ρ1 => d = .bl x ∧ ρ1 = ρ) (h2 : Unl x (wE G C b ρ fun d ρ1 => d = .bl y ∧ ρ1 = ρ)) (q : Q (.bl (x || y)) ρ) : wE G C (.or a b) ρ Q := wE_or h1 h2.h q
theorem wE_iteIW {n1 n2 : Int} {c : E} (h1 : wE G C c ρ fun d ρ1 => d = .bl x ∧ ρ1 = ρ) (h2 : Whn x (wE G C a ρ fun d ρ1 => d = .int n1 ∧ ρ1 = ρ)) (h3 : Unl x (wE G C b ρ fun d ρ1 => d = .int n2 ∧ ρ1 = ρ)) (q : Q (.int (if x then n1 else n2)) ρ) : wE G C (.ite c a b) ρ Q := wE_iteI h1 h2.h h3.h q
theorem w_cRqW (hi : ρ[i]? = some none) (h : wL G C (.cons (.op (.prim .range) es) .nil) ρ fun ds ρ1 => ds = [.rng 0 n] ∧ ρ1 = ρ) (hl : n ≤ 1000000)
    (hc : Ech n fun y => wC G C cs (ρ.set i (some (.int ((y : Nat) : Int)))) fun d ρ1 => d = .bl (q y) ∧ ρ1 = ρ.set i (some (.int ((y : Nat) : Int))))
    (he : Ech n fun y => Whn (q y) (wE G C elt (ρ.set i (some (.int ((y : Nat) : Int)))) fun d ρ1 => d = g y ∧ d.flat = true ∧ ρ1 = ρ.set i (some (.int ((y : Nat) : Int)))))
    (hq : Q (.lst (((List.range n).filter q).map g)) ρ) : wE G C (.comp (.nm i) (.cons (.op (.prim .range) es) .nil) cs elt) ρ Q := w_cRq hi h hl hc.h (fun y hy => (he.h y hy).h) hq
theorem w_cRW (hi : ρ[i]? = some none) (h : wL G C (.cons (.op (.prim .range) es) .nil) ρ fun ds ρ1 => ds = [.rng 0 n] ∧ ρ1 = ρ) (hl : n ≤ 1000000)
    (he : Ech n fun y => wE G C elt (ρ.set i (some (.int ((y : Nat) : Int)))) fun d ρ1 => d = g y ∧ d.flat = true ∧ ρ1 = ρ.set i (some (.int ((y : Nat) : Int))))
    (hq : Q (.lst ((List.range n).map g)) ρ) : wE G C (.comp (.nm i) (.cons (.op (.prim .range) es) .nil) .nil elt) ρ Q := w_cR hi h hl he.h hq
theorem w_cNqW (hi : ρ[i]? = some none) (h : wL G C (.cons (.op (.prim .range) es) .nil) ρ fun ds ρ1 => ds = [.rng ((lo : Nat) : Int) n] ∧ ρ1 = ρ) (hl : n ≤ 1000000)
    (hc : Ech n fun y => wC G C cs (ρ.set i (some (.int ((lo + y : Nat) : Int)))) fun d ρ1 => d = .bl (q y) ∧ ρ1 = ρ.set i (some (.int ((lo + y : Nat) : Int))))
    (he : Ech n fun y => Whn (q y) (wE G C elt (ρ.set i (some (.int ((lo + y : Nat) : Int)))) fun d ρ1 => d = g y ∧ d.flat = true ∧ ρ1 = ρ.set i (some (.int ((lo + y : Nat) : Int)))))
    (hq : Q (.lst (((List.range n).filter q).map g)) ρ) : wE G C (.comp (.nm i) (.cons (.op (.prim .range) es) .nil) cs elt) ρ Q := w_cNq hi h hl hc.h (fun y hy => (he.h y hy).h) hq
theorem w_cNW (hi : ρ[i]? = some none) (h : wL G C (.cons (.op (.prim .range) es) .nil) ρ fun ds ρ1 => ds = [.rng ((lo : Nat) : Int) n] ∧ ρ1 = ρ) (hl : n ≤ 1000000)
    (he : Ech n fun y => wE G C elt (ρ.set i (some (.int ((lo + y : Nat) : Int)))) fun d ρ1 => d = g y ∧ d.flat = true ∧ ρ1 = ρ.set i (some (.int ((lo + y : Nat) : Int))))
    (hq : Q (.lst ((List.range n).map g)) ρ) : wE G C (.comp (.nm i) (.cons (.op (.prim .range) es) .nil) .nil elt) ρ Q := w_cN hi h hl he.h hq
section
variable {l : List α} {f g : α → D} {q : α → Bool}
theorem it_str {s : List Nat} (h : still it (.str s) ρ) : ItQ [.str s] ρ ρ it s (fun c => D.str [c]) := ⟨_, rfl, rfl, rfl, h⟩
theorem it_tup (h : still it (.tup (l.map f)) ρ) : ItQ [.tup (l.map f)] ρ ρ it l f := ⟨_, rfl, rfl, rfl, h⟩
theorem it_lst (h : still it (.lst (l.map f)) ρ) : ItQ [.lst (l.map f)] ρ ρ it l f := ⟨_, rfl, rfl, rfl, h⟩
theorem it_fls (h : still it (.fls (l.map f)) ρ) : ItQ [.fls (l.map f)] ρ ρ it l f := ⟨_, rfl, rfl, rfl, h⟩
theorem w_cLqW (hi : ρ[i]? = some none) (h : wL G C it ρ fun ds ρ1 => ItQ ds ρ1 ρ it l f) (hl : l.length ≤ 1000000) (hf : ∀ y, (f y).flat = true)
    (hc : EchL l fun y => wC G C cs (ρ.set i (some (f y))) fun d ρ1 => d = .bl (q y) ∧ ρ1 = ρ.set i (some (f y)))
    (he : EchL l fun y => Whn (q y) (wE G C elt (ρ.set i (some (f y))) fun d ρ1 => d = g y ∧ d.flat = true ∧ ρ1 = ρ.set i (some (f y))))
    (hq : Q (.lst ((l.filter q).map g)) ρ) : wE G C (.comp (.nm i) it cs elt) ρ Q := by
  refine w_compQ hi hl ?_ (fun y hy => ⟨hf y, hc.h y hy⟩) (fun y hy => (he.h y hy).h) hq
  obtain ⟨ds, ρ1, e, d, h1, h2, h3, h4⟩ := h
  exact ⟨ds, ρ1, e, d, h1, h2, h3, h4⟩
theorem w_cLW (hi : ρ[i]? = some none) (h : wL G C it ρ fun ds ρ1 => ItQ ds ρ1 ρ it l f) (hl : l.length ≤ 1000000) (hf : ∀ y, (f y).flat = true)
    (he : EchL l fun y => wE G C elt (ρ.set i (some (f y))) fun d ρ1 => d = g y ∧ d.flat = true ∧ ρ1 = ρ.set i (some (f y)))
    (hq : Q (.lst (l.map g)) ρ) : wE G C (.comp (.nm i) it .nil elt) ρ Q := by
  refine w_comp hi hl ?_ (fun y _ => hf y) he.h hq
  obtain ⟨ds, ρ1, e, d, h1, h2, h3, h4⟩ := h
  exact ⟨ds, ρ1, e, d, h1, h2, h3, h4⟩
end
end
section
variable {G : List Fn} {C : List D} {pr : List Nat} {ss : Ss} {ρ : Env} {Q : O → Prop} {e : E} {i : Nat} {α : Type} {f : α → D}
theorem s_appM {ys : List α} (h0 : ρ[i]? = some (some (.lst (ys.map f)))) (h : wE G C e ρ fun d ρ1 => ∃ (xs : List α) (x : α), ρ1[i]? = some (some (.lst (xs.map f))) ∧ d = f x ∧ (f x).flat = true ∧ xs.length < 16777216 ∧ wS G C ss pr (ρ1.set i (some (.lst ((xs ++ [x]).map f)))) Q) : wS G C (.cons (.app i e) ss) pr ρ Q := by
  obtain ⟨d, ρ1, h1, xs, x, h2, rfl, h3, h4, h5⟩ := h
  refine s_app h0 ⟨_, ρ1, h1, _, h2, h3, by rw [List.length_map]; exact h4, ?_⟩
  rw [List.map_append] at h5
  exact h5
end
theorem o_ixLa {P : D → Prop} {α : Type} {f : α → D} {l : List α} {x : α} (p : P (f x)) : opQ .idx [.lst ((l ++ [x]).map f), .int (-1)] P := by
  refine o_ixLm1 x (by simp) ?_
  rw [show (l ++ [x]).getD ((l ++ [x]).length - 1) x = x by simp [List.getD_eq_getElem?_getD]]
  exact p
/-- what is left up to n of the number in slot i -/
def muI (i n : Nat) (ρ : Env) : Nat := match ρ[i]? with
  | some (some (D.int k)) => n - k.toNat
  | _ => 0
end Mi

/-! order of data, list methods, and more rules towards a promise -/
namespace Mi
section
variable {G : List Fn} {C : List D} {ρ : Env} {es : Es} {i j : Nat} {Q : D → Env → Prop} {f : Fn} {e : E} {d0 d d1 : D} {ds ds' : List D}
/-- a call whose first argument is a fresh list -/
theorem call_tmp (hv : e.isVar = false) (hj : G[j]? = some f) (hf : f (d0 :: ds) = .ok d (d1 :: ds')) (fl : ds.all D.flat = true) (q : Q d ρ) : callQ G j (.cons e es) (d0 :: ds) ρ Q := by
  refine ⟨f, d, ρ, hj, ?_, q⟩
  have h1 : refs (.cons e es) (d0 :: ds) = [] := by
    cases e <;> first | (cases hv; done) | (rw [refs] <;> first | exact refs_flat es ds fl | (intro _ h; cases h))
  have h2 : wb (.cons e es) (d0 :: ds) (d1 :: ds') ρ = ρ := by
    cases e <;> first | (cases hv; done) | (rw [wb] <;> first | exact wb_flat es ds ds' ρ fl | (intro _ h; cases h))
  rw [runF, if_pos (by rw [h1]; exact List.nodup_nil), hf]
  dsimp only
  rw [h2]
/-- a call that is handed a name's list as its second argument and leaves it -/
theorem call_lst2 {e1 : E} {d1' : D} (hj : G[j]? = some f) (hf : f (d1 :: d0 :: ds) = .ok d (d1' :: d0 :: ds')) (f1 : d1.flat = true) (nf : d0.flat = false) (fl : ds.all D.flat = true) (h0 : ρ.set i (some d0) = ρ) (q : Q d ρ) : callQ G j (.cons e1 (.cons (.var i) es)) (d1 :: d0 :: ds) ρ Q := by
  refine ⟨f, d, ρ, hj, ?_, q⟩
  have hr : refs (.cons (.var i) es) (d0 :: ds) = [i] := by
    rw [refs, if_neg (by rw [nf]; exact Bool.false_ne_true), refs_flat es ds fl]
  have hw : wb (.cons (.var i) es) (d0 :: ds) (d0 :: ds') ρ = ρ := by
    rw [wb, if_neg (by rw [nf]; exact Bool.false_ne_true), h0, wb_flat es ds ds' ρ fl]
  have h1 : refs (.cons e1 (.cons (.var i) es)) (d1 :: d0 :: ds) = [i] := by
    cases e1 <;> first | (rw [refs, if_pos f1]; exact hr) | (rw [refs] <;> first | exact hr | (intro _ h; cases h))
  have h2 : wb (.cons e1 (.cons (.var i) es)) (d1 :: d0 :: ds) (d1' :: d0 :: ds') ρ = ρ := by
    cases e1 <;> first | (rw [wb, if_pos f1]; exact hw) | (rw [wb] <;> first | exact hw | (intro _ h; cases h))
  rw [runF, if_pos (by rw [h1]; simp), hf]
  dsimp only
  rw [h2]
theorem wE_lmt {m : Meth} {xs0 : List D} (h0 : ρ[i]? = some (some d0)) (hl : d0.list? = some xs0) (h : wE G C e ρ fun d ρ1 => ∃ d1 xs r, ρ1[i]? = some (some d1) ∧ d1.list? = some xs ∧ lmtD m xs d = some r ∧ Q r ρ1) : wE G C (.lmt m i e) ρ Q := by
  obtain ⟨d, ρ1, h1, d1, xs, r, h2, h3, h4, h5⟩ := h
  refine ⟨r, ρ1, ?_, h5⟩
  rw [evalE, h0]; dsimp only; rw [hl]; dsimp only; rw [h1]; dsimp only; rw [h2]; dsimp only; rw [h3]; dsimp only; rw [h4]
theorem x_asg {ss : Ss} {pr : List Nat} {Q : O → Prop} (hp : i ∉ pr) (h : xE G C e ρ fun c ρ1 => Q (.exc c ρ1)) : wS G C (.cons (.asg (.nm i) e) ss) pr ρ Q := s_asgX (Q' := fun _ _ => True) hp h
end
section
variable {P : D → Prop} {a b n m : Nat} {i j : Int} {s t : List Nat} {α : Type} {xs ys : List D}
theorem o_mulI (h : small64 i = true) (p : P (.int (i * j))) : opQ (.bin .mul) [.int i, .int j] P := by
  refine o_of (opD_bin.trans (mul_int.trans ?_)) p
  rw [h]; rfl
theorem o_pow (h : small64 i = true) (hn : n ≤ 1000) (p : P (.int (i ^ n))) : opQ (.bin .pow) [.int i, .int ((n : Nat) : Int)] P := by
  refine o_of (opD_bin.trans (pow_int.trans ?_)) p
  rw [if_pos ⟨by omega, by omega, h⟩, Int.toNat_natCast]
theorem m_ends (p : P (.bl (endsW s t))) : mtQ .endswith [.str s, .str t] P := ⟨_, rfl, p⟩
theorem o_revLm {f : α → D} {l : List α} (p : P (.lst (l.reverse.map f))) : opQ (.prim .rev) [.lst (l.map f)] P := ⟨_, rfl, by rw [List.map_reverse] at p; exact p⟩
theorem o_revTm {f : α → D} {l : List α} (p : P (.tup (l.reverse.map f))) : opQ (.prim .rev) [.tup (l.map f)] P := ⟨_, rfl, by rw [List.map_reverse] at p; exact p⟩
theorem o_mulTm {f : α → D} {l : List α} (h0 : 0 < l.length) (h1 : 2 ≤ a) (h2 : a ≤ 1000) (h3 : l.length ≤ 1000) (p : P (.tup ((List.replicate a l).flatten.map f))) : opQ (.bin .mul) [.tup (l.map f), .int ((a : Nat) : Int)] P := by
  refine o_of (d := .tup ((List.replicate a l).flatten.map f)) ?_ p
  show (if 0 < (l.map f).length ∧ 2 ≤ ((a : Nat) : Int) ∧ ((a : Nat) : Int) ≤ 1000 ∧ (l.map f).length ≤ 1000 then some (D.tup (List.replicate (((a : Nat) : Int)).toNat (l.map f)).flatten) else none) = _
  rw [List.length_map, if_pos ⟨h0, by omega, by omega, h3⟩, Int.toNat_natCast, List.map_flatten, List.map_replicate]
theorem o_isB {x y : Bool} (p : P (.bl (decide (x = y)))) : opQ (.cmp .is_) [.bl x, .bl y] P := ⟨_, rfl, p⟩
theorem o_isntB {x y : Bool} (p : P (.bl (!decide (x = y)))) : opQ (.cmp .isnot) [.bl x, .bl y] P := ⟨_, rfl, p⟩
theorem o_rngV (h : a ≤ 1000000000) (p : P (.rng 0 a)) : opQ (.prim .rangeV) [.int ((a : Nat) : Int)] P := o_of (opD_prim.trans (rangeV_one.trans (if_pos (rOk_of (by omega) (by omega))))) (by rw [Int.toNat_natCast]; exact p)
theorem o_revL (p : P (.lst xs.reverse)) : opQ (.prim .rev) [.lst xs] P := ⟨_, rfl, p⟩
theorem dlt_str : D.lt (.str s) (.str t) = decide (s < t) := by
  show (decide (s < t) || (!decide (t < s) && false)) = _
  rw [Bool.and_false, Bool.or_false]
theorem dlt_int : D.lt (.int i) (.int j) = decide (i < j) := by
  show (decide (i < j) || (!decide (j < i) && false)) = _
  rw [Bool.and_false, Bool.or_false]
theorem lt_nn : D.lt (.tup []) (.tup []) = false := rfl
theorem lt_n0 {x : D} : D.lt (.tup []) (.tup (x :: xs)) = true := rfl
theorem lt_0n {x : D} : D.lt (.tup (x :: xs)) (.tup []) = false := rfl
theorem lt_ti : D.lt (.tup (.int i :: xs)) (.tup (.int j :: ys)) = (decide (i < j) || (!decide (j < i) && D.lt (.tup xs) (.tup ys))) := rfl
theorem lt_ts : D.lt (.tup (.str s :: xs)) (.tup (.str t :: ys)) = (decide (s < t) || (!decide (t < s) && D.lt (.tup xs) (.tup ys))) := rfl
theorem ord_map {f : α → D} {l : List α} (h1 : ∀ x, (f x).okD 20 = true) (h2 : ∀ x y, D.alk (f x) (f y) = true) : ordAll (l.map f) = true := by
  unfold ordAll
  rw [ok_map h1, Bool.true_and, List.all_eq_true]
  intro x hx
  obtain ⟨a, _, rfl⟩ := List.mem_map.mp hx
  rw [List.all_eq_true]
  intro y hy
  obtain ⟨b, _, rfl⟩ := List.mem_map.mp hy
  exact h2 a b
theorem ints_none {x : D} {l : List D} (h : ∀ i, x ≠ .int i) : ints? (x :: l) = none := by
  cases x <;> first | rfl | exact absurd rfl (h _)
theorem strs_none {x : D} {l : List D} (h : ∀ i, x ≠ .str i) : strs? (x :: l) = none := by
  cases x <;> first | rfl | exact absurd rfl (h _)
def minB (lt : α → α → Bool) (x : α) (l : List α) : α := l.foldl (fun a y => if lt y a then y else a) x
theorem foldl_mapmin {f : α → D} {lt : α → α → Bool} (hlt : ∀ x y, D.lt (f x) (f y) = lt x y) : ∀ (l : List α) (x : α), (l.map f).foldl (fun a y => if D.lt y a then y else a) (f x) = f (minB lt x l)
  | [], x => rfl
  | y :: l, x => by
    show (l.map f).foldl _ (if D.lt (f y) (f x) then f y else f x) = f (minB lt (if lt y x then y else x) l)
    rw [hlt, ← foldl_mapmin hlt l]
    congr 1
    split <;> rfl
theorem foldl_mapmax {f : α → D} {lt : α → α → Bool} (hlt : ∀ x y, D.lt (f x) (f y) = lt x y) : ∀ (l : List α) (x : α), (l.map f).foldl (fun a y => if D.lt a y then y else a) (f x) = f (minB (fun a b => lt b a) x l)
  | [], x => rfl
  | y :: l, x => by
    show (l.map f).foldl _ (if D.lt (f x) (f y) then f y else f x) = f (minB (fun a b => lt b a) (if lt x y then y else x) l)
    rw [hlt, ← foldl_mapmax hlt l]
    congr 1
    split <;> rfl
/-- min of data of a kind, not whole numbers -/
theorem o_minG {f : α → D} {lt : α → α → Bool} {x : α} {l : List α} (h0 : ∀ i, f x ≠ .int i) (h1 : ∀ x, (f x).okD 20 = true) (h2 : ∀ x y, D.alk (f x) (f y) = true) (hlt : ∀ x y, D.lt (f x) (f y) = lt x y) (p : P (f (minB lt x l))) : opQ (.prim .min) [.lst ((x :: l).map f)] P := by
  refine o_of (d := f (minB lt x l)) ?_ p
  show minM ((x :: l).map f) = _
  unfold minM
  rw [List.map_cons, ints_none h0]
  show (if ordAll ((x :: l).map f) then some ((l.map f).foldl (fun a y => if D.lt y a then y else a) (f x)) else none) = _
  rw [if_pos (ord_map h1 h2), foldl_mapmin hlt]
theorem o_maxG {f : α → D} {lt : α → α → Bool} {x : α} {l : List α} (h0 : ∀ i, f x ≠ .int i) (h1 : ∀ x, (f x).okD 20 = true) (h2 : ∀ x y, D.alk (f x) (f y) = true) (hlt : ∀ x y, D.lt (f x) (f y) = lt x y) (p : P (f (minB (fun a b => lt b a) x l))) : opQ (.prim .max) [.lst ((x :: l).map f)] P := by
  refine o_of (d := f (minB (fun a b => lt b a) x l)) ?_ p
  show maxM ((x :: l).map f) = _
  unfold maxM
  rw [List.map_cons, ints_none h0]
  show (if ordAll ((x :: l).map f) then some ((l.map f).foldl (fun a y => if D.lt a y then y else a) (f x)) else none) = _
  rw [if_pos (ord_map h1 h2), foldl_mapmax hlt]
theorem minB_mem {lt : α → α → Bool} : ∀ (l : List α) (x : α), minB lt x l ∈ x :: l
  | [], x => List.mem_cons_self
  | y :: l, x => by
    have ih := minB_mem (lt := lt) l (if lt y x then y else x)
    show minB lt (if lt y x then y else x) l ∈ _
    rcases List.mem_cons.mp ih with e | h
    · rw [e]; split <;> simp
    · exact List.mem_cons_of_mem _ (List.mem_cons_of_mem _ h)
/-- none is less than the least -/
theorem minB_le {lt : α → α → Bool} (irr : ∀ x, lt x x = false) (tr : ∀ x y z, lt y x = false → lt z y = false → lt z x = false) (asy : ∀ x y, lt x y = true → lt y x = false) : ∀ (l : List α) (x : α), ∀ y ∈ x :: l, lt y (minB lt x l) = false
  | [], x, y, h => by
    rw [List.mem_singleton.mp h]
    exact irr x
  | z :: l, x, y, h => by
    show lt y (minB lt (if lt z x then z else x) l) = false
    have ih := minB_le irr tr asy l (if lt z x then z else x)
    have h0 := ih _ List.mem_cons_self
    have key : ∀ w, lt w (if lt z x then z else x) = false → lt w (minB lt (if lt z x then z else x) l) = false := fun w hw => tr _ _ _ h0 hw
    rcases List.mem_cons.mp h with rfl | h
    · refine key _ ?_
      split
      · rename_i q; exact asy _ _ q
      · exact irr _
    · rcases List.mem_cons.mp h with rfl | h
      · refine key _ ?_
        split
        · exact irr _
        · rename_i q; simpa using q
      · exact ih _ (List.mem_cons_of_mem _ h)
abbrev ltN (x y : List Nat) : Bool := decide (x < y)
theorem ltN_irr (x : List Nat) : ltN x x = false := decide_eq_false (List.lt_irrefl x)
theorem ltN_asy (x y : List Nat) (h : ltN x y = true) : ltN y x = false := decide_eq_false fun z => List.lt_irrefl _ (List.lt_trans (of_decide_eq_true h) z)
theorem ltN_tr (x y z : List Nat) (h1 : ltN y x = false) (h2 : ltN z y = false) : ltN z x = false :=
  decide_eq_false (List.not_lt.mpr (List.le_trans (List.not_lt.mp (of_decide_eq_false h1)) (List.not_lt.mp (of_decide_eq_false h2))))
/-- the least of texts -/
def leastS (l : List (List Nat)) : List Nat := match l with
  | [] => []
  | x :: l => minB ltN x l
theorem leastS_mem {l : List (List Nat)} (h : l ≠ []) : leastS l ∈ l := by
  cases l with
  | nil => exact absurd rfl h
  | cons x l => exact minB_mem l x
theorem leastS_le {l : List (List Nat)} : ∀ y ∈ l, leastS l ≤ y := by
  cases l with
  | nil => intro y h; cases h
  | cons x l => exact fun y h => List.not_lt.mp (of_decide_eq_false (minB_le ltN_irr ltN_tr ltN_asy l x y h))
/-- the least of two lists with the same items -/
theorem leastS_eq {l k : List (List Nat)} (hl : l ≠ []) (h1 : ∀ x ∈ l, x ∈ k) (h2 : ∀ x ∈ k, x ∈ l) : leastS l = leastS k := by
  have hk : k ≠ [] := fun z => by
    have := h1 _ (leastS_mem hl)
    rw [z] at this
    cases this
  exact List.le_antisymm (leastS_le _ (h2 _ (leastS_mem hk))) (leastS_le _ (h1 _ (leastS_mem hl)))
theorem o_minS {l : List (List Nat)} (h : l ≠ []) (p : P (.str (leastS l))) : opQ (.prim .min) [.lst (l.map D.str)] P := by
  cases l with
  | nil => exact absurd rfl h
  | cons x l => exact o_minG (f := D.str) (fun _ z => nomatch z) (fun _ => okD_str) (fun _ _ => rfl) (fun _ _ => dlt_str) p
theorem o_minSm {g : α → List Nat} {l : List α} (h : l ≠ []) (p : P (.str (leastS (l.map g)))) : opQ (.prim .min) [.lst (l.map fun x => D.str (g x))] P := by
  have e : (l.map fun x => D.str (g x)) = (l.map g).map D.str := by rw [List.map_map]; rfl
  rw [e]
  exact o_minS (by simpa using h) p
/-- sorted of data of a kind, neither all whole numbers nor all texts -/
theorem sorted_gen {f : α → D} {le : α → α → Bool} {l : List α} (h0 : ∀ x i, f x ≠ .int i) (h0' : ∀ x i, f x ≠ .str i) (h00 : ∀ x, (f x).tup0 = false) (h1 : ∀ x, (f x).okD 20 = true) (h2 : ∀ x y, D.alk (f x) (f y) = true) (hle : ∀ x y, (!D.lt (f y) (f x)) = le x y) : sortedD (l.map f) = some (.lst ((l.mergeSort le).map f)) := by
  cases l with
  | nil => simp [sortedD, ints?, sortI]
  | cons x l =>
    unfold sortedD
    rw [List.map_cons, ints_none (h0 x), strs_none (h0' x)]
    dsimp only
    rw [← List.map_cons (f := f), ord_map h1 h2, Bool.true_and, if_pos]
    · unfold sortG
      rw [List.map_mergeSort (s := fun a b => !D.lt b a) fun a _ b _ => (hle a b).symm]
    · rw [List.all_eq_true]
      intro y hy
      obtain ⟨z, _, rfl⟩ := List.mem_map.mp hy
      rw [h00]; rfl
theorem o_sortG {f : α → D} {le : α → α → Bool} {l : List α} (h0 : ∀ x i, f x ≠ .int i) (h0' : ∀ x i, f x ≠ .str i) (h00 : ∀ x, (f x).tup0 = false) (h1 : ∀ x, (f x).okD 20 = true) (h2 : ∀ x y, D.alk (f x) (f y) = true) (hle : ∀ x y, (!D.lt (f y) (f x)) = le x y) (p : P (.lst ((l.mergeSort le).map f))) : opQ (.prim .sorted) [.lst (l.map f)] P := o_of (opD_prim.trans (sorted_lst.trans (sorted_gen h0 h0' h00 h1 h2 hle))) p
theorem o_ltT {u : Bool} {x y : List D} (h1 : D.alks x y = true) (h2 : (D.tup x).okD 20 = true) (h3 : (D.tup y).okD 20 = true) (hu : D.lt (.tup x) (.tup y) = u) (p : P (.bl u)) : opQ (.cmp .lt) [.tup x, .tup y] P := by
  subst hu
  refine o_of (d := .bl (D.lt (.tup x) (.tup y))) ?_ p
  show (if (D.alks x y && (D.tup x).okD 20 && (D.tup y).okD 20) = true then some (D.bl (D.lt (.tup x) (.tup y))) else none) = _
  rw [h1, h2, h3]; rfl
/-! in, of data of a kind -/
section
variable [DecidableEq α] {f : α → D} {l : List α} {x : α} (h : ∀ x y, D.peq (f x) (f y) = decide (x = y)) (o : ∀ x n, (f x).okD (n + 1) = true)
include h o
theorem in_gen : ((f x).okD 20 && (l.map f).all (D.okD 20)) = true ∧ ((l.map f).any fun y => D.peq y (f x)) = decide (x ∈ l) := ⟨by rw [o, ok_map fun x => o x 19]; rfl, any_map h⟩
theorem o_inTm (p : P (.bl (decide (x ∈ l)))) : opQ (.cmp .isin) [f x, .tup (l.map f)] P := by
  refine o_in ?_ p
  have e : inD (f x) (.tup (l.map f)) = if (f x).okD 20 && (l.map f).all (D.okD 20) then some ((l.map f).any fun y => D.peq y (f x)) else none := by
    cases f x <;> rfl
  rw [e, if_pos (in_gen h o).1, (in_gen h o).2]
theorem o_ninTm (p : P (.bl (!decide (x ∈ l)))) : opQ (.cmp .notin) [f x, .tup (l.map f)] P := by
  refine o_nin ?_ p
  have e : inD (f x) (.tup (l.map f)) = if (f x).okD 20 && (l.map f).all (D.okD 20) then some ((l.map f).any fun y => D.peq y (f x)) else none := by
    cases f x <;> rfl
  rw [e, if_pos (in_gen h o).1, (in_gen h o).2]
theorem o_inLm (p : P (.bl (decide (x ∈ l)))) : opQ (.cmp .isin) [f x, .lst (l.map f)] P := by
  refine o_in ?_ p
  have e : inD (f x) (.lst (l.map f)) = if (f x).okD 20 && (l.map f).all (D.okD 20) then some ((l.map f).any fun y => D.peq y (f x)) else none := by
    cases f x <;> rfl
  rw [e, if_pos (in_gen h o).1, (in_gen h o).2]
theorem o_ninLm (p : P (.bl (!decide (x ∈ l)))) : opQ (.cmp .notin) [f x, .lst (l.map f)] P := by
  refine o_nin ?_ p
  have e : inD (f x) (.lst (l.map f)) = if (f x).okD 20 && (l.map f).all (D.okD 20) then some ((l.map f).any fun y => D.peq y (f x)) else none := by
    cases f x <;> rfl
  rw [e, if_pos (in_gen h o).1, (in_gen h o).2]
end
/-! list.count, list.index -/
theorem lcnt_map [DecidableEq α] {f : α → D} {l : List α} {x : α} (h : ∀ x y, D.peq (f x) (f y) = decide (x = y)) (o : ∀ x, (f x).okD 20 = true) : lmtD .count (l.map f) (f x) = some (nI (l.count x)) := by
  show (if ((f x).okD 20 && (l.map f).all (D.okD 20)) = true then some (D.int (((l.map f).countP fun y => D.peq y (f x) : Nat) : Int)) else none) = _
  rw [o, ok_map o]
  have e : (l.map f).countP (fun y => D.peq y (f x)) = l.count x := by
    rw [List.countP_map]
    unfold List.count
    congr 1
    funext y
    show D.peq (f y) (f x) = (y == x)
    rw [h]
    by_cases z : y = x <;> simp [z]
  rw [e]; rfl
theorem lidx_map [DecidableEq α] {f : α → D} {l : List α} {x : α} (hx : x ∈ l) (h : ∀ x y, D.peq (f x) (f y) = decide (x = y)) (o : ∀ x, (f x).okD 20 = true) : lmtD .index (l.map f) (f x) = some (nI (l.idxOf x)) := by
  show (if ((f x).okD 20 && (l.map f).all (D.okD 20)) = true then ((l.map f).findIdx? fun y => D.peq y (f x)).map (fun j => D.int ((j : Nat) : Int)) else none) = _
  rw [o, ok_map o]
  have e : (l.map f).findIdx? (fun y => D.peq y (f x)) = some (l.idxOf x) := by
    rw [List.findIdx?_map]
    have e2 : ((fun y => D.peq y (f x)) ∘ f) = fun y => y == x := by
      funext y
      show D.peq (f y) (f x) = (y == x)
      rw [h]
      by_cases z : y = x <;> simp [z]
    rw [e2, List.findIdx?_eq_some_iff_findIdx_eq]
    exact ⟨List.idxOf_lt_length_of_mem hx, rfl⟩
  rw [e]; rfl
end
/-- a comprehension over data of a kind: any target, a test -/
theorem w_compG {G : List Fn} {C : List D} {ρ : Env} {it cs : Es} {elt : E} {p : Pat} {α : Type} {l : List α} {f : α → D} {Q : D → Env → Prop} {q : α → Bool} {g : α → D} (b : α → Env) (hk : kills p.slots ρ = ρ) (hb : ∀ y, p.bind (f y) ρ = some (b y) ∧ kills p.slots (b y) = ρ) (hl : l.length ≤ 1000000)
    (h : wL G C it ρ fun ds ρ1 => ∃ d, ds = [d] ∧ ρ1 = ρ ∧ d.items? = some (l.map f) ∧ still it d ρ)
    (hc : ∀ y ∈ l, wC G C cs (b y) fun d ρ1 => d = .bl (q y) ∧ ρ1 = b y)
    (he : ∀ y ∈ l, q y = true → wE G C elt (b y) fun d ρ1 => d = g y ∧ d.flat = true ∧ ρ1 = b y)
    (hq : Q (.lst ((l.filter q).map g)) ρ) : wE G C (.comp p it cs elt) ρ Q := by
  obtain ⟨ds, ρ1, h1, d, rfl, rfl, h2, h3⟩ := h
  have lp : ∃ acc', compLoop (still it d) p (evalC G C cs) (evalE G C elt) (l.map f) [] ρ1 = .ok acc' ρ1 ∧ acc' = (l.filter q).map g := by
    obtain ⟨_, acc, l1, l2⟩ := comp_fold (St := Unit) (still it d) (p := p) (c := evalC G C cs) (f := evalE G C elt) (fun _ => ρ1) (fun n _ acc => acc = ((l.take n).filter q).map g) (l.map f) 0 () [] (by simp) (fun _ _ _ _ => h3) (fun n y _ acc hy hacc => by
      rw [List.getElem?_map] at hy
      cases z : l[n]? with
      | none => rw [z] at hy; cases hy
      | some w =>
        rw [z] at hy
        have hy' : f w = y := by simpa using hy
        subst hy'
        have hm : w ∈ l := List.mem_of_getElem? z
        have hn : n < l.length := (List.getElem?_eq_some_iff.mp z).1
        obtain ⟨dc, ρc, ec, rfl, rfl⟩ := hc w hm
        rw [Nat.zero_add] at hacc
        rw [Nat.zero_add]
        have et : l.take (n + 1) = l.take n ++ [w] := by rw [List.take_add_one, z]; rfl
        refine ⟨b w, ?_, ?_⟩
        · rw [hk]; exact (hb w).1
        · by_cases zq : q w = true
          · obtain ⟨de, ρe, ee, rfl, hf, rfl⟩ := he w hm zq
            rw [zq] at ec
            refine .inr ⟨_, _, _, (), ec, ee, hf, ?_, (hb w).2, ?_⟩
            · rw [hacc, List.length_map]
              have l3 := List.length_filter_le q (l.take n)
              rw [List.length_take] at l3
              rw [SZ_val]
              omega
            · rw [hacc, et]; simp [zq]
          · have zq' : q w = false := by simpa using zq
            rw [zq'] at ec
            refine .inl ⟨_, (), ec, (hb w).2, ?_⟩
            rw [hacc, et]; simp [zq'])
    rw [List.length_map, Nat.zero_add] at l2
    exact ⟨acc, l1, by rw [l2, List.take_length]⟩
  obtain ⟨acc, l1, rfl⟩ := lp
  exact ⟨_, ρ1, ev_comp h1 h2 (by rw [hk]; exact l1), hq⟩
theorem w_compP {G : List Fn} {C : List D} {ρ : Env} {it : Es} {elt : E} {p : Pat} {α : Type} {l : List α} {f : α → D} {Q : D → Env → Prop} {g : α → D} (b : α → Env) (hk : kills p.slots ρ = ρ) (hb : ∀ y, p.bind (f y) ρ = some (b y) ∧ kills p.slots (b y) = ρ) (hl : l.length ≤ 1000000)
    (h : wL G C it ρ fun ds ρ1 => ∃ d, ds = [d] ∧ ρ1 = ρ ∧ d.items? = some (l.map f) ∧ still it d ρ)
    (he : ∀ y ∈ l, wE G C elt (b y) fun d ρ1 => d = g y ∧ d.flat = true ∧ ρ1 = b y)
    (hq : Q (.lst (l.map g)) ρ) : wE G C (.comp p it .nil elt) ρ Q :=
  w_compG (q := fun _ => true) b hk hb hl h (fun y hy => wC_nil ⟨rfl, rfl⟩) (fun y hy _ => he y hy) (by rw [List.filter_eq_self.mpr fun _ _ => rfl]; exact hq)
theorem o_minLg {α : Type} {P : D → Prop} {l : List α} {g : α → Int} {m : Int} (h : minL (l.map g) = some m) (p : P (.int m)) : opQ (.prim .min) [.lst (l.map fun x => D.int (g x))] P := by
  refine o_of (d := .int m) ?_ p
  have e : (l.map fun x => D.int (g x)) = (l.map g).map D.int := by rw [List.map_map]; rfl
  rw [e]
  show minM ((l.map g).map D.int) = _
  unfold minM
  rw [ints?_map]
  show (minL (l.map g)).map D.int = _
  rw [h]
  rfl
theorem o_maxLg {α : Type} {P : D → Prop} {l : List α} {g : α → Int} {m : Int} (h : maxL (l.map g) = some m) (p : P (.int m)) : opQ (.prim .max) [.lst (l.map fun x => D.int (g x))] P := by
  refine o_of (d := .int m) ?_ p
  have e : (l.map fun x => D.int (g x)) = (l.map g).map D.int := by rw [List.map_map]; rfl
  rw [e]
  show maxM ((l.map g).map D.int) = _
  unfold maxM
  rw [ints?_map]
  show (maxL (l.map g)).map D.int = _
  rw [h]
  rfl
/-! turns of a circle -/
def tn (c : List Nat) (a : Nat) : List Nat := c.drop a ++ c.take a
theorem tn_len {c : List Nat} {a : Nat} : (tn c a).length = c.length := by
  unfold tn
  rw [List.length_append, List.length_drop, List.length_take]
  omega
theorem tn_get {c : List Nat} {a k : Nat} (ha : a ≤ c.length) (hk : k < c.length) : (tn c a)[k]? = c[(a + k) % c.length]? := by
  unfold tn
  by_cases h : k < c.length - a
  · rw [List.getElem?_append_left (by rw [List.length_drop]; omega), List.getElem?_drop, Nat.mod_eq_of_lt (by omega)]
  · rw [List.getElem?_append_right (by rw [List.length_drop]; omega), List.length_drop, List.getElem?_take_of_lt (by omega)]
    have e : (a + k) % c.length = k - (c.length - a) := by
      rw [Nat.mod_eq_sub_mod (by omega), Nat.mod_eq_of_lt (by omega)]
      omega
    rw [e]
theorem tn_tn {c : List Nat} {a b : Nat} (ha : a ≤ c.length) (hb : b ≤ c.length) (hc : 0 < c.length) : tn (tn c a) b = tn c ((a + b) % c.length) := by
  have hm : (a + b) % c.length < c.length := Nat.mod_lt _ hc
  apply List.ext_getElem?
  intro k
  by_cases hk : k < c.length
  · rw [tn_get (by rw [tn_len]; exact hb) (by rw [tn_len]; exact hk), tn_len, tn_get ha (Nat.mod_lt _ hc), tn_get (by omega) hk]
    congr 1
    rw [Nat.add_mod a, Nat.mod_mod, ← Nat.add_mod, Nat.mod_add_mod, Nat.add_assoc]
  · rw [List.getElem?_eq_none (by rw [tn_len, tn_len]; omega), List.getElem?_eq_none (by rw [tn_len]; omega)]
theorem tn_0 {c : List Nat} : tn c 0 = c := by simp [tn]
/-- all turns -/
def tns (c : List Nat) : List (List Nat) := (List.range c.length).map (tn c)
theorem tns_mem {c x : List Nat} : x ∈ tns c ↔ ∃ a, a < c.length ∧ tn c a = x := by
  unfold tns
  rw [List.mem_map]
  exact ⟨fun ⟨a, h1, h2⟩ => ⟨a, List.mem_range.mp h1, h2⟩, fun ⟨a, h1, h2⟩ => ⟨a, List.mem_range.mpr h1, h2⟩⟩
theorem tns_turn {c x : List Nat} (h : x ∈ tns c) : ∀ y, y ∈ tns x ↔ y ∈ tns c := by
  obtain ⟨a, ha, rfl⟩ := tns_mem.mp h
  have hc : 0 < c.length := by omega
  intro y
  rw [tns_mem, tns_mem]
  constructor
  · rintro ⟨b, hb, rfl⟩
    rw [tn_len] at hb
    exact ⟨_, Nat.mod_lt _ hc, (tn_tn (by omega) (by omega) hc).symm⟩
  · rintro ⟨b, hb, rfl⟩
    refine ⟨(b + (c.length - a)) % c.length, by rw [tn_len]; exact Nat.mod_lt _ hc, ?_⟩
    rw [tn_tn (by omega) (Nat.le_of_lt (Nat.mod_lt _ hc)) hc]
    congr 1
    rw [Nat.add_mod, Nat.mod_mod, ← Nat.add_mod, show a + (b + (c.length - a)) = b + c.length by omega, Nat.add_mod_right]
    exact Nat.mod_eq_of_lt hb
theorem tns_ne {c : List Nat} (h : 0 < c.length) : tns c ≠ [] := by
  intro z
  have e : (tns c).length = c.length := by simp [tns]
  rw [z] at e
  simp at e
  omega
/-- the same circle: of one length, and the least turns alike -/
theorem same_iff {c x : List Nat} (hc : 0 < c.length) (hx : 0 < x.length) : x ∈ tns c ↔ c.length = x.length ∧ leastS (tns c) = leastS (tns x) := by
  constructor
  · intro h
    obtain ⟨a, ha, e⟩ := tns_mem.mp h
    refine ⟨by rw [← e, tn_len], leastS_eq (tns_ne hc) (fun y hy => (tns_turn h y).mpr hy) fun y hy => (tns_turn h y).mp hy⟩
  · rintro ⟨hl, e⟩
    obtain ⟨a, ha, e1⟩ := tns_mem.mp (leastS_mem (tns_ne hc))
    have h2 := leastS_mem (tns_ne hx)
    rw [← e, ← e1] at h2
    have h3 : x ∈ tns x := tns_mem.mpr ⟨0, hx, tn_0⟩
    have h4 := (tns_turn h2 x).mpr h3
    exact (tns_turn (tns_mem.mpr ⟨a, ha, rfl⟩) x).mp h4
/-- the first that is kept -/
theorem filter_first {q : Nat → Bool} {n N : Nat} (hn : n < N) (hq : q n = true) (h : ∀ m, m < n → q m = false) : ∃ r, (List.range N).filter q = n :: r := by
  have e : List.range N = List.range n ++ (n :: (List.range (N - n - 1)).map (n + 1 + ·)) := by
    rw [show n :: (List.range (N - n - 1)).map (n + 1 + ·) = (List.range (N - n)).map (n + ·) by
      obtain ⟨k, hk⟩ : ∃ k, N - n = k + 1 := ⟨N - n - 1, by omega⟩
      rw [hk, List.range_succ_eq_map, List.map_cons, List.map_map]
      simp only [Nat.add_sub_cancel, Nat.add_zero]
      congr 1
      refine List.map_congr_left fun x _ => ?_
      show n + 1 + x = n + (x + 1)
      omega]
    rw [← List.range_add]
    congr 1
    omega
  refine ⟨((List.range (N - n - 1)).map (n + 1 + ·)).filter q, ?_⟩
  rw [e, List.filter_append, List.filter_cons_of_pos hq, List.filter_eq_nil_iff.mpr, List.nil_append]
  intro m hm
  rw [h m (List.mem_range.mp hm)]
  exact Bool.false_ne_true
section
variable {α : Type} {f : α → D} {l : List α} {a b n : Nat} {P : D → Prop}
theorem s_Fm0 (p : P (.lst ((l.take b).map f))) : slQ none (some (b : Nat)) (.fls (l.map f)) P := s_of slc_fls (by rw [cutL_map, cutL_hi]; exact p)
theorem s_Fm1 (p : P (.lst ((l.drop a).map f))) : slQ (some (a : Nat)) none (.fls (l.map f)) P := s_of slc_fls (by rw [cutL_map, cutL_lo]; exact p)
theorem s_Fmat (p : P (.lst (((l.drop a).take n).map f))) : slQ (some (a : Nat)) (some ((a + n : Nat) : Int)) (.fls (l.map f)) P := s_of slc_fls (by rw [cutL_map, cut_at]; exact p)
end
theorem s_iteT {G : List Fn} {C : List D} {pr : List Nat} {A B ss : Ss} {ρ : Env} {Q : O → Prop} {c : E} (h : wE G C c ρ fun d ρ1 => d = .bl true ∧ ρ1 = ρ) (h2 : wS G C A pr ρ (thn G C ss pr Q)) : wS G C (.cons (.ite c A B) ss) pr ρ Q := by
  refine s_ite ?_
  obtain ⟨d, ρ1, e, rfl, rfl⟩ := h
  exact ⟨_, _, e, bl_of (ite_of (fun _ => h2) (fun z => by cases z))⟩
theorem s_iteF {G : List Fn} {C : List D} {pr : List Nat} {A B ss : Ss} {ρ : Env} {Q : O → Prop} {c : E} (h : wE G C c ρ fun d ρ1 => d = .bl false ∧ ρ1 = ρ) (h2 : wS G C B pr ρ (thn G C ss pr Q)) : wS G C (.cons (.ite c A B) ss) pr ρ Q := by
  refine s_ite ?_
  obtain ⟨d, ρ1, e, rfl, rfl⟩ := h
  exact ⟨_, _, e, bl_of (ite_of (fun z => by cases z) (fun _ => h2))⟩
/-! dicts -/
section
variable {G : List Fn} {C : List D} {ρ : Env} {pr : List Nat} {ss : Ss}
theorem wE_dop {q : Dq} {i : Nat} {k v : E} {kvs0 : List (D × D)} {Q : D → Env → Prop} (h0 : ρ[i]? = some (some (.dct kvs0))) (h : wE G C k ρ fun kd ρ1 => wE G C v ρ1 fun d ρ2 => ∃ kvs r, ρ2[i]? = some (some (.dct kvs)) ∧ keyOk kd = true ∧ d.flat = true ∧ dopD q kvs kd d = some r ∧ Q r ρ2) : wE G C (.dop q i k v) ρ Q := by
  obtain ⟨kd, ρ1, h1, d, ρ2, h2, kvs, r, h3, h4, h5, h6, h7⟩ := h
  refine ⟨r, ρ2, ?_, h7⟩
  rw [evalE, h0]; dsimp only; rw [h1]; dsimp only; rw [h2]; dsimp only; rw [h3]; dsimp only; rw [if_pos ⟨h4, h5⟩, h6]
theorem s_setk {i : Nat} {k e : E} {Q : O → Prop} (h : wE G C e ρ fun d ρ0 => (∃ kvs, ρ0[i]? = some (some (.dct kvs))) ∧ wE G C k ρ0 fun kd ρ1 => ∃ kvs, ρ1[i]? = some (some (.dct kvs)) ∧ d.flat = true ∧ keyOk kd = true ∧ kvs.length < 16777216 ∧ wS G C ss pr (ρ1.set i (some (.dct (dputD kvs kd d)))) Q) : wS G C (.cons (.setk i k e) ss) pr ρ Q := by
  obtain ⟨d, ρ0, h1, ⟨kvs0, h2⟩, kd, ρ1, h3, kvs, h4, h5, h6, h7, h8⟩ := h
  refine ⟨?_⟩; rw [go_nx (ρ1 := ρ1.set i (some (.dct (dputD kvs kd d))))]
  · exact h8.run
  · rw [exec, h1]; dsimp only; rw [h2]; dsimp only; rw [h3]; dsimp only; rw [h4]; dsimp only; rw [if_pos ⟨h5, h6, h7⟩]
theorem o_dnew {P : D → Prop} (p : P (.dct [])) : opQ .dnew [] P := ⟨_, rfl, p⟩
/-! dicts from texts to numbers -/
def kD (p : List Nat × Nat) : D × D := (.str p.1, nI p.2)
def lkD (l : List (List Nat × Nat)) (w : List Nat) : Option Nat := (l.find? fun p => decide (p.1 = w)).map Prod.snd
def puD (l : List (List Nat × Nat)) (w : List Nat) (c : Nat) : List (List Nat × Nat) := if (l.any fun p => decide (p.1 = w)) = true then l.map fun p => if p.1 = w then (p.1, c) else p else l ++ [(w, c)]
theorem dget_kD (w : List Nat) : ∀ l : List (List Nat × Nat), dgetD (l.map kD) (.str w) = (lkD l w).map nI
  | [] => rfl
  | p :: l => by
    have ih := dget_kD w l
    unfold dgetD lkD at *
    rw [List.map_cons, List.find?_cons, List.find?_cons]
    show Option.map _ (match decide (p.1 = w) with | true => some (kD p) | false => _) = _
    cases decide (p.1 = w) with
    | true => rfl
    | false => exact ih
theorem dput_kD (w : List Nat) (c : Nat) (l : List (List Nat × Nat)) : dputD (l.map kD) (.str w) (nI c) = (puD l w c).map kD := by
  have e1 : ((l.map kD).any fun p => keq p.1 (.str w)) = l.any fun p => decide (p.1 = w) := by rw [List.any_map]; rfl
  unfold dputD puD
  rw [e1]
  by_cases h : (l.any fun p => decide (p.1 = w)) = true
  · rw [if_pos h, if_pos h, List.map_map, List.map_map]
    refine List.map_congr_left fun p _ => ?_
    show (if decide (p.1 = w) = true then (D.str p.1, nI c) else kD p) = kD (if p.1 = w then (p.1, c) else p)
    by_cases e : p.1 = w
    · rw [if_pos (decide_eq_true e), if_pos e]; rfl
    · rw [if_neg (by rw [decide_eq_false e]; exact Bool.false_ne_true), if_neg e]
  · rw [if_neg h, if_neg h, List.map_append]; rfl
theorem strs_kD : ∀ l : List (List Nat × Nat), strs? ((l.map kD).map (·.1)) = some (l.map Prod.fst)
  | [] => rfl
  | p :: l => by
    have ih := strs_kD l
    show strs? (D.str p.1 :: ((l.map kD).map (·.1))) = _
    simp only [strs?, ih]
    rfl
theorem o_dsrt {P : D → Prop} {l : List (List Nat × Nat)} (h : l.length < 65536) (p : P (.lst ((sortS (l.map Prod.fst)).map .str))) : opQ .dsrt [.dct (l.map kD)] P := by
  refine ⟨_, ?_, p⟩
  show dsrtD (l.map kD) = _
  unfold dsrtD
  rw [strs_kD]
  dsimp only
  rw [List.length_map, if_pos h]
/-- how often: a dict that counts -/
structure Cnt (ws : List (List Nat)) (l : List (List Nat × Nat)) : Prop where
  nd : (l.map Prod.fst).Nodup
  mem : ∀ w, w ∈ l.map Prod.fst ↔ w ∈ ws
  cnt : ∀ p ∈ l, p.2 = ws.count p.1
theorem Cnt.look {ws : List (List Nat)} {l : List (List Nat × Nat)} (h : Cnt ws l) (w : List Nat) : (lkD l w).getD 0 = ws.count w ∧ (w ∈ ws → lkD l w = some (ws.count w)) := by
  unfold lkD
  cases e : l.find? fun p => decide (p.1 = w) with
  | none =>
    have hn : w ∉ ws := fun hw => by
      obtain ⟨p, hp, rfl⟩ := List.mem_map.mp ((h.mem w).mpr hw)
      have := List.find?_eq_none.mp e p hp
      simp at this
    exact ⟨(List.count_eq_zero.mpr hn).symm, fun hw => absurd hw hn⟩
  | some p =>
    have hp := List.mem_of_find?_eq_some e
    have h1 : p.1 = w := by have := List.find?_some e; simpa using this
    subst h1
    exact ⟨h.cnt p hp, fun _ => congrArg some (h.cnt p hp)⟩
theorem Cnt.add {ws : List (List Nat)} {l : List (List Nat × Nat)} (h : Cnt ws l) (w : List Nat) : Cnt (ws ++ [w]) (puD l w ((lkD l w).getD 0 + 1)) := by
  rw [(h.look w).1]
  have hany : (l.any fun p => decide (p.1 = w)) = true ↔ w ∈ ws := by
    rw [List.any_eq_true, ← h.mem w, List.mem_map]
    constructor
    · rintro ⟨p, hp, e⟩; exact ⟨p, hp, of_decide_eq_true e⟩
    · rintro ⟨p, hp, e⟩; exact ⟨p, hp, decide_eq_true e⟩
  unfold puD
  by_cases hw : w ∈ ws
  · rw [if_pos (hany.mpr hw)]
    have ek : (l.map fun p => if p.1 = w then (p.1, ws.count w + 1) else p).map Prod.fst = l.map Prod.fst := by
      rw [List.map_map]
      refine List.map_congr_left fun p _ => ?_
      show (if p.1 = w then (p.1, ws.count w + 1) else p).1 = p.1
      split <;> rfl
    refine ⟨by rw [ek]; exact h.nd, fun x => ?_, fun p hp => ?_⟩
    · rw [ek, h.mem x, List.mem_append, List.mem_singleton]
      exact ⟨.inl, fun z => z.elim id fun e => by rw [e]; exact hw⟩
    · obtain ⟨q, hq, rfl⟩ := List.mem_map.mp hp
      rw [List.count_append]
      by_cases e : q.1 = w
      · rw [if_pos e]
        show ws.count w + 1 = ws.count q.1 + [w].count q.1
        rw [e]; simp
      · rw [if_neg e, h.cnt q hq]
        simp [List.count_singleton, Ne.symm e]
  · rw [if_neg (fun z => hw (hany.mp z))]
    refine ⟨?_, fun x => ?_, fun p hp => ?_⟩
    · rw [List.map_append]
      refine List.nodup_append.mpr ⟨h.nd, by simp, fun x hx y hy e => ?_⟩
      have hy : y = w := by simpa using hy
      subst hy; subst e
      exact hw ((h.mem x).mp hx)
    · rw [List.map_append, List.mem_append, List.mem_append, h.mem x]
      simp
    · rw [List.count_append]
      rcases List.mem_append.mp hp with hp | hp
      · have hne : ¬ w = p.1 := fun e => hw ((h.mem w).mp (List.mem_map.mpr ⟨p, hp, e.symm⟩))
        rw [h.cnt p hp]
        simp [List.count_singleton, hne]
      · rw [List.mem_singleton.mp hp]
        simp
theorem Cnt.nil : Cnt [] [] := ⟨List.nodup_nil, fun _ => Iff.rfl, fun p hp => absurd hp List.not_mem_nil⟩
theorem Cnt.len {ws : List (List Nat)} : ∀ {l : List (List Nat × Nat)} {w : List Nat} {c : Nat}, (puD l w c).length ≤ l.length + 1 := fun {l w c} => by
  unfold puD; split
  · rw [List.length_map]; omega
  · rw [List.length_append]; simp
end
end Mi

/-! terms of the text, printed by tools/tr.py -/
namespace K44
open Mi
/-- what __init__ notes: how many ones stand before each eighth position -/
def noteL (bs : List Nat) : List Nat := (List.range ((bs.length + 7) / 8 + 1)).map fun k => (bs.take (8 * k)).sum
def cB : List Nat := [66, 105, 116, 115]
def nRow : List Nat := [114, 111, 119]
def nNotes : List Nat := [110, 111, 116, 101, 115]
def bitsD (bs : List Nat) : D := .obj cB ([nRow, nNotes].zip [.tup (bs.map nI), .fls ((noteL bs).map nI)])
open Classical in
/-- what Bits(..) makes: shown by hand -/
noncomputable def F_bits : Fn := fun ds => if h : ∃ bs : List Nat, ds = [.tup (bs.map nI)] ∧ bs.length ≤ 1000 then .ok (bitsD h.choose) ds else .stk
def CC : List D := [.int (8 : Nat)]
noncomputable def F_Bits : Fn := F_bits
def Bits___len___s1 : S := (.ret (.op (.prim .len) (.cons (.fld (.var 0) [114, 111, 119]) .nil)))
def b_Bits___len__ : Ss := (.cons Bits___len___s1 .nil)
noncomputable def F_Bits___len__ : Fn := runDef [F_Bits] CC b_Bits___len__ 1 []
def Bits_ones_before_s1 : S := (.rais 1)
def Bits_ones_before_s2 : S := (.ite (.or (.op (.cmp .lt) (.cons (.var 1) (.cons (.int (0 : Nat)) .nil))) (.op (.cmp .gt) (.cons (.var 1) (.cons (.op (.prim .len) (.cons (.fld (.var 0) [114, 111, 119]) .nil)) .nil)))) (.cons Bits_ones_before_s1 .nil) .nil)
def Bits_ones_before_s3 : S := (.asg (.nm 2) (.op (.bin .fdiv) (.cons (.var 1) (.cons (.glob 0) .nil))))
def Bits_ones_before_s4 : S := (.ret (.op (.bin .add) (.cons (.op .idx (.cons (.fld (.var 0) [110, 111, 116, 101, 115]) (.cons (.var 2) .nil))) (.cons (.op (.prim .sum) (.cons (.slc (.fld (.var 0) [114, 111, 119]) (.cons (.op (.bin .mul) (.cons (.var 2) (.cons (.glob 0) .nil))) .nil) (.cons (.var 1) .nil)) .nil)) .nil))))
def b_Bits_ones_before : Ss := (.cons Bits_ones_before_s2 (.cons Bits_ones_before_s3 (.cons Bits_ones_before_s4 .nil)))
noncomputable def F_Bits_ones_before : Fn := runDef [F_Bits, F_Bits___len__] CC b_Bits_ones_before 3 []
def Bits_place_of_s1 : S := (.rais 1)
def Bits_place_of_s2 : S := (.ite (.op (.cmp .lt) (.cons (.var 2) (.cons (.int (0 : Nat)) .nil))) (.cons Bits_place_of_s1 .nil) .nil)
def Bits_place_of_s3 : S := (.asg (.nm 3) (.int (0 : Nat)))
def Bits_place_of_s4 : S := (.ret (.var 4))
def Bits_place_of_s5 : S := (.ite (.op (.cmp .eq) (.cons (.var 3) (.cons (.var 2) .nil))) (.cons Bits_place_of_s4 .nil) .nil)
def Bits_place_of_s6 : S := (.asg (.nm 3) (.op (.bin .add) (.cons (.var 3) (.cons (.int (1 : Nat)) .nil))))
def Bits_place_of_s7 : S := (.ite (.op (.cmp .eq) (.cons (.op .idx (.cons (.fld (.var 0) [114, 111, 119]) (.cons (.var 4) .nil))) (.cons (.var 1) .nil))) (.cons Bits_place_of_s5 (.cons Bits_place_of_s6 .nil)) .nil)
def Bits_place_of_b8 : Ss := (.cons Bits_place_of_s7 .nil)
def Bits_place_of_s9 : S := (.for_ (.nm 4) (.cons (.op (.prim .range) (.cons (.op (.prim .len) (.cons (.fld (.var 0) [114, 111, 119]) .nil)) .nil)) .nil) Bits_place_of_b8 [4])
def Bits_place_of_s10 : S := (.rais 1)
def b_Bits_place_of : Ss := (.cons Bits_place_of_s2 (.cons Bits_place_of_s3 (.cons Bits_place_of_s9 (.cons Bits_place_of_s10 .nil))))
noncomputable def F_Bits_place_of : Fn := runDef [F_Bits, F_Bits___len__, F_Bits_ones_before] CC b_Bits_place_of 5 []
def Bits_place_of_one_s1 : S := (.ret (.mcl 3 [66, 105, 116, 115] [112, 108, 97, 99, 101, 95, 111, 102] (.var 0) (.cons (.int (1 : Nat)) (.cons (.var 1) .nil))))
def b_Bits_place_of_one : Ss := (.cons Bits_place_of_one_s1 .nil)
noncomputable def F_Bits_place_of_one : Fn := runDef [F_Bits, F_Bits___len__, F_Bits_ones_before, F_Bits_place_of] CC b_Bits_place_of_one 2 []
def Bits_place_of_zero_s1 : S := (.ret (.mcl 3 [66, 105, 116, 115] [112, 108, 97, 99, 101, 95, 111, 102] (.var 0) (.cons (.int (0 : Nat)) (.cons (.var 1) .nil))))
def b_Bits_place_of_zero : Ss := (.cons Bits_place_of_zero_s1 .nil)
noncomputable def F_Bits_place_of_zero : Fn := runDef [F_Bits, F_Bits___len__, F_Bits_ones_before, F_Bits_place_of, F_Bits_place_of_one] CC b_Bits_place_of_zero 2 []
def l_begin_s1 : S := (.asg (.nm 1) (.int (1 : Nat)))
def l_begin_s2 : S := (.asg (.nm 1) (.op (.bin .mod) (.cons (.op (.bin .add) (.cons (.op (.bin .add) (.cons (.op (.bin .mul) (.cons (.var 1) (.cons (.int (69621 : Nat)) .nil))) (.cons (.op (.bin .mod) (.cons (.op (.prim .int) (.cons (.var 2) .nil)) (.cons (.int (2147483629 : Nat)) .nil))) .nil))) (.cons (.int (7 : Nat)) .nil))) (.cons (.int (2147483647 : Nat)) .nil))))
def l_begin_b3 : Ss := (.cons l_begin_s2 .nil)
def l_begin_s4 : S := (.for_ (.nm 2) (.cons (.var 0) .nil) l_begin_b3 [2])
def l_begin_s5 : S := (.ret (.op .lst (.cons (.frz (.op (.prim .list) (.cons (.var 0) .nil))) (.cons (.int (0 : Nat)) (.cons (.int (0 : Nat)) (.cons (.var 1) .nil))))))
def b__law_begin : Ss := (.cons l_begin_s1 (.cons l_begin_s4 (.cons l_begin_s5 .nil)))
noncomputable def F__law_begin : Fn := runDef [F_Bits, F_Bits___len__, F_Bits_ones_before, F_Bits_place_of, F_Bits_place_of_one, F_Bits_place_of_zero] CC b__law_begin 3 []
def l_take_s1 : S := (.seti 0 (.int (2 : Nat)) (.op (.prim .abs) (.cons (.op (.prim .int) (.cons (.op .idx (.cons (.op .idx (.cons (.var 0) (.cons (.int (0 : Nat)) .nil))) (.cons (.op .idx (.cons (.var 0) (.cons (.int (1 : Nat)) .nil))) .nil))) .nil)) .nil)))
def l_take_s2 : S := (.seti 0 (.int (1 : Nat)) (.op (.bin .add) (.cons (.op .idx (.cons (.var 0) (.cons (.int (1 : Nat)) .nil))) (.cons (.int (1 : Nat)) .nil))))
def l_take_s3 : S := (.asg (.nm 2) (.op (.prim .int) (.cons (.op .idx (.cons (.var 0) (.cons (.int (2 : Nat)) .nil))) .nil)))
def l_take_s4 : S := (.seti 0 (.int (2 : Nat)) (.int (0 : Nat)))
def l_take_s5 : S := (.ret (.op (.bin .mod) (.cons (.var 2) (.cons (.var 1) .nil))))
def l_take_s6 : S := (.ite (.op (.cmp .lt) (.cons (.op .idx (.cons (.var 0) (.cons (.int (2 : Nat)) .nil))) (.cons (.op (.bin .pow) (.cons (.int (10 : Nat)) (.cons (.int (18 : Nat)) .nil))) .nil))) (.cons l_take_s3 (.cons l_take_s4 (.cons l_take_s5 .nil))) .nil)
def l_take_s7 : S := (.ite (.and (.op (.cmp .eq) (.cons (.op .idx (.cons (.var 0) (.cons (.int (2 : Nat)) .nil))) (.cons (.int (0 : Nat)) .nil))) (.op (.cmp .lt) (.cons (.op .idx (.cons (.var 0) (.cons (.int (1 : Nat)) .nil))) (.cons (.op (.prim .len) (.cons (.op .idx (.cons (.var 0) (.cons (.int (0 : Nat)) .nil))) .nil)) .nil)))) (.cons l_take_s1 (.cons l_take_s2 (.cons l_take_s6 .nil))) .nil)
def l_take_s8 : S := (.asg (.nm 3) (.op (.bin .mod) (.cons (.op (.prim .int) (.cons (.op .idx (.cons (.var 0) (.cons (.int (2 : Nat)) .nil))) .nil)) (.cons (.var 1) .nil))))
def l_take_s9 : S := (.seti 0 (.int (2 : Nat)) (.op (.bin .fdiv) (.cons (.op (.prim .int) (.cons (.op .idx (.cons (.var 0) (.cons (.int (2 : Nat)) .nil))) .nil)) (.cons (.var 1) .nil))))
def l_take_s10 : S := (.ret (.var 3))
def l_take_s11 : S := (.ite (.op (.cmp .gt) (.cons (.op .idx (.cons (.var 0) (.cons (.int (2 : Nat)) .nil))) (.cons (.int (0 : Nat)) .nil))) (.cons l_take_s8 (.cons l_take_s9 (.cons l_take_s10 .nil))) .nil)
def l_take_s12 : S := (.seti 0 (.int (3 : Nat)) (.op (.bin .mod) (.cons (.op (.prim .int) (.cons (.op (.bin .add) (.cons (.op (.bin .mul) (.cons (.op .idx (.cons (.var 0) (.cons (.int (3 : Nat)) .nil))) (.cons (.int (48271 : Nat)) .nil))) (.cons (.int (11 : Nat)) .nil))) .nil)) (.cons (.int (2147483647 : Nat)) .nil))))
def l_take_s13 : S := (.ret (.op (.bin .mod) (.cons (.op (.prim .int) (.cons (.op (.bin .fdiv) (.cons (.op .idx (.cons (.var 0) (.cons (.int (3 : Nat)) .nil))) (.cons (.int (3 : Nat)) .nil))) .nil)) (.cons (.var 1) .nil))))
def b__law_take : Ss := (.cons l_take_s7 (.cons l_take_s11 (.cons l_take_s12 (.cons l_take_s13 .nil))))
noncomputable def F__law_take : Fn := runDef [F_Bits, F_Bits___len__, F_Bits_ones_before, F_Bits_place_of, F_Bits_place_of_one, F_Bits_place_of_zero, F__law_begin] CC b__law_take 4 [0]
def l_int_s1 : S := (.ret (.and (.op (.prim .isInt) (.cons (.var 0) .nil)) (.not (.op (.prim .isBool) (.cons (.var 0) .nil)))))
def b__law_int : Ss := (.cons l_int_s1 .nil)
noncomputable def F__law_int : Fn := runDef [F_Bits, F_Bits___len__, F_Bits_ones_before, F_Bits_place_of, F_Bits_place_of_one, F_Bits_place_of_zero, F__law_begin, F__law_take] CC b__law_int 1 []
def l_told_s1 : S := (.asg (.nm 3) (.mcl 2 [66, 105, 116, 115] [111, 110, 101, 115, 95, 98, 101, 102, 111, 114, 101] (.var 0) (.cons (.var 2) .nil)))
def l_told_s2 : S := (.asg (.nm 3) (.mcl 4 [66, 105, 116, 115] [112, 108, 97, 99, 101, 95, 111, 102, 95, 111, 110, 101] (.var 0) (.cons (.var 2) .nil)))
def l_told_s3 : S := (.asg (.nm 3) (.mcl 5 [66, 105, 116, 115] [112, 108, 97, 99, 101, 95, 111, 102, 95, 122, 101, 114, 111] (.var 0) (.cons (.var 2) .nil)))
def l_told_s4 : S := (.ite (.op (.cmp .eq) (.cons (.var 1) (.cons (.int (1 : Nat)) .nil))) (.cons l_told_s2 .nil) (.cons l_told_s3 .nil))
def l_told_s5 : S := (.ite (.op (.cmp .eq) (.cons (.var 1) (.cons (.int (0 : Nat)) .nil))) (.cons l_told_s1 .nil) (.cons l_told_s4 .nil))
def l_told_s6 : S := (.try_ 2 (.cons l_told_s5 .nil) 1 .non)
def l_told_s7 : S := (.ret (.var 3))
def b__law_told : Ss := (.cons l_told_s6 (.cons l_told_s7 .nil))
noncomputable def F__law_told : Fn := runDef [F_Bits, F_Bits___len__, F_Bits_ones_before, F_Bits_place_of, F_Bits_place_of_one, F_Bits_place_of_zero, F__law_begin, F__law_take, F__law_int] CC b__law_told 4 []
def law_s1 : S := (.asg (.nm 1) (.call 6 (.cons (.var 0) .nil)))
def law_s2 : S := (.asg (.nm 2) (.call 7 (.cons (.var 1) (.cons (.int (4 : Nat)) .nil))))
def law_e3 : E := (.ite (.op (.cmp .eq) (.cons (.var 2) (.cons (.int (1 : Nat)) .nil))) (.int (1 : Nat)) (.ite (.op (.cmp .eq) (.cons (.var 2) (.cons (.int (2 : Nat)) .nil))) (.int (0 : Nat)) (.call 7 (.cons (.var 1) (.cons (.int (2 : Nat)) .nil)))))
def law_s4 : S := (.asg (.nm 3) (.comp (.nm 10) (.cons (.op (.prim .range) (.cons (.call 7 (.cons (.var 1) (.cons (.int (41 : Nat)) .nil))) .nil)) .nil) .nil law_e3))
def law_s5 : S := (.asg (.nm 4) (.call 0 (.cons (.op (.prim .tuple) (.cons (.var 3) .nil)) .nil)))
def law_e6 : E := (.op (.bin .sub) (.cons (.int (1 : Nat)) (.cons (.var 12) .nil)))
def law_s7 : S := (.asg (.nm 5) (.call 0 (.cons (.op (.prim .tuple) (.cons (.comp (.nm 12) (.cons (.var 3) .nil) .nil law_e6) .nil)) .nil)))
def law_s8 : S := (.ret (.bl false))
def law_s9 : S := (.ite (.op (.cmp .ne) (.cons (.oln 1 [66, 105, 116, 115] (.var 4)) (.cons (.op (.prim .len) (.cons (.var 3) .nil)) .nil))) (.cons law_s8 .nil) .nil)
def law_s10 : S := (.asg (.nm 7) (.call 9 (.cons (.var 4) (.cons (.int (0 : Nat)) (.cons (.var 6) .nil)))))
def law_s11 : S := (.ret (.bl false))
def law_s12 : S := (.ite (.or (.not (.call 8 (.cons (.var 7) .nil))) (.or (.op (.cmp .ne) (.cons (.var 7) (.cons (.op (.prim .sum) (.cons (.slc (.var 3) .nil (.cons (.var 6) .nil)) .nil)) .nil))) (.op (.cmp .ne) (.cons (.call 9 (.cons (.var 5) (.cons (.int (0 : Nat)) (.cons (.var 6) .nil)))) (.cons (.op (.bin .sub) (.cons (.var 6) (.cons (.var 7) .nil))) .nil))))) (.cons law_s11 .nil) .nil)
def law_b13 : Ss := (.cons law_s10 (.cons law_s12 .nil))
def law_s14 : S := (.for_ (.nm 6) (.cons (.op (.prim .range) (.cons (.op (.bin .add) (.cons (.op (.prim .len) (.cons (.var 3) .nil)) (.cons (.int (1 : Nat)) .nil))) .nil)) .nil) law_b13 [6, 7])
def law_q15 : E := (.op (.cmp .eq) (.cons (.op .idx (.cons (.var 3) (.cons (.var 11) .nil))) (.cons (.op (.bin .sub) (.cons (.int (2 : Nat)) (.cons (.var 8) .nil))) .nil)))
def law_e16 : E := (.var 11)
def law_s17 : S := (.asg (.nm 9) (.comp (.nm 11) (.cons (.op (.prim .range) (.cons (.op (.prim .len) (.cons (.var 3) .nil)) .nil)) .nil) (.cons law_q15 .nil) law_e16))
def law_s18 : S := (.ret (.bl false))
def law_s19 : S := (.ite (.or (.op (.cmp .ne) (.cons (.call 9 (.cons (.var 4) (.cons (.var 8) (.cons (.var 10) .nil)))) (.cons (.op .idx (.cons (.var 9) (.cons (.var 10) .nil))) .nil))) (.op (.cmp .ne) (.cons (.call 9 (.cons (.var 5) (.cons (.op (.bin .sub) (.cons (.int (3 : Nat)) (.cons (.var 8) .nil))) (.cons (.var 10) .nil)))) (.cons (.op .idx (.cons (.var 9) (.cons (.var 10) .nil))) .nil)))) (.cons law_s18 .nil) .nil)
def law_b20 : Ss := (.cons law_s19 .nil)
def law_s21 : S := (.for_ (.nm 10) (.cons (.op (.prim .range) (.cons (.op (.prim .len) (.cons (.var 9) .nil)) .nil)) .nil) law_b20 [10])
def law_s22 : S := (.ret (.bl false))
def law_s23 : S := (.ite (.or (.op (.cmp .isnot) (.cons (.call 9 (.cons (.var 4) (.cons (.var 8) (.cons (.op (.prim .len) (.cons (.var 9) .nil)) .nil)))) (.cons .non .nil))) (.op (.cmp .isnot) (.cons (.call 9 (.cons (.var 4) (.cons (.var 8) (.cons (.op (.bin .sub) (.cons (.int (0 : Nat)) (.cons (.int (1 : Nat)) .nil))) .nil)))) (.cons .non .nil)))) (.cons law_s22 .nil) .nil)
def law_b24 : Ss := (.cons law_s17 (.cons law_s21 (.cons law_s23 .nil)))
def law_s25 : S := (.for_ (.nm 8) (.cons (.op .tup (.cons (.int (1 : Nat)) (.cons (.int (2 : Nat)) .nil))) .nil) law_b24 [8, 9, 10])
def law_s26 : S := (.ret (.and (.op (.cmp .is_) (.cons (.call 9 (.cons (.var 4) (.cons (.int (0 : Nat)) (.cons (.op (.bin .sub) (.cons (.int (0 : Nat)) (.cons (.int (1 : Nat)) .nil))) .nil)))) (.cons .non .nil))) (.op (.cmp .is_) (.cons (.call 9 (.cons (.var 4) (.cons (.int (0 : Nat)) (.cons (.op (.bin .add) (.cons (.op (.prim .len) (.cons (.var 3) .nil)) (.cons (.int (1 : Nat)) .nil))) .nil)))) (.cons .non .nil)))))
def b_law : Ss := (.cons law_s1 (.cons law_s2 (.cons law_s4 (.cons law_s5 (.cons law_s7 (.cons law_s9 (.cons law_s14 (.cons law_s25 (.cons law_s26 .nil)))))))))
noncomputable def F_law : Fn := runDef [F_Bits, F_Bits___len__, F_Bits_ones_before, F_Bits_place_of, F_Bits_place_of_one, F_Bits_place_of_zero, F__law_begin, F__law_take, F__law_int, F__law_told] CC b_law 13 []
noncomputable abbrev GL : List Fn := [F_Bits, F_Bits___len__, F_Bits_ones_before, F_Bits_place_of, F_Bits_place_of_one, F_Bits_place_of_zero, F__law_begin, F__law_take, F__law_int, F__law_told]
theorem hT : Tk F__law_take := take_ok
theorem hB (ns : List Int) : ∃ d', F__law_begin [.fls (ns.map D.int)] = .ok d' [.fls (ns.map D.int)] ∧ Dr d' := begin_ok ns
theorem hI (n : Int) : F__law_int [.int n] = .ok (.bl true) [.int n] := int_ok n
end K44

namespace K44
open Mi
local macro_rules | `(tactic| get_elem_tactic_trivial) => `(tactic| simp only [List.map_cons, List.map_nil, List.cons_append, List.nil_append, List.length_cons, List.length_nil, Nat.reduceAdd, Nat.reduceSub, Nat.zero_add, List.replicate])
local macro_rules | `(tactic| sizeOf_list_dec) => `(tactic| first
  | (with_reducible assumption)
  | omega
  | rfl
  | (simp only [List.length_take, List.length_drop, List.length_append, List.length_map, List.length_range, List.length_reverse, List.length_cons, List.length_nil, List.length_dropLast, rep_len]; omega)
  | (simp only [List.length_take, List.length_drop, List.length_append, List.length_map, List.length_range, List.length_reverse, List.length_cons, List.length_nil, List.length_dropLast, rep_len] at *; omega)
  | (apply Nat.mod_lt; omega)
  | (simp; done))
local macro_rules | `(tactic| decreasing_trivial_pre_omega) => `(tactic| first
  | (with_reducible assumption)
  | exact (rfl : (_ : Bool) = _)
  | exact okD_tup (ok_map fun _ => okD_str)
  | exact okD_tup (ok_map fun _ => okD_int)
  | exact okD_tup (ok_map (f := nI) fun _ => okD_int)
  | exact okD_str
  | exact okD_int)
local macro_rules | `(tactic| array_get_dec) => `(tactic| first
  | (refine id (α := wS _ _ _ _ _ _) ?_; dsimp only [setAll, List.set_cons_succ, List.set_cons_zero])
  | refine s_asg (by decide) ?_
  | refine s_ret ?_
  | refine s_retV (by decide) rfl ?_
  | refine s_ite ?_
  | refine s_appM rfl ?_
  | refine s_app rfl ?_
  | refine s_nil ?_
  | refine s_ex ?_
  | refine s_pass ?_
  | refine s_rais ?_
  | refine s_retN ?_
  | refine s_brk ?_
  | refine s_cnt ?_
  | refine s_mov (by decide) (by decide) rfl ?_
  | refine s_asgT rfl ?_
  | refine s_tryC (by decide) ?_
  | refine s_try ?_
  | refine wL_nil ?_
  | refine wL_var rfl ?_
  | refine wL_val rfl ?_
  | refine at_of rfl ?_
  | refine wE_var rfl rfl ?_
  | refine wE_int ?_
  | refine wE_str ?_
  | refine wE_bl ?_
  | refine wE_non ?_
  | refine wE_glob rfl ?_
  | refine wE_op ?_
  | refine wE_call ?_
  | refine wE_slcV rfl ?_
  | refine wE_slc rfl ?_
  | refine wE_not ?_
  | refine bl_of ?_
  | refine wE_mth ?_
  | refine wE_fz rfl ?_
  | refine wE_frz ?_
  | apply wE_andW
  | apply wE_orW
  | ((with_reducible refine Whn.mk ?_); intro hx; (try simp only [decide_eq_true_eq, decide_eq_false_iff_not, Bool.or_eq_true, Bool.or_eq_false_iff, Bool.and_eq_true, Bool.and_eq_false_iff, Bool.not_eq_true', Bool.not_eq_false'] at hx))
  | ((with_reducible refine Unl.mk ?_); intro hx; (try simp only [decide_eq_true_eq, decide_eq_false_iff_not, Bool.or_eq_true, Bool.or_eq_false_iff, Bool.and_eq_true, Bool.and_eq_false_iff, Bool.not_eq_true', Bool.not_eq_false'] at hx))
  | ((with_reducible refine Ech.mk ?_); intro y hy)
  | ((with_reducible refine EchL.mk ?_); intro y hy)
  | refine it_str (by first | exact rfl | exact trivial)
  | refine it_tup (by first | exact rfl | exact trivial)
  | refine it_lst (by first | exact rfl | exact trivial)
  | refine it_fls (by first | exact rfl | exact trivial)
  | refine wP_nil ?_
  | refine wP_one ?_
  | refine ix_of ?_
  | refine wC_nil ?_
  | refine wC_one ?_
  | (with_reducible refine th_nx ?_)
  | (with_reducible refine th_rt ?_)
  | (with_reducible refine th_exc ?_)
  | (with_reducible refine th_bk ?_)
  | (with_reducible refine th_ct ?_)
  | (with_reducible refine tu_nx ?_)
  | (with_reducible refine tu_rt ?_)
  | (with_reducible refine tu_ct ?_)
  | (with_reducible refine tu_bk ?_)
  | (with_reducible refine tu_exc ?_)
  | (with_reducible refine tq_nx ?_)
  | (with_reducible refine tq_rt ?_)
  | ((with_reducible apply tq_exc); (case h1 => decide); (case h2 => rfl); (case h3 => rfl))
  | (with_reducible refine t0_nx ?_)
  | (with_reducible refine t0_rt ?_)
  | ((with_reducible apply t0_exc); (case h1 => decide); (case h2 => rfl); (case h3 => rfl))
  | refine o_addN ?_
  | refine o_add ?_
  | (refine o_subN ?h1 ?q; (case h1 => first | omega | (simp only [List.length_take, List.length_drop, List.length_append, List.length_map, List.length_range] at *; omega)))
  | refine o_sub ?_
  | (refine o_addS ?h1 ?q; (case h1 => sizeOf_list_dec))
  | (refine o_mulN ?h1 ?q; (case h1 => omega))
  | (refine o_mulN2 ?h1 ?q; (case h1 => omega))
  | (refine o_fdivN ?h1 ?h2 ?q; (case h1 => omega); (case h2 => omega))
  | (refine o_modN ?h1 ?q; (case h1 => omega))
  | (refine o_mod ?h1 ?q; (case h1 => omega))
  | refine o_neg ?_
  | refine o_eqN ?_
  | refine o_neN ?_
  | refine o_ltN ?_
  | refine o_leN ?_
  | refine o_gtN ?_
  | refine o_geN ?_
  | refine o_eqI ?_
  | refine o_neI ?_
  | refine o_ltI ?_
  | refine o_leI ?_
  | refine o_gtI ?_
  | refine o_geI ?_
  | refine o_eqS ?_
  | refine o_neS ?_
  | refine o_ltS ?_
  | refine o_leS ?_
  | refine o_gtS ?_
  | refine o_geS ?_
  | refine o_inS ?_
  | refine o_ninS ?_
  | refine o_inST ?_
  | refine o_inSL ?_
  | refine o_inSF ?_
  | refine o_ninST ?_
  | refine o_ninSL ?_
  | refine o_ninSF ?_
  | refine o_isN0 ?_
  | refine o_isB ?_
  | refine o_isntB ?_
  | refine o_isN rfl ?_
  | refine o_isnN0 ?_
  | refine o_isnN rfl ?_
  | (refine o_neSame rfl ?h1 ?q; (case h1 => decreasing_trivial_pre_omega))
  | (refine o_eqSame rfl ?h1 ?q; (case h1 => decreasing_trivial_pre_omega))
  | (refine o_lenS ?h1 ?q; (case h1 => sizeOf_list_dec))
  | refine o_lenTm ?_
  | refine o_lenLm ?_
  | refine o_lenFm ?_
  | refine o_lenT ?_
  | refine o_lenL ?_
  | refine o_lenF ?_
  | (refine o_ixS ?h1 ?h2 ?q; (case h1 => sizeOf_list_dec); (case h2 => sizeOf_list_dec))
  | (refine o_ixS1 ?h1 ?h2 ?q; (case h1 => sizeOf_list_dec); (case h2 => sizeOf_list_dec))
  | (refine o_ixTm ([] : List Nat) ?h1 ?q; (case h1 => sizeOf_list_dec))
  | (refine o_ixLm ([] : List Nat) ?h1 ?q; (case h1 => sizeOf_list_dec))
  | refine o_ixT rfl ?_
  | refine o_ixL rfl ?_
  | refine o_ixF rfl ?_
  | (refine s_Sat ?h1 ?q; (case h1 => sizeOf_list_dec))
  | (refine s_S0 ?h1 ?q; (case h1 => sizeOf_list_dec))
  | (refine s_Sm ?h1 ?q; (case h1 => sizeOf_list_dec))
  | (refine s_Sl1 ?h1 ?q; (case h1 => sizeOf_list_dec))
  | (refine s_S1 ?h1 ?q; (case h1 => sizeOf_list_dec))
  | (refine s_S2 ?h1 ?q; (case h1 => sizeOf_list_dec))
  | (refine s_S ?h1 ?q; (case h1 => sizeOf_list_dec))
  | refine s_Lm0 ?_
  | refine s_Fm0 ?_
  | refine s_Fm1 ?_
  | refine s_Fmat ?_
  | refine s_Lml1 ?_
  | refine s_Lm1 ?_
  | refine s_Lmat ?_
  | refine s_Tm0 ?_
  | refine s_Tml1 ?_
  | refine s_Tm1 ?_
  | refine s_Tmat ?_
  | (refine o_addLm ?h1 ?q; (case h1 => sizeOf_list_dec))
  | (refine o_addTm ?h1 ?q; (case h1 => sizeOf_list_dec))
  | (refine o_mulS ?h1 ?h2 ?q; (case h1 => sizeOf_list_dec); (case h2 => sizeOf_list_dec))
  | refine o_abs ?_
  | refine o_int ?_
  | refine o_intB ?_
  | refine o_minN ?_
  | refine o_maxN ?_
  | refine o_min ?_
  | refine o_max ?_
  | refine o_tuL ?_
  | refine o_tuT ?_
  | refine o_tuF ?_
  | refine o_liT ?_
  | refine o_liL ?_
  | refine o_liF ?_
  | refine o_sortS ?_
  | refine o_sortSF ?_
  | refine o_sumN ?_
  | refine o_sumI ?_
  | refine o_any ?_
  | refine o_all ?_
  | (refine o_rngD0 ?h1 ?q; (case h1 => sizeOf_list_dec))
  | refine o_neBl ?_
  | refine o_eqBl ?_
  | refine o_inNT ?_
  | refine o_ixLa ?_
  | (refine o_ixLm1 ([] : List Nat) ?h1 ?q; (case h1 => sizeOf_list_dec))
  | (refine o_ixLm1 (f := nI) 0 ?h1 ?q; (case h1 => sizeOf_list_dec))
  | (refine o_ixTm (f := nI) 0 ?h1 ?q; (case h1 => sizeOf_list_dec))
  | (refine o_ixLm (f := nI) 0 ?h1 ?q; (case h1 => sizeOf_list_dec))
  | (refine o_rng ?h1 ?q; (case h1 => sizeOf_list_dec))
  | (refine o_rngS ?h1 ?h2 ?q; (case h1 => sizeOf_list_dec); (case h2 => sizeOf_list_dec))
  | (refine o_rng2 ?h1 ?h2 ?q; (case h1 => sizeOf_list_dec); (case h2 => sizeOf_list_dec))
  | refine o_isaT ?_
  | refine o_isaI ?_
  | refine o_isaB ?_
  | refine o_isaBB ?_
  | refine o_isaS ?_
  | (refine m_join1 ?h1 ?q; (case h1 => sizeOf_list_dec))
  | refine o_tup (Nat.le_of_ble_eq_true rfl) rfl ?_
  | refine o_lst (Nat.le_of_ble_eq_true rfl) rfl ?_
  | ((with_reducible apply re_rt); (case h => exact rfl); (case hp => exact And.intro rfl rfl))
  | ((with_reducible apply re_nx); (case h => exact rfl); (case hp => exact And.intro rfl rfl))
  | ((with_reducible apply xe_exc); (case h => exact rfl); (case hp => exact And.intro rfl rfl))
  | ((with_reducible apply re_rt); (case h => exact rfl))
  | ((with_reducible apply re_nx); (case h => exact rfl))
  | ((with_reducible apply xe_exc); (case h => exact rfl))
  | exact And.intro rfl rfl
  | exact And.intro rfl (And.intro rfl rfl)
  | refine And.intro rfl ?_
  | refine Exists.intro _ (And.intro rfl (And.intro rfl ?_))
  | (refine And.intro ?h1 rfl; (case h1 => (intro _ _ h; first | exact trivial | (subst h; exact rfl) | (simp; done))))
  | (apply c_dr; (case hd => (with_reducible assumption)); (case hj => exact rfl); (case fl => exact rfl); (case hf => first | (with_reducible assumption) | decreasing_trivial_pre_omega); (case' q => intro r d1 hr hd1))
  | (apply call_lst; (case nf => exact rfl); (case hj => exact rfl); (case fl => exact rfl); (case h0 => exact rfl); (case hf => first | (with_reducible assumption) | decreasing_trivial_pre_omega))
  | (apply call_lst2; (case nf => exact rfl); (case f1 => exact rfl); (case hj => exact rfl); (case fl => exact rfl); (case h0 => exact rfl); (case hf => first | (with_reducible assumption) | decreasing_trivial_pre_omega))
  | refine xE_call ?_
  | (apply xcall_of; (case hj => exact rfl); (case hf => first | (with_reducible assumption) | decreasing_trivial_pre_omega); (case fl => exact rfl); (case hn => exact fun z => (nomatch z)))
  | (apply call_tmp; (case hv => exact rfl); (case hj => exact rfl); (case fl => exact rfl); (case hf => first | (with_reducible assumption) | decreasing_trivial_pre_omega))
  | (refine o_minSm ?h1 ?q; (case h1 => first | (with_reducible assumption) | (intro hz; simp at hz; omega)))
  | (refine o_minS ?h1 ?q; (case h1 => (with_reducible assumption)))
  | refine m_ends ?_
  | refine o_revLm ?_
  | refine o_revTm ?_
  | (refine o_mulTm ?h1 ?h2 ?h3 ?h4 ?q; (case h1 => sizeOf_list_dec); (case h2 => sizeOf_list_dec); (case h3 => sizeOf_list_dec); (case h4 => sizeOf_list_dec))
  | refine o_revL ?_
  | refine wE_lmt rfl rfl ?_
  | refine wE_ite ?_
  | apply w_cRW (es := .cons _ .nil)
  | apply w_cNW (es := .cons _ (.cons _ .nil))
  | apply w_cRqW (es := .cons _ .nil)
  | apply w_cNqW (es := .cons _ (.cons _ .nil))
  | apply w_cLW
  | apply w_cLqW
  | exact fun _ => rfl
  | (apply c_take (t := hT); (case hd => (with_reducible assumption)); (case hj => exact rfl); (case h0 => omega); (case h1 => omega); (case' q => intro r d1 hr hd1))
  | (apply c_begin; (case hj => exact rfl); (case hb => exact hB _); (case' q => intro d1 hd1))
  | (apply c_signs (hs := fun hd => hS hd); (case hd => (with_reducible assumption)); (case hj => exact rfl); (case' q => intro s d1 hs hs0 hs10 hsc hd1))
  | (apply c_text (t := hX); (case hd => (with_reducible assumption)); (case hj => exact rfl); (case hs => (with_reducible assumption)); (case hs2 => omega); (case hn => omega); (case' q => intro x d1 hx hxc hd1))
  | (apply c_rich (t := hR); (case hd => (with_reducible assumption)); (case hj => exact rfl); (case hs => (with_reducible assumption)); (case hs2 => omega); (case hn => omega); (case' q => intro x d1 hx hxc hd1))
  | (with_reducible refine nx_of ?_)
  | (apply call_of; (case hj => exact rfl); (case hf => decreasing_trivial_pre_omega); (case fl => exact rfl))
  | (refine Exists.intro _ (Exists.intro _ (And.intro rfl (And.intro rfl (And.intro rfl (And.intro ?h1 ?q))))); (case h1 => sizeOf_list_dec))
  | (refine Exists.intro _ (And.intro rfl (And.intro rfl (And.intro ?h1 ?q))); (case h1 => sizeOf_list_dec))
  | refine ite_f (by first | rfl | (simp; done) | (simp; omega)) ?_
  | refine ite_t (by first | rfl | (simp; done) | (simp; omega)) ?_
  | (apply ite_p; (case hb => first | exact decide_eq_true_iff | (simp only [decide_eq_true_eq, decide_eq_false_iff_not, Bool.or_eq_true, Bool.or_eq_false_iff, Bool.and_eq_true, Bool.and_eq_false_iff, Bool.not_eq_true', Bool.not_eq_false']; exact Iff.rfl) | exact Iff.rfl))
  | ((with_reducible apply fin_rt); (case h => exact rfl))
  | ((with_reducible apply fin_nx); (case h => exact rfl))
  | ((with_reducible apply fin_exc); (case h => exact rfl))
  | (with_reducible assumption)
  | omega
  | exact (rfl : (_ : Option (Option D)) = _)
  | exact (rfl : (_ : List (Option D)) = _))
section
variable {G : List Fn} {C : List D} {ρ : Env} {a : E} {es : Es} {Q : D → Env → Prop} {QX : Nat → Env → Prop} {j : Nat} {m : List Nat}
theorem wE_row (h : wE G C a ρ fun d ρ1 => ∃ bs, d = bitsD bs ∧ Q (.tup (bs.map nI)) ρ1) : wE G C (.fld a [114, 111, 119]) ρ Q := by
  obtain ⟨d, ρ1, h1, bs, rfl, q⟩ := h
  refine ⟨_, ρ1, ?_, q⟩
  rw [evalE, h1]; rfl
theorem wE_notes (h : wE G C a ρ fun d ρ1 => ∃ bs, d = bitsD bs ∧ Q (.fls ((noteL bs).map nI)) ρ1) : wE G C (.fld a [110, 111, 116, 101, 115]) ρ Q := by
  obtain ⟨d, ρ1, h1, bs, rfl, q⟩ := h
  refine ⟨_, ρ1, ?_, q⟩
  rw [evalE, h1]; rfl
theorem wE_mcl (hm : ∀ bs, ([nRow, nNotes].zip [D.tup (bs.map nI), .fls ((noteL bs).map nI)]).lookup m = none) (h : wE G C a ρ fun d ρ1 => ∃ bs, d = bitsD bs ∧ wL G C es ρ1 fun ds ρ2 => callQ G j (.cons .non es) (bitsD bs :: ds) ρ2 Q) : wE G C (.mcl j [66, 105, 116, 115] m a es) ρ Q := by
  obtain ⟨d, ρ1, h1, bs, rfl, ds, ρ2, h2, f, r, ρ3, h3, h4, q⟩ := h
  refine ⟨r, ρ3, ?_, q⟩
  rw [evalE, h1]
  show (if cB = [66, 105, 116, 115] ∧ ([nRow, nNotes].zip [D.tup (bs.map nI), .fls ((noteL bs).map nI)]).lookup m = none then _ else _) = _
  rw [if_pos ⟨rfl, hm bs⟩, h2]
  dsimp only
  rw [h3]
  exact h4
theorem xE_mcl (hm : ∀ bs, ([nRow, nNotes].zip [D.tup (bs.map nI), .fls ((noteL bs).map nI)]).lookup m = none) (h : wE G C a ρ fun d ρ1 => ∃ bs, d = bitsD bs ∧ wL G C es ρ1 fun ds ρ2 => xcallQ G j (.cons .non es) (bitsD bs :: ds) ρ2 QX) : xE G C (.mcl j [66, 105, 116, 115] m a es) ρ QX := by
  obtain ⟨d, ρ1, h1, bs, rfl, ds, ρ2, h2, f, r, ρ3, h3, h4, q⟩ := h
  refine ⟨r, ρ3, ?_, q⟩
  rw [evalE, h1]
  show (if cB = [66, 105, 116, 115] ∧ ([nRow, nNotes].zip [D.tup (bs.map nI), .fls ((noteL bs).map nI)]).lookup m = none then _ else _) = _
  rw [if_pos ⟨rfl, hm bs⟩, h2]
  dsimp only
  rw [h3]
  exact h4
theorem wE_oln (h : wE G C a ρ fun d ρ1 => ∃ bs, d = bitsD bs ∧ callQ G j (.cons .non .nil) [bitsD bs] ρ1 fun r ρ2 => ∃ n : Nat, r = nI n ∧ n < 1000000 ∧ Q (nI n) ρ2) : wE G C (.oln j [66, 105, 116, 115] a) ρ Q := by
  obtain ⟨d, ρ1, h1, bs, rfl, f, r, ρ3, h3, h4, n, rfl, hn, q⟩ := h
  refine ⟨nI n, ρ3, ?_, q⟩
  rw [evalE, h1]
  show (if cB = [66, 105, 116, 115] then _ else _) = _
  rw [if_pos (show cB = [66, 105, 116, 115] from rfl), h3]
  dsimp only
  have h4 : runF f (.cons .non .nil) [.obj cB ([nRow, nNotes].zip [D.tup (bs.map nI), .fls ((noteL bs).map nI)])] ρ1 = .ok (nI n) ρ3 := h4
  rw [h4]
  dsimp only
  rw [if_pos (by constructor <;> omega)]
theorem o_sumT {P : D → Prop} {l : List Nat} (p : P (.int ((l.sum : Nat) : Int))) : opQ (.prim .sum) [.tup (l.map nI)] P := by
  refine ⟨.int ((l.sum : Nat) : Int), ?_, p⟩
  have e : l.map nI = (l.map fun b => ((b : Nat) : Int)).map D.int := by rw [List.map_map]; rfl
  rw [e]
  show (ints? _).map (fun ns => D.int ns.sum) = _
  rw [ints?_map, ← sum_cast]; rfl
end
local macro_rules | `(tactic| array_get_dec) => `(tactic| first
  | refine wE_row ?_
  | refine wE_notes ?_
  | refine wE_mcl (fun _ => rfl) ?_
  | refine wE_oln ?_
  | refine o_sumT ?_
  | refine Exists.intro _ (And.intro (rfl : bitsD _ = bitsD _) ?_)
  | fail)
theorem len_ok (bs : List Nat) : F_Bits___len__ [bitsD bs] = .ok (nI bs.length) [bitsD bs] := by
  refine run_q rfl ?_
  get_elem_tactic_trivial
  repeat' array_get_dec
theorem ones_ok (bs : List Nat) (hb : bs.length ≤ 1000) (p : Nat) (hp : p ≤ bs.length) : F_Bits_ones_before [bitsD bs, nI p] = .ok (nI (bs.take p).sum) [bitsD bs, nI p] := by
  have hl : (noteL bs).length = (bs.length + 7) / 8 + 1 := by simp [noteL]
  refine run_q rfl ?_
  get_elem_tactic_trivial
  refine s_iteF ?_ ?_
  · refine wE_orW (x := false) (y := false) ?_ (Unl.mk fun _ => ?_) ⟨rfl, rfl⟩
    · repeat' array_get_dec
      all_goals exact ⟨by simp, rfl⟩
    · repeat' array_get_dec
      all_goals exact ⟨by simp; omega, rfl⟩
  · repeat' array_get_dec
    refine o_ixFm (f := nI) 0 (by omega) ?_
    repeat' array_get_dec
    refine (show slQ (some ((p / 8 * 8 : Nat) : Int)) (some ((p / 8 * 8 + (p - p / 8 * 8) : Nat) : Int)) _ _ → slQ _ (some ((p : Nat) : Int)) _ _ from fun h => by rw [show p / 8 * 8 + (p - p / 8 * 8) = p by omega] at h; exact h) ?_
    repeat' array_get_dec
    refine ⟨?_, rfl⟩
    have e1 : (noteL bs).getD (p / 8) 0 = (bs.take (p / 8 * 8)).sum := by
      unfold noteL
      rw [List.getD_eq_getElem?_getD, List.getElem?_map, List.getElem?_range (by omega), Nat.mul_comm]; rfl
    have e2 : bs.take p = bs.take (p / 8 * 8) ++ (bs.drop (p / 8 * 8)).take (p - p / 8 * 8) := by
      rw [← List.take_add, show p / 8 * 8 + (p - p / 8 * 8) = p by omega]
    rw [e1, e2, List.sum_append]
theorem ones_x (bs : List Nat) (p : Int) (hp : p < 0 ∨ (bs.length : Int) < p) : F_Bits_ones_before [bitsD bs, .int p] = .exc 1 [bitsD bs, .int p] := by
  refine run_x rfl ?_
  get_elem_tactic_trivial
  refine s_iteT ?_ ?_
  · refine wE_orW (x := decide (p < 0)) (y := decide ((bs.length : Int) < p)) ?_ (Unl.mk fun h => ?_) ⟨?_, rfl⟩
    · repeat' array_get_dec
    · repeat' array_get_dec
    · simp only [D.bl.injEq, Bool.or_eq_true, decide_eq_true_eq]; exact hp
  · repeat' array_get_dec
/-! ### places -/
def pos (b : Nat) (bs : List Nat) (n : Nat) : List Nat := (List.range n).filter fun p => decide (bs.getD p 0 = b)
theorem pos_s {b : Nat} {bs : List Nat} {n : Nat} : pos b bs (n + 1) = if bs.getD n 0 = b then pos b bs n ++ [n] else pos b bs n := by
  unfold pos
  rw [List.range_succ, List.filter_append]
  by_cases h : bs.getD n 0 = b
  · rw [if_pos h, List.filter_cons_of_pos (by simpa using h)]; rfl
  · rw [if_neg h, List.filter_cons_of_neg (by simpa using h)]; simp
theorem pos_pre {b : Nat} {bs : List Nat} : ∀ {n m : Nat}, n ≤ m → ∃ r, pos b bs m = pos b bs n ++ r
  | n, 0, h => ⟨[], by rw [show n = 0 by omega]; simp⟩
  | n, m + 1, h => by
    by_cases e : n = m + 1
    · subst e; exact ⟨[], by simp⟩
    · obtain ⟨r, hr⟩ := pos_pre (b := b) (bs := bs) (n := n) (m := m) (by omega)
      rw [pos_s]
      split
      · exact ⟨r ++ [m], by rw [hr, List.append_assoc]⟩
      · exact ⟨r, hr⟩
theorem pos_at {b : Nat} {bs : List Nat} {n m : Nat} (h : n < m) (e : bs.getD n 0 = b) : (pos b bs m)[(pos b bs n).length]? = some n := by
  obtain ⟨r, hr⟩ := pos_pre (b := b) (bs := bs) (n := n + 1) (m := m) h
  rw [hr, pos_s, if_pos e, List.append_assoc, List.getElem?_append_right (Nat.le_refl _)]
  simp
theorem pos_len {b : Nat} {bs : List Nat} {n : Nat} : (pos b bs n).length ≤ n := by
  unfold pos
  exact Nat.le_trans (List.length_filter_le _ _) (by simp)
theorem place_ok (bs : List Nat) (hb : bs.length ≤ 1000) (b k q : Nat) (h : (pos b bs bs.length)[k]? = some q) : F_Bits_place_of [bitsD bs, nI b, nI k] = .ok (nI q) [bitsD bs, nI b, nI k] := by
  refine run_q rfl ?_
  get_elem_tactic_trivial
  refine s_iteF ?_ ?_
  · repeat' array_get_dec
    all_goals exact ⟨by simp, rfl⟩
  · repeat' array_get_dec
    refine s_for0 (cnt := bs.length) (fun n ρ => ρ = [some (bitsD bs), some (nI b), some (nI k), some (nI (pos b bs n).length), none] ∧ (pos b bs n).length ≤ k) rfl ?_ ?_ ?_
    · repeat' array_get_dec
      exact Nat.le_trans pos_len (Nat.zero_le _)
    · rintro n ρ hn ⟨rfl, hk⟩
      have ps := pos_s (b := b) (bs := bs) (n := n)
      repeat' array_get_dec
      · intro e
        have pa := pos_at hn e
        rw [if_pos e] at ps
        repeat' array_get_dec
        · intro e2
          rw [e2, h] at pa
          cases pa
          repeat' array_get_dec
        · intro e2
          repeat' array_get_dec
          rw [ps]
          exact ⟨by rw [List.length_append]; rfl, by rw [List.length_append, List.length_singleton]; omega⟩
      · intro e
        rw [if_neg e] at ps
        repeat' array_get_dec
        rw [ps]
        exact ⟨rfl, hk⟩
    · rintro ρ ⟨rfl, hk⟩
      rw [List.getElem?_eq_none hk] at h
      cases h
theorem place_x (bs : List Nat) (hb : bs.length ≤ 1000) (b : Nat) (k : Int) (h : k < 0 ∨ ((pos b bs bs.length).length : Int) ≤ k) : F_Bits_place_of [bitsD bs, nI b, .int k] = .exc 1 [bitsD bs, nI b, .int k] := by
  refine run_x rfl ?_
  get_elem_tactic_trivial
  by_cases hk : k < 0
  · refine s_iteT ?_ ?_
    · repeat' array_get_dec
      all_goals exact ⟨by simpa using hk, rfl⟩
    · repeat' array_get_dec
  · obtain ⟨k, rfl⟩ : ∃ j : Nat, k = j := ⟨k.toNat, by omega⟩
    have h : (pos b bs bs.length).length ≤ k := by omega
    refine s_iteF ?_ ?_
    · repeat' array_get_dec
      all_goals exact ⟨by simp, rfl⟩
    · repeat' array_get_dec
      refine s_for0 (cnt := bs.length) (fun n ρ => ρ = [some (bitsD bs), some (nI b), some (nI k), some (nI (pos b bs n).length), none]) rfl ?_ ?_ ?_
      · repeat' array_get_dec
      · rintro n ρ hn rfl
        have ps := pos_s (b := b) (bs := bs) (n := n)
        repeat' array_get_dec
        · intro e
          have pa := pos_at hn e
          have hlt := (List.getElem?_eq_some_iff.mp pa).1
          rw [if_pos e] at ps
          repeat' array_get_dec
          rw [ps, List.length_append]; rfl
        · intro e
          rw [if_neg e] at ps
          repeat' array_get_dec
          rw [ps]; rfl
      · rintro ρ rfl
        repeat' array_get_dec
theorem one_ok (bs : List Nat) (hb : bs.length ≤ 1000) (k q : Nat) (h : (pos 1 bs bs.length)[k]? = some q) : F_Bits_place_of_one [bitsD bs, nI k] = .ok (nI q) [bitsD bs, nI k] := by
  have hp := place_ok bs hb 1 k q h
  refine run_q rfl ?_
  get_elem_tactic_trivial
  repeat' array_get_dec
theorem zero_ok (bs : List Nat) (hb : bs.length ≤ 1000) (k q : Nat) (h : (pos 0 bs bs.length)[k]? = some q) : F_Bits_place_of_zero [bitsD bs, nI k] = .ok (nI q) [bitsD bs, nI k] := by
  have hp := place_ok bs hb 0 k q h
  refine run_q rfl ?_
  get_elem_tactic_trivial
  repeat' array_get_dec
theorem one_x (bs : List Nat) (hb : bs.length ≤ 1000) (k : Int) (h : k < 0 ∨ ((pos 1 bs bs.length).length : Int) ≤ k) : F_Bits_place_of_one [bitsD bs, .int k] = .exc 1 [bitsD bs, .int k] := by
  have hp := place_x bs hb 1 k h
  refine run_x rfl ?_
  get_elem_tactic_trivial
  refine s_retX (xE_mcl (fun _ => rfl) ?_)
  repeat' array_get_dec
theorem zero_x (bs : List Nat) (hb : bs.length ≤ 1000) (k : Int) (h : k < 0 ∨ ((pos 0 bs bs.length).length : Int) ≤ k) : F_Bits_place_of_zero [bitsD bs, .int k] = .exc 1 [bitsD bs, .int k] := by
  have hp := place_x bs hb 0 k h
  refine run_x rfl ?_
  get_elem_tactic_trivial
  refine s_retX (xE_mcl (fun _ => rfl) ?_)
  repeat' array_get_dec
theorem told0 (bs : List Nat) (hb : bs.length ≤ 1000) (p : Nat) (hp : p ≤ bs.length) : F__law_told [bitsD bs, nI 0, nI p] = .ok (nI (bs.take p).sum) [bitsD bs, nI 0, nI p] := by
  have hq := ones_ok bs hb p hp
  refine run_q rfl ?_
  get_elem_tactic_trivial
  refine s_try ?_
  refine s_iteT ?_ ?_
  · repeat' array_get_dec
  repeat' array_get_dec
theorem told0x (bs : List Nat) (p : Int) (hp : p < 0 ∨ (bs.length : Int) < p) : F__law_told [bitsD bs, nI 0, .int p] = .ok (.non) [bitsD bs, nI 0, .int p] := by
  have hq := ones_x bs p hp
  refine run_q rfl ?_
  get_elem_tactic_trivial
  refine s_try ?_
  refine s_iteT ?_ ?_
  · repeat' array_get_dec
  refine x_asg (by decide) (xE_mcl (fun _ => rfl) ?_)
  repeat' array_get_dec
theorem told1 (bs : List Nat) (hb : bs.length ≤ 1000) (k q : Nat) (h : (pos 1 bs bs.length)[k]? = some q) : F__law_told [bitsD bs, nI 1, nI k] = .ok (nI q) [bitsD bs, nI 1, nI k] := by
  have hq := one_ok bs hb k q h
  refine run_q rfl ?_
  get_elem_tactic_trivial
  refine s_try ?_
  refine s_iteF ?_ ?_
  · repeat' array_get_dec
  refine s_iteT ?_ ?_
  · repeat' array_get_dec
  repeat' array_get_dec
theorem told1x (bs : List Nat) (hb : bs.length ≤ 1000) (k : Int) (h : k < 0 ∨ ((pos 1 bs bs.length).length : Int) ≤ k) : F__law_told [bitsD bs, nI 1, .int k] = .ok (.non) [bitsD bs, nI 1, .int k] := by
  have hq := one_x bs hb k h
  refine run_q rfl ?_
  get_elem_tactic_trivial
  refine s_try ?_
  refine s_iteF ?_ ?_
  · repeat' array_get_dec
  refine s_iteT ?_ ?_
  · repeat' array_get_dec
  refine x_asg (by decide) (xE_mcl (fun _ => rfl) ?_)
  repeat' array_get_dec
theorem told2 (bs : List Nat) (hb : bs.length ≤ 1000) (k q : Nat) (h : (pos 0 bs bs.length)[k]? = some q) : F__law_told [bitsD bs, nI 2, nI k] = .ok (nI q) [bitsD bs, nI 2, nI k] := by
  have hq := zero_ok bs hb k q h
  refine run_q rfl ?_
  get_elem_tactic_trivial
  refine s_try ?_
  refine s_iteF ?_ ?_
  · repeat' array_get_dec
  refine s_iteF ?_ ?_
  · repeat' array_get_dec
  repeat' array_get_dec
theorem told2x (bs : List Nat) (hb : bs.length ≤ 1000) (k : Int) (h : k < 0 ∨ ((pos 0 bs bs.length).length : Int) ≤ k) : F__law_told [bitsD bs, nI 2, .int k] = .ok (.non) [bitsD bs, nI 2, .int k] := by
  have hq := zero_x bs hb k h
  refine run_q rfl ?_
  get_elem_tactic_trivial
  refine s_try ?_
  refine s_iteF ?_ ?_
  · repeat' array_get_dec
  refine s_iteF ?_ ?_
  · repeat' array_get_dec
  refine x_asg (by decide) (xE_mcl (fun _ => rfl) ?_)
  repeat' array_get_dec
end K44

namespace K44
open Mi
local macro_rules | `(tactic| get_elem_tactic_trivial) => `(tactic| simp only [List.map_cons, List.map_nil, List.cons_append, List.nil_append, List.length_cons, List.length_nil, Nat.reduceAdd, Nat.reduceSub, Nat.zero_add, List.replicate])
local macro_rules | `(tactic| sizeOf_list_dec) => `(tactic| first
  | (with_reducible assumption)
  | omega
  | rfl
  | (simp only [List.length_take, List.length_drop, List.length_append, List.length_map, List.length_range, List.length_reverse, List.length_cons, List.length_nil, List.length_dropLast, rep_len]; omega)
  | (simp only [List.length_take, List.length_drop, List.length_append, List.length_map, List.length_range, List.length_reverse, List.length_cons, List.length_nil, List.length_dropLast, rep_len] at *; omega)
  | (apply Nat.mod_lt; omega)
  | (simp; done))
local macro_rules | `(tactic| decreasing_trivial_pre_omega) => `(tactic| first
  | (with_reducible assumption)
  | exact (rfl : (_ : Bool) = _)
  | exact okD_tup (ok_map fun _ => okD_str)
  | exact okD_tup (ok_map fun _ => okD_int)
  | exact okD_tup (ok_map (f := nI) fun _ => okD_int)
  | exact okD_str
  | exact okD_int)
local macro_rules | `(tactic| array_get_dec) => `(tactic| first
  | (refine id (α := wS _ _ _ _ _ _) ?_; dsimp only [setAll, List.set_cons_succ, List.set_cons_zero])
  | refine s_asg (by decide) ?_
  | refine s_ret ?_
  | refine s_retV (by decide) rfl ?_
  | refine s_ite ?_
  | refine s_appM rfl ?_
  | refine s_app rfl ?_
  | refine s_nil ?_
  | refine s_ex ?_
  | refine s_pass ?_
  | refine s_rais ?_
  | refine s_retN ?_
  | refine s_brk ?_
  | refine s_cnt ?_
  | refine s_mov (by decide) (by decide) rfl ?_
  | refine s_asgT rfl ?_
  | refine s_tryC (by decide) ?_
  | refine s_try ?_
  | refine wL_nil ?_
  | refine wL_var rfl ?_
  | refine wL_val rfl ?_
  | refine at_of rfl ?_
  | refine wE_var rfl rfl ?_
  | refine wE_int ?_
  | refine wE_str ?_
  | refine wE_bl ?_
  | refine wE_non ?_
  | refine wE_glob rfl ?_
  | refine wE_op ?_
  | refine wE_call ?_
  | refine wE_slcV rfl ?_
  | refine wE_slc rfl ?_
  | refine wE_not ?_
  | refine bl_of ?_
  | refine wE_mth ?_
  | refine wE_fz rfl ?_
  | refine wE_frz ?_
  | apply wE_andW
  | apply wE_orW
  | ((with_reducible refine Whn.mk ?_); intro hx; (try simp only [decide_eq_true_eq, decide_eq_false_iff_not, Bool.or_eq_true, Bool.or_eq_false_iff, Bool.and_eq_true, Bool.and_eq_false_iff, Bool.not_eq_true', Bool.not_eq_false'] at hx))
  | ((with_reducible refine Unl.mk ?_); intro hx; (try simp only [decide_eq_true_eq, decide_eq_false_iff_not, Bool.or_eq_true, Bool.or_eq_false_iff, Bool.and_eq_true, Bool.and_eq_false_iff, Bool.not_eq_true', Bool.not_eq_false'] at hx))
  | ((with_reducible refine Ech.mk ?_); intro y hy)
  | ((with_reducible refine EchL.mk ?_); intro y hy)
  | refine it_str (by first | exact rfl | exact trivial)
  | refine it_tup (by first | exact rfl | exact trivial)
  | refine it_lst (by first | exact rfl | exact trivial)
  | refine it_fls (by first | exact rfl | exact trivial)
  | refine wP_nil ?_
  | refine wP_one ?_
  | refine ix_of ?_
  | refine wC_nil ?_
  | refine wC_one ?_
  | (with_reducible refine th_nx ?_)
  | (with_reducible refine th_rt ?_)
  | (with_reducible refine th_exc ?_)
  | (with_reducible refine th_bk ?_)
  | (with_reducible refine th_ct ?_)
  | (with_reducible refine tu_nx ?_)
  | (with_reducible refine tu_rt ?_)
  | (with_reducible refine tu_ct ?_)
  | (with_reducible refine tu_bk ?_)
  | (with_reducible refine tu_exc ?_)
  | (with_reducible refine tq_nx ?_)
  | (with_reducible refine tq_rt ?_)
  | ((with_reducible apply tq_exc); (case h1 => decide); (case h2 => rfl); (case h3 => rfl))
  | (with_reducible refine t0_nx ?_)
  | (with_reducible refine t0_rt ?_)
  | ((with_reducible apply t0_exc); (case h1 => decide); (case h2 => rfl); (case h3 => rfl))
  | refine o_addN ?_
  | refine o_add ?_
  | (refine o_subN ?h1 ?q; (case h1 => first | omega | (simp only [List.length_take, List.length_drop, List.length_append, List.length_map, List.length_range] at *; omega)))
  | refine o_sub ?_
  | (refine o_addS ?h1 ?q; (case h1 => sizeOf_list_dec))
  | (refine o_mulN ?h1 ?q; (case h1 => omega))
  | (refine o_mulN2 ?h1 ?q; (case h1 => omega))
  | (refine o_fdivN ?h1 ?h2 ?q; (case h1 => omega); (case h2 => omega))
  | (refine o_modN ?h1 ?q; (case h1 => omega))
  | (refine o_mod ?h1 ?q; (case h1 => omega))
  | refine o_neg ?_
  | refine o_eqN ?_
  | refine o_neN ?_
  | refine o_ltN ?_
  | refine o_leN ?_
  | refine o_gtN ?_
  | refine o_geN ?_
  | refine o_eqI ?_
  | refine o_neI ?_
  | refine o_ltI ?_
  | refine o_leI ?_
  | refine o_gtI ?_
  | refine o_geI ?_
  | refine o_eqS ?_
  | refine o_neS ?_
  | refine o_ltS ?_
  | refine o_leS ?_
  | refine o_gtS ?_
  | refine o_geS ?_
  | refine o_inS ?_
  | refine o_ninS ?_
  | refine o_inST ?_
  | refine o_inSL ?_
  | refine o_inSF ?_
  | refine o_ninST ?_
  | refine o_ninSL ?_
  | refine o_ninSF ?_
  | refine o_isN0 ?_
  | refine o_isB ?_
  | refine o_isntB ?_
  | refine o_isN rfl ?_
  | refine o_isnN0 ?_
  | refine o_isnN rfl ?_
  | (refine o_neSame rfl ?h1 ?q; (case h1 => decreasing_trivial_pre_omega))
  | (refine o_eqSame rfl ?h1 ?q; (case h1 => decreasing_trivial_pre_omega))
  | (refine o_lenS ?h1 ?q; (case h1 => sizeOf_list_dec))
  | refine o_lenTm ?_
  | refine o_lenLm ?_
  | refine o_lenFm ?_
  | refine o_lenT ?_
  | refine o_lenL ?_
  | refine o_lenF ?_
  | (refine o_ixS ?h1 ?h2 ?q; (case h1 => sizeOf_list_dec); (case h2 => sizeOf_list_dec))
  | (refine o_ixS1 ?h1 ?h2 ?q; (case h1 => sizeOf_list_dec); (case h2 => sizeOf_list_dec))
  | (refine o_ixTm ([] : List Nat) ?h1 ?q; (case h1 => sizeOf_list_dec))
  | (refine o_ixLm ([] : List Nat) ?h1 ?q; (case h1 => sizeOf_list_dec))
  | refine o_ixT rfl ?_
  | refine o_ixL rfl ?_
  | refine o_ixF rfl ?_
  | (refine s_Sat ?h1 ?q; (case h1 => sizeOf_list_dec))
  | (refine s_S0 ?h1 ?q; (case h1 => sizeOf_list_dec))
  | (refine s_Sm ?h1 ?q; (case h1 => sizeOf_list_dec))
  | (refine s_Sl1 ?h1 ?q; (case h1 => sizeOf_list_dec))
  | (refine s_S1 ?h1 ?q; (case h1 => sizeOf_list_dec))
  | (refine s_S2 ?h1 ?q; (case h1 => sizeOf_list_dec))
  | (refine s_S ?h1 ?q; (case h1 => sizeOf_list_dec))
  | refine s_Lm0 ?_
  | refine s_Fm0 ?_
  | refine s_Fm1 ?_
  | refine s_Fmat ?_
  | refine s_Lml1 ?_
  | refine s_Lm1 ?_
  | refine s_Lmat ?_
  | refine s_Tm0 ?_
  | refine s_Tml1 ?_
  | refine s_Tm1 ?_
  | refine s_Tmat ?_
  | (refine o_addLm ?h1 ?q; (case h1 => sizeOf_list_dec))
  | (refine o_addTm ?h1 ?q; (case h1 => sizeOf_list_dec))
  | (refine o_mulS ?h1 ?h2 ?q; (case h1 => sizeOf_list_dec); (case h2 => sizeOf_list_dec))
  | refine o_abs ?_
  | refine o_int ?_
  | refine o_intB ?_
  | refine o_minN ?_
  | refine o_maxN ?_
  | refine o_min ?_
  | refine o_max ?_
  | refine o_tuL ?_
  | refine o_tuT ?_
  | refine o_tuF ?_
  | refine o_liT ?_
  | refine o_liL ?_
  | refine o_liF ?_
  | refine o_sortS ?_
  | refine o_sortSF ?_
  | refine o_sumN ?_
  | refine o_sumI ?_
  | refine o_any ?_
  | refine o_all ?_
  | (refine o_rngD0 ?h1 ?q; (case h1 => sizeOf_list_dec))
  | refine o_neBl ?_
  | refine o_eqBl ?_
  | refine o_inNT ?_
  | refine o_ixLa ?_
  | (refine o_ixLm1 ([] : List Nat) ?h1 ?q; (case h1 => sizeOf_list_dec))
  | (refine o_ixLm1 (f := nI) 0 ?h1 ?q; (case h1 => sizeOf_list_dec))
  | (refine o_ixTm (f := nI) 0 ?h1 ?q; (case h1 => sizeOf_list_dec))
  | (refine o_ixLm (f := nI) 0 ?h1 ?q; (case h1 => sizeOf_list_dec))
  | (refine o_rng ?h1 ?q; (case h1 => sizeOf_list_dec))
  | (refine o_rngS ?h1 ?h2 ?q; (case h1 => sizeOf_list_dec); (case h2 => sizeOf_list_dec))
  | (refine o_rng2 ?h1 ?h2 ?q; (case h1 => sizeOf_list_dec); (case h2 => sizeOf_list_dec))
  | refine o_isaT ?_
  | refine o_isaI ?_
  | refine o_isaB ?_
  | refine o_isaBB ?_
  | refine o_isaS ?_
  | (refine m_join1 ?h1 ?q; (case h1 => sizeOf_list_dec))
  | refine o_tup (Nat.le_of_ble_eq_true rfl) rfl ?_
  | refine o_lst (Nat.le_of_ble_eq_true rfl) rfl ?_
  | ((with_reducible apply re_rt); (case h => exact rfl); (case hp => exact And.intro rfl rfl))
  | ((with_reducible apply re_nx); (case h => exact rfl); (case hp => exact And.intro rfl rfl))
  | ((with_reducible apply xe_exc); (case h => exact rfl); (case hp => exact And.intro rfl rfl))
  | ((with_reducible apply re_rt); (case h => exact rfl))
  | ((with_reducible apply re_nx); (case h => exact rfl))
  | ((with_reducible apply xe_exc); (case h => exact rfl))
  | exact And.intro rfl rfl
  | exact And.intro rfl (And.intro rfl rfl)
  | refine And.intro rfl ?_
  | refine Exists.intro _ (And.intro rfl (And.intro rfl ?_))
  | (refine And.intro ?h1 rfl; (case h1 => (intro _ _ h; first | exact trivial | (subst h; exact rfl) | (simp; done))))
  | (apply c_dr; (case hd => (with_reducible assumption)); (case hj => exact rfl); (case fl => exact rfl); (case hf => first | (with_reducible assumption) | decreasing_trivial_pre_omega); (case' q => intro r d1 hr hd1))
  | (apply call_lst; (case nf => exact rfl); (case hj => exact rfl); (case fl => exact rfl); (case h0 => exact rfl); (case hf => first | (with_reducible assumption) | decreasing_trivial_pre_omega))
  | (apply call_lst2; (case nf => exact rfl); (case f1 => exact rfl); (case hj => exact rfl); (case fl => exact rfl); (case h0 => exact rfl); (case hf => first | (with_reducible assumption) | decreasing_trivial_pre_omega))
  | refine xE_call ?_
  | (apply xcall_of; (case hj => exact rfl); (case hf => first | (with_reducible assumption) | decreasing_trivial_pre_omega); (case fl => exact rfl); (case hn => exact fun z => (nomatch z)))
  | (apply call_tmp; (case hv => exact rfl); (case hj => exact rfl); (case fl => exact rfl); (case hf => first | (with_reducible assumption) | decreasing_trivial_pre_omega))
  | (refine o_minSm ?h1 ?q; (case h1 => first | (with_reducible assumption) | (intro hz; simp at hz; omega)))
  | (refine o_minS ?h1 ?q; (case h1 => (with_reducible assumption)))
  | refine m_ends ?_
  | refine o_revLm ?_
  | refine o_revTm ?_
  | (refine o_mulTm ?h1 ?h2 ?h3 ?h4 ?q; (case h1 => sizeOf_list_dec); (case h2 => sizeOf_list_dec); (case h3 => sizeOf_list_dec); (case h4 => sizeOf_list_dec))
  | refine o_revL ?_
  | refine wE_lmt rfl rfl ?_
  | refine wE_ite ?_
  | apply w_cRW (es := .cons _ .nil)
  | apply w_cNW (es := .cons _ (.cons _ .nil))
  | apply w_cRqW (es := .cons _ .nil)
  | apply w_cNqW (es := .cons _ (.cons _ .nil))
  | apply w_cLW
  | apply w_cLqW
  | exact fun _ => rfl
  | (apply c_take (t := hT); (case hd => (with_reducible assumption)); (case hj => exact rfl); (case h0 => omega); (case h1 => omega); (case' q => intro r d1 hr hd1))
  | (apply c_begin; (case hj => exact rfl); (case hb => exact hB _); (case' q => intro d1 hd1))
  | (apply c_signs (hs := fun hd => hS hd); (case hd => (with_reducible assumption)); (case hj => exact rfl); (case' q => intro s d1 hs hs0 hs10 hsc hd1))
  | (apply c_text (t := hX); (case hd => (with_reducible assumption)); (case hj => exact rfl); (case hs => (with_reducible assumption)); (case hs2 => omega); (case hn => omega); (case' q => intro x d1 hx hxc hd1))
  | (apply c_rich (t := hR); (case hd => (with_reducible assumption)); (case hj => exact rfl); (case hs => (with_reducible assumption)); (case hs2 => omega); (case hn => omega); (case' q => intro x d1 hx hxc hd1))
  | (with_reducible refine nx_of ?_)
  | (apply call_of; (case hj => exact rfl); (case hf => decreasing_trivial_pre_omega); (case fl => exact rfl))
  | (refine Exists.intro _ (Exists.intro _ (And.intro rfl (And.intro rfl (And.intro rfl (And.intro ?h1 ?q))))); (case h1 => sizeOf_list_dec))
  | (refine Exists.intro _ (And.intro rfl (And.intro rfl (And.intro ?h1 ?q))); (case h1 => sizeOf_list_dec))
  | refine ite_f (by first | rfl | (simp; done) | (simp; omega)) ?_
  | refine ite_t (by first | rfl | (simp; done) | (simp; omega)) ?_
  | (apply ite_p; (case hb => first | exact decide_eq_true_iff | (simp only [decide_eq_true_eq, decide_eq_false_iff_not, Bool.or_eq_true, Bool.or_eq_false_iff, Bool.and_eq_true, Bool.and_eq_false_iff, Bool.not_eq_true', Bool.not_eq_false']; exact Iff.rfl) | exact Iff.rfl))
  | ((with_reducible apply fin_rt); (case h => exact rfl))
  | ((with_reducible apply fin_nx); (case h => exact rfl))
  | ((with_reducible apply fin_exc); (case h => exact rfl))
  | (with_reducible assumption)
  | omega
  | exact (rfl : (_ : Option (Option D)) = _)
  | exact (rfl : (_ : List (Option D)) = _))
/-- a comprehension whose items are drawn -/
theorem w_compDr {G : List Fn} {C : List D} {i : Nat} {es : Es} {elt : E} {ρ : Env} {Q : D → Env → Prop} (env : D → Env) (B : Nat → Prop) (hk : ∀ d x, kills [i] (env d) = env d ∧ kills [i] ((env d).set i (some x)) = env d)
    (h : wL G C (.cons (.op (.prim .range) es) .nil) ρ fun ds ρ1 => ∃ d n, ds = [.rng 0 n] ∧ n ≤ 1000 ∧ ρ1 = env d ∧ Dr d ∧ (∀ (l : List Nat) d', Dr d' → l.length = n → (∀ x ∈ l, B x) → Q (.lst (l.map nI)) (env d')))
    (he : ∀ (k : Nat) d, Dr d → wE G C elt ((env d).set i (some (.int (k : Nat)))) fun r ρ' => ∃ y d', r = nI y ∧ B y ∧ Dr d' ∧ ρ' = (env d').set i (some (.int (k : Nat)))) : wE G C (.comp (.nm i) (.cons (.op (.prim .range) es) .nil) .nil elt) ρ Q := by
  obtain ⟨ds, ρ1, h1, d, n, rfl, hn, rfl, hd, hq⟩ := h
  obtain ⟨d', acc, l1, hd', cs, rfl, lc, mc⟩ := comp_fold (St := D) (still (.cons (.op (.prim .range) es) .nil) (.rng 0 n)) (p := .nm i) (c := evalC G C .nil) (f := evalE G C elt) env
    (fun j d acc => Dr d ∧ ∃ cs : List Nat, acc = cs.map nI ∧ cs.length = j ∧ ∀ c ∈ cs, B c) ((List.range n).map fun k => D.int ((k : Nat) : Int)) 0 d [] ⟨hd, [], rfl, rfl, fun c z => by cases z⟩ (fun _ _ _ _ => trivial) (fun j x d0 acc hx ⟨hd0, cs, ec, lc, mc⟩ => by
      rw [List.getElem?_map] at hx
      have hj : j < n := by
        cases q : (List.range n)[j]? with
        | none => rw [q] at hx; cases hx
        | some k =>
          have := (List.getElem?_eq_some_iff.mp q).1
          simpa using this
      rw [List.getElem?_range hj] at hx
      cases hx
      obtain ⟨r, ρ3, e1, y, d2, rfl, hB, hd2, rfl⟩ := he j d0 hd0
      refine ⟨(env d0).set i (some (.int (j : Nat))), ?_, .inr ⟨(env d0).set i (some (.int (j : Nat))), _, nI y, d2, ?_, e1, rfl, ?_, (hk d2 _).2, hd2, cs ++ [y], ?_, ?_, ?_⟩⟩
      · show (Pat.nm i).bind _ (kills [i] (env d0)) = _
        rw [(hk d0 .non).1]; rfl
      · rw [evalC]
      · rw [ec, List.length_map]
        have : j < n := hj
        show cs.length < SZ
        unfold SZ; omega
      · rw [ec, List.map_append]; rfl
      · rw [List.length_append, lc]; rfl
      · intro c hc
        rcases List.mem_append.mp hc with hc | hc
        · exact mc c hc
        · rw [List.mem_singleton.mp hc]; exact hB)
  rw [List.length_map, List.length_range, Nat.zero_add] at lc
  refine ⟨.lst (cs.map nI), env d', ?_, hq cs d' hd' lc mc⟩
  rw [evalE, h1]
  dsimp only
  rw [rng_items0]
  dsimp only
  have e0 : kills (Pat.nm i).slots (env d) = env d := (hk d .non).1
  rw [e0, l1]
theorem bits_ok (bs : List Nat) (hb : bs.length ≤ 1000) : F_Bits [.tup (bs.map nI)] = .ok (bitsD bs) [.tup (bs.map nI)] := by
  have h : ∃ bs' : List Nat, [D.tup (bs.map nI)] = [.tup (bs'.map nI)] ∧ bs'.length ≤ 1000 := ⟨bs, rfl, hb⟩
  have e : F_Bits [.tup (bs.map nI)] = .ok (bitsD h.choose) [.tup (bs.map nI)] := dif_pos h
  have inj : ∀ xs ys : List Nat, xs.map nI = ys.map nI → xs = ys := by
    intro xs
    induction xs with
    | nil => intro ys q; cases ys with
      | nil => rfl
      | cons y ys => cases q
    | cons x xs ih => intro ys q; cases ys with
      | nil => cases q
      | cons y ys =>
        rw [List.map_cons, List.map_cons] at q
        injection q with q1 q2
        rw [ih ys q2]
        have : (x : Int) = (y : Int) := D.int.inj q1
        rw [Int.ofNat.inj this]
  have q := h.choose_spec.1
  injection q with q
  rw [e, inj _ _ (D.tup.inj q).symm]
end K44

/-! terms of the text, printed by tools/tr.py -/
namespace K44
open PySem PySem.Spec PyProof.Rows L2 Mi
def topS (i : Nat) : Stmt := PySem.Challenge.pw_textshards_k44_ranks_of_bits.main.body.getD i (.Pass ⟨0, 0, 0, 0⟩)
abbrev bn : List Str := ["abs", "bool", "int", "isinstance", "len", "list", "range", "sum", "tuple"]
abbrev cn : List Str := ["BLOCK"]
abbrev en : List Str := ["ShardError", "RangeError"]
abbrev s_Bits : Stmt := inClass (topS 5) 0
abbrev N_Bits : List Str := ["self", "bits", "start"]
abbrev p_Bits : List Str := ["self", "bits"]
abbrev g_Bits : List (Str × Nat) := []
theorem k_Bits : scCk N_Bits p_Bits (defScope s_Bits) = true := by decide +kernel
abbrev s_Bits___len__ : Stmt := inClass (topS 5) 1
abbrev N_Bits___len__ : List Str := ["self"]
abbrev p_Bits___len__ : List Str := ["self"]
abbrev g_Bits___len__ : List (Str × Nat) := [("Bits", 1)]
theorem k_Bits___len__ : scCk N_Bits___len__ p_Bits___len__ (defScope s_Bits___len__) = true := by decide +kernel
theorem c_Bits___len__ : chkSs N_Bits___len__ g_Bits___len__ cn bn (defScope s_Bits___len__) en b_Bits___len__ (defBody s_Bits___len__) = true := by decide +kernel
abbrev s_Bits_ones_before : Stmt := inClass (topS 5) 2
abbrev N_Bits_ones_before : List Str := ["self", "at", "block"]
abbrev p_Bits_ones_before : List Str := ["self", "at"]
abbrev g_Bits_ones_before : List (Str × Nat) := [("Bits", 1), ("Bits.__len__", 1)]
theorem k_Bits_ones_before : scCk N_Bits_ones_before p_Bits_ones_before (defScope s_Bits_ones_before) = true := by decide +kernel
theorem c_Bits_ones_before : chkSs N_Bits_ones_before g_Bits_ones_before cn bn (defScope s_Bits_ones_before) en b_Bits_ones_before (defBody s_Bits_ones_before) = true := by decide +kernel
abbrev s_Bits_place_of : Stmt := inClass (topS 5) 3
abbrev N_Bits_place_of : List Str := ["self", "bit", "k", "seen", "at"]
abbrev p_Bits_place_of : List Str := ["self", "bit", "k"]
abbrev g_Bits_place_of : List (Str × Nat) := [("Bits", 1), ("Bits.__len__", 1), ("Bits.ones_before", 2)]
theorem k_Bits_place_of : scCk N_Bits_place_of p_Bits_place_of (defScope s_Bits_place_of) = true := by decide +kernel
theorem c_Bits_place_of : chkSs N_Bits_place_of g_Bits_place_of cn bn (defScope s_Bits_place_of) en b_Bits_place_of (defBody s_Bits_place_of) = true := by decide +kernel
abbrev s_Bits_place_of_one : Stmt := inClass (topS 5) 4
abbrev N_Bits_place_of_one : List Str := ["self", "k"]
abbrev p_Bits_place_of_one : List Str := ["self", "k"]
abbrev g_Bits_place_of_one : List (Str × Nat) := [("Bits", 1), ("Bits.__len__", 1), ("Bits.ones_before", 2), ("Bits.place_of", 3)]
theorem k_Bits_place_of_one : scCk N_Bits_place_of_one p_Bits_place_of_one (defScope s_Bits_place_of_one) = true := by decide +kernel
theorem c_Bits_place_of_one : chkSs N_Bits_place_of_one g_Bits_place_of_one cn bn (defScope s_Bits_place_of_one) en b_Bits_place_of_one (defBody s_Bits_place_of_one) = true := by decide +kernel
abbrev s_Bits_place_of_zero : Stmt := inClass (topS 5) 5
abbrev N_Bits_place_of_zero : List Str := ["self", "k"]
abbrev p_Bits_place_of_zero : List Str := ["self", "k"]
abbrev g_Bits_place_of_zero : List (Str × Nat) := [("Bits", 1), ("Bits.__len__", 1), ("Bits.ones_before", 2), ("Bits.place_of", 3), ("Bits.place_of_one", 2)]
theorem k_Bits_place_of_zero : scCk N_Bits_place_of_zero p_Bits_place_of_zero (defScope s_Bits_place_of_zero) = true := by decide +kernel
theorem c_Bits_place_of_zero : chkSs N_Bits_place_of_zero g_Bits_place_of_zero cn bn (defScope s_Bits_place_of_zero) en b_Bits_place_of_zero (defBody s_Bits_place_of_zero) = true := by decide +kernel
abbrev s__law_begin : Stmt := topS 7
abbrev N__law_begin : List Str := ["_law_script", "_law_seed", "_law_cell"]
abbrev p__law_begin : List Str := ["_law_script"]
abbrev g__law_begin : List (Str × Nat) := [("Bits", 1), ("Bits.__len__", 1), ("Bits.ones_before", 2), ("Bits.place_of", 3), ("Bits.place_of_one", 2), ("Bits.place_of_zero", 2)]
theorem k__law_begin : scCk N__law_begin p__law_begin (defScope s__law_begin) = true := by decide +kernel
theorem c__law_begin : chkSs N__law_begin g__law_begin cn bn (defScope s__law_begin) en b__law_begin (defBody s__law_begin) = true := by decide +kernel
abbrev s__law_take : Stmt := topS 8
abbrev N__law_take : List Str := ["_law_d", "_law_many", "_law_small", "_law_digit"]
abbrev p__law_take : List Str := ["_law_d", "_law_many"]
abbrev g__law_take : List (Str × Nat) := [("Bits", 1), ("Bits.__len__", 1), ("Bits.ones_before", 2), ("Bits.place_of", 3), ("Bits.place_of_one", 2), ("Bits.place_of_zero", 2), ("_law_begin", 1)]
theorem k__law_take : scCk N__law_take p__law_take (defScope s__law_take) = true := by decide +kernel
theorem c__law_take : chkSs N__law_take g__law_take cn bn (defScope s__law_take) en b__law_take (defBody s__law_take) = true := by decide +kernel
abbrev s__law_int : Stmt := topS 9
abbrev N__law_int : List Str := ["_law_actual"]
abbrev p__law_int : List Str := ["_law_actual"]
abbrev g__law_int : List (Str × Nat) := [("Bits", 1), ("Bits.__len__", 1), ("Bits.ones_before", 2), ("Bits.place_of", 3), ("Bits.place_of_one", 2), ("Bits.place_of_zero", 2), ("_law_begin", 1), ("_law_take", 2)]
theorem k__law_int : scCk N__law_int p__law_int (defScope s__law_int) = true := by decide +kernel
theorem c__law_int : chkSs N__law_int g__law_int cn bn (defScope s__law_int) en b__law_int (defBody s__law_int) = true := by decide +kernel
abbrev s__law_told : Stmt := topS 10
abbrev N__law_told : List Str := ["_law_bits", "_law_which", "_law_k", "_law_found"]
abbrev p__law_told : List Str := ["_law_bits", "_law_which", "_law_k"]
abbrev g__law_told : List (Str × Nat) := [("Bits", 1), ("Bits.__len__", 1), ("Bits.ones_before", 2), ("Bits.place_of", 3), ("Bits.place_of_one", 2), ("Bits.place_of_zero", 2), ("_law_begin", 1), ("_law_take", 2), ("_law_int", 1)]
theorem k__law_told : scCk N__law_told p__law_told (defScope s__law_told) = true := by decide +kernel
theorem c__law_told : chkSs N__law_told g__law_told cn bn (defScope s__law_told) en b__law_told (defBody s__law_told) = true := by decide +kernel
abbrev s_law : Stmt := topS 11
abbrev N_law : List Str := ["_law_script", "_law_d", "_law_menu", "_law_row", "_law_bits", "_law_other", "_law_at", "_law_told_here", "_law_which", "_law_places", "_law_k", "_law_p", "_law_bit"]
abbrev p_law : List Str := ["_law_script"]
abbrev g_law : List (Str × Nat) := [("Bits", 1), ("Bits.__len__", 1), ("Bits.ones_before", 2), ("Bits.place_of", 3), ("Bits.place_of_one", 2), ("Bits.place_of_zero", 2), ("_law_begin", 1), ("_law_take", 2), ("_law_int", 1), ("_law_told", 3)]
theorem k_law : scCk N_law p_law (defScope s_law) = true := by decide +kernel
theorem c_law : chkSs N_law g_law cn bn (defScope s_law) en b_law (defBody s_law) = true := by decide +kernel
end K44

/-! Bits.__init__, by hand -/
namespace K44
open PySem PySem.Spec PyProof.Rows L2 Mi
local macro_rules | `(tactic| get_elem_tactic_trivial) => `(tactic| simp only [List.map_cons, List.map_nil, List.cons_append, List.nil_append, List.length_cons, List.length_nil, Nat.reduceAdd, Nat.reduceSub, Nat.zero_add, List.replicate])
local macro_rules | `(tactic| sizeOf_list_dec) => `(tactic| first
  | (with_reducible assumption)
  | omega
  | rfl
  | (simp only [List.length_take, List.length_drop, List.length_append, List.length_map, List.length_range, List.length_reverse, List.length_cons, List.length_nil, List.length_dropLast, rep_len]; omega)
  | (simp only [List.length_take, List.length_drop, List.length_append, List.length_map, List.length_range, List.length_reverse, List.length_cons, List.length_nil, List.length_dropLast, rep_len] at *; omega)
  | (apply Nat.mod_lt; omega)
  | (simp; done))
local macro_rules | `(tactic| decreasing_trivial_pre_omega) => `(tactic| first
  | (with_reducible assumption)
  | exact (rfl : (_ : Bool) = _)
  | exact okD_tup (ok_map fun _ => okD_str)
  | exact okD_tup (ok_map fun _ => okD_int)
  | exact okD_tup (ok_map (f := nI) fun _ => okD_int)
  | exact okD_str
  | exact okD_int)
local macro_rules | `(tactic| array_get_dec) => `(tactic| first
  | (refine id (α := wS _ _ _ _ _ _) ?_; dsimp only [setAll, List.set_cons_succ, List.set_cons_zero])
  | refine s_asg (by decide) ?_
  | refine s_ret ?_
  | refine s_retV (by decide) rfl ?_
  | refine s_ite ?_
  | refine s_appM rfl ?_
  | refine s_app rfl ?_
  | refine s_nil ?_
  | refine s_ex ?_
  | refine s_pass ?_
  | refine s_rais ?_
  | refine s_retN ?_
  | refine s_brk ?_
  | refine s_cnt ?_
  | refine s_mov (by decide) (by decide) rfl ?_
  | refine s_asgT rfl ?_
  | refine s_tryC (by decide) ?_
  | refine s_try ?_
  | refine wL_nil ?_
  | refine wL_var rfl ?_
  | refine wL_val rfl ?_
  | refine at_of rfl ?_
  | refine wE_var rfl rfl ?_
  | refine wE_int ?_
  | refine wE_str ?_
  | refine wE_bl ?_
  | refine wE_non ?_
  | refine wE_glob rfl ?_
  | refine wE_op ?_
  | refine wE_call ?_
  | refine wE_slcV rfl ?_
  | refine wE_slc rfl ?_
  | refine wE_not ?_
  | refine bl_of ?_
  | refine wE_mth ?_
  | refine wE_fz rfl ?_
  | refine wE_frz ?_
  | apply wE_andW
  | apply wE_orW
  | ((with_reducible refine Whn.mk ?_); intro hx; (try simp only [decide_eq_true_eq, decide_eq_false_iff_not, Bool.or_eq_true, Bool.or_eq_false_iff, Bool.and_eq_true, Bool.and_eq_false_iff, Bool.not_eq_true', Bool.not_eq_false'] at hx))
  | ((with_reducible refine Unl.mk ?_); intro hx; (try simp only [decide_eq_true_eq, decide_eq_false_iff_not, Bool.or_eq_true, Bool.or_eq_false_iff, Bool.and_eq_true, Bool.and_eq_false_iff, Bool.not_eq_true', Bool.not_eq_false'] at hx))
  | ((with_reducible refine Ech.mk ?_); intro y hy)
  | ((with_reducible refine EchL.mk ?_); intro y hy)
  | refine it_str (by first | exact rfl | exact trivial)
  | refine it_tup (by first | exact rfl | exact trivial)
  | refine it_lst (by first | exact rfl | exact trivial)
  | refine it_fls (by first | exact rfl | exact trivial)
  | refine wP_nil ?_
  | refine wP_one ?_
  | refine ix_of ?_
  | refine wC_nil ?_
  | refine wC_one ?_
  | (with_reducible refine th_nx ?_)
  | (with_reducible refine th_rt ?_)
  | (with_reducible refine th_exc ?_)
  | (with_reducible refine th_bk ?_)
  | (with_reducible refine th_ct ?_)
  | (with_reducible refine tu_nx ?_)
  | (with_reducible refine tu_rt ?_)
  | (with_reducible refine tu_ct ?_)
  | (with_reducible refine tu_bk ?_)
  | (with_reducible refine tu_exc ?_)
  | (with_reducible refine tq_nx ?_)
  | (with_reducible refine tq_rt ?_)
  | ((with_reducible apply tq_exc); (case h1 => decide); (case h2 => rfl); (case h3 => rfl))
  | (with_reducible refine t0_nx ?_)
  | (with_reducible refine t0_rt ?_)
  | ((with_reducible apply t0_exc); (case h1 => decide); (case h2 => rfl); (case h3 => rfl))
  | refine o_addN ?_
  | refine o_add ?_
  | (refine o_subN ?h1 ?q; (case h1 => first | omega | (simp only [List.length_take, List.length_drop, List.length_append, List.length_map, List.length_range] at *; omega)))
  | refine o_sub ?_
  | (refine o_addS ?h1 ?q; (case h1 => sizeOf_list_dec))
  | (refine o_mulN ?h1 ?q; (case h1 => omega))
  | (refine o_mulN2 ?h1 ?q; (case h1 => omega))
  | (refine o_fdivN ?h1 ?h2 ?q; (case h1 => omega); (case h2 => omega))
  | (refine o_modN ?h1 ?q; (case h1 => omega))
  | (refine o_mod ?h1 ?q; (case h1 => omega))
  | refine o_neg ?_
  | refine o_eqN ?_
  | refine o_neN ?_
  | refine o_ltN ?_
  | refine o_leN ?_
  | refine o_gtN ?_
  | refine o_geN ?_
  | refine o_eqI ?_
  | refine o_neI ?_
  | refine o_ltI ?_
  | refine o_leI ?_
  | refine o_gtI ?_
  | refine o_geI ?_
  | refine o_eqS ?_
  | refine o_neS ?_
  | refine o_ltS ?_
  | refine o_leS ?_
  | refine o_gtS ?_
  | refine o_geS ?_
  | refine o_inS ?_
  | refine o_ninS ?_
  | refine o_inST ?_
  | refine o_inSL ?_
  | refine o_inSF ?_
  | refine o_ninST ?_
  | refine o_ninSL ?_
  | refine o_ninSF ?_
  | refine o_isN0 ?_
  | refine o_isB ?_
  | refine o_isntB ?_
  | refine o_isN rfl ?_
  | refine o_isnN0 ?_
  | refine o_isnN rfl ?_
  | (refine o_neSame rfl ?h1 ?q; (case h1 => decreasing_trivial_pre_omega))
  | (refine o_eqSame rfl ?h1 ?q; (case h1 => decreasing_trivial_pre_omega))
  | (refine o_lenS ?h1 ?q; (case h1 => sizeOf_list_dec))
  | refine o_lenTm ?_
  | refine o_lenLm ?_
  | refine o_lenFm ?_
  | refine o_lenT ?_
  | refine o_lenL ?_
  | refine o_lenF ?_
  | (refine o_ixS ?h1 ?h2 ?q; (case h1 => sizeOf_list_dec); (case h2 => sizeOf_list_dec))
  | (refine o_ixS1 ?h1 ?h2 ?q; (case h1 => sizeOf_list_dec); (case h2 => sizeOf_list_dec))
  | (refine o_ixTm ([] : List Nat) ?h1 ?q; (case h1 => sizeOf_list_dec))
  | (refine o_ixLm ([] : List Nat) ?h1 ?q; (case h1 => sizeOf_list_dec))
  | refine o_ixT rfl ?_
  | refine o_ixL rfl ?_
  | refine o_ixF rfl ?_
  | (refine s_Sat ?h1 ?q; (case h1 => sizeOf_list_dec))
  | (refine s_S0 ?h1 ?q; (case h1 => sizeOf_list_dec))
  | (refine s_Sm ?h1 ?q; (case h1 => sizeOf_list_dec))
  | (refine s_Sl1 ?h1 ?q; (case h1 => sizeOf_list_dec))
  | (refine s_S1 ?h1 ?q; (case h1 => sizeOf_list_dec))
  | (refine s_S2 ?h1 ?q; (case h1 => sizeOf_list_dec))
  | (refine s_S ?h1 ?q; (case h1 => sizeOf_list_dec))
  | refine s_Lm0 ?_
  | refine s_Fm0 ?_
  | refine s_Fm1 ?_
  | refine s_Fmat ?_
  | refine s_Lml1 ?_
  | refine s_Lm1 ?_
  | refine s_Lmat ?_
  | refine s_Tm0 ?_
  | refine s_Tml1 ?_
  | refine s_Tm1 ?_
  | refine s_Tmat ?_
  | (refine o_addLm ?h1 ?q; (case h1 => sizeOf_list_dec))
  | (refine o_addTm ?h1 ?q; (case h1 => sizeOf_list_dec))
  | (refine o_mulS ?h1 ?h2 ?q; (case h1 => sizeOf_list_dec); (case h2 => sizeOf_list_dec))
  | refine o_abs ?_
  | refine o_int ?_
  | refine o_intB ?_
  | refine o_minN ?_
  | refine o_maxN ?_
  | refine o_min ?_
  | refine o_max ?_
  | refine o_tuL ?_
  | refine o_tuT ?_
  | refine o_tuF ?_
  | refine o_liT ?_
  | refine o_liL ?_
  | refine o_liF ?_
  | refine o_sortS ?_
  | refine o_sortSF ?_
  | refine o_sumN ?_
  | refine o_sumI ?_
  | refine o_any ?_
  | refine o_all ?_
  | (refine o_rngD0 ?h1 ?q; (case h1 => sizeOf_list_dec))
  | refine o_neBl ?_
  | refine o_eqBl ?_
  | refine o_inNT ?_
  | refine o_ixLa ?_
  | (refine o_ixLm1 ([] : List Nat) ?h1 ?q; (case h1 => sizeOf_list_dec))
  | (refine o_ixLm1 (f := nI) 0 ?h1 ?q; (case h1 => sizeOf_list_dec))
  | (refine o_ixTm (f := nI) 0 ?h1 ?q; (case h1 => sizeOf_list_dec))
  | (refine o_ixLm (f := nI) 0 ?h1 ?q; (case h1 => sizeOf_list_dec))
  | (refine o_rng ?h1 ?q; (case h1 => sizeOf_list_dec))
  | (refine o_rngS ?h1 ?h2 ?q; (case h1 => sizeOf_list_dec); (case h2 => sizeOf_list_dec))
  | (refine o_rng2 ?h1 ?h2 ?q; (case h1 => sizeOf_list_dec); (case h2 => sizeOf_list_dec))
  | refine o_isaT ?_
  | refine o_isaI ?_
  | refine o_isaB ?_
  | refine o_isaBB ?_
  | refine o_isaS ?_
  | (refine m_join1 ?h1 ?q; (case h1 => sizeOf_list_dec))
  | refine o_tup (Nat.le_of_ble_eq_true rfl) rfl ?_
  | refine o_lst (Nat.le_of_ble_eq_true rfl) rfl ?_
  | ((with_reducible apply re_rt); (case h => exact rfl); (case hp => exact And.intro rfl rfl))
  | ((with_reducible apply re_nx); (case h => exact rfl); (case hp => exact And.intro rfl rfl))
  | ((with_reducible apply xe_exc); (case h => exact rfl); (case hp => exact And.intro rfl rfl))
  | ((with_reducible apply re_rt); (case h => exact rfl))
  | ((with_reducible apply re_nx); (case h => exact rfl))
  | ((with_reducible apply xe_exc); (case h => exact rfl))
  | exact And.intro rfl rfl
  | exact And.intro rfl (And.intro rfl rfl)
  | refine And.intro rfl ?_
  | refine Exists.intro _ (And.intro rfl (And.intro rfl ?_))
  | (refine And.intro ?h1 rfl; (case h1 => (intro _ _ h; first | exact trivial | (subst h; exact rfl) | (simp; done))))
  | (apply c_dr; (case hd => (with_reducible assumption)); (case hj => exact rfl); (case fl => exact rfl); (case hf => first | (with_reducible assumption) | decreasing_trivial_pre_omega); (case' q => intro r d1 hr hd1))
  | (apply call_lst; (case nf => exact rfl); (case hj => exact rfl); (case fl => exact rfl); (case h0 => exact rfl); (case hf => first | (with_reducible assumption) | decreasing_trivial_pre_omega))
  | (apply call_lst2; (case nf => exact rfl); (case f1 => exact rfl); (case hj => exact rfl); (case fl => exact rfl); (case h0 => exact rfl); (case hf => first | (with_reducible assumption) | decreasing_trivial_pre_omega))
  | refine xE_call ?_
  | (apply xcall_of; (case hj => exact rfl); (case hf => first | (with_reducible assumption) | decreasing_trivial_pre_omega); (case fl => exact rfl); (case hn => exact fun z => (nomatch z)))
  | (apply call_tmp; (case hv => exact rfl); (case hj => exact rfl); (case fl => exact rfl); (case hf => first | (with_reducible assumption) | decreasing_trivial_pre_omega))
  | (refine o_minSm ?h1 ?q; (case h1 => first | (with_reducible assumption) | (intro hz; simp at hz; omega)))
  | (refine o_minS ?h1 ?q; (case h1 => (with_reducible assumption)))
  | refine m_ends ?_
  | refine o_revLm ?_
  | refine o_revTm ?_
  | (refine o_mulTm ?h1 ?h2 ?h3 ?h4 ?q; (case h1 => sizeOf_list_dec); (case h2 => sizeOf_list_dec); (case h3 => sizeOf_list_dec); (case h4 => sizeOf_list_dec))
  | refine o_revL ?_
  | refine wE_lmt rfl rfl ?_
  | refine wE_ite ?_
  | apply w_cRW (es := .cons _ .nil)
  | apply w_cNW (es := .cons _ (.cons _ .nil))
  | apply w_cRqW (es := .cons _ .nil)
  | apply w_cNqW (es := .cons _ (.cons _ .nil))
  | apply w_cLW
  | apply w_cLqW
  | exact fun _ => rfl
  | (apply c_take (t := hT); (case hd => (with_reducible assumption)); (case hj => exact rfl); (case h0 => omega); (case h1 => omega); (case' q => intro r d1 hr hd1))
  | (apply c_begin; (case hj => exact rfl); (case hb => exact hB _); (case' q => intro d1 hd1))
  | (apply c_signs (hs := fun hd => hS hd); (case hd => (with_reducible assumption)); (case hj => exact rfl); (case' q => intro s d1 hs hs0 hs10 hsc hd1))
  | (apply c_text (t := hX); (case hd => (with_reducible assumption)); (case hj => exact rfl); (case hs => (with_reducible assumption)); (case hs2 => omega); (case hn => omega); (case' q => intro x d1 hx hxc hd1))
  | (apply c_rich (t := hR); (case hd => (with_reducible assumption)); (case hj => exact rfl); (case hs => (with_reducible assumption)); (case hs2 => omega); (case hn => omega); (case' q => intro x d1 hx hxc hd1))
  | (with_reducible refine nx_of ?_)
  | (apply call_of; (case hj => exact rfl); (case hf => decreasing_trivial_pre_omega); (case fl => exact rfl))
  | (refine Exists.intro _ (Exists.intro _ (And.intro rfl (And.intro rfl (And.intro rfl (And.intro ?h1 ?q))))); (case h1 => sizeOf_list_dec))
  | (refine Exists.intro _ (And.intro rfl (And.intro rfl (And.intro ?h1 ?q))); (case h1 => sizeOf_list_dec))
  | refine ite_f (by first | rfl | (simp; done) | (simp; omega)) ?_
  | refine ite_t (by first | rfl | (simp; done) | (simp; omega)) ?_
  | (apply ite_p; (case hb => first | exact decide_eq_true_iff | (simp only [decide_eq_true_eq, decide_eq_false_iff_not, Bool.or_eq_true, Bool.or_eq_false_iff, Bool.and_eq_true, Bool.and_eq_false_iff, Bool.not_eq_true', Bool.not_eq_false']; exact Iff.rfl) | exact Iff.rfl))
  | ((with_reducible apply fin_rt); (case h => exact rfl))
  | ((with_reducible apply fin_nx); (case h => exact rfl))
  | ((with_reducible apply fin_exc); (case h => exact rfl))
  | (with_reducible assumption)
  | omega
  | exact (rfl : (_ : Option (Option D)) = _)
  | exact (rfl : (_ : List (Option D)) = _))
section
variable {K : PySem.W.Frag} {σ0 : L2.St} {H0 : Hp} {Z0 : Addr → Prop} {ρ0 : Mi.Env} {o C dx l : Addr} {v : V} {ns : List Int} {σ σ' : L2.St} {H H' : Hp} {Z Z' : Addr → Prop} {ρ ρ' : Mi.Env} {bs : List Nat}
def sRow : Str := strV nRow
def sNotes : Str := strV nNotes
/-- the names of the small language here: the bits, perhaps a number -/
abbrev ρb (bs : List Nat) (oi : Option D) : Mi.Env := [none, some (.tup (bs.map nI)), oi]
theorem ρb_fl {oi : Option D} (h : ∀ d, oi = some d → d.flat = true) : ∀ (i : Nat) (d : D), (ρb bs oi)[i]? = some (some d) → d.flat = true := by
  intro i d e
  match i, e with
  | 0, e => cases e
  | 1, e => cases e; rfl
  | 2, e => cases e; exact h d rfl
  | (n + 3), e => simp [ρb] at e
theorem noOwn (fl : ∀ (i : Nat) (d : D), ρ[i]? = some (some d) → d.flat = true) {a : Addr} : ¬ Owns σ ρ a := fun ⟨i, d, e, f, _⟩ => by rw [fl i d e] at f; cases f
theorem rp_tupI {p : Addr} {fs fs' : List (Str × V)} (hp : H p = some (.ins C dx fs)) (h : Rp K H Z v (.tup (bs.map nI))) : Rp K (upd H p (.ins C dx fs')) Z v (.tup (bs.map nI)) := by
  cases h with
  | tup l r =>
    have e : (bs.map nI) = (bs.map fun b => ((b : Nat) : Int)).map D.int := by rw [List.map_map]; rfl
    rw [e] at r ⊢
    have q := (r.ints (ints?_map _)).1
    subst q
    refine .tup ?_ (Rps.of_ints _)
    rcases l with (l | ⟨ob, l⟩) | l
    · refine .inl (.inl ?_)
      rw [upd_ne fun z => by rw [z, hp] at l; cases l]; exact l
    · refine .inl (.inr ⟨ob, ?_⟩)
      rw [upd_ne fun z => by rw [z, hp] at l; cases l]; exact l
    · exact .inr l
theorem tabs_updI {T : List (Addr × Str)} {p : Addr} {fs fs' : List (Str × V)} (hp : H p = some (.ins C dx fs)) (t : LamX.Tabs T H) : LamX.Tabs T (upd H p (.ins C dx fs')) := fun q hq => by
  obtain ⟨ps, h1, h2, h3⟩ := t q hq
  refine ⟨ps, ?_, h2, fun pos cv hc => ?_⟩
  · rw [upd_ne (fun z => by rw [z, hp] at h1; cases h1)]; exact h1
  · obtain ⟨c, e1, e2⟩ := h3 pos cv hc
    exact ⟨c, e1, by rw [upd_ne (fun z => by rw [z, hp] at e2; unfold LamX.CodeO at e2; cases e2)]; exact e2⟩
/-- an attribute is put into an instance that is new since the entry -/
theorem ins_step {oi : Option D} {p : Addr} {fs fs' : List (Str × V)} (ho : oi = none ∨ ∃ i, oi = some (.int i)) (st : Step K σ0 H0 Z0 ρ0 σ H Z (ρb bs oi)) (hn : H0 p = none) (hp : H p = some (.ins C dx fs)) : Step K σ0 H0 Z0 ρ0 σ (upd H p (.ins C dx fs')) Z (ρb bs oi) := by
  refine ⟨⟨st.sat.len, fun i d e => ?_, st.sat.sep, fun a z n => ?_, ?_⟩, ⟨fun b u h n w => ?_, fun b ps h => ?_, ?_⟩, st.z1, st.z2, st.own, fun a u h => ?_⟩
  · obtain ⟨v, ev, r⟩ := st.sat.rep i d e
    refine ⟨v, ev, ?_⟩
    match i, e with
    | 0, e => cases e
    | 1, e => cases e; exact .of (rp_tupI hp (r.rp rfl))
    | 2, e =>
      rcases ho with ho | ⟨i, ho⟩
      · subst ho; cases e
      · subst ho; cases e; rw [rep_int r]; exact .of (.int i)
    | (n + 3), e => simp [ρb] at e
  · by_cases e : a = p
    · subst e; rw [upd_same] at n; cases n
    · rw [upd_ne e] at n; exact st.sat.zok a z n
  · exact tabs_updI hp st.sat.tabs
  · rw [upd_ne (ne_of_none h hn)]; exact st.stay.on b u h n w
  · obtain ⟨ps', h2⟩ := st.stay.tb b ps h
    exact ⟨ps', by rw [upd_ne (ne_of_none h hn)]; exact h2⟩
  · exact fun t => tabs_updI hp (st.stay.tabs t)
  · obtain ⟨o', q⟩ := st.trk a u h
    exact ⟨o', by rw [upd_ne (ne_of_none h hn)]; exact q⟩
/-- behind the two stores: the instance, its list of whole numbers, both new since the entry -/
structure Bt (K : PySem.W.Frag) (σ0 : L2.St) (H0 : Hp) (Z0 : Addr → Prop) (ρ0 : Mi.Env) (o C dx : Addr) (v : V) (l : Addr) (bs : List Nat) (ns : List Int) (σ : L2.St) (ρ : Mi.Env) (H : Hp) (Z : Addr → Prop) : Prop where
  st : StepP K [0] σ0 H0 Z0 ρ0 σ H Z ρ
  fl : ∀ (i : Nat) (d : D), ρ[i]? = some (some d) → d.flat = true
  so : σ[0]? = some (some (.ref o))
  ho : H o = some (.ins C dx [(sRow, v), (sNotes, .ref l)])
  no : H0 o = none
  hl : H l = some (.lst (ns.map V.int))
  nl : H0 l = none
  zl : ¬ Z l
theorem Bt.step (h : Bt K σ0 H0 Z0 ρ0 o C dx v l bs ns σ ρ H Z) (p : StepP K [0] σ H Z ρ σ' H' Z' ρ') (fl : ∀ (i : Nat) (d : D), ρ'[i]? = some (some d) → d.flat = true) : Bt K σ0 H0 Z0 ρ0 o C dx v l bs ns σ' ρ' H' Z' :=
  ⟨h.st.trans p, fl, (p.fx 0 (by simp)).trans h.so, p.st.stay.on _ _ h.ho (fun _ z => nomatch z) (noOwn h.fl), h.no, p.st.stay.on _ _ h.hl (fun _ z => nomatch z) (noOwn h.fl), h.nl, fun z => by
    rcases p.st.z2 l z with z | z | z
    · exact h.zl z
    · rw [h.hl] at z; cases z
    · exact noOwn h.fl z⟩
theorem Bt.write {m : Int} (h : Bt K σ0 H0 Z0 ρ0 o C dx v l bs ns σ ρ H Z) : Bt K σ0 H0 Z0 ρ0 o C dx v l bs (ns ++ [m]) σ ρ (upd H l (.lst (ns.map V.int ++ [.int m]))) Z := by
  have ne : o ≠ l := fun e => by have h1 := h.ho; rw [e, h.hl] at h1; cases h1
  exact ⟨⟨write_step h.st.st h.nl h.hl h.zl (noOwn h.fl), h.st.ln, h.st.fx⟩, h.fl, h.so, by rw [upd_ne ne]; exact h.ho, h.no, by rw [upd_same, List.map_append]; rfl, h.nl, h.zl⟩
variable {W : WX} {ex : Nat → Addr} {G : List Fn} {CL : List D}
theorem Bt.name {i : Nat} {z : Int} (M : Bt K σ0 H0 Z0 ρ0 o C dx v l bs ns σ ρ H Z) (hi : i < ρ.length) (h2 : i ≠ 0) : Bt K σ0 H0 Z0 ρ0 o C dx v l bs ns (σ.set i (some (.int z))) (ρ.set i (some (.int z))) H Z := by
  refine M.step ⟨set_step M.st.st.sat hi (.int z), List.length_set .., fun j hj => ?_⟩ fun j d e => ?_
  · rw [List.mem_singleton.mp hj]
    exact List.getElem?_set_ne h2
  · rw [List.getElem?_set] at e
    by_cases q : i = j
    · subst q
      rw [if_pos rfl, if_pos hi] at e
      cases e; rfl
    · rw [if_neg q] at e
      exact M.fl j d e
def lstE : E := .op .lst (.cons (.int (0 : Nat)) .nil)
def rngE : Es := .cons (.int (0 : Nat)) (.cons (.op (.prim .len) (.cons (.var 1) .nil)) (.cons (.glob 0) .nil))
def negE : E := .op .neg (.cons (.int (1 : Nat)) .nil)
def sumE : E := .op (.prim .sum) (.cons (.slc (.var 1) (.cons (.var 2) .nil) (.cons (.op (.bin .add) (.cons (.var 2) (.cons (.glob 0) .nil))) .nil)) .nil)
theorem e_of {e : E} {x : D} (h : wE G CL e ρ fun d ρ' => d = x ∧ ρ' = ρ) : evalE G CL e ρ = .ok x ρ := by
  obtain ⟨d, ρ', h, rfl, rfl⟩ := h
  exact h
theorem l_of {es : Es} {x : List D} (h : wL G CL es ρ fun d ρ' => d = x ∧ ρ' = ρ) : evalL G CL es ρ = .ok x ρ := by
  obtain ⟨d, ρ', h, rfl, rfl⟩ := h
  exact h
theorem e_lst {oi : Option D} : evalE G CC lstE (ρb bs oi) = .ok (.lst [.int (0 : Nat)]) (ρb bs oi) := by
  refine e_of ?_
  unfold lstE
  repeat' array_get_dec
  all_goals exact ⟨rfl, rfl⟩
theorem e_rng {oi : Option D} : evalL G CC rngE (ρb bs oi) = .ok [.int (0 : Nat), .int (bs.length : Nat), .int (8 : Nat)] (ρb bs oi) := by
  refine l_of ?_
  unfold rngE
  repeat' array_get_dec
  all_goals exact ⟨rfl, rfl⟩
theorem e_neg {oi : Option D} : evalE G CC negE (ρb bs oi) = .ok (.int (-((1 : Nat) : Int))) (ρb bs oi) := by
  refine e_of ?_
  unfold negE
  repeat' array_get_dec
  all_goals exact ⟨rfl, rfl⟩
theorem e_sum {a : Nat} (ha : a ≤ bs.length) : evalE G CC sumE (ρb bs (some (.int (a : Nat)))) = .ok (.int ((((bs.drop a).take 8).sum : Nat) : Int)) (ρb bs (some (.int (a : Nat)))) := by
  refine e_of ?_
  unfold sumE
  repeat' array_get_dec
  refine ⟨.int ((((bs.drop a).take 8).sum : Nat) : Int), ?_, rfl, rfl⟩
  have e : ((bs.drop a).take 8).map nI = (((bs.drop a).take 8).map fun b => ((b : Nat) : Int)).map D.int := by rw [List.map_map]; rfl
  rw [e]
  show (ints? _).map (fun ns => D.int ns.sum) = _
  rw [ints?_map, ← sum_cast]; rfl
def preI (bs : List Nat) (m : Nat) : List Int := (List.range m).map fun k => (((bs.take (8 * k)).sum : Nat) : Int)
theorem preI_s {m : Nat} : preI bs (m + 1) = preI bs m ++ [(((bs.take (8 * m)).sum : Nat) : Int)] := by
  unfold preI
  rw [List.range_succ, List.map_append]; rfl
theorem take_more (a : Nat) : (bs.take (a + 8)).sum = (bs.take a).sum + ((bs.drop a).take 8).sum := by
  rw [List.take_add, List.sum_append]
def tTurn (K : PySem.W.Frag) (W : WX) (ex : Nat → Addr) (G : List Fn) (CL : List D) : TS :=
  tDrop (tBM K "list" rAppend (tFld K (tVar 0) sNotes) (tCons (tOp (rI0 fun i j => .int (i + j)) (tOp (rIxL K) (tFld K (tVar 0) sNotes) (tE K W ex G CL negE)) (tE K W ex G CL sumE)) tNil))
theorem turn_use {Dn : Ends} {m : Nat} (cl : Cls K C) (na : NoAttr K C sNotes) (hb : bs.length ≤ 1000) (hm : 8 * m < bs.length) (M : Bt K σ0 H0 Z0 ρ0 o C dx v l bs (preI bs (m + 1)) σ (ρb bs (some (.int ((8 * m : Nat) : Int)))) H Z)
    (q : ∀ H' Z', Bt K σ0 H0 Z0 ρ0 o C dx v l bs (preI bs (m + 1 + 1)) σ (ρb bs (some (.int ((8 * m : Nat) : Int)))) H' Z' → Dn.nx σ H') : tTurn K W ex G CC Dn σ H := by
  have ev : ∀ (e : E) (i : Int) (H : Hp) (Z : Addr → Prop) (Q : VK), evalE G CC e (ρb bs (some (.int ((8 * m : Nat) : Int)))) = .ok (.int i) (ρb bs (some (.int ((8 * m : Nat) : Int)))) → Bt K σ0 H0 Z0 ρ0 o C dx v l bs (preI bs (m + 1)) σ (ρb bs (some (.int ((8 * m : Nat) : Int)))) H Z →
      (∀ H' Z', Bt K σ0 H0 Z0 ρ0 o C dx v l bs (preI bs (m + 1)) σ (ρb bs (some (.int ((8 * m : Nat) : Int)))) H' Z' → Q (.int i) H') → tE K W ex G CC e σ H Q := fun e i H Z Q h M q => by
    refine ⟨Z, _, M.st.st.sat, ?_⟩
    rw [h]
    intro v H' Z' st fr
    rw [rep_int fr.1]
    exact q H' Z' (M.step (.of st) M.fl)
  have lk : [(sRow, v), (sNotes, V.ref l)].lookup sNotes = some (.ref l) := by
    have : (sNotes == sRow) = false := by decide +kernel
    simp [List.lookup, this]
  have fld : ∀ (H : Hp) (Z : Addr → Prop) (Q : VK), Bt K σ0 H0 Z0 ρ0 o C dx v l bs (preI bs (m + 1)) σ (ρb bs (some (.int ((8 * m : Nat) : Int)))) H Z → Q (.ref l) H → tFld K (tVar 0) sNotes σ H Q := fun H Z Q M q =>
    ⟨_, M.so, o, C, dx, _, .ref l, rfl, M.ho, cl, na, lk, q⟩
  have ll : (preI bs (m + 1)).length = m + 1 := by simp [preI]
  unfold tTurn tDrop tBM
  refine fld H Z _ M ?_
  refine ⟨.inl ⟨rfl, _, .of M.hl⟩, ?_⟩
  unfold tCons tOp
  refine fld H Z _ M ?_
  refine ev negE _ H Z _ e_neg M fun H1 Z1 M1 => ?_
  refine ⟨l, _, _, .int (((bs.take (8 * m)).sum : Nat) : Int), rfl, rfl, .of M1.hl, ?_, ?_⟩
  · unfold L2.atI L2.ixN
    rw [List.length_map, ll, if_neg (by omega), if_pos (by omega)]
    show ((preI bs (m + 1)).map V.int)[(-((1 : Nat) : Int) + ((m + 1 : Nat) : Int)).toNat]? = _
    rw [show (-((1 : Nat) : Int) + ((m + 1 : Nat) : Int)).toNat = m by omega, preI_s, List.map_append, List.getElem?_append_right (by simp [preI])]
    simp [preI]
  · refine ev sumE _ H1 Z1 _ (e_sum (by omega)) M1 fun H2 Z2 M2 => ⟨_, _, rfl, rfl, ?_⟩
    refine ⟨l, _, _, rfl, rfl, M2.hl, by rw [List.length_map, ll, ← sz_line]; unfold SZ; omega, q _ Z2 ?_⟩
    have w := M2.write (m := (((bs.take (8 * m)).sum : Nat) : Int) + (((bs.drop (8 * m)).take 8).sum : Nat))
    rw [preI_s (m := m + 1), show 8 * (m + 1) = 8 * m + 8 by omega, take_more]
    exact w
theorem rgc {n : Nat} (h : n ≤ 1000) : RgC ((0 : Nat) : Int) ((n : Nat) : Int) ((8 : Nat) : Int) ((n + 7) / 8) := by
  have e : Builtin.Range.rangeSize ((0 : Nat) : Int) ((n : Nat) : Int) ((8 : Nat) : Int) = (((n + 7) / 8 : Nat) : Int) := by
    unfold Builtin.Range.rangeSize
    rw [if_pos (by decide)]
    by_cases z : ((0 : Nat) : Int) < (n : Nat)
    · rw [if_pos z]; omega
    · rw [if_neg z]; omega
  refine ⟨by decide, by decide, ?_, e⟩
  have f : ∀ x : Int, 0 ≤ x → x ≤ 2000 → Builtin.Range.rangeFitsLong x = true := fun x h1 h2 => by
    unfold Builtin.Range.rangeFitsLong
    simp; omega
  unfold Builtin.Range.small
  rw [e, f _ (by omega) (by omega), f _ (by omega) (by omega), f _ (by omega) (by omega), f _ (by omega) (by omega), if_pos (by decide), f _ (by omega) (by omega)]
  simp
def tInit (K : PySem.W.Frag) (W : WX) (ex : Nat → Addr) (G : List Fn) (CL : List D) : TS :=
  tSeq (sFld K (tVar 0) (tVar 1) sRow) (tSeq (sFld K (tVar 0) (tE K W ex G CL lstE) sNotes) (tFor (iRng3 (tPA K W ex G CL rngE)) (gName 2) (tTurn K W ex G CL)))
theorem loop_use {Dn : Ends} (cl : Cls K C) (na : NoAttr K C sNotes) (hb : bs.length ≤ 1000) (M : Bt K σ0 H0 Z0 ρ0 o C dx v l bs (preI bs 1) σ (ρb bs none) H Z)
    (q : ∀ σ' oi H' Z', Bt K σ0 H0 Z0 ρ0 o C dx v l bs (preI bs ((bs.length + 7) / 8 + 1)) σ' (ρb bs oi) H' Z' → Dn.nx σ' H') : tFor (iRng3 (tPA K W ex G CC rngE)) (gName 2) (tTurn K W ex G CC) Dn σ H := by
  unfold tFor iRng3
  refine tPA_of rngE σ H Z (ρb bs none) _ M.st.st.sat ?_
  rw [e_rng]
  intro vs H1 Z1 st lr
  have M1 := M.step (.of st) M.fl
  have hv : vs = [.int (0 : Nat), .int (bs.length : Nat), .int (8 : Nat)] := by
    have rd := lr.rds st.sat
    cases rd with | cons h1 rd => cases rd with | cons h2 rd => cases rd with | cons h3 rd => cases rd; rw [rep_int h1, rep_int h2, rep_int h3]
  refine ⟨_, _, _, _, hv, rgc hb, ?_⟩
  refine ⟨fun i w σ' H' => i + w = (bs.length + 7) / 8 ∧ ∃ Z' oi, (oi = none ∨ ∃ z : Int, oi = some (.int z)) ∧ Bt K σ0 H0 Z0 ρ0 o C dx v l bs (preI bs (i + 1)) σ' (ρb bs oi) H' Z', ⟨(bs.length + 7) / 8, by omega, Z1, none, .inl rfl, M1⟩, fun i w σ2 H2 hW => ?_⟩
  obtain ⟨hw, Z2, oi, hoi, M2⟩ := hW
  by_cases hi : i < (bs.length + 7) / 8
  · refine .inr ⟨hi, fun σ' H' => (i + 1) + (w - 1) = (bs.length + 7) / 8 ∧ ∃ Z' oi, (oi = none ∨ ∃ z : Int, oi = some (.int z)) ∧ Bt K σ0 H0 Z0 ρ0 o C dx v l bs (preI bs (i + 1 + 1)) σ' (ρb bs oi) H' Z', fun σ' H' z => ⟨w - 1, by omega, z⟩, fun x H3 y => ?_⟩
    obtain ⟨rfl, rfl⟩ := y
    have e : ((0 : Nat) : Int) + (i : Nat) * ((8 : Nat) : Int) = ((8 * i : Nat) : Int) := by omega
    rw [e]
    have M3 := M2.name (i := 2) (z := ((8 * i : Nat) : Int)) (by show 2 < 3; omega) (by decide)
    exact turn_use cl na hb (by omega) M3 fun H' Z' M4 => ⟨by omega, Z', _, .inr ⟨_, rfl⟩, M4⟩
  · have : i = (bs.length + 7) / 8 := by omega
    subst this
    exact .inl ⟨Nat.le_refl _, q _ oi H2 Z2 M2⟩
theorem init_use {Dn : Ends} (k : ClsOk K cB C [nRow, nNotes]) (hb : bs.length ≤ 1000) (s0 : Sat K H0 Z0 σ0 (ρb bs none)) (h0 : σ0 = [some (.ref o), some v, none]) (no : H0 o = none) (nd : H0 dx = none) (ne : dx ≠ o)
    (q : ∀ l σ' oi H' Z', Bt K σ0 H0 Z0 (ρb bs none) o C dx v l bs (preI bs ((bs.length + 7) / 8 + 1)) σ' (ρb bs oi) H' Z' → Dn.nx σ' H') : tInit K W ex G CC Dn σ0 (upd (upd H0 dx (.own o)) o (.ins C dx [])) := by
  have cl : Cls K C := k.2.2.1
  have nr : NoAttr K C sRow := k.2.2.2 nRow (by simp)
  have nn : NoAttr K C sNotes := k.2.2.2 nNotes (by simp)
  have fl : ∀ (i : Nat) (d : D), (ρb bs none)[i]? = some (some d) → d.flat = true := ρb_fl fun _ z => nomatch z
  have nd2 : (upd H0 dx (.own o)) o = none := by rw [upd_ne ne.symm]; exact no
  have S1 : Step K σ0 H0 Z0 (ρb bs none) σ0 (upd (upd H0 dx (.own o)) o (.ins C dx [])) Z0 (ρb bs none) := (Step.keep s0 (keep_upd nd)).trans (Step.keep (Step.keep s0 (keep_upd nd)).sat (keep_upd nd2))
  have S2 := ins_step (fs' := [(sRow, v)]) (.inl rfl) S1 no upd_same
  have g0 : σ0[0]? = some (some (.ref o)) := by rw [h0]; rfl
  have g1 : σ0[1]? = some (some v) := by rw [h0]; rfl
  unfold tInit
  refine ⟨v, g1, .ref o, g0, o, C, dx, [], rfl, upd_same, cl, nr, by decide, ?_⟩
  show tSeq _ _ _ σ0 (upd (upd (upd H0 dx (.own o)) o (.ins C dx [])) o (.ins C dx [(sRow, v)]))
  generalize hH : upd (upd (upd H0 dx (.own o)) o (.ins C dx [])) o (.ins C dx [(sRow, v)]) = Ha at S2
  have ha : Ha o = some (.ins C dx [(sRow, v)]) := by rw [← hH, upd_same]
  refine ⟨Z0, _, S2.sat, ?_⟩
  rw [e_lst]
  intro y H2 Z2 st2 fr2
  obtain ⟨l, us, rfl, nz, hl, rs⟩ := fr2.1
  obtain ⟨l', el, nol, nl⟩ := fr2.2 rfl
  cases el
  have ho2 : H2 o = some (.ins C dx [(sRow, v)]) := st2.stay.on _ _ ha (fun _ z => nomatch z) (noOwn fl)
  refine ⟨.ref o, g0, o, C, dx, _, rfl, ho2, cl, nn, by simp, ?_⟩
  have pf : putF sNotes (V.ref l) [(sRow, v)] = [(sRow, v), (sNotes, .ref l)] := by
    unfold putF
    rw [if_neg (by decide +kernel)]; rfl
  rw [pf]
  have nlo : l ≠ o := fun e => by rw [e, ha] at nl; cases nl
  have hus : us = [.int (0 : Nat)] := by
    cases rs with | cons h r => cases r; cases h; rfl
  refine loop_use cl nn hb ⟨⟨ins_step (.inl rfl) (S2.trans st2) no ho2, rfl, fun _ _ => rfl⟩, fl, g0, upd_same, no, ?_, ?_, nz⟩ fun σ' oi H' Z' M => q l σ' oi H' Z' M
  · rw [upd_ne nlo, hl, hus]
    simp [preI]
  · exact (S2.stay.free nl).resolve_right (noOwn fl)
end
section
variable (N : List Str) (gn : List (Str × Nat)) (cn bn : List Str) (sc : Scope)
def ckB : List Stmt → Bool
  | [.Assign [.Attribute (.Name s1 _) f1 _] (.Name b1 _) _, .Assign [.Attribute (.Name s2 _) f2 _] v2 _, .For tg (.Call (.Name rg _) [a0, a1, a2] [] _) [.Expr (.Call (.Attribute (.Attribute (.Name s3 _) f3 _) ap apos) [.BinOp (.Subscript (.Attribute (.Name s4 _) f4 _) i4 _) .Add w4 _] [] pos) _] [] _] =>
    (visN N sc 0 s1 && visN N sc 0 s2 && visN N sc 0 s3 && visN N sc 0 s4 && visN N sc 1 b1) && (decide (f1 = sRow) && decide (f2 = sNotes) && decide (f3 = sNotes) && decide (f4 = sNotes)) &&
    (notComp v2 && chk N gn cn bn lstE sc v2) && (patOk N sc (fun _ => true) (.nm 2) tg && decide (rg = "range") && gloN sc rg && inB bn rg && chkL N gn cn bn rngE sc [a0, a1, a2]) &&
    (decide (ap = "append") && (apos.endLine == pos.line) && okIx i4 && chk N gn cn bn negE sc i4 && chk N gn cn bn sumE sc w4)
  | _ => false
end
section
variable {X : Cx} {W : WX} {ex : Nat → Addr} {G : List Fn} {C : List D} {N : List Str} {gn : List (Str × Nat)} {cn bn en : List Str} {sc : Scope}
theorem hand_ps (c : CtxS X W ex G C N gn cn bn sc en) {sts : List Stmt} (h : ckB N gn cn bn sc sts = true) : PSs X sts (tInit X.K W ex G C) := by
  unfold ckB at h
  split at h
  · simp only [Bool.and_eq_true] at h
    obtain ⟨⟨⟨⟨⟨⟨⟨⟨a1, a2⟩, a3⟩, a4⟩, a5⟩, ⟨⟨⟨f1, f2⟩, f3⟩, f4⟩⟩, ⟨b1, b2⟩⟩, ⟨⟨⟨⟨c1, c2⟩, c3⟩, c4⟩, c5⟩⟩, ⟨⟨⟨⟨d1, d2⟩, d3⟩, d4⟩, d5⟩⟩ := h
    have f1 := of_decide_eq_true f1
    have f2 := of_decide_eq_true f2
    have f3 := of_decide_eq_true f3
    have f4 := of_decide_eq_true f4
    have c2 := of_decide_eq_true c2
    have d1 := of_decide_eq_true d1
    subst f1 f2 f3 f4 c2 d1
    have jl := sndL rngE sc X W c.base _ c5
    have hg := gloN_ok c.base c3
    have hm := c.base.blt _ (of_decide_eq_true c4)
    refine pss_cons (ps_fld (visN_ok c.base a1) (visN_ok c.base a5) (swaps_no rfl)) (pss_cons (ps_fld (visN_ok c.base a2) (snd lstE sc X W c.base _ b2).val (swaps_no b1)) (pss_one ?_))
    refine ps_for c.hp c.base.calm (pi_range3 hg.1 hm jl.pa (star_cons (jl.ok _ List.mem_cons_self)) (star_any fun b hb => jl.ok b (List.mem_cons_of_mem _ hb))) (pat_ok c.base.hN c.base.nd c.base.hsc (fun x _ => c.hfn x) c.base.calm c1) (pss_one ?_) (fold_no rfl)
    exact ps_expr (pe_bm F.plainAttrs_list F.slot_list_append F.type_list_append mt_append (pe_fld (visN_ok c.base a3) (base_plain rfl)) (pa_cons (pe_op op_add (pe_ix ix_list (pe_fld (visN_ok c.base a4) (base_plain rfl)) (snd negE sc X W c.base _ d4).val (plain_ix d3)) (snd sumE sc X W c.base _ d5).val) pa_nil rfl) (base_plain rfl) rfl d2 rfl rfl) (swaps_no rfl)
  · cases h
end
theorem ckB_ok : ckB N_Bits g_Bits cn bn (defScope s_Bits) (defBody s_Bits) = true := by decide +kernel
section
variable {P : Program} {w : World} {K : PySem.W.Frag} {mg : Str → Option Value} {base : Heap} {ex : Nat → Addr} {k : Nat} {G : List Fn}
/-- what __init__ promises -/
def spI (K : PySem.W.Frag) (C : Addr) : Sp := fun vs H Q _ => ∃ (o dx : Addr) (v : V) (Hm : Hp) (Z0 : Addr → Prop) (bs : List Nat), vs = [.ref o, v] ∧ bs.length ≤ 1000 ∧ Hm o = none ∧ Hm dx = none ∧ dx ≠ o ∧ H = upd (upd Hm dx (.own o)) o (.ins C dx []) ∧
  Sat K Hm Z0 [some v] [some (.tup (bs.map nI))] ∧ ∀ H' Z', Step K [some v] Hm Z0 [some (.tup (bs.map nI))] [some v] H' Z' [some (.tup (bs.map nI))] → Rp K H' Z' (.ref o) (bitsD bs) → Q .non H'
theorem F_bits_use {ds : List D} (h : F_bits ds ≠ .stk) : ∃ bs : List Nat, ds = [.tup (bs.map nI)] ∧ bs.length ≤ 1000 ∧ F_bits ds = .ok (bitsD bs) ds := by
  unfold F_bits at h ⊢
  split at h
  · rename_i q
    exact ⟨q.choose, q.choose_spec.1, q.choose_spec.2, by rw [dif_pos q]⟩
  · exact absurd rfl h
theorem hand_Bits (KX : ∀ x o, PySem.W.nsIn K mainGlobals x = some o → mg x = o) (T : Top K ex bn en) (A : InitAt K cB [nRow, nNotes] "Bits" "Bits.__init__" s_Bits) (c : Calls P w K mg base ex k g_Bits G)
    (hg : ∀ (j : Nat) (y : Str), cn[j]? = some y → ∃ (d : D) (u : Value) (v : V), CC[j]? = some d ∧ mg y = some u ∧ RelV v u ∧ ∀ H Z, Rp K H Z v d)
    (hb : ∀ (kV doc pm : Value) (an : Option Addr) (cdv ct : Value) (us : List Value), us.length = p_Bits.length → bindArgs (PySem.W.fnOf "__init__" "Bits.__init__" (defArgs s_Bits) (defBody s_Bits) (defScope s_Bits) .none kV doc pm an cdv ct) ⟨us, []⟩ = pure (p_Bits.zip us)) :
    DefOk P w K mg base ex (k + 2) "Bits" 1 F_Bits := by
  obtain ⟨C, fa, fd, a, ck, M, F⟩ := A
  have S := scope_by k_Bits
  refine .cls C fa fd p_Bits (k + 1) (spI K C) (by decide +kernel) (KX _ _ a) M (F.binds hb) (Nat.le_refl _) ?_ fun vs H Q E h o dx no nd ne => ?_
  · refine F.okX S (fun vs H Q E h => by obtain ⟨o, dx, v, Hm, Z0, bs, rfl, _⟩ := h; rfl) fun cdv A outer s H vs Q E hr h => ?_
    obtain ⟨o, dx, v, Hm, Z0, bs, rfl, hl, no, nd, ne, rfl, sat, q⟩ := h
    have cS : CtxS (cxOf (L2.CX P w) P w K mg base N_Bits "Bits.__init__" (defScope s_Bits) fa cdv A outer s (upd (upd Hm dx (.own o)) o (.ins C dx [])) E) (fun cls d _ H => E cls d H) ex G CC N_Bits g_Bits cn bn (defScope s_Bits) en :=
      { base := { hN := rfl, nd := S.nd, hsc := rfl, calm := rfl, tk := takes_of rfl rfl rfl rfl, hu := hr.units, blt := fun y hy => KX _ _ (T.blt y hy),
                  calls := fun j y m e => by
                    obtain ⟨g, e1, d⟩ := c.2 j y m e
                    exact ⟨g, e1, d.call rfl rfl rfl rfl rfl hr⟩
                  glob := hg
                  lam := fun z => absurd z (by decide +kernel) }
        hp := passes_of rfl
        hfn := fun _ => rfl
        stk := rfl
        fr := rfl
        exs := fun i y e => ⟨KX _ _ (T.exs i y e).a, (T.exs i y e).k, (T.exs i y e).q, raises_own (T.exs i y e).s (T.exs i y e).t, (T.exs i y e).ec⟩
        exm := T.exm
        kit := T.kit }
    refine ⟨_, hand_ps cS ckB_ok, ?_⟩
    obtain ⟨v', ev, rv⟩ := sat.rep 0 _ rfl
    cases ev
    have rv : Rp K Hm Z0 v (.tup (bs.map nI)) := rv.rp rfl
    have s0 : Sat K Hm Z0 (L2.start N_Bits [.ref o, v]) (ρb bs none) := by
      refine ⟨rfl, fun i d e => ?_, fun i j d e a h1 h2 f1 => ?_, sat.zok, sat.tabs⟩
      · match i, e with
        | 0, e => cases e
        | 1, e => cases e; exact ⟨v, rfl, .of rv⟩
        | 2, e => cases e
        | (n + 3), e => simp [ρb] at e
      · rw [ρb_fl (oi := none) (fun _ z => nomatch z) i d h1] at f1; cases f1
    refine init_use (K := K) ck hl s0 rfl no nd ne fun l σ' oi H' Z' B => ?_
    have fl0 : ∀ (i : Nat) (d : D), (ρb bs none)[i]? = some (some d) → d.flat = true := ρb_fl fun _ z => nomatch z
    have fl1 : ∀ (i : Nat) (d : D), ([some (.tup (bs.map nI))] : Mi.Env)[i]? = some (some d) → d.flat = true := fun i d e => by
      match i, e with
      | 0, e => cases e; rfl
      | (n + 1), e => simp at e
    have sy : Stay K H' H' fun _ => False := .of fun _ _ e => e
    have lo : Loose H' Z' fun _ => False := fun _ w => w.elim
    have rv2 : Rp K H' Z' v (.tup (bs.map nI)) := rv.stay s0.loose B.st.st.stay B.st.st.z1
    have rv3 : Rp K H' (fun c => Z' c ∨ c = l) v (.tup (bs.map nI)) := rv2.stay lo sy fun _ z => .inl z
    refine q H' (fun c => Z' c ∨ c = l) ⟨⟨rfl, fun i d e => ?_, fun i j d e a h1 h2 f1 => ?_, fun c z => ?_, B.st.st.sat.tabs⟩, B.st.st.stay.mono fun a z => (noOwn fl0 z).elim, fun c z => .inl (B.st.st.z1 c z), fun c z => ?_, fun c z => (noOwn fl1 z).elim, B.st.st.trk⟩ ?_
    · match i, e with
      | 0, e => cases e; exact ⟨v, rfl, .of rv3⟩
      | (n + 1), e => simp at e
    · rw [fl1 i d h1] at f1; cases f1
    · rcases z with z | z
      · exact B.st.st.sat.zok c z
      · rw [z, B.hl]; exact fun z => nomatch z
    · rcases z with z | z
      · rcases B.st.st.z2 c z with z | z | z
        · exact .inl z
        · exact .inr (.inl z)
        · exact (noOwn fl0 z).elim
      · rw [z]; exact .inr (.inl B.nl)
    · have e : (noteL bs).map nI = (preI bs ((bs.length + 7) / 8 + 1)).map D.int := by
        unfold noteL preI
        rw [List.map_map, List.map_map]; rfl
      unfold bitsD
      refine .obj ck (vs := [v, .ref l]) B.ho rfl (.cons rv3 (.cons ?_ .nil))
      rw [e]
      exact .fls (.inl (.inr rfl)) (.of B.hl) (Rps.of_ints _)
  · obtain ⟨hl, Z, ds, sat, q⟩ := h
    have hs : F_Bits ds ≠ .stk := fun z => by rw [z] at q; exact q
    obtain ⟨bs, rfl, hb1, e⟩ := F_bits_use hs
    have e : F_Bits [.tup (bs.map nI)] = .ok (bitsD bs) [.tup (bs.map nI)] := e
    rw [e] at q
    obtain ⟨v, rfl⟩ : ∃ v, vs = [v] := List.length_eq_one_iff.mp hl
    exact ⟨o, dx, v, H, Z, bs, rfl, hb1, no, nd, ne, rfl, sat, fun H' Z' st r => ⟨rfl, q _ H' Z' st ⟨.of r, fun z => nomatch z⟩⟩⟩
end
end K44

namespace K44
open Mi
local macro_rules | `(tactic| get_elem_tactic_trivial) => `(tactic| simp only [List.map_cons, List.map_nil, List.cons_append, List.nil_append, List.length_cons, List.length_nil, Nat.reduceAdd, Nat.reduceSub, Nat.zero_add, List.replicate])
local macro_rules | `(tactic| sizeOf_list_dec) => `(tactic| first
  | (with_reducible assumption)
  | omega
  | rfl
  | (simp only [List.length_take, List.length_drop, List.length_append, List.length_map, List.length_range, List.length_reverse, List.length_cons, List.length_nil, List.length_dropLast, rep_len]; omega)
  | (simp only [List.length_take, List.length_drop, List.length_append, List.length_map, List.length_range, List.length_reverse, List.length_cons, List.length_nil, List.length_dropLast, rep_len] at *; omega)
  | (apply Nat.mod_lt; omega)
  | (simp; done))
local macro_rules | `(tactic| decreasing_trivial_pre_omega) => `(tactic| first
  | (with_reducible assumption)
  | exact (rfl : (_ : Bool) = _)
  | exact okD_tup (ok_map fun _ => okD_str)
  | exact okD_tup (ok_map fun _ => okD_int)
  | exact okD_tup (ok_map (f := nI) fun _ => okD_int)
  | exact okD_str
  | exact okD_int)
local macro_rules | `(tactic| array_get_dec) => `(tactic| first
  | (refine id (α := wS _ _ _ _ _ _) ?_; dsimp only [setAll, List.set_cons_succ, List.set_cons_zero])
  | refine s_asg (by decide) ?_
  | refine s_ret ?_
  | refine s_retV (by decide) rfl ?_
  | refine s_ite ?_
  | refine s_appM rfl ?_
  | refine s_app rfl ?_
  | refine s_nil ?_
  | refine s_ex ?_
  | refine s_pass ?_
  | refine s_rais ?_
  | refine s_retN ?_
  | refine s_brk ?_
  | refine s_cnt ?_
  | refine s_mov (by decide) (by decide) rfl ?_
  | refine s_asgT rfl ?_
  | refine s_tryC (by decide) ?_
  | refine s_try ?_
  | refine wL_nil ?_
  | refine wL_var rfl ?_
  | refine wL_val rfl ?_
  | refine at_of rfl ?_
  | refine wE_var rfl rfl ?_
  | refine wE_int ?_
  | refine wE_str ?_
  | refine wE_bl ?_
  | refine wE_non ?_
  | refine wE_glob rfl ?_
  | refine wE_op ?_
  | refine wE_call ?_
  | refine wE_slcV rfl ?_
  | refine wE_slc rfl ?_
  | refine wE_not ?_
  | refine bl_of ?_
  | refine wE_mth ?_
  | refine wE_fz rfl ?_
  | refine wE_frz ?_
  | apply wE_andW
  | apply wE_orW
  | ((with_reducible refine Whn.mk ?_); intro hx; (try simp only [decide_eq_true_eq, decide_eq_false_iff_not, Bool.or_eq_true, Bool.or_eq_false_iff, Bool.and_eq_true, Bool.and_eq_false_iff, Bool.not_eq_true', Bool.not_eq_false'] at hx))
  | ((with_reducible refine Unl.mk ?_); intro hx; (try simp only [decide_eq_true_eq, decide_eq_false_iff_not, Bool.or_eq_true, Bool.or_eq_false_iff, Bool.and_eq_true, Bool.and_eq_false_iff, Bool.not_eq_true', Bool.not_eq_false'] at hx))
  | ((with_reducible refine Ech.mk ?_); intro y hy)
  | ((with_reducible refine EchL.mk ?_); intro y hy)
  | refine it_str (by first | exact rfl | exact trivial)
  | refine it_tup (by first | exact rfl | exact trivial)
  | refine it_lst (by first | exact rfl | exact trivial)
  | refine it_fls (by first | exact rfl | exact trivial)
  | refine wP_nil ?_
  | refine wP_one ?_
  | refine ix_of ?_
  | refine wC_nil ?_
  | refine wC_one ?_
  | (with_reducible refine th_nx ?_)
  | (with_reducible refine th_rt ?_)
  | (with_reducible refine th_exc ?_)
  | (with_reducible refine th_bk ?_)
  | (with_reducible refine th_ct ?_)
  | (with_reducible refine tu_nx ?_)
  | (with_reducible refine tu_rt ?_)
  | (with_reducible refine tu_ct ?_)
  | (with_reducible refine tu_bk ?_)
  | (with_reducible refine tu_exc ?_)
  | (with_reducible refine tq_nx ?_)
  | (with_reducible refine tq_rt ?_)
  | ((with_reducible apply tq_exc); (case h1 => decide); (case h2 => rfl); (case h3 => rfl))
  | (with_reducible refine t0_nx ?_)
  | (with_reducible refine t0_rt ?_)
  | ((with_reducible apply t0_exc); (case h1 => decide); (case h2 => rfl); (case h3 => rfl))
  | refine o_addN ?_
  | refine o_add ?_
  | (refine o_subN ?h1 ?q; (case h1 => first | omega | (simp only [List.length_take, List.length_drop, List.length_append, List.length_map, List.length_range] at *; omega)))
  | refine o_sub ?_
  | (refine o_addS ?h1 ?q; (case h1 => sizeOf_list_dec))
  | (refine o_mulN ?h1 ?q; (case h1 => omega))
  | (refine o_mulN2 ?h1 ?q; (case h1 => omega))
  | (refine o_fdivN ?h1 ?h2 ?q; (case h1 => omega); (case h2 => omega))
  | (refine o_modN ?h1 ?q; (case h1 => omega))
  | (refine o_mod ?h1 ?q; (case h1 => omega))
  | refine o_neg ?_
  | refine o_eqN ?_
  | refine o_neN ?_
  | refine o_ltN ?_
  | refine o_leN ?_
  | refine o_gtN ?_
  | refine o_geN ?_
  | refine o_eqI ?_
  | refine o_neI ?_
  | refine o_ltI ?_
  | refine o_leI ?_
  | refine o_gtI ?_
  | refine o_geI ?_
  | refine o_eqS ?_
  | refine o_neS ?_
  | refine o_ltS ?_
  | refine o_leS ?_
  | refine o_gtS ?_
  | refine o_geS ?_
  | refine o_inS ?_
  | refine o_ninS ?_
  | refine o_inST ?_
  | refine o_inSL ?_
  | refine o_inSF ?_
  | refine o_ninST ?_
  | refine o_ninSL ?_
  | refine o_ninSF ?_
  | refine o_isN0 ?_
  | refine o_isB ?_
  | refine o_isntB ?_
  | refine o_isN rfl ?_
  | refine o_isnN0 ?_
  | refine o_isnN rfl ?_
  | (refine o_neSame rfl ?h1 ?q; (case h1 => decreasing_trivial_pre_omega))
  | (refine o_eqSame rfl ?h1 ?q; (case h1 => decreasing_trivial_pre_omega))
  | (refine o_lenS ?h1 ?q; (case h1 => sizeOf_list_dec))
  | refine o_lenTm ?_
  | refine o_lenLm ?_
  | refine o_lenFm ?_
  | refine o_lenT ?_
  | refine o_lenL ?_
  | refine o_lenF ?_
  | (refine o_ixS ?h1 ?h2 ?q; (case h1 => sizeOf_list_dec); (case h2 => sizeOf_list_dec))
  | (refine o_ixS1 ?h1 ?h2 ?q; (case h1 => sizeOf_list_dec); (case h2 => sizeOf_list_dec))
  | (refine o_ixTm ([] : List Nat) ?h1 ?q; (case h1 => sizeOf_list_dec))
  | (refine o_ixLm ([] : List Nat) ?h1 ?q; (case h1 => sizeOf_list_dec))
  | refine o_ixT rfl ?_
  | refine o_ixL rfl ?_
  | refine o_ixF rfl ?_
  | (refine s_Sat ?h1 ?q; (case h1 => sizeOf_list_dec))
  | (refine s_S0 ?h1 ?q; (case h1 => sizeOf_list_dec))
  | (refine s_Sm ?h1 ?q; (case h1 => sizeOf_list_dec))
  | (refine s_Sl1 ?h1 ?q; (case h1 => sizeOf_list_dec))
  | (refine s_S1 ?h1 ?q; (case h1 => sizeOf_list_dec))
  | (refine s_S2 ?h1 ?q; (case h1 => sizeOf_list_dec))
  | (refine s_S ?h1 ?q; (case h1 => sizeOf_list_dec))
  | refine s_Lm0 ?_
  | refine s_Fm0 ?_
  | refine s_Fm1 ?_
  | refine s_Fmat ?_
  | refine s_Lml1 ?_
  | refine s_Lm1 ?_
  | refine s_Lmat ?_
  | refine s_Tm0 ?_
  | refine s_Tml1 ?_
  | refine s_Tm1 ?_
  | refine s_Tmat ?_
  | (refine o_addLm ?h1 ?q; (case h1 => sizeOf_list_dec))
  | (refine o_addTm ?h1 ?q; (case h1 => sizeOf_list_dec))
  | (refine o_mulS ?h1 ?h2 ?q; (case h1 => sizeOf_list_dec); (case h2 => sizeOf_list_dec))
  | refine o_abs ?_
  | refine o_int ?_
  | refine o_intB ?_
  | refine o_minN ?_
  | refine o_maxN ?_
  | refine o_min ?_
  | refine o_max ?_
  | refine o_tuL ?_
  | refine o_tuT ?_
  | refine o_tuF ?_
  | refine o_liT ?_
  | refine o_liL ?_
  | refine o_liF ?_
  | refine o_sortS ?_
  | refine o_sortSF ?_
  | refine o_sumN ?_
  | refine o_sumI ?_
  | refine o_any ?_
  | refine o_all ?_
  | (refine o_rngD0 ?h1 ?q; (case h1 => sizeOf_list_dec))
  | refine o_neBl ?_
  | refine o_eqBl ?_
  | refine o_inNT ?_
  | refine o_ixLa ?_
  | (refine o_ixLm1 ([] : List Nat) ?h1 ?q; (case h1 => sizeOf_list_dec))
  | (refine o_ixLm1 (f := nI) 0 ?h1 ?q; (case h1 => sizeOf_list_dec))
  | (refine o_ixTm (f := nI) 0 ?h1 ?q; (case h1 => sizeOf_list_dec))
  | (refine o_ixLm (f := nI) 0 ?h1 ?q; (case h1 => sizeOf_list_dec))
  | (refine o_rng ?h1 ?q; (case h1 => sizeOf_list_dec))
  | (refine o_rngS ?h1 ?h2 ?q; (case h1 => sizeOf_list_dec); (case h2 => sizeOf_list_dec))
  | (refine o_rng2 ?h1 ?h2 ?q; (case h1 => sizeOf_list_dec); (case h2 => sizeOf_list_dec))
  | refine o_isaT ?_
  | refine o_isaI ?_
  | refine o_isaB ?_
  | refine o_isaBB ?_
  | refine o_isaS ?_
  | (refine m_join1 ?h1 ?q; (case h1 => sizeOf_list_dec))
  | refine o_tup (Nat.le_of_ble_eq_true rfl) rfl ?_
  | refine o_lst (Nat.le_of_ble_eq_true rfl) rfl ?_
  | ((with_reducible apply re_rt); (case h => exact rfl); (case hp => exact And.intro rfl rfl))
  | ((with_reducible apply re_nx); (case h => exact rfl); (case hp => exact And.intro rfl rfl))
  | ((with_reducible apply xe_exc); (case h => exact rfl); (case hp => exact And.intro rfl rfl))
  | ((with_reducible apply re_rt); (case h => exact rfl))
  | ((with_reducible apply re_nx); (case h => exact rfl))
  | ((with_reducible apply xe_exc); (case h => exact rfl))
  | exact And.intro rfl rfl
  | exact And.intro rfl (And.intro rfl rfl)
  | refine And.intro rfl ?_
  | refine Exists.intro _ (And.intro rfl (And.intro rfl ?_))
  | (refine And.intro ?h1 rfl; (case h1 => (intro _ _ h; first | exact trivial | (subst h; exact rfl) | (simp; done))))
  | (apply c_dr; (case hd => (with_reducible assumption)); (case hj => exact rfl); (case fl => exact rfl); (case hf => first | (with_reducible assumption) | decreasing_trivial_pre_omega); (case' q => intro r d1 hr hd1))
  | (apply call_lst; (case nf => exact rfl); (case hj => exact rfl); (case fl => exact rfl); (case h0 => exact rfl); (case hf => first | (with_reducible assumption) | decreasing_trivial_pre_omega))
  | (apply call_lst2; (case nf => exact rfl); (case f1 => exact rfl); (case hj => exact rfl); (case fl => exact rfl); (case h0 => exact rfl); (case hf => first | (with_reducible assumption) | decreasing_trivial_pre_omega))
  | refine xE_call ?_
  | (apply xcall_of; (case hj => exact rfl); (case hf => first | (with_reducible assumption) | decreasing_trivial_pre_omega); (case fl => exact rfl); (case hn => exact fun z => (nomatch z)))
  | (apply call_tmp; (case hv => exact rfl); (case hj => exact rfl); (case fl => exact rfl); (case hf => first | (with_reducible assumption) | decreasing_trivial_pre_omega))
  | (refine o_minSm ?h1 ?q; (case h1 => first | (with_reducible assumption) | (intro hz; simp at hz; omega)))
  | (refine o_minS ?h1 ?q; (case h1 => (with_reducible assumption)))
  | refine m_ends ?_
  | refine o_revLm ?_
  | refine o_revTm ?_
  | (refine o_mulTm ?h1 ?h2 ?h3 ?h4 ?q; (case h1 => sizeOf_list_dec); (case h2 => sizeOf_list_dec); (case h3 => sizeOf_list_dec); (case h4 => sizeOf_list_dec))
  | refine o_revL ?_
  | refine wE_lmt rfl rfl ?_
  | refine wE_ite ?_
  | apply w_cRW (es := .cons _ .nil)
  | apply w_cNW (es := .cons _ (.cons _ .nil))
  | apply w_cRqW (es := .cons _ .nil)
  | apply w_cNqW (es := .cons _ (.cons _ .nil))
  | apply w_cLW
  | apply w_cLqW
  | exact fun _ => rfl
  | (apply c_take (t := hT); (case hd => (with_reducible assumption)); (case hj => exact rfl); (case h0 => omega); (case h1 => omega); (case' q => intro r d1 hr hd1))
  | (apply c_begin; (case hj => exact rfl); (case hb => exact hB _); (case' q => intro d1 hd1))
  | (apply c_signs (hs := fun hd => hS hd); (case hd => (with_reducible assumption)); (case hj => exact rfl); (case' q => intro s d1 hs hs0 hs10 hsc hd1))
  | (apply c_text (t := hX); (case hd => (with_reducible assumption)); (case hj => exact rfl); (case hs => (with_reducible assumption)); (case hs2 => omega); (case hn => omega); (case' q => intro x d1 hx hxc hd1))
  | (apply c_rich (t := hR); (case hd => (with_reducible assumption)); (case hj => exact rfl); (case hs => (with_reducible assumption)); (case hs2 => omega); (case hn => omega); (case' q => intro x d1 hx hxc hd1))
  | (with_reducible refine nx_of ?_)
  | (apply call_of; (case hj => exact rfl); (case hf => decreasing_trivial_pre_omega); (case fl => exact rfl))
  | (refine Exists.intro _ (Exists.intro _ (And.intro rfl (And.intro rfl (And.intro rfl (And.intro ?h1 ?q))))); (case h1 => sizeOf_list_dec))
  | (refine Exists.intro _ (And.intro rfl (And.intro rfl (And.intro ?h1 ?q))); (case h1 => sizeOf_list_dec))
  | refine ite_f (by first | rfl | (simp; done) | (simp; omega)) ?_
  | refine ite_t (by first | rfl | (simp; done) | (simp; omega)) ?_
  | (apply ite_p; (case hb => first | exact decide_eq_true_iff | (simp only [decide_eq_true_eq, decide_eq_false_iff_not, Bool.or_eq_true, Bool.or_eq_false_iff, Bool.and_eq_true, Bool.and_eq_false_iff, Bool.not_eq_true', Bool.not_eq_false']; exact Iff.rfl) | exact Iff.rfl))
  | ((with_reducible apply fin_rt); (case h => exact rfl))
  | ((with_reducible apply fin_nx); (case h => exact rfl))
  | ((with_reducible apply fin_exc); (case h => exact rfl))
  | (with_reducible assumption)
  | omega
  | exact (rfl : (_ : Option (Option D)) = _)
  | exact (rfl : (_ : List (Option D)) = _))
local macro_rules | `(tactic| array_get_dec) => `(tactic| first
  | refine wE_oln ?_
  | refine Exists.intro _ (And.intro (rfl : bitsD _ = bitsD _) ?_)
  | fail)
def flipL (bs : List Nat) : List Nat := bs.map fun b => 1 - b
theorem flip_pos {bs : List Nat} (h : ∀ b ∈ bs, b ≤ 1) {c : Nat} (hc : c ≤ 1) : pos (1 - c) (flipL bs) bs.length = pos c bs bs.length := by
  unfold pos
  refine List.filter_congr fun p hp => ?_
  have hp := List.mem_range.mp hp
  have e : (flipL bs).getD p 0 = 1 - bs.getD p 0 := by
    unfold flipL
    rw [List.getD_eq_getElem?_getD, List.getElem?_map, List.getD_eq_getElem?_getD, List.getElem?_eq_getElem hp]; rfl
  have hb : bs.getD p 0 ≤ 1 := by
    rw [List.getD_eq_getElem?_getD, List.getElem?_eq_getElem hp]
    exact h _ (List.getElem_mem _)
  rw [e]
  exact decide_eq_decide.mpr (by omega)
theorem flip_sum {bs : List Nat} (h : ∀ b ∈ bs, b ≤ 1) : ∀ p, p ≤ bs.length → ((flipL bs).take p).sum + (bs.take p).sum = p := by
  unfold flipL
  induction bs with
  | nil => intro p hp; simp at hp; subst hp; rfl
  | cons b bs ih =>
    intro p hp
    cases p with
    | zero => rfl
    | succ p =>
      have h1 := h b List.mem_cons_self
      have := ih (fun c hc => h c (List.mem_cons_of_mem _ hc)) p (by simpa using hp)
      rw [List.map_cons, List.take_succ_cons, List.take_succ_cons, List.sum_cons, List.sum_cons]
      omega
set_option maxHeartbeats 4000000 in
theorem law_ok (ns : List Int) : F_law [.fls (ns.map D.int)] = .ok (.bl true) [.fls (ns.map D.int)] := by
  refine run_q rfl ?_
  get_elem_tactic_trivial
  refine s_upto 2 (fun ρ => ∃ (d : D) (m : Nat), ρ = [some (.fls (ns.map D.int)), some d, some (nI m), none, none, none, none, none, none, none, none, none, none] ∧ Dr d) ?_ ?_
  · repeat' array_get_dec
    exact ⟨_, _, rfl, by assumption⟩
  rintro ρ ⟨d, m, rfl, hd⟩
  refine s_upto 1 (fun ρ => ∃ (d : D) (bs : List Nat), ρ = [some (.fls (ns.map D.int)), some d, some (nI m), some (.lst (bs.map nI)), none, none, none, none, none, none, none, none, none] ∧ Dr d ∧ bs.length ≤ 40 ∧ ∀ b ∈ bs, b ≤ 1) ?_ ?_
  · refine s_asg (by decide) (w_compDr (fun d => [some (.fls (ns.map D.int)), some d, some (nI m), none, none, none, none, none, none, none, none, none, none]) (fun b => b ≤ 1) (fun _ _ => ⟨rfl, rfl⟩) ?_ ?_)
    · repeat' array_get_dec
      rename_i r d1 hr hd1
      refine ⟨d1, r, rfl, by omega, rfl, hd1, fun l d' hd' hl hb => ?_⟩
      repeat' array_get_dec
      exact ⟨d', l, rfl, hd', by omega, hb⟩
    · intro k d hd
      unfold law_e3
      repeat' array_get_dec
      · intro h1
        repeat' array_get_dec
        exact ⟨1, d, rfl, by omega, hd, rfl⟩
      · intro h1
        repeat' array_get_dec
        · intro h2
          repeat' array_get_dec
          exact ⟨0, d, rfl, by omega, hd, rfl⟩
        · intro h2
          repeat' array_get_dec
          exact ⟨_, _, rfl, by omega, by assumption, rfl⟩
  rintro ρ ⟨d, bs, rfl, hd, hl, h01⟩
  have hF := bits_ok bs (by omega)
  have hF2 := bits_ok (flipL bs) (by simp [flipL]; omega)
  have fl : (flipL bs).length = bs.length := by simp [flipL]
  have hlen := len_ok bs
  refine s_upto 2 (fun ρ => ρ = [some (.fls (ns.map D.int)), some d, some (nI m), some (.lst (bs.map nI)), some (bitsD bs), some (bitsD (flipL bs)), none, none, none, none, none, none, none]) ?_ ?_
  · repeat' array_get_dec
    rw [show (bs.map fun y => D.int (((1 : Nat) : Int) - ((y : Nat) : Int))) = (flipL bs).map nI from by
      unfold flipL
      rw [List.map_map]
      refine List.map_congr_left fun b hb => ?_
      have := h01 b hb
      have e : ((1 : Nat) : Int) - ((b : Nat) : Int) = ((1 - b : Nat) : Int) := by omega
      show D.int _ = D.int _
      rw [e]]
    repeat' array_get_dec
  rintro ρ rfl
  refine s_iteF ?_ ?_
  · repeat' array_get_dec
    refine ⟨_, rfl, by omega, ?_⟩
    repeat' array_get_dec
    all_goals exact ⟨by simp, rfl⟩
  refine s_nil (th_nx ?_)
  refine s_upto 1 (fun ρ => ρ = [some (.fls (ns.map D.int)), some d, some (nI m), some (.lst (bs.map nI)), some (bitsD bs), some (bitsD (flipL bs)), none, none, none, none, none, none, none]) ?_ ?_
  · refine s_for0 (cnt := bs.length + 1) (fun k ρ => ρ = [some (.fls (ns.map D.int)), some d, some (nI m), some (.lst (bs.map nI)), some (bitsD bs), some (bitsD (flipL bs)), none, none, none, none, none, none, none]) rfl ?_ ?_ ?_
    · repeat' array_get_dec
    · rintro p ρ hp rfl
      have t0 := told0 bs (by omega) p (by omega)
      have t1 := told0 (flipL bs) (by omega) p (by omega)
      have hs := flip_sum h01 p (by omega)
      have hI8 : F__law_int [.int (((bs.take p).sum : Nat) : Int)] = .ok (.bl true) [.int (((bs.take p).sum : Nat) : Int)] := hI _
      refine s_upto 1 (fun ρ => ρ = [some (.fls (ns.map D.int)), some d, some (nI m), some (.lst (bs.map nI)), some (bitsD bs), some (bitsD (flipL bs)), some (nI p), some (nI (bs.take p).sum), none, none, none, none, none]) ?_ ?_
      · repeat' array_get_dec
      rintro ρ rfl
      refine s_iteF ?_ ?_
      · refine wE_orW (x := false) (y := false) ?_ (Unl.mk fun _ => ?_) ⟨rfl, rfl⟩
        · repeat' array_get_dec
        · refine wE_orW (x := false) (y := false) ?_ (Unl.mk fun _ => ?_) ⟨rfl, rfl⟩
          · repeat' array_get_dec
            all_goals exact ⟨by simp, rfl⟩
          · repeat' array_get_dec
            all_goals exact ⟨by rw [decide_eq_true (by omega)]; rfl, rfl⟩
      repeat' array_get_dec
    · rintro ρ rfl
      repeat' array_get_dec
  rintro ρ rfl
  refine s_upto 1 (fun ρ => ρ = [some (.fls (ns.map D.int)), some d, some (nI m), some (.lst (bs.map nI)), some (bitsD bs), some (bitsD (flipL bs)), none, none, none, none, none, none, none]) ?_ ?_
  · refine s_forM (f := nI) (l := [1, 2]) (fun k ρ => ρ = [some (.fls (ns.map D.int)), some d, some (nI m), some (.lst (bs.map nI)), some (bitsD bs), some (bitsD (flipL bs)), none, none, none, none, none, none, none]) rfl ?_ ?_ ?_
    · repeat' array_get_dec
    · rintro n w ρ hw rfl
      have hw2 : w = 1 ∨ w = 2 := by
        have := List.mem_of_getElem? hw
        simpa using this
      refine ⟨_, rfl, ?_⟩
      rcases hw2 with rfl | rfl
      · have hfp : pos 0 (flipL bs) bs.length = pos 1 bs bs.length := flip_pos (c := 1) h01 (by omega)
        have hpl := pos_len (b := 1) (bs := bs) (n := bs.length)
        refine s_upto 1 (fun ρ => ρ = [some (.fls (ns.map D.int)), some d, some (nI m), some (.lst (bs.map nI)), some (bitsD bs), some (bitsD (flipL bs)), none, none, some (nI 1), some (.lst ((pos 1 bs bs.length).map nI)), none, none, none]) ?_ ?_
        · repeat' array_get_dec
        rintro ρ rfl
        refine s_upto 1 (fun ρ => ρ = [some (.fls (ns.map D.int)), some d, some (nI m), some (.lst (bs.map nI)), some (bitsD bs), some (bitsD (flipL bs)), none, none, some (nI 1), some (.lst ((pos 1 bs bs.length).map nI)), none, none, none]) ?_ ?_
        · refine s_for0 (cnt := (pos 1 bs bs.length).length) (fun k ρ => ρ = [some (.fls (ns.map D.int)), some d, some (nI m), some (.lst (bs.map nI)), some (bitsD bs), some (bitsD (flipL bs)), none, none, some (nI 1), some (.lst ((pos 1 bs bs.length).map nI)), none, none, none]) rfl ?_ ?_ ?_
          · repeat' array_get_dec
          · rintro k ρ hk rfl
            have hq : (pos 1 bs bs.length)[k]? = some ((pos 1 bs bs.length).getD k 0) := by rw [List.getD_eq_getElem?_getD, List.getElem?_eq_getElem hk]; rfl
            have t1 := told1 bs (by omega) k _ hq
            have t2 := told2 (flipL bs) (by omega) k ((pos 1 bs bs.length).getD k 0) (by rw [fl, hfp]; exact hq)
            refine s_iteF ?_ ?_
            · refine wE_orW (x := false) (y := false) ?_ (Unl.mk fun _ => ?_) ⟨rfl, rfl⟩
              · repeat' array_get_dec
                all_goals exact ⟨by simp, rfl⟩
              · repeat' array_get_dec
                all_goals exact ⟨by simp, rfl⟩
            · repeat' array_get_dec
          · rintro ρ rfl
            repeat' array_get_dec
        rintro ρ rfl
        have x1 := told1x bs (by omega) (((pos 1 bs bs.length).length : Nat) : Int) (by omega)
        have x2 := told1x bs (by omega) (((0 : Nat) : Int) - ((1 : Nat) : Int)) (by omega)
        refine s_iteF ?_ ?_
        · refine wE_orW (x := false) (y := false) ?_ (Unl.mk fun _ => ?_) ⟨rfl, rfl⟩
          · repeat' array_get_dec
          · repeat' array_get_dec
        · repeat' array_get_dec
      · have hfp : pos 1 (flipL bs) bs.length = pos 0 bs bs.length := flip_pos (c := 0) h01 (by omega)
        have hpl := pos_len (b := 0) (bs := bs) (n := bs.length)
        refine s_upto 1 (fun ρ => ρ = [some (.fls (ns.map D.int)), some d, some (nI m), some (.lst (bs.map nI)), some (bitsD bs), some (bitsD (flipL bs)), none, none, some (nI 2), some (.lst ((pos 0 bs bs.length).map nI)), none, none, none]) ?_ ?_
        · repeat' array_get_dec
        rintro ρ rfl
        refine s_upto 1 (fun ρ => ρ = [some (.fls (ns.map D.int)), some d, some (nI m), some (.lst (bs.map nI)), some (bitsD bs), some (bitsD (flipL bs)), none, none, some (nI 2), some (.lst ((pos 0 bs bs.length).map nI)), none, none, none]) ?_ ?_
        · refine s_for0 (cnt := (pos 0 bs bs.length).length) (fun k ρ => ρ = [some (.fls (ns.map D.int)), some d, some (nI m), some (.lst (bs.map nI)), some (bitsD bs), some (bitsD (flipL bs)), none, none, some (nI 2), some (.lst ((pos 0 bs bs.length).map nI)), none, none, none]) rfl ?_ ?_ ?_
          · repeat' array_get_dec
          · rintro k ρ hk rfl
            have hq : (pos 0 bs bs.length)[k]? = some ((pos 0 bs bs.length).getD k 0) := by rw [List.getD_eq_getElem?_getD, List.getElem?_eq_getElem hk]; rfl
            have t1 := told2 bs (by omega) k _ hq
            have t2 := told1 (flipL bs) (by omega) k ((pos 0 bs bs.length).getD k 0) (by rw [fl, hfp]; exact hq)
            refine s_iteF ?_ ?_
            · refine wE_orW (x := false) (y := false) ?_ (Unl.mk fun _ => ?_) ⟨rfl, rfl⟩
              · repeat' array_get_dec
                all_goals exact ⟨by simp, rfl⟩
              · repeat' array_get_dec
                all_goals exact ⟨by simp, rfl⟩
            · repeat' array_get_dec
          · rintro ρ rfl
            repeat' array_get_dec
        rintro ρ rfl
        have x1 := told2x bs (by omega) (((pos 0 bs bs.length).length : Nat) : Int) (by omega)
        have x2 := told2x bs (by omega) (((0 : Nat) : Int) - ((1 : Nat) : Int)) (by omega)
        refine s_iteF ?_ ?_
        · refine wE_orW (x := false) (y := false) ?_ (Unl.mk fun _ => ?_) ⟨rfl, rfl⟩
          · repeat' array_get_dec
          · repeat' array_get_dec
        · repeat' array_get_dec
    · rintro ρ rfl
      repeat' array_get_dec
  rintro ρ rfl
  have x1 := told0x bs (((0 : Nat) : Int) - ((1 : Nat) : Int)) (by omega)
  have x2 := told0x bs ((bs.length + 1 : Nat) : Int) (by omega)
  refine s_ret (wE_andW (x := true) (y := true) ?_ (Whn.mk fun _ => ?_) ?_)
  · repeat' array_get_dec
  · repeat' array_get_dec
  · repeat' array_get_dec
end K44

/-! the top of the proof, printed by tools/glue.py -/
namespace K44
open PySem PySem.Spec PyProof.Rows L2 Mi
section
variable {l : PySem.W.OpenLaw} {w : World} {K : PySem.W.Frag} {h : Heap} {mg : Str → Option Value} {fa : Addr} {ex : Nat → Addr}
def exA (x0 x1 : Addr) : Nat → Addr
  | 0 => x0
  | 1 => x1
  | _ => 0
variable {x0 x1 : Addr}
theorem top_mk (z_abs : PySem.W.nsIn K mainGlobals "abs" = some none) (z_bool : PySem.W.nsIn K mainGlobals "bool" = some none) (z_int : PySem.W.nsIn K mainGlobals "int" = some none) (z_isinstance : PySem.W.nsIn K mainGlobals "isinstance" = some none) (z_len : PySem.W.nsIn K mainGlobals "len" = some none) (z_list : PySem.W.nsIn K mainGlobals "list" = some none) (z_range : PySem.W.nsIn K mainGlobals "range" = some none) (z_sum : PySem.W.nsIn K mainGlobals "sum" = some none) (z_tuple : PySem.W.nsIn K mainGlobals "tuple" = some none) (e0 : ExcAt K x0 "ShardError") (e1 : ExcAt K x1 "RangeError") (i0 : PySem.W.isClsIn K x0 = true) (i1 : PySem.W.isClsIn K x1 = true) (s0_0 : PySem.W.subIn K (.ref x0) (.ref x0) = some true) (s0_1 : PySem.W.subIn K (.ref x0) (.ref x1) = some false) (s1_0 : PySem.W.subIn K (.ref x1) (.ref x0) = some true) (s1_1 : PySem.W.subIn K (.ref x1) (.ref x1) = some true) : Top K (exA x0 x1) bn en where
  blt := fun x hx => by
    simp only [bn, List.mem_cons, List.not_mem_nil, or_false] at hx
    rcases hx with rfl | rfl | rfl | rfl | rfl | rfl | rfl | rfl | rfl
    all_goals assumption
  exs := fun c x e => by
    match c, e with
    | 0, e => cases e; exact e0
    | 1, e => cases e; exact e1
    | (n + 2), e => simp [en] at e
  exm := fun c k hc hk => by
    match c, hc with
    | 0, _ =>
      match k, hk with
      | 0, _ => exact exm_by e0.s i0 e0.t s0_0
      | 1, _ => exact exm_by e1.s i1 e1.t s0_1
      | (n + 2), h => exact absurd h (by show ¬ n + 2 < 2; omega)
    | 1, _ =>
      match k, hk with
      | 0, _ => exact exm_by e0.s i0 e0.t s1_0
      | 1, _ => exact exm_by e1.s i1 e1.t s1_1
      | (n + 2), h => exact absurd h (by show ¬ n + 2 < 2; omega)
    | (n + 2), h => exact absurd h (by show ¬ n + 2 < 2; omega)
  kit := fun c k hc hk => by
    match c, hc with
    | 0, _ =>
      match k, hk with
      | 0, _ => exact kit_by i0 e0.t s0_0 s0_0
      | 1, _ => exact kit_by i1 e1.t s0_1 s1_1
      | (n + 2), h => exact absurd h (by show ¬ n + 2 < 2; omega)
    | 1, _ =>
      match k, hk with
      | 0, _ => exact kit_by i0 e0.t s1_0 s0_0
      | 1, _ => exact kit_by i1 e1.t s1_1 s1_1
      | (n + 2), h => exact absurd h (by show ¬ n + 2 < 2; omega)
    | (n + 2), h => exact absurd h (by show ¬ n + 2 < 2; omega)
theorem glob_mk (KX : ∀ x o, PySem.W.nsIn K mainGlobals x = some o → mg x = o) {tg0 : _} (g0 : PySem.W.nsIn K mainGlobals "BLOCK" = some (some (.int (8 : Nat) tg0))) : ∀ (j : Nat) (y : Str), cn[j]? = some y → ∃ (d : D) (u : Value) (v : V), CC[j]? = some d ∧ mg y = some u ∧ RelV v u ∧ ∀ H Z, Rp K H Z v d := by
  intro j y e
  match j, e with
  | 0, e => cases e; exact ⟨.int (8 : Nat), _, .int (8 : Nat), rfl, KX _ _ g0, ⟨_, rfl⟩, fun _ _ => .int (8 : Nat)⟩
  | (n + 1), e => simp [cn] at e
theorem nl : ("<lambda>" : Str) ∉ bn := by decide +kernel
set_option maxHeartbeats 0 in
theorem all_mk (X : K.In h) (G : h.Ns mainGlobals mg) (hfa : mg "law" = some (.ref fa)) (T : Top K ex bn en) (a_Bits : InitAt K [66, 105, 116, 115] [[114, 111, 119], [110, 111, 116, 101, 115]] "Bits" "Bits.__init__" s_Bits) (a_Bits___len__ : MethAt K [66, 105, 116, 115] [95, 95, 108, 101, 110, 95, 95] "__len__" "Bits.__len__" s_Bits___len__) (a_Bits_ones_before : MethAt K [66, 105, 116, 115] [111, 110, 101, 115, 95, 98, 101, 102, 111, 114, 101] "ones_before" "Bits.ones_before" s_Bits_ones_before) (a_Bits_place_of : MethAt K [66, 105, 116, 115] [112, 108, 97, 99, 101, 95, 111, 102] "place_of" "Bits.place_of" s_Bits_place_of) (a_Bits_place_of_one : MethAt K [66, 105, 116, 115] [112, 108, 97, 99, 101, 95, 111, 102, 95, 111, 110, 101] "place_of_one" "Bits.place_of_one" s_Bits_place_of_one) (a_Bits_place_of_zero : MethAt K [66, 105, 116, 115] [112, 108, 97, 99, 101, 95, 111, 102, 95, 122, 101, 114, 111] "place_of_zero" "Bits.place_of_zero" s_Bits_place_of_zero) (a__law_begin : DefAt K "_law_begin" s__law_begin) (a__law_take : DefAt K "_law_take" s__law_take) (a__law_int : DefAt K "_law_int" s__law_int) (a__law_told : DefAt K "_law_told" s__law_told) (a_law : DefAt K "law" s_law) {tg0 : _} (g0 : PySem.W.nsIn K mainGlobals "BLOCK" = some (some (.int (8 : Nat) tg0))) :
    ∃ fd : FuncData, (∀ (s : Shared) (v : Value), BindsTo s fd ⟨[v], []⟩ [("_law_script", v)]) ∧ ∀ base : Heap, K.In base → base.Ns mainGlobals mg → FnOk l.prog w K mg base (L2.CX l.prog w) 17 fa fd ["_law_script"] (spT K F_law) := by
  have KX : ∀ x o, PySem.W.nsIn K mainGlobals x = some o → mg x = o := fun x o e => by
    cases o with
    | none => exact PySem.W.mg_none_of X G e
    | some v => exact PySem.W.mg_of X G e
  obtain ⟨f, fd, a, F⟩ := a_law
  have e := hfa.symm.trans (PySem.W.mg_of X G a)
  cases e
  refine ⟨fd, fun s v => ?_, fun base _ _ => ?_⟩
  · obtain ⟨oc, od, kV, doc, pm, an, cdv, ct, osl, rfl, lk, hcd⟩ := F.ex
    exact .of_eq rfl
  · have c0 : Calls l.prog w K mg base ex 0 [] [] := Calls.nil
    have d0 : DefOk l.prog w K mg base ex 2 "Bits" 1 F_Bits := hand_Bits KX T a_Bits c0 (glob_mk KX g0) (fun _ _ _ _ _ _ us hl => match us, hl with | [_, _], _ => rfl)
    have c1 : Calls l.prog w K mg base ex 2 g_Bits___len__ [F_Bits] := (c0.up (j := 1) (by decide)).snoc d0
    have d1 : DefOk l.prog w K mg base ex 4 "Bits.__len__" 1 F_Bits___len__ := def_meth (C := CC) KX T a_Bits___len__ c1 (glob_mk KX g0) (fun _ _ _ _ _ _ us hl => match us, hl with | [_], _ => rfl) k_Bits___len__ c_Bits___len__ nl
    have c2 : Calls l.prog w K mg base ex 4 g_Bits_ones_before [F_Bits, F_Bits___len__] := (c1.up (j := 3) (by decide)).snoc d1
    have d2 : DefOk l.prog w K mg base ex 6 "Bits.ones_before" 2 F_Bits_ones_before := def_meth (C := CC) KX T a_Bits_ones_before c2 (glob_mk KX g0) (fun _ _ _ _ _ _ us hl => match us, hl with | [_, _], _ => rfl) k_Bits_ones_before c_Bits_ones_before nl
    have c3 : Calls l.prog w K mg base ex 6 g_Bits_place_of [F_Bits, F_Bits___len__, F_Bits_ones_before] := (c2.up (j := 5) (by decide)).snoc d2
    have d3 : DefOk l.prog w K mg base ex 8 "Bits.place_of" 3 F_Bits_place_of := def_meth (C := CC) KX T a_Bits_place_of c3 (glob_mk KX g0) (fun _ _ _ _ _ _ us hl => match us, hl with | [_, _, _], _ => rfl) k_Bits_place_of c_Bits_place_of nl
    have c4 : Calls l.prog w K mg base ex 8 g_Bits_place_of_one [F_Bits, F_Bits___len__, F_Bits_ones_before, F_Bits_place_of] := (c3.up (j := 7) (by decide)).snoc d3
    have d4 : DefOk l.prog w K mg base ex 10 "Bits.place_of_one" 2 F_Bits_place_of_one := def_meth (C := CC) KX T a_Bits_place_of_one c4 (glob_mk KX g0) (fun _ _ _ _ _ _ us hl => match us, hl with | [_, _], _ => rfl) k_Bits_place_of_one c_Bits_place_of_one nl
    have c5 : Calls l.prog w K mg base ex 10 g_Bits_place_of_zero [F_Bits, F_Bits___len__, F_Bits_ones_before, F_Bits_place_of, F_Bits_place_of_one] := (c4.up (j := 9) (by decide)).snoc d4
    have d5 : DefOk l.prog w K mg base ex 12 "Bits.place_of_zero" 2 F_Bits_place_of_zero := def_meth (C := CC) KX T a_Bits_place_of_zero c5 (glob_mk KX g0) (fun _ _ _ _ _ _ us hl => match us, hl with | [_, _], _ => rfl) k_Bits_place_of_zero c_Bits_place_of_zero nl
    have c6 : Calls l.prog w K mg base ex 12 g__law_begin [F_Bits, F_Bits___len__, F_Bits_ones_before, F_Bits_place_of, F_Bits_place_of_one, F_Bits_place_of_zero] := (c5.up (j := 11) (by decide)).snoc d5
    have d6 : DefOk l.prog w K mg base ex 13 "_law_begin" 1 F__law_begin := def_run (C := CC) KX T a__law_begin c6 (glob_mk KX g0) (fun _ _ _ _ _ _ us hl => match us, hl with | [_], _ => rfl) k__law_begin c__law_begin nl
    have c7 : Calls l.prog w K mg base ex 13 g__law_take [F_Bits, F_Bits___len__, F_Bits_ones_before, F_Bits_place_of, F_Bits_place_of_one, F_Bits_place_of_zero, F__law_begin] := c6.snoc d6
    have d7 : DefOk l.prog w K mg base ex 14 "_law_take" 2 F__law_take := def_run (C := CC) KX T a__law_take c7 (glob_mk KX g0) (fun _ _ _ _ _ _ us hl => match us, hl with | [_, _], _ => rfl) k__law_take c__law_take nl
    have c8 : Calls l.prog w K mg base ex 14 g__law_int [F_Bits, F_Bits___len__, F_Bits_ones_before, F_Bits_place_of, F_Bits_place_of_one, F_Bits_place_of_zero, F__law_begin, F__law_take] := c7.snoc d7
    have d8 : DefOk l.prog w K mg base ex 15 "_law_int" 1 F__law_int := def_run (C := CC) KX T a__law_int c8 (glob_mk KX g0) (fun _ _ _ _ _ _ us hl => match us, hl with | [_], _ => rfl) k__law_int c__law_int nl
    have c9 : Calls l.prog w K mg base ex 15 g__law_told [F_Bits, F_Bits___len__, F_Bits_ones_before, F_Bits_place_of, F_Bits_place_of_one, F_Bits_place_of_zero, F__law_begin, F__law_take, F__law_int] := c8.snoc d8
    have d9 : DefOk l.prog w K mg base ex 16 "_law_told" 3 F__law_told := def_run (C := CC) KX T a__law_told c9 (glob_mk KX g0) (fun _ _ _ _ _ _ us hl => match us, hl with | [_, _, _], _ => rfl) k__law_told c__law_told nl
    have c10 : Calls l.prog w K mg base ex 16 g_law [F_Bits, F_Bits___len__, F_Bits_ones_before, F_Bits_place_of, F_Bits_place_of_one, F_Bits_place_of_zero, F__law_begin, F__law_take, F__law_int, F__law_told] := c9.snoc d9
    exact fn_top (ex := ex) (def_fn (C := CC) KX T F c10 (glob_mk KX g0) k_law c_law nl)
end
end K44
open PySem PySem.W PyProof.Rows
set_option maxHeartbeats 0 in
theorem PySem.Challenge.cw_textshards_k44_ranks_of_bits_holds : PySem.Challenge.rw_textshards_k44_ranks_of_bits.Holds := by
  w_on; o_law; k_head; (case hw => w_witness2)
  k_fill
  refine L2.walk_of (l := PySem.Challenge.rw_textshards_k44_ranks_of_bits) (n := 63) (k := 17) (x := "_law_script") (CX := fun w => L2.CX PySem.Challenge.pw_textshards_k44_ranks_of_bits w) (sp := fun w => Mi.spT _ K44.F_law) rfl (by decide) rfl ⟨rfl, by decide, by decide⟩ (fun w h Y => PySem.W.kIn_of Y) ?F (fun w H a ns hl ho hS => Mi.law_true (by first | kernel_rfl | rfl) (K44.law_ok ns) ho hS) (fun w H s e s' h => Mi.cx_no h)
  case F =>
    intro w mg fa h KX G hmg
    refine' K44.all_mk KX G hmg (K44.top_mk ?z_abs ?z_bool ?z_int ?z_isinstance ?z_len ?z_list ?z_range ?z_sum ?z_tuple (Mi.excAt_mk ?ea0 ?ek0 ?eq0 ?es0 ?et0 (L2.ExcC.mk ?fa0 ?fb0 ?fc0 ?fd0 ?fe0 ?ff0 ?fg0 ?fh0)) (Mi.excAt_mk ?ea1 ?ek1 ?eq1 ?es1 ?et1 (L2.ExcC.mk ?fa1 ?fb1 ?fc1 ?fd1 ?fe1 ?ff1 ?fg1 ?fh1)) ?ei0 ?ei1 ?sb0_0 ?sb0_1 ?sb1_0 ?sb1_1) (Mi.initAt_mk (by decide +kernel) ?a_Bits ?nm_Bits (L2.Cls.mk ?pg_Bits ?hd_Bits ?po_Bits ?sa_Bits) (List.forall_mem_cons.mpr ⟨Mi.na_of (x := "row") (by decide +kernel) ?na0_Bits, (List.forall_mem_cons.mpr ⟨Mi.na_of (x := "notes") (by decide +kernel) ?na1_Bits, (fun f hf => nomatch hf)⟩)⟩) ?mk_Bits ?at_Bits ?fn_Bits ?kc_Bits ?l_Bits ?c_Bits ?k_Bits) (Mi.methAt_mk (x := "Bits") (by decide +kernel) (by decide +kernel) ?a_Bits___len__ (L2.Cls.mk ?pg_Bits___len__ ?hd_Bits___len__ ?po_Bits___len__ ?sa_Bits___len__) ?at_Bits___len__ ?fn_Bits___len__ ?l_Bits___len__ ?c_Bits___len__ ?k_Bits___len__) (Mi.methAt_mk (x := "Bits") (by decide +kernel) (by decide +kernel) ?a_Bits_ones_before (L2.Cls.mk ?pg_Bits_ones_before ?hd_Bits_ones_before ?po_Bits_ones_before ?sa_Bits_ones_before) ?at_Bits_ones_before ?fn_Bits_ones_before ?l_Bits_ones_before ?c_Bits_ones_before ?k_Bits_ones_before) (Mi.methAt_mk (x := "Bits") (by decide +kernel) (by decide +kernel) ?a_Bits_place_of (L2.Cls.mk ?pg_Bits_place_of ?hd_Bits_place_of ?po_Bits_place_of ?sa_Bits_place_of) ?at_Bits_place_of ?fn_Bits_place_of ?l_Bits_place_of ?c_Bits_place_of ?k_Bits_place_of) (Mi.methAt_mk (x := "Bits") (by decide +kernel) (by decide +kernel) ?a_Bits_place_of_one (L2.Cls.mk ?pg_Bits_place_of_one ?hd_Bits_place_of_one ?po_Bits_place_of_one ?sa_Bits_place_of_one) ?at_Bits_place_of_one ?fn_Bits_place_of_one ?l_Bits_place_of_one ?c_Bits_place_of_one ?k_Bits_place_of_one) (Mi.methAt_mk (x := "Bits") (by decide +kernel) (by decide +kernel) ?a_Bits_place_of_zero (L2.Cls.mk ?pg_Bits_place_of_zero ?hd_Bits_place_of_zero ?po_Bits_place_of_zero ?sa_Bits_place_of_zero) ?at_Bits_place_of_zero ?fn_Bits_place_of_zero ?l_Bits_place_of_zero ?c_Bits_place_of_zero ?k_Bits_place_of_zero) (Mi.defAt_mk ?a__law_begin ?l__law_begin ?c__law_begin ?k__law_begin) (Mi.defAt_mk ?a__law_take ?l__law_take ?c__law_take ?k__law_take) (Mi.defAt_mk ?a__law_int ?l__law_int ?c__law_int ?k__law_int) (Mi.defAt_mk ?a__law_told ?l__law_told ?c__law_told ?k__law_told) (Mi.defAt_mk ?a_law ?l_law ?c_law ?k_law) ?gg0
    (case gg0 => k_is)
    (case ea0 => k_is); (case ek0 => k_is); (case eq0 => k_exc); (case es0 => k_is); (case et0 => k_is); (case ei0 => k_is)
    (case ea1 => k_is); (case ek1 => k_is); (case eq1 => k_exc); (case es1 => k_is); (case et1 => k_is); (case ei1 => k_is)
    (case fa0 => first | rfl | k_is); (case fb0 => first | rfl | k_is); (case fc0 => first | rfl | k_is); (case fd0 => first | rfl | k_is); (case fe0 => first | rfl | k_is); (case ff0 => first | rfl | k_is); (case fg0 => first | rfl | k_is); (case fh0 => first | rfl | k_is)
    (case fa1 => first | rfl | k_is); (case fb1 => first | rfl | k_is); (case fc1 => first | rfl | k_is); (case fd1 => first | rfl | k_is); (case fe1 => first | rfl | k_is); (case ff1 => first | rfl | k_is); (case fg1 => first | rfl | k_is); (case fh1 => first | rfl | k_is)
    (case sb0_0 => first | rfl | k_is); (case sb0_1 => first | rfl | k_is)
    (case sb1_0 => first | rfl | k_is); (case sb1_1 => first | rfl | k_is)
    (case z_abs => k_is)
    (case z_bool => k_is)
    (case z_int => k_is)
    (case z_isinstance => k_is)
    (case z_len => k_is)
    (case z_list => k_is)
    (case z_range => k_is)
    (case z_sum => k_is)
    (case z_tuple => k_is)
    (case a_Bits => k_is); (case nm_Bits => first | kernel_rfl | k_is | rfl)
    (case pg_Bits => k_is); (case hd_Bits => k_is); (case po_Bits => k_is); (case sa_Bits => k_is); (case na0_Bits => k_is); (case na1_Bits => k_is); (case mk_Bits => k_is); (case at_Bits => k_is); (case fn_Bits => k_is); (case kc_Bits => k_is); (case l_Bits => k_is); (case c_Bits => k_is); (case k_Bits => k_is)
    (case a_Bits___len__ => k_is); (case pg_Bits___len__ => k_is); (case hd_Bits___len__ => k_is); (case po_Bits___len__ => k_is); (case sa_Bits___len__ => k_is); (case at_Bits___len__ => k_is); (case fn_Bits___len__ => k_is); (case l_Bits___len__ => k_is); (case c_Bits___len__ => k_is); (case k_Bits___len__ => k_is)
    (case a_Bits_ones_before => k_is); (case pg_Bits_ones_before => k_is); (case hd_Bits_ones_before => k_is); (case po_Bits_ones_before => k_is); (case sa_Bits_ones_before => k_is); (case at_Bits_ones_before => k_is); (case fn_Bits_ones_before => k_is); (case l_Bits_ones_before => k_is); (case c_Bits_ones_before => k_is); (case k_Bits_ones_before => k_is)
    (case a_Bits_place_of => k_is); (case pg_Bits_place_of => k_is); (case hd_Bits_place_of => k_is); (case po_Bits_place_of => k_is); (case sa_Bits_place_of => k_is); (case at_Bits_place_of => k_is); (case fn_Bits_place_of => k_is); (case l_Bits_place_of => k_is); (case c_Bits_place_of => k_is); (case k_Bits_place_of => k_is)
    (case a_Bits_place_of_one => k_is); (case pg_Bits_place_of_one => k_is); (case hd_Bits_place_of_one => k_is); (case po_Bits_place_of_one => k_is); (case sa_Bits_place_of_one => k_is); (case at_Bits_place_of_one => k_is); (case fn_Bits_place_of_one => k_is); (case l_Bits_place_of_one => k_is); (case c_Bits_place_of_one => k_is); (case k_Bits_place_of_one => k_is)
    (case a_Bits_place_of_zero => k_is); (case pg_Bits_place_of_zero => k_is); (case hd_Bits_place_of_zero => k_is); (case po_Bits_place_of_zero => k_is); (case sa_Bits_place_of_zero => k_is); (case at_Bits_place_of_zero => k_is); (case fn_Bits_place_of_zero => k_is); (case l_Bits_place_of_zero => k_is); (case c_Bits_place_of_zero => k_is); (case k_Bits_place_of_zero => k_is)
    (case a__law_begin => k_is); (case l__law_begin => k_is); (case c__law_begin => k_is); (case k__law_begin => k_is)
    (case a__law_take => k_is); (case l__law_take => k_is); (case c__law_take => k_is); (case k__law_take => k_is)
    (case a__law_int => k_is); (case l__law_int => k_is); (case c__law_int => k_is); (case k__law_int => k_is)
    (case a__law_told => k_is); (case l__law_told => k_is); (case c__law_told => k_is); (case k__law_told => k_is)
    (case a_law => k_is); (case l_law => k_is); (case c_law => k_is); (case k_law => k_is)

