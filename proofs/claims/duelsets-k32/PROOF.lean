import PyProof.Rows.All
import HandS.ForMost
import HandS.Flow
import HandS.Style
import HandS.IsInst
import HandS.Sort
import HandS.SortInts
import HandS.SortKw
import HandS.Zip
import HandS.Rev
import HandS.RevRange
import HandS.TupAny
import HandS.TupMul
import HandS.Deep
import HandS.DictTup
import HandS.Conv
import HandS.Strs
import HandS.SetFor
import HandS.Wide
import HandS.WideBits
import HandS.Walk
import HandS.Defaults
import HandS.HeadHook2
import PyProof.ReprRoads
import PyProof.StrLawsRepr
import PyProof.FitsInt
import KE.GoesMore
import KE.GoesEnum
import HandS.SortRule
import HandS.SortOrd
import KE.SortKeyHeap
import HandS.ExcValue
import HandS.TryOnly
import HandS.ExcCtx
import HandS.Small
import HandS.ExcIs
import KE.KIsAll
import HandS.HeadHook1
import HandS.More
import HandS.HeadEnd
import KE.KStateDown
import OpenK.AllK
import Wide.FinOn
import HandS.Head0
import HandS.Head1
import HandS.Head2
import HandS.Words
import HandS.WordsExc
import HandS.Codes
import PySem.Challenge.RW_duelsets_k32_careful_winners
section
set_option linter.all false
set_option autoImplicit false
/-! Mini: a small deterministic interpreter of the part of the language that the laws use.
Values D are pure data; what is changed in place stands in numbered cells. -/
namespace Mini

/-- a value: ref n is the n-th cell, scr a list that is read alone (the script, a caller's list), dct a written dict that never changes, rep d the text repr(d) -/
inductive D where
  | non
  | bl (b : Bool)
  | int (i : Int)
  | str (s : List Char)
  | tup (xs : List D)
  | lst (xs : List D)
  | scr (xs : List D)
  | dct (kvs : List (List Char × Int))
  | rep (d : D)
  | ref (n : Nat)
  deriving Inhabited

/-- a simple key of a dict -/
abbrev K1 := Sum Int (List Char)
inductive Cell where
  | lst (xs : List D)
  | dK (kvs : List (K1 × D))
  | dT (kvs : List (List K1 × D))
  deriving Inhabited

abbrev Hh := List Cell
abbrev Sl := List (Option D)

/-- an end: a value and the cells, an exception, or nothing is said -/
inductive R (α : Type) where
  | ok (a : α) (h : Hh)
  | exc (c : String) (fs : List D) (h : Hh)
  | bad

def R.bind {α β : Type} (r : R α) (f : α → Hh → R β) : R β := match r with
  | .ok a h => f a h
  | .exc c fs h => .exc c fs h
  | .bad => .bad
@[simp] theorem R.bind_ok {α β : Type} (a : α) (h : Hh) (f : α → Hh → R β) : (R.ok a h).bind f = f a h := rfl
@[simp] theorem R.bind_bad {α β : Type} (f : α → Hh → R β) : (R.bad : R α).bind f = .bad := rfl
@[simp] theorem R.bind_exc {α β : Type} (c : String) (fs : List D) (h : Hh) (f : α → Hh → R β) : (R.exc c fs h : R α).bind f = .exc c fs h := rfl

theorem R.bind_assoc {α β γ : Type} (r : R α) (f : α → Hh → R β) (g : β → Hh → R γ) : (r.bind f).bind g = r.bind fun a h => (f a h).bind g := by
  cases r <;> rfl

def R.of {α : Type} (o : Option α) (h : Hh) : R α := match o with
  | some a => .ok a h
  | none => .bad
@[simp] theorem R.of_some {α : Type} (a : α) (h : Hh) : R.of (some a) h = .ok a h := rfl
@[simp] theorem R.of_none {α : Type} (h : Hh) : R.of (none : Option α) h = .bad := rfl

/-- the longest list, text -/
abbrev lim : Nat := 1000000

inductive Op where
  | add | sub | mul | mod | fdiv | pow | band | shl | shr
  deriving DecidableEq
inductive Cm where
  | eq | ne | lt | le | gt | ge | isn | notn | inn | nin
  deriving DecidableEq
inductive Ty where
  | int | bool | str | tuple | list | dict
  deriving DecidableEq
/-- functions of built-in names on values -/
inductive Bi where
  | len | tuple | list | all | any | sum | max | min | abs | int | str | repr | sorted | sortedLen | setLen | sortedSet
  deriving DecidableEq
inductive Bi2 where
  | max | min
  deriving DecidableEq
/-- methods that change nothing -/
inductive Me where
  | join | index | count | split | replace | get2
  deriving DecidableEq
/-- methods that change a cell -/
inductive Mu where
  | append | extend | pop
  deriving DecidableEq

inductive Tg where
  | var (i : Nat)
  | vars (is : List Nat)
  deriving Inhabited

mutual
inductive ME where
  | var (i : Nat)
  | cst (d : D)
  | glb (x : String) (d : D)
  | tup (es : MEs)
  | lst (es : MEs)
  | new (e : ME)
  | newK
  | newT
  | bin (op : Op) (a b : ME)
  | neg (a : ME)
  | cmp (op : Cm) (a b : ME)
  | chain (op op' : Cm) (a b c : ME)
  | and (es : MEs)
  | or (es : MEs)
  | not (a : ME)
  | ite (c a b : ME)
  | idx (a i : ME)
  | slice (a : ME) (lo hi : MO)
  | rev (a : ME)
  | lc (own : List Nat) (t : Tg) (it : MI) (c : MO) (e : ME)
  | rgl (a : ME)
  | rgl2 (a b : ME)
  | rgt (a : ME)
  | rgt2 (a b : ME)
  | isi (a : ME) (ts : List Ty)
  | bi (f : Bi) (a : ME)
  | bi2 (f : Bi2) (a b : ME)
  | meth (m : Me) (o : ME) (as : MEs)
  | mut (m : Mu) (o : ME) (as : MEs)
  | call (f : String) (as : MEs)
  | bad
inductive MEs where
  | nil
  | cons (e : ME) (es : MEs)
inductive MO where
  | none
  | some (e : ME)
inductive MI where
  | seq (e : ME)
  | rng1 (a : ME)
  | rng2 (a b : ME)
  | enum (e : ME)
  | zip (a b : ME)
  | rev (e : ME)
  | revr (a : ME)
end

/-- targets of an assignment -/
inductive MT where
  | var (i : Nat)
  | ix (o i : ME)
inductive MTs where
  | nil
  | cons (t : MT) (ts : MTs)
mutual
/-- what a suite of except may say of the exception -/
inductive XE where
  | cst (d : D)
  | var (i : Nat)
  | isx (cs : List String)
  | not (a : XE)
  | and (a b : XE)
  | val
  | rep
  | lst (es : XEs)
inductive XEs where
  | nil
  | cons (e : XE) (es : XEs)
end
mutual
inductive XS where
  | asg (i : Nat) (e : XE)
  | ite (c : XE) (a : XSs)
  | ret (e : XE)
inductive XSs where
  | nil
  | cons (s : XS) (ss : XSs)
end
/-- except C as e: the classes it takes, e's slot, the suite -/
structure MH where
  takes : List String
  slot : Nat
  suite : XSs
mutual
inductive MS where
  | asg (t : MT) (e : ME)
  | asgs (ts : MTs) (e : ME)
  | unp (is : List Nat) (e : ME)
  | par (is : List Nat) (es : MEs)
  | aug (i : Nat) (op : Op) (e : ME)
  | augIx (o i : ME) (op : Op) (e : ME)
  | expr (e : ME)
  | ite (c : ME) (a b : MSs)
  | for_ (t : Tg) (it : MI) (b : MSs)
  | while_ (c : ME) (b : MSs)
  | ret (e : ME)
  | retN
  | pass
  | brk
  | cont
  | never
  | raise0 (c : String)
  | raise1 (c : String) (e : ME)
  | try_ (b : MS) (hs : List MH)
inductive MSs where
  | nil
  | cons (s : MS) (ss : MSs)
end

/-! ### values -/
/-- the items of a list or a tuple, of a cell that is a list -/
def seqOf (h : Hh) : D → Option (List D)
  | .lst xs => some xs
  | .tup xs => some xs
  | .scr xs => some xs
  | .ref n => match h[n]? with
    | some (.lst xs) => some xs
    | _ => none
  | _ => none
/-- .. of a list alone -/
def lstOf (h : Hh) : D → Option (List D)
  | .lst xs => some xs
  | .ref n => match h[n]? with
    | some (.lst xs) => some xs
    | _ => none
  | _ => none

/-- .. of a list, borrowed too -/
def rdOf (h : Hh) : D → Option (List D)
  | .lst xs => some xs
  | .scr xs => some xs
  | .ref n => match h[n]? with
    | some (.lst xs) => some xs
    | _ => none
  | _ => none

mutual
/-- no cell -/
def noRef : D → Bool
  | .tup xs => noRefL xs
  | .lst xs => noRefL xs
  | .scr xs => noRefL xs
  | .ref _ => false
  | .rep _ => true
  | .non => true
  | .bl _ => true
  | .int _ => true
  | .str _ => true
  | .dct _ => true
def noRefL : List D → Bool
  | [] => true
  | x :: xs => noRef x && noRefL xs
end
mutual
/-- no cell, nothing borrowed -/
def pureD : D → Bool
  | .tup xs => pureL xs
  | .lst xs => pureL xs
  | .ref _ => false
  | .scr _ => false
  | .rep _ => true
  | .non => true
  | .bl _ => true
  | .int _ => true
  | .str _ => true
  | .dct _ => true
def pureL : List D → Bool
  | [] => true
  | x :: xs => pureD x && pureL xs
end
mutual
/-- plain data: no dict, no repr within -/
def dataD : D → Bool
  | .tup xs => dataL xs
  | .lst xs => dataL xs
  | .ref _ => false
  | .scr _ => false
  | .rep _ => false
  | .non => true
  | .bl _ => true
  | .int _ => true
  | .str _ => true
  | .dct _ => false
def dataL : List D → Bool
  | [] => true
  | x :: xs => dataD x && dataL xs
end
mutual
def depD : D → Nat
  | .tup xs => depL xs + 1
  | .lst xs => depL xs + 1
  | .ref _ => 0
  | .scr _ => 0
  | .rep _ => 0
  | .non => 0
  | .bl _ => 0
  | .int _ => 0
  | .str _ => 0
  | .dct _ => 1
def depL : List D → Nat
  | [] => 0
  | x :: xs => max (depD x) (depL xs)
end
mutual
/-- a bound of the length of repr; ints below 2^1900 -/
def wtD : D → Nat
  | .tup xs => wtL xs + 3
  | .lst xs => wtL xs + 2
  | .ref _ => 0
  | .scr _ => 0
  | .rep _ => lim
  | .non => 4
  | .bl _ => 5
  | .int i => if i.natAbs < 2 ^ 64 then 70 else if i.natAbs < 2 ^ 1900 then 2000 else lim
  | .str s => 10 * s.length + 2
  | .dct kvs => (kvs.map fun kv => 10 * kv.1.length + 606).sum + 2
def wtL : List D → Nat
  | [] => 0
  | x :: xs => wtD x + 2 + wtL xs
end
mutual
/-- data, written dicts among them -/
def datR : D → Bool
  | .tup xs => datRL xs
  | .lst xs => datRL xs
  | .ref _ => false
  | .scr _ => false
  | .rep _ => false
  | .non => true
  | .bl _ => true
  | .int _ => true
  | .str _ => true
  | .dct kvs => decide (kvs = []) || decide (kvs = [(['a'], 1)])
def datRL : List D → Bool
  | [] => true
  | x :: xs => datR x && datRL xs
end

def optAll {α β : Type} (f : α → Option β) : List α → Option (List β)
  | [] => some []
  | x :: xs => match f x with
    | some y => match optAll f xs with
      | some ys => some (y :: ys)
      | none => none
    | none => none

/-- what is read: the cells' content and what is borrowed as lists, n deep -/
def view (h : Hh) : Nat → D → Option D
  | 0, d => if pureD d then some d else none
  | n + 1, d => if pureD d then some d else match d with
    | .tup xs => (optAll (view h n) xs).map D.tup
    | .lst xs => (optAll (view h n) xs).map D.lst
    | .scr xs => (optAll (view h n) xs).map D.lst
    | .ref i => match h[i]? with
      | some (.lst xs) => (optAll (view h n) xs).map D.lst
      | _ => none
    | _ => none
/-- what is lent to a def: the cells as borrowed lists -/
def lend (h : Hh) : Nat → D → Option D
  | 0, d => if noRef d then some d else none
  | n + 1, d => if noRef d then some d else match d with
    | .tup xs => (optAll (lend h n) xs).map D.tup
    | .lst xs => (optAll (lend h n) xs).map D.lst
    | .scr xs => (optAll (lend h n) xs).map D.scr
    | .ref i => match h[i]? with
      | some (.lst xs) => (optAll (lend h n) xs).map D.scr
      | _ => none
    | _ => none
/-- what a def hands back: its own cells (from lo on) as lists -/
def snap (lo : Nat) (h : Hh) : Nat → D → Option D
  | 0, d => if pureD d then some d else none
  | n + 1, d => if pureD d then some d else match d with
    | .tup xs => (optAll (snap lo h n) xs).map D.tup
    | .lst xs => (optAll (snap lo h n) xs).map D.lst
    | .ref i => if lo ≤ i then (match h[i]? with
      | some (.lst xs) => (optAll (snap lo h n) xs).map D.lst
      | _ => none) else none
    | _ => none

mutual
/-- == of plain data -/
def eqv : D → D → Bool
  | .non, d => match d with
    | .non => true
    | _ => false
  | .bl a, d => match d with
    | .bl b => a == b
    | .int j => (if a then 1 else 0) == j
    | _ => false
  | .int i, d => match d with
    | .int j => i == j
    | .bl b => i == (if b then 1 else 0)
    | _ => false
  | .str s, d => match d with
    | .str t => s == t
    | _ => false
  | .tup xs, d => match d with
    | .tup ys => eqvL xs ys
    | _ => false
  | .lst xs, d => match d with
    | .lst ys => eqvL xs ys
    | _ => false
  | .scr _, _ => false
  | .dct _, _ => false
  | .rep _, _ => false
  | .ref _, _ => false
def eqvL : List D → List D → Bool
  | [], ys => match ys with
    | [] => true
    | _ :: _ => false
  | x :: xs, ys => match ys with
    | [] => false
    | y :: ys => eqv x y && eqvL xs ys
end

/-- a text as the machine has it -/
def S (cs : List Char) : PySem.Str := ⟨(cs.map Char.toNat).toArray⟩
mutual
def toPy : D → PySem.PyData
  | .tup xs => .tuple (toPyL xs)
  | .lst xs => .list (toPyL xs)
  | .ref _ => .none
  | .scr _ => .none
  | .rep d => .str (PySem.PyData.shown (toPy d))
  | .non => .none
  | .bl b => .bool b
  | .int i => .int i
  | .str s => .str (S s)
  | .dct kvs => .dict (kvs.map fun kv => (.str (S kv.1), .int kv.2))
def toPyL : List D → List PySem.PyData
  | [] => []
  | x :: xs => toPy x :: toPyL xs
end

/-- may be compared by == -/
def cmpOk (d : D) : Bool := dataD d && decide (depD d ≤ 60)
/-- a tuple == (), a list == [] -/
def eqE (x y : D) : Option Bool := match x, y with
  | .tup xs, .tup [] => some xs.isEmpty
  | .lst xs, .lst [] => some xs.isEmpty
  | _, _ => none
def eqD (h : Hh) (x y : D) : Option Bool := match x, y with
  | .int i, .int j => some (decide (i = j))
  | .str s, .str t => some (decide (s = t))
  | .bl a, .bl b => some (decide (a = b))
  | .rep a, .rep b => some (decide (PySem.PyData.shown (toPy a) = PySem.PyData.shown (toPy b)))
  | _, _ => match view h 8 x, view h 8 y with
    | some x', some y' => if cmpOk x' && cmpOk y' then some (eqv x' y') else eqE x y
    | _, _ => eqE x y

def truthy (h : Hh) : D → Option Bool
  | .non => some false
  | .bl b => some b
  | .int i => some (i != 0)
  | .str s => if s.length ≤ lim then some (!s.isEmpty) else none
  | .tup xs => some (!xs.isEmpty)
  | .lst xs => some (!xs.isEmpty)
  | .scr xs => some (!xs.isEmpty)
  | .ref n => match h[n]? with
    | some (.lst xs) => some (!xs.isEmpty)
    | _ => none
  | _ => none

def ixN (n : Nat) (i : Int) : Option Nat := if 0 ≤ i then (if i < n then some i.toNat else none) else if -(n : Int) ≤ i then some (i + n).toNat else none
def atI {α : Type} (xs : List α) (i : Int) : Option α := match ixN xs.length i with
  | some j => xs[j]?
  | none => none
def sIx (n d : Nat) : Option Int → Nat
  | none => d
  | some v => if v < 0 then (v + (n : Int)).toNat else min v.toNat n
def cut {α : Type} (xs : List α) (lo hi : Option Int) : List α := (xs.drop (sIx xs.length 0 lo)).take (sIx xs.length xs.length hi - sIx xs.length 0 lo)

/-- the slice's value; a new list is given as lst -/
def sliceD (h : Hh) (x : D) (lo hi : Option Int) : Option D := match x with
  | .tup xs => some (.tup (cut xs lo hi))
  | .str s => if s.length ≤ lim then some (.str (cut s lo hi)) else none
  | x => (rdOf h x).map fun xs => .lst (cut xs lo hi)
/-- x[::-1] -/
def revX (h : Hh) : D → Option D
  | .tup xs => some (.tup xs.reverse)
  | x => (rdOf h x).map fun xs => .lst xs.reverse
/-- a dict's key -/
def key1 : D → Option K1
  | .int i => some (.inl i)
  | .str s => some (.inr s)
  | _ => none
def keyT : D → Option (List K1)
  | .tup xs => optAll key1 xs
  | _ => none
def findK {κ : Type} [DecidableEq κ] (k : κ) : List (κ × D) → Option D
  | [] => none
  | (q, v) :: r => if q = k then some v else findK k r
def putK {κ : Type} [DecidableEq κ] (k : κ) (v : D) (kvs : List (κ × D)) : List (κ × D) :=
  if kvs.any (fun q => decide (q.1 = k)) = true then kvs.map (fun q => if q.1 = k then (q.1, v) else q) else kvs ++ [(k, v)]

/-- a[i] -/
def idxD (h : Hh) (a i : D) : Option D := match a, i with
  | .tup xs, .int i => atI xs i
  | .lst xs, .int i => atI xs i
  | .scr xs, .int i => atI xs i
  | .str s, .int i => if s.length ≤ lim then (atI s i).map fun c => D.str [c] else none
  | .ref n, i => match h[n]? with
    | some (.lst xs) => match i with
      | .int i => atI xs i
      | _ => none
    | some (.dK kvs) => match key1 i with
      | some k => findK k kvs
      | none => none
    | some (.dT kvs) => match keyT i with
      | some k => findK k kvs
      | none => none
    | none => none
  | .dct kvs, .str s => match findK s (kvs.map fun kv => (kv.1, D.int kv.2)) with
    | some v => some v
    | none => none
  | _, _ => none

def CMul (i j : Int) : Bool := decide (-(2 ^ 64) < i ∧ i < 2 ^ 64) || decide (-(2 ^ 64) < j ∧ j < 2 ^ 64)
def repL {α : Type} (k : Nat) (xs : List α) : List α := (List.replicate k xs).flatten

/-- a op b; a new list is given as lst -/
def binD (h : Hh) (op : Op) (a b : D) : Option D := match op with
  | .add => match a, b with
    | .int i, .int j => some (.int (i + j))
    | .bl x, .int j => some (.int ((if x = true then (1 : Int) else 0) + j))
    | .str s, .str t => if s.length + t.length ≤ lim then some (.str (s ++ t)) else none
    | .tup xs, .tup ys => if xs.length + ys.length ≤ lim then some (.tup (xs ++ ys)) else none
    | a, b => match lstOf h a, lstOf h b with
      | some xs, some ys => if xs.length + ys.length ≤ lim then some (.lst (xs ++ ys)) else none
      | _, _ => none
  | .sub => match a, b with
    | .int i, .int j => some (.int (i - j))
    | .bl x, .int j => some (.int ((if x = true then (1 : Int) else 0) - j))
    | _, _ => none
  | .mul => match a, b with
    | .int i, .int j => if CMul i j then some (.int (i * j)) else none
    | .tup xs, .int k => if k = 1 then some (.tup xs) else if xs ≠ [] ∧ 2 ≤ k ∧ xs.length ≤ 1000 ∧ k ≤ 1000 then some (.tup (repL k.toNat xs)) else none
    | .str s, .int k => if s ≠ [] ∧ 2 ≤ k ∧ s.length ≤ 1000 ∧ k ≤ 1000 then some (.str (repL k.toNat s)) else none
    | a, .int k => match lstOf h a with
      | some xs => if xs.length ≤ 1000 ∧ -1000 ≤ k ∧ k ≤ 1000 then some (.lst (repL k.toNat xs)) else none
      | none => none
    | _, _ => none
  | .mod => match a, b with
    | .int i, .int j => if 0 < j then some (.int (i % j)) else none
    | _, _ => none
  | .fdiv => match a, b with
    | .int i, .int j => if 0 < j ∧ j < 1073741824 then some (.int (i / j)) else none
    | _, _ => none
  | .pow => match a, b with
    | .int i, .int j => if 0 ≤ j ∧ j ≤ 1000 ∧ i.natAbs < 2 ^ 64 then some (.int (i ^ j.toNat)) else none
    | _, _ => none
  | .band => match a, b with
    | .int i, .int j => if 0 ≤ i ∧ j = 1 then some (.int (i % 2)) else none
    | _, _ => none
  | .shl => match a, b with
    | .int i, .int j => if 0 ≤ j ∧ j ≤ 1000 ∧ i.natAbs < 2 ^ 64 then some (.int (i * 2 ^ j.toNat)) else none
    | _, _ => none
  | .shr => match a, b with
    | .int i, .int j => if 0 ≤ j then some (.int (i / 2 ^ j.toNat)) else none
    | _, _ => none

/-- x in y, a list or a tuple -/
def inSeq (h : Hh) (x y : D) : Option Bool := match view h 8 x, view h 8 y with
  | some x, some (.tup ys) => if cmpOk x && cmpOk (.tup ys) then some (ys.any fun y => eqv y x) else none
  | some x, some (.lst ys) => if cmpOk x && cmpOk (.lst ys) then some (ys.any fun y => eqv y x) else none
  | _, _ => none
/-- x in y -/
def inD (h : Hh) (x y : D) : Option Bool := match y with
  | .str t => match x with
    | .str [c] => some (decide (c ∈ t))
    | _ => none
  | .ref n => match h[n]? with
    | some (.dK kvs) => match key1 x with
      | some k => some (findK k kvs).isSome
      | none => none
    | some (.dT kvs) => match keyT x with
      | some k => some (findK k kvs).isSome
      | none => none
    | _ => inSeq h x y
  | _ => inSeq h x y

def isNon : D → Bool
  | .non => true
  | _ => false

/-- a is b, of truth values -/
def isBl : D → D → Option Bool
  | .bl a, .bl b => some (decide (a = b))
  | _, _ => none
def ints2 (f : Int → Int → Bool) (a b : D) : Option Bool := match a, b with
  | .int i, .int j => some (f i j)
  | _, _ => none
def cmpD (h : Hh) (op : Cm) (a b : D) : Option Bool := match op with
  | .eq => eqD h a b
  | .ne => (eqD h a b).map (!·)
  | .lt => ints2 (fun i j => decide (i < j)) a b
  | .le => ints2 (fun i j => decide (i ≤ j)) a b
  | .gt => ints2 (fun i j => decide (j < i)) a b
  | .ge => ints2 (fun i j => decide (j ≤ i)) a b
  | .isn => if isNon b then some (isNon a) else isBl a b
  | .notn => if isNon b then some (!isNon a) else (isBl a b).map (!·)
  | .inn => inD h a b
  | .nin => (inD h a b).map (!·)

def tyOf (h : Hh) : D → Option Ty
  | .bl _ => some .bool
  | .int _ => some .int
  | .str _ => some .str
  | .rep _ => some .str
  | .tup _ => some .tuple
  | .lst _ => some .list
  | .scr _ => some .list
  | .dct _ => some .dict
  | .non => none
  | .ref n => match h[n]? with
    | some (.lst _) => some .list
    | some _ => some .dict
    | none => none
def isiD (h : Hh) (d : D) (ts : List Ty) : Option Bool := match d with
  | .ref n => match h[n]? with
    | some (.lst _) => some (decide (Ty.list ∈ ts))
    | some _ => some (decide (Ty.dict ∈ ts))
    | none => none
  | .bl _ => some (decide (Ty.bool ∈ ts) || decide (Ty.int ∈ ts))
  | .non => some false
  | d => match tyOf h d with
    | some t => some (decide (t ∈ ts))
    | none => some false

def intsOf : List D → Option (List Int) := optAll fun d => match d with
  | .int i => some i
  | _ => none
def strsOf : List D → Option (List (List Char)) := optAll fun d => match d with
  | .str s => some s
  | _ => none
def blsOf : List D → Option (List Bool) := optAll fun d => match d with
  | .bl b => some b
  | _ => none
/-- tuples of ints -/
def tisOf : List D → Option (List (List Int)) := optAll fun d => match d with
  | .tup xs => intsOf xs
  | _ => none

/-- insertion: behind what is not greater (stable) -/
def ins {α : Type} (lt : α → α → Bool) (x : α) : List α → List α
  | [] => [x]
  | y :: ys => if lt x y then x :: y :: ys else y :: ins lt x ys
def sortBy {α : Type} (lt : α → α → Bool) (xs : List α) : List α := xs.reverse.foldr (ins lt) []
def lenLt (a b : List Int) : Bool := decide (a.length < b.length)
def lexLt : List Int → List Int → Bool
  | [], [] => false
  | [], _ :: _ => true
  | _ :: _, [] => false
  | x :: xs, y :: ys => if x = y then lexLt xs ys else decide (x < y)
def intLt (a b : Int) : Bool := decide (a < b)
def maxL : List Int → Option Int
  | [] => none
  | x :: xs => some (xs.foldl (fun a b => if b > a then b else a) x)
def minL : List Int → Option Int
  | [] => none
  | x :: xs => some (xs.foldl (fun a b => if b < a then b else a) x)
def dedup (xs : List Int) : List Int := xs.foldr (fun x ys => if x ∈ ys then ys else x :: ys) []

/-- repr of a datum, written dicts among it -/
def reprR (d : D) : Option D := if datR d && (decide (wtD d < lim) && decide (depD d ≤ 60)) then some (.rep d) else none
/-- a built-in function of one argument -/
def biD (h : Hh) (f : Bi) (d : D) : Option D := match f with
  | .len => match d with
    | .str s => if s.length ≤ lim then some (.int s.length) else none
    | .ref n => match h[n]? with
      | some (.lst xs) => some (.int xs.length)
      | some (.dK kvs) => some (.int kvs.length)
      | _ => none
    | d => (seqOf h d).map fun xs => .int xs.length
  | .tuple => match d with
    | .tup xs => some (.tup xs)
    | d => (rdOf h d).map .tup
  | .list => (seqOf h d).map .lst
  | .all => (rdOf h d).bind fun xs => (blsOf xs).map fun bs => .bl (bs.all id)
  | .any => (rdOf h d).bind fun xs => (blsOf xs).map fun bs => .bl (bs.any id)
  | .sum => (rdOf h d).bind fun xs => (intsOf xs).map fun ns => .int ns.sum
  | .max => (rdOf h d).bind fun xs => (intsOf xs).bind fun ns => (maxL ns).map .int
  | .min => (rdOf h d).bind fun xs => (intsOf xs).bind fun ns => (minL ns).map .int
  | .abs => match d with
    | .int i => some (.int (if i < 0 then -i else i))
    | _ => none
  | .int => match d with
    | .int i => some (.int i)
    | .bl b => some (.int (if b then 1 else 0))
    | .str s => if s.length ≤ 640 then (PySem.intText? (S s)).map .int else none
    | _ => none
  | .str => match d with
    | .int i => if i.natAbs < 2 ^ 1900 then some (.str (toString i).toList) else none
    | .bl b => some (.str (if b then ['T', 'r', 'u', 'e'] else ['F', 'a', 'l', 's', 'e']))
    | _ => none
  | .repr => match view h 8 d with
    | some (.tup xs) => if dataL xs && decide (wtD (.tup xs) < lim) && decide (depD (.tup xs) ≤ 60) then some (.rep (.tup xs)) else reprR d
    | some (.lst xs) => if dataL xs && decide (wtD (.lst xs) < lim) && decide (depD (.lst xs) ≤ 60) then some (.rep (.lst xs)) else reprR d
    | _ => reprR d
  | .sorted => match d with
    | .tup xs => (intsOf xs).map fun ns => .lst ((sortBy intLt ns).map .int)
    | d => (rdOf h d).bind fun xs => match intsOf xs with
      | some ns => some (.lst ((sortBy intLt ns).map .int))
      | none => (tisOf xs).map fun ts => .lst ((sortBy lexLt ts).map fun t => .tup (t.map .int))
  | .sortedLen => (seqOf h d).bind fun xs => (tisOf xs).map fun ts => .lst ((sortBy lenLt ts).map fun t => .tup (t.map .int))
  | .setLen => (seqOf h d).bind fun xs => (intsOf xs).bind fun ns => if ns.length ≤ 4000 then some (.int (dedup ns).length) else none
  | .sortedSet => (seqOf h d).bind fun xs => (intsOf xs).bind fun ns => if ns.length ≤ 4000 ∧ (dedup ns).length < 64 then some (.lst ((sortBy intLt (dedup ns)).map .int)) else none
def bi2D (f : Bi2) (a b : D) : Option D := match a, b with
  | .int i, .int j => match f with
    | .max => some (.int (if j > i then j else i))
    | .min => some (.int (if j < i then j else i))
  | _, _ => none

def joinC (sep : List Char) : List (List Char) → List Char
  | [] => []
  | [x] => x
  | x :: y :: r => x ++ sep ++ joinC sep (y :: r)
def splitC (c : Char) : List Char → List (List Char)
  | [] => [[]]
  | x :: xs => if x = c then [] :: splitC c xs else match splitC c xs with
    | [] => [[x]]
    | y :: ys => (x :: y) :: ys
/-- o.m(..), nothing changes -/
def methD (h : Hh) (m : Me) (o : D) (as : List D) : Option D := match m, o, as with
  | .join, .str sep, [d] => (rdOf h d).bind fun xs => (strsOf xs).bind fun ss =>
      if (ss.map List.length).sum + ss.length * sep.length ≤ lim then some (.str (joinC sep ss)) else none
  | .join, _, _ => none
  | .index, .lst xs, [.int k] => (intsOf xs).bind fun ns => (ns.findIdx? (fun n => n == k)).map fun (n : Nat) => D.int (n : Int)
  | .index, .scr xs, [.int k] => (intsOf xs).bind fun ns => (ns.findIdx? (fun n => n == k)).map fun (n : Nat) => D.int (n : Int)
  | .index, _, _ => none
  | .count, .lst xs, [.int k] => (intsOf xs).map fun ns => D.int ((ns.count k : Nat) : Int)
  | .count, .scr xs, [.int k] => (intsOf xs).map fun ns => D.int ((ns.count k : Nat) : Int)
  | .count, _, _ => none
  | .split, .str s, [.str [c]] => if s.length ≤ lim then some (.lst ((splitC c s).map .str)) else none
  | .split, _, _ => none
  | .replace, .str s, [.str [a], .str [b]] => if s.length ≤ lim then some (.str (s.map fun c => if c = a then b else c)) else none
  | .replace, _, _ => none
  | .get2, .ref n, [k, d] => match h[n]? with
    | some (.dK kvs) => (key1 k).map fun k => (findK k kvs).getD d
    | _ => none
  | .get2, _, _ => none
/-- o.m(..), a cell changes -/
def mutD (h : Hh) (m : Mu) (o : D) (as : List D) : R D := match o with
  | .ref n => match h[n]? with
    | some (.lst xs) => match m, as with
      | .append, [d] => if xs.length < lim then .ok .non (h.set n (.lst (xs ++ [d]))) else .bad
      | .extend, [d] => match lstOf h d with
        | some ys => if xs.length + ys.length ≤ lim then .ok .non (h.set n (.lst (xs ++ ys))) else .bad
        | none => .bad
      | .pop, [] => match xs.getLast? with
        | some d => .ok d (h.set n (.lst xs.dropLast))
        | none => .bad
      | .pop, [.int i] => match ixN xs.length i with
        | some k => match xs[k]? with
          | some d => .ok d (h.set n (.lst (xs.eraseIdx k)))
          | none => .bad
        | none => .bad
      | _, _ => .bad
    | _ => .bad
  | _ => .bad
/-- o[i] = d -/
def setD (h : Hh) (o i d : D) : Option Hh := match o with
  | .ref n => match h[n]? with
    | some (.lst xs) => match i with
      | .int i => match ixN xs.length i with
        | some k => some (h.set n (.lst (xs.set k d)))
        | none => none
      | _ => none
    | some (.dK kvs) => match key1 i with
      | some k => if kvs.length < lim then some (h.set n (.dK (putK k d kvs))) else none
      | none => none
    | some (.dT kvs) => match keyT i with
      | some k => if kvs.length < lim then some (h.set n (.dT (putK k d kvs))) else none
      | none => none
    | none => none
  | _ => none

/-! ### what a for walks -/
inductive It1 where
  | v (x : D)
  | l (n i len : Nat)
  | pr (a b : It1)
  deriving Inhabited
def It1.get (h : Hh) : It1 → Option D
  | .v x => some x
  | .l n i len => match h[n]? with
    | some (.lst xs) => if xs.length = len then xs[i]? else none
    | _ => none
  | .pr a b => match a.get h, b.get h with
    | some x, some y => some (.tup [x, y])
    | _, _ => none
/-- the items, and the cells that are walked with their lengths -/
structure Its where
  its : List It1
  live : List (Nat × Nat)
def liveOk (h : Hh) (l : List (Nat × Nat)) : Bool := l.all fun p => match h[p.1]? with
  | some (.lst xs) => decide (xs.length = p.2)
  | _ => false
def itsSeq (h : Hh) : D → Option Its
  | .lst xs => some ⟨xs.map .v, []⟩
  | .tup xs => some ⟨xs.map .v, []⟩
  | .scr xs => some ⟨xs.map .v, []⟩
  | .str s => if s.length ≤ lim then some ⟨s.map fun c => .v (.str [c]), []⟩ else none
  | .ref n => match h[n]? with
    | some (.lst xs) => some ⟨(List.range xs.length).map fun i => .l n i xs.length, [(n, xs.length)]⟩
    | _ => none
  | _ => none
def itsRange (lo hi : Int) : Option Its :=
  if -(2 ^ 60) ≤ lo ∧ lo < 2 ^ 60 ∧ -(2 ^ 60) ≤ hi ∧ hi < 2 ^ 60 ∧ (hi - lo).toNat ≤ lim then some ⟨(List.range (hi - lo).toNat).map fun i => .v (.int (lo + (i : Nat))), []⟩ else none
def enumIts : Nat → List It1 → List It1
  | _, [] => []
  | n, x :: xs => .pr (.v (.int n)) x :: enumIts (n + 1) xs
def zipIts : List It1 → List It1 → List It1
  | x :: xs, y :: ys => .pr x y :: zipIts xs ys
  | _, _ => []

/-- enumerate of a list, a tuple or a text -/
def enumQ (h : Hh) (x : D) : Option Its := match x with
  | .tup xs => some ⟨enumIts 0 (xs.map .v), []⟩
  | .str s => if s.length ≤ lim then some ⟨enumIts 0 (s.map fun c => .v (.str [c])), []⟩ else none
  | x => match rdOf h x with
    | some _ => (itsSeq h x).map fun its => ⟨enumIts 0 its.its, its.live⟩
    | none => none
def zipD (h : Hh) (x y : D) : Option Its := match x, y with
  | .tup xs, .tup ys => some ⟨zipIts (xs.map .v) (ys.map .v), []⟩
  | x, y => match rdOf h x, rdOf h y with
    | some _, some _ => match itsSeq h x, itsSeq h y with
      | some i, some j => some ⟨zipIts i.its j.its, i.live ++ j.live⟩
      | _, _ => none
    | _, _ => none
def revD : D → Option Its
  | .lst xs => some ⟨xs.reverse.map .v, []⟩
  | .scr xs => some ⟨xs.reverse.map .v, []⟩
  | .tup xs => some ⟨xs.reverse.map .v, []⟩
  | _ => none
/-- the items of list(range(i, j)) -/
def rgD (x y : D) : Option (List D) := match x, y with
  | .int i, .int j => if -(2 ^ 60) ≤ i ∧ i < 2 ^ 60 ∧ -(2 ^ 60) ≤ j ∧ j < 2 ^ 60 ∧ (j - i).toNat ≤ lim then some ((List.range (j - i).toNat).map fun k => .int (i + (k : Nat))) else none
  | _, _ => none
/-! ### loops -/
inductive Fl where
  | nx (σ : Sl)
  | rt (d : D)
  | bk (σ : Sl)
  | ct (σ : Sl)

def bindTg (t : Tg) (d : D) (σ : Sl) (h : Hh) : Option Sl := match t with
  | .var i => some (σ.set i (some d))
  | .vars is => match seqOf h d with
    | some xs => if xs.length = is.length then some ((is.zip xs).foldl (fun σ p => σ.set p.1 (some p.2)) σ) else none
    | none => none
def wipe (σ : Sl) : List Nat → Sl
  | [] => σ
  | v :: vs => (wipe σ vs).set v none

def forL (t : Tg) (live : List (Nat × Nat)) (body : Sl → Hh → R Fl) : List It1 → Sl → Hh → R Fl
  | [], σ, h => if liveOk h live then .ok (.nx σ) h else .bad
  | x :: xs, σ, h => match x.get h with
    | some d => match bindTg t d σ h with
      | some σ => (body σ h).bind fun f h => match f with
        | .nx σ => forL t live body xs σ h
        | .ct σ => forL t live body xs σ h
        | .bk σ => .ok (.nx σ) h
        | .rt d => .ok (.rt d) h
      | none => .bad
    | none => .bad
def whileL (c : Sl → Hh → R Bool) (body : Sl → Hh → R Fl) : Nat → Sl → Hh → R Fl
  | 0, _, _ => .bad
  | n + 1, σ, h => (c σ h).bind fun b h => if b then (body σ h).bind fun f h => match f with
      | .nx σ => whileL c body n σ h
      | .ct σ => whileL c body n σ h
      | .bk σ => .ok (.nx σ) h
      | .rt d => .ok (.rt d) h
    else .ok (.nx σ) h
def compL (t : Tg) (own : List Nat) (live : List (Nat × Nat)) (c : Sl → Hh → R Bool) (e : Sl → Hh → R D) : List It1 → Sl → Hh → R (List D)
  | [], _, h => if liveOk h live then .ok [] h else .bad
  | x :: xs, σ, h => match x.get h with
    | some d => match bindTg t d (wipe σ own) h with
      | some σ' => (c σ' h).bind fun b h => if b then (e σ' h).bind fun y h => (compL t own live c e xs σ h).bind fun ys h => .ok (y :: ys) h
        else compL t own live c e xs σ h
      | none => .bad
    | none => .bad

/-- a call of a def of the module -/
abbrev Oracle := String → List D → Hh → R D

/-- a value's truth as an end -/
def truthR (r : R D) : R Bool := r.bind fun d h => R.of (truthy h d) h

mutual
def evalE (C : Oracle) : ME → Sl → Hh → R D
  | .var i, σ, h => match σ[i]? with
    | some (some d) => .ok d h
    | _ => .bad
  | .cst d, _, h => .ok d h
  | .glb _ d, _, h => .ok d h
  | .tup es, σ, h => (evalEs C es σ h).bind fun xs h => .ok (.tup xs) h
  | .lst es, σ, h => (evalEs C es σ h).bind fun xs h => .ok (.lst xs) h
  | .new e, σ, h => (evalE C e σ h).bind fun d h => match d with
    | .lst xs => .ok (.ref h.length) (h ++ [.lst xs])
    | d => .ok d h
  | .newK, _, h => .ok (.ref h.length) (h ++ [.dK []])
  | .newT, _, h => .ok (.ref h.length) (h ++ [.dT []])
  | .bin op a b, σ, h => (evalE C a σ h).bind fun x h => (evalE C b σ h).bind fun y h => R.of (binD h op x y) h
  | .neg a, σ, h => (evalE C a σ h).bind fun x h => match x with
    | .int i => .ok (.int (-i)) h
    | _ => .bad
  | .cmp op a b, σ, h => (evalE C a σ h).bind fun x h => (evalE C b σ h).bind fun y h => (R.of (cmpD h op x y) h).bind fun c h => .ok (.bl c) h
  | .chain op op' a b c, σ, h => (evalE C a σ h).bind fun x h => (evalE C b σ h).bind fun y h => (R.of (cmpD h op x y) h).bind fun k h =>
      if k then (evalE C c σ h).bind fun z h => (R.of (cmpD h op' y z) h).bind fun k h => .ok (.bl k) h else .ok (.bl false) h
  | .and es, σ, h => evalAnd C es σ h
  | .or es, σ, h => evalOr C es σ h
  | .not a, σ, h => (truthR (evalE C a σ h)).bind fun b h => .ok (.bl (!b)) h
  | .ite c a b, σ, h => (truthR (evalE C c σ h)).bind fun k h => if k then evalE C a σ h else evalE C b σ h
  | .idx a i, σ, h => (evalE C a σ h).bind fun x h => (evalE C i σ h).bind fun y h => R.of (idxD h x y) h
  | .slice a lo hi, σ, h => (evalE C a σ h).bind fun x h => (evalO C lo σ h).bind fun lo h => (evalO C hi σ h).bind fun hi h => R.of (sliceD h x lo hi) h
  | .rev a, σ, h => (evalE C a σ h).bind fun x h => R.of (revX h x) h
  | .lc own t it c e, σ, h => (evalI C it σ h).bind fun its h =>
      (compL t own its.live (evalC C c) (evalE C e) its.its σ h).bind fun xs h => .ok (.lst xs) h
  | .rgl a, σ, h => (evalE C a σ h).bind fun x h => R.of ((rgD (.int 0) x).map .lst) h
  | .rgl2 a b, σ, h => (evalE C a σ h).bind fun x h => (evalE C b σ h).bind fun y h => R.of ((rgD x y).map .lst) h
  | .rgt a, σ, h => (evalE C a σ h).bind fun x h => R.of ((rgD (.int 0) x).map .tup) h
  | .rgt2 a b, σ, h => (evalE C a σ h).bind fun x h => (evalE C b σ h).bind fun y h => R.of ((rgD x y).map .tup) h
  | .isi a ts, σ, h => (evalE C a σ h).bind fun x h => (R.of (isiD h x ts) h).bind fun b h => .ok (.bl b) h
  | .bi f a, σ, h => (evalE C a σ h).bind fun x h => R.of (biD h f x) h
  | .bi2 f a b, σ, h => (evalE C a σ h).bind fun x h => (evalE C b σ h).bind fun y h => R.of (bi2D f x y) h
  | .meth m o as, σ, h => (evalE C o σ h).bind fun x h => (evalEs C as σ h).bind fun ys h => R.of (methD h m x ys) h
  | .mut m o as, σ, h => (evalE C o σ h).bind fun x h => if (lstOf h x).isSome then (evalEs C as σ h).bind fun ys h => mutD h m x ys else .bad
  | .call f as, σ, h => (evalEs C as σ h).bind fun xs h => C f xs h
  | .bad, _, _ => .bad
def evalEs (C : Oracle) : MEs → Sl → Hh → R (List D)
  | .nil, _, h => .ok [] h
  | .cons e es, σ, h => (evalE C e σ h).bind fun x h => (evalEs C es σ h).bind fun xs h => .ok (x :: xs) h
def evalAnd (C : Oracle) : MEs → Sl → Hh → R D
  | .nil, _, _ => .bad
  | .cons e es, σ, h => match es with
    | .nil => evalE C e σ h
    | .cons _ _ => (evalE C e σ h).bind fun x h => (R.of (truthy h x) h).bind fun b h => if b then evalAnd C es σ h else .ok x h
def evalOr (C : Oracle) : MEs → Sl → Hh → R D
  | .nil, _, _ => .bad
  | .cons e es, σ, h => match es with
    | .nil => evalE C e σ h
    | .cons _ _ => (evalE C e σ h).bind fun x h => (R.of (truthy h x) h).bind fun b h => if b then .ok x h else evalOr C es σ h
def evalO (C : Oracle) : MO → Sl → Hh → R (Option Int)
  | .none, _, h => .ok none h
  | .some e, σ, h => (evalE C e σ h).bind fun x h => match x with
    | .int i => .ok (some i) h
    | _ => .bad
/-- a comprehension's test -/
def evalC (C : Oracle) : MO → Sl → Hh → R Bool
  | .none, _, h => .ok true h
  | .some e, σ, h => truthR (evalE C e σ h)
def evalI (C : Oracle) : MI → Sl → Hh → R Its
  | .seq e, σ, h => (evalE C e σ h).bind fun x h => R.of (itsSeq h x) h
  | .rng1 a, σ, h => (evalE C a σ h).bind fun x h => match x with
    | .int j => R.of (itsRange 0 j) h
    | _ => .bad
  | .rng2 a b, σ, h => (evalE C a σ h).bind fun x h => (evalE C b σ h).bind fun y h => match x, y with
    | .int i, .int j => R.of (itsRange i j) h
    | _, _ => .bad
  | .enum e, σ, h => (evalE C e σ h).bind fun x h => R.of (enumQ h x) h
  | .zip a b, σ, h => (evalE C a σ h).bind fun x h => (evalE C b σ h).bind fun y h => R.of (zipD h x y) h
  | .rev e, σ, h => (evalE C e σ h).bind fun x h => R.of (revD x) h
  | .revr a, σ, h => (evalE C a σ h).bind fun x h => match x with
    | .int j => R.of ((itsRange 0 j).map fun its => ⟨its.its.reverse, []⟩) h
    | _ => .bad
end

/-- the while loops' fuel -/
abbrev fuel : Nat := 1000000

def setT (C : Oracle) (t : MT) (d : D) (σ : Sl) (h : Hh) : R Sl := match t with
  | .var i => .ok (σ.set i (some d)) h
  | .ix o i => (evalE C o σ h).bind fun o h => (evalE C i σ h).bind fun i h => match setD h o i d with
    | some h => .ok σ h
    | none => .bad
def setTs (C : Oracle) : MTs → List D → Sl → Hh → R Sl
  | .nil, [], σ, h => .ok σ h
  | .cons t ts, d :: ds, σ, h => (setT C t d σ h).bind fun σ h => setTs C ts ds σ h
  | _, _, _, _ => .bad

mutual
def evalXE (c : String) (fs : List D) : XE → Sl → Option D
  | .cst d, _ => some d
  | .var i, σ => match σ[i]? with
    | some (some d) => some d
    | _ => none
  | .isx cs, _ => some (.bl (decide (c ∈ cs)))
  | .not a, σ => match evalXE c fs a σ with
    | some (.bl b) => some (.bl !b)
    | _ => none
  | .and a b, σ => match evalXE c fs a σ with
    | some (.bl true) => evalXE c fs b σ
    | some (.bl false) => some (.bl false)
    | _ => none
  | .val, _ => match fs with
    | [x] => some x
    | _ => none
  | .rep, _ => match fs with
    | [x] => reprR x
    | _ => none
  | .lst es, σ => (evalXEs c fs es σ).map .lst
def evalXEs (c : String) (fs : List D) : XEs → Sl → Option (List D)
  | .nil, _ => some []
  | .cons e es, σ => (evalXE c fs e σ).bind fun d => (evalXEs c fs es σ).map fun ds => d :: ds
end
mutual
def evalXS (c : String) (fs : List D) : XS → Sl → Option Fl
  | .asg i e, σ => (evalXE c fs e σ).map fun d => .nx (σ.set i (some d))
  | .ite e a, σ => match evalXE c fs e σ with
    | some (.bl true) => evalXSs c fs a σ
    | some (.bl false) => some (.nx σ)
    | _ => none
  | .ret e, σ => (evalXE c fs e σ).map .rt
def evalXSs (c : String) (fs : List D) : XSs → Sl → Option Fl
  | .nil, σ => some (.nx σ)
  | .cons s ss, σ => match evalXS c fs s σ with
    | some (.nx σ) => evalXSs c fs ss σ
    | r => r
end
/-- the exception's name is gone -/
def unsetF (i : Nat) : Fl → Fl
  | .nx σ => .nx (σ.set i none)
  | .bk σ => .bk (σ.set i none)
  | .ct σ => .ct (σ.set i none)
  | .rt d => .rt d
/-- the handlers look at an exception -/
def handleX (c : String) (fs : List D) (σ : Sl) (h : Hh) : List MH → R Fl
  | [] => .exc c fs h
  | m :: ms => if c ∈ m.takes then R.of ((evalXSs c fs m.suite (σ.set m.slot none)).map (unsetF m.slot)) h else handleX c fs σ h ms
/-- an exception out of an expression, where that is followed -/
def excE (C : Oracle) : ME → Sl → Hh → Option (String × List D × Hh)
  | .call f as, σ, h => match evalEs C as σ h with
    | .ok ds h => (match C f ds h with
      | .exc c fs h => some (c, fs, h)
      | _ => none)
    | _ => none
  | _, _, _ => none
/-- .. out of one statement that stores nothing before -/
def excS (C : Oracle) : MS → Sl → Hh → Option (String × List D × Hh)
  | .raise0 c, _, h => some (c, [], h)
  | .raise1 c e, σ, h => match evalE C e σ h with
    | .ok x h => some (c, [x], h)
    | _ => none
  | .asg (.var _) e, σ, h => excE C e σ h
  | .expr e, σ, h => excE C e σ h
  | .ret e, σ, h => excE C e σ h
  | _, _, _ => none
mutual
def evalS (C : Oracle) : MS → Sl → Hh → R Fl
  | .asg t e, σ, h => (evalE C e σ h).bind fun x h => (setT C t x σ h).bind fun σ h => .ok (.nx σ) h
  | .asgs ts e, σ, h => (evalE C e σ h).bind fun x h => match seqOf h x with
    | some xs => (setTs C ts xs σ h).bind fun σ h => .ok (.nx σ) h
    | none => .bad
  | .unp is e, σ, h => (evalE C e σ h).bind fun x h => match bindTg (.vars is) x σ h with
    | some σ => .ok (.nx σ) h
    | none => .bad
  | .par is es, σ, h => (evalEs C es σ h).bind fun xs h =>
      if xs.length = is.length then .ok (.nx ((is.zip xs).foldl (fun σ p => σ.set p.1 (some p.2)) σ)) h else .bad
  | .aug i op e, σ, h => match σ[i]? with
    | some (some x) => (evalE C e σ h).bind fun y h => match x, y with
      | .int _, .int _ => (R.of (binD h op x y) h).bind fun z h => .ok (.nx (σ.set i (some z))) h
      | _, _ => .bad
    | _ => .bad
  | .augIx o i op e, σ, h => (evalE C o σ h).bind fun o h => (evalE C i σ h).bind fun i h => (R.of (idxD h o i) h).bind fun x h =>
      (evalE C e σ h).bind fun y h => match x, y with
      | .int _, .int _ => (R.of (binD h op x y) h).bind fun z h => match setD h o i z with
        | some h => .ok (.nx σ) h
        | none => .bad
      | _, _ => .bad
  | .expr e, σ, h => (evalE C e σ h).bind fun _ h => .ok (.nx σ) h
  | .ite c a b, σ, h => (truthR (evalE C c σ h)).bind fun k h => if k then evalSs C a σ h else evalSs C b σ h
  | .for_ t it b, σ, h => (evalI C it σ h).bind fun its h => forL t its.live (evalSs C b) its.its σ h
  | .while_ c b, σ, h => whileL (fun σ h => truthR (evalE C c σ h)) (evalSs C b) fuel σ h
  | .ret e, σ, h => (evalE C e σ h).bind fun x h => .ok (.rt x) h
  | .retN, _, h => .ok (.rt .non) h
  | .pass, σ, h => .ok (.nx σ) h
  | .brk, σ, h => .ok (.bk σ) h
  | .cont, σ, h => .ok (.ct σ) h
  | .never, _, _ => .bad
  | .raise0 c, _, h => .exc c [] h
  | .raise1 c e, σ, h => (evalE C e σ h).bind fun x h => .exc c [x] h
  | .try_ b hs, σ, h => match evalS C b σ h with
    | .ok f h => .ok f h
    | .exc _ _ _ => (match excS C b σ h with
      | some (c, fs, h) => handleX c fs σ h hs
      | none => .bad)
    | .bad => .bad
def evalSs (C : Oracle) : MSs → Sl → Hh → R Fl
  | .nil, σ, h => .ok (.nx σ) h
  | .cons s ss, σ, h => (evalS C s σ h).bind fun f h => match f with
    | .nx σ => evalSs C ss σ h
    | f => .ok f h
end

/-- an exception out of a def's body -/
def excSs (C : Oracle) : MSs → Sl → Hh → Option (String × List D × Hh)
  | .nil, _, _ => none
  | .cons s ss, σ, h => match evalS C s σ h with
    | .ok (.nx σ) h => excSs C ss σ h
    | .exc _ _ _ => (match s with
      | .ite c a b => (match truthR (evalE C c σ h) with
        | .ok k h => if k then excSs C a σ h else excSs C b σ h
        | _ => none)
      | s => excS C s σ h)
    | _ => none

/-! ### defs -/
/-- pure: its own cells are gone behind it and it is given none; drop: its own cells are gone behind it; keep: they stay -/
inductive Mode where
  | pure | drop | keep
  deriving DecidableEq
structure Fn where
  params : Nat
  slots : Nat
  mode : Mode
  body : MSs
abbrev Prog := String → Option Fn

mutual
/-- no cell from n on, nothing borrowed -/
def below (n : Nat) : D → Bool
  | .tup xs => belowL n xs
  | .lst xs => belowL n xs
  | .ref i => decide (i < n)
  | .scr _ => false
  | .rep _ => true
  | .non => true
  | .bl _ => true
  | .int _ => true
  | .str _ => true
  | .dct _ => true
def belowL (n : Nat) : List D → Bool
  | [] => true
  | x :: xs => below n x && belowL n xs
end
def cellBelow (n : Nat) : Cell → Bool
  | .lst xs => belowL n xs
  | .dK kvs => belowL n (kvs.map (·.2))
  | .dT kvs => belowL n (kvs.map (·.2))
mutual
def sameD : D → D → Bool
  | .non, d => match d with
    | .non => true
    | _ => false
  | .bl a, d => match d with
    | .bl b => a == b
    | _ => false
  | .int i, d => match d with
    | .int j => decide (i = j)
    | _ => false
  | .str s, d => match d with
    | .str t => decide (s = t)
    | _ => false
  | .tup xs, d => match d with
    | .tup ys => sameL xs ys
    | _ => false
  | .lst xs, d => match d with
    | .lst ys => sameL xs ys
    | _ => false
  | .scr xs, d => match d with
    | .scr ys => sameL xs ys
    | _ => false
  | .dct xs, d => match d with
    | .dct ys => decide (xs = ys)
    | _ => false
  | .rep x, d => match d with
    | .rep y => sameD x y
    | _ => false
  | .ref n, d => match d with
    | .ref m => decide (n = m)
    | _ => false
def sameL : List D → List D → Bool
  | [], ys => match ys with
    | [] => true
    | _ :: _ => false
  | x :: xs, ys => match ys with
    | [] => false
    | y :: ys => sameD x y && sameL xs ys
end
mutual
theorem sameD_refl : ∀ x : D, sameD x x = true
  | .non => rfl
  | .bl b => by simp [sameD]
  | .int i => by simp [sameD]
  | .str s => by simp [sameD]
  | .tup xs => by simp [sameD, sameL_refl xs]
  | .lst xs => by simp [sameD, sameL_refl xs]
  | .scr xs => by simp [sameD, sameL_refl xs]
  | .dct kvs => by simp [sameD]
  | .rep d => by simp [sameD, sameD_refl d]
  | .ref n => by simp [sameD]
theorem sameL_refl : ∀ xs : List D, sameL xs xs = true
  | [] => rfl
  | x :: xs => by simp [sameL, sameD_refl x, sameL_refl xs]
end
mutual
theorem sameD_eq : ∀ (x y : D), sameD x y = true → x = y
  | .non, y, h => by cases y <;> simp [sameD] at h ⊢
  | .bl b, y, h => by cases y <;> simp [sameD] at h ⊢; exact h
  | .int i, y, h => by cases y <;> simp [sameD] at h ⊢; exact h
  | .str s, y, h => by cases y <;> simp [sameD] at h ⊢; exact h
  | .tup xs, y, h => by cases y <;> simp [sameD] at h ⊢; exact sameL_eq xs _ h
  | .lst xs, y, h => by cases y <;> simp [sameD] at h ⊢; exact sameL_eq xs _ h
  | .scr xs, y, h => by cases y <;> simp [sameD] at h ⊢; exact sameL_eq xs _ h
  | .dct kvs, y, h => by cases y <;> simp [sameD] at h ⊢; exact h
  | .rep d, y, h => by cases y <;> simp [sameD] at h ⊢; exact sameD_eq d _ h
  | .ref n, y, h => by cases y <;> simp [sameD] at h ⊢; exact h
theorem sameL_eq : ∀ (xs ys : List D), sameL xs ys = true → xs = ys
  | [], ys, h => by cases ys <;> simp [sameL] at h ⊢
  | x :: xs, ys, h => by
    cases ys with
    | nil => simp [sameL] at h
    | cons y ys =>
      simp only [sameL, Bool.and_eq_true] at h
      rw [sameD_eq x y h.1, sameL_eq xs ys h.2]
end
def sameKV {κ : Type} [DecidableEq κ] : List (κ × D) → List (κ × D) → Bool
  | [], [] => true
  | (k, x) :: r, (q, y) :: t => decide (k = q) && (sameD x y && sameKV r t)
  | _, _ => false
theorem sameKV_refl {κ : Type} [DecidableEq κ] : ∀ xs : List (κ × D), sameKV xs xs = true
  | [] => rfl
  | (k, x) :: r => by simp [sameKV, sameD_refl x, sameKV_refl r]
theorem sameKV_eq {κ : Type} [DecidableEq κ] : ∀ xs ys : List (κ × D), sameKV xs ys = true → xs = ys
  | [], [], _ => rfl
  | [], _ :: _, h => by simp [sameKV] at h
  | _ :: _, [], h => by simp [sameKV] at h
  | (k, x) :: r, (q, y) :: t, h => by
    simp only [sameKV, Bool.and_eq_true, decide_eq_true_eq] at h
    rw [h.1, sameD_eq x y h.2.1, sameKV_eq r t h.2.2]
def sameC : Cell → Cell → Bool
  | .lst xs, .lst ys => sameL xs ys
  | .dK xs, .dK ys => sameKV xs ys
  | .dT xs, .dT ys => sameKV xs ys
  | _, _ => false
theorem sameC_refl (c : Cell) : sameC c c = true := by
  cases c
  · exact sameL_refl _
  · exact sameKV_refl _
  · exact sameKV_refl _
theorem sameC_eq {c d : Cell} (h : sameC c d = true) : c = d := by
  cases c <;> cases d <;> simp only [sameC] at h <;> first | exact congrArg _ (sameL_eq _ _ h) | exact congrArg _ (sameKV_eq _ _ h) | cases h
/-- behind a def: each cell that was there before is as it was, or names none of the def's own and nothing borrowed -/
def trimOk (h h' : Hh) : Bool := decide (h.length ≤ h'.length) && ((h.zip h').all fun p => sameC p.1 p.2 || cellBelow h.length p.2)
/-- .. and of a def whose cells stay: the new ones too name nothing borrowed -/
def keepOk (h h' : Hh) : Bool := decide (h.length ≤ h'.length) && ((h.zip h').all fun p => sameC p.1 p.2 || cellBelow h'.length p.2) && ((h'.drop h.length).all (cellBelow h'.length))

def bodyOf (r : R Fl) : R D := r.bind fun f h => match f with
  | .nx _ => .ok .non h
  | .rt d => .ok d h
  | _ => .bad
def startOf (fn : Fn) (args : List D) : Sl := args.map some ++ List.replicate (fn.slots - args.length) none
def callN (Γ : Prog) : Nat → Oracle
  | 0 => fun _ _ _ => .bad
  | k + 1 => fun f args h => match Γ f with
    | none => .bad
    | some fn => if args.length = fn.params then
        match fn.mode with
        | .pure => (match optAll (lend h 8) args with
          | some args => (match bodyOf (evalSs (callN Γ k) fn.body (startOf fn args) []) with
            | .ok d h' => R.of (snap 0 h' 8 d) h
            | .exc _ _ _ => (match excSs (callN Γ k) fn.body (startOf fn args) [] with
              | some (c, fs, _) => if pureL fs then .exc c fs h else .bad
              | none => .bad)
            | .bad => .bad)
          | none => .bad)
        | .drop => (match bodyOf (evalSs (callN Γ k) fn.body (startOf fn args) h) with
            | .ok d h' => if trimOk h h' then (if below h.length d then .ok d (h'.take h.length) else R.of (snap h.length h' 8 d) (h'.take h.length)) else .bad
            | .exc _ _ _ => .bad
            | .bad => .bad)
        | .keep => (match bodyOf (evalSs (callN Γ k) fn.body (startOf fn args) h) with
            | .ok d h' => if keepOk h h' && below h'.length d then .ok d h' else .bad
            | .exc _ _ _ => .bad
            | .bad => .bad)
      else .bad
end Mini
end
section
set_option Elab.async false
set_option linter.all false
set_option autoImplicit false
set_option maxRecDepth 100000
/-! Sound1: what a machine's value and heap have to do with Mini's. -/
namespace Mini
open PySem PySem.Spec PyProof.Rows
open L2 (V Hp HO Key Rd SqL SqT Inv Cx RelV upd upd_same upd_ne Same WX VK TE XK)

def kOf : K1 → Key
  | .inl i => .inl i
  | .inr s => .inr (S s)
theorem S_inj {a b : List Char} (h : S a = S b) : a = b := by
  unfold S at h
  injection h with h
  have h2 : a.map Char.toNat = b.map Char.toNat := by simpa using congrArg Array.toList h
  exact List.map_inj_right (fun x y e => Char.toNat_inj.mp e) |>.mp h2
theorem S_length (a : List Char) : (S a).length = a.length := by
  show (S a).cps.size = a.length
  simp [S]
theorem kOf_inj {a b : K1} (h : kOf a = kOf b) : a = b := by
  cases a with
  | inl i => cases b with
    | inl j => simpa [kOf] using h
    | inr t => simp [kOf] at h
  | inr s => cases b with
    | inl j => simp [kOf] at h
    | inr t => exact congrArg _ (S_inj (by simpa [kOf] using h))

/-- cells of others (o), lists that are being made (x) -/
structure Om where
  o : List Addr
  x : List Addr
instance : Membership Addr Om := ⟨fun om a => a ∈ om.o ∨ a ∈ om.x⟩
theorem Om.mem_iff {om : Om} {a : Addr} : a ∈ om ↔ a ∈ om.o ∨ a ∈ om.x := Iff.rfl
theorem sqL_none {K : PySem.W.Frag} {H : Hp} {a : Addr} {vs : List V} (h : SqL K (fun _ => none) a vs) : SqL K H a vs := by
  rcases h with (e | ⟨o, e⟩) | h
  · cases e
  · cases e
  · exact .inr h
mutual
/-- v stands for d: om the cells of others, io the cells by number -/
inductive Rp (K : PySem.W.Frag) (om : Om) (io : List Addr) (H : Hp) : V → D → Prop
  | non : Rp K om io H .non .non
  | bl (b : Bool) : Rp K om io H (.bl b) (.bl b)
  | int (i : Int) : Rp K om io H (.int i) (.int i)
  | str (s : List Char) : Rp K om io H (.str (S s)) (.str s)
  | tup {a : Addr} {vs : List V} {ds : List D} : H a = some (.tup vs) → a ∉ om → a ∉ io → Rps K om io H vs ds → Rp K om io H (.ref a) (.tup ds)
  | lst {a : Addr} {vs : List V} {ds : List D} : H a = some (.lst vs) → a ∉ om → a ∉ io → Rps K om io H vs ds → Rp K om io H (.ref a) (.lst ds)
  | scr {a : Addr} {vs : List V} {ds : List D} : Rd H a (.lst vs) → a ∉ io → a ∉ om.x → Rps K om io H vs ds → Rp K om io H (.ref a) (.scr ds)
  | scrK {a : Addr} {vs : List V} {ds : List D} : SqL K (fun _ => none) a vs → Rps K om io H vs ds → Rp K om io H (.ref a) (.scr ds)
  | dct {a : Addr} {kvs : List (List Char × Int)} : H a = some (.dK (kvs.map fun kv => (Sum.inr (S kv.1), V.int kv.2))) → a ∉ om → a ∉ io → Rp K om io H (.ref a) (.dct kvs)
  | rep (d : D) : Rp K om io H (.str (PyData.shown (toPy d))) (.rep d)
  | ref {n : Nat} {a : Addr} : io[n]? = some a → Rp K om io H (.ref a) (.ref n)
inductive Rps (K : PySem.W.Frag) (om : Om) (io : List Addr) (H : Hp) : List V → List D → Prop
  | nil : Rps K om io H [] []
  | cons {v : V} {vs : List V} {d : D} {ds : List D} : Rp K om io H v d → Rps K om io H vs ds → Rps K om io H (v :: vs) (d :: ds)
end

section
variable {K : PySem.W.Frag} {om : Om} {io io' : List Addr} {H H' : Hp}
theorem Rps.length : ∀ {vs : List V} {ds : List D}, Rps K om io H vs ds → vs.length = ds.length
  | _, _, .nil => rfl
  | _, _, .cons _ t => congrArg (· + 1) (Rps.length t)
theorem Rps.get : ∀ {vs : List V} {ds : List D} {i : Nat} {d : D}, Rps K om io H vs ds → ds[i]? = some d → ∃ v, vs[i]? = some v ∧ Rp K om io H v d
  | _, _, i, d, .nil, h => by simp at h
  | _, _, 0, d, .cons r _, h => by
    have e := Option.some.inj h
    subst e
    exact ⟨_, rfl, r⟩
  | _, _, i + 1, d, .cons _ t, h => by
    obtain ⟨v, h1, h2⟩ := Rps.get (i := i) (d := d) t (by simpa using h)
    exact ⟨v, by simpa using h1, h2⟩
theorem Rps.append : ∀ {vs us : List V} {ds es : List D}, Rps K om io H vs ds → Rps K om io H us es → Rps K om io H (vs ++ us) (ds ++ es)
  | _, _, _, _, .nil, s => s
  | _, _, _, _, .cons r t, s => .cons r (Rps.append t s)
theorem Rps.one {v : V} {d : D} (r : Rp K om io H v d) : Rps K om io H [v] [d] := .cons r .nil
theorem Rps.drop : ∀ {vs : List V} {ds : List D} (n : Nat), Rps K om io H vs ds → Rps K om io H (vs.drop n) (ds.drop n)
  | _, _, 0, r => r
  | _, _, n + 1, .nil => .nil
  | _, _, n + 1, .cons _ t => Rps.drop n t
theorem Rps.take : ∀ {vs : List V} {ds : List D} (n : Nat), Rps K om io H vs ds → Rps K om io H (vs.take n) (ds.take n)
  | _, _, 0, _ => .nil
  | _, _, n + 1, .nil => .nil
  | _, _, n + 1, .cons r t => .cons r (Rps.take n t)
theorem Rps.reverse : ∀ {vs : List V} {ds : List D}, Rps K om io H vs ds → Rps K om io H vs.reverse ds.reverse
  | _, _, .nil => .nil
  | _, _, .cons r t => by
    rw [List.reverse_cons, List.reverse_cons]
    exact (Rps.reverse t).append (.one r)
theorem Rps.set : ∀ {vs : List V} {ds : List D} {v : V} {d : D} (i : Nat), Rps K om io H vs ds → Rp K om io H v d → Rps K om io H (vs.set i v) (ds.set i d)
  | _, _, _, _, _, .nil, _ => .nil
  | _, _, _, _, 0, .cons _ t, q => .cons q t
  | _, _, _, _, i + 1, .cons r t, q => .cons r (Rps.set i t q)
theorem Rps.eraseIdx : ∀ {vs : List V} {ds : List D} (i : Nat), Rps K om io H vs ds → Rps K om io H (vs.eraseIdx i) (ds.eraseIdx i)
  | _, _, _, .nil => .nil
  | _, _, 0, .cons _ t => t
  | _, _, i + 1, .cons r t => .cons r (Rps.eraseIdx i t)
theorem Rps.dropLast : ∀ {vs : List V} {ds : List D}, Rps K om io H vs ds → Rps K om io H vs.dropLast ds.dropLast
  | _, _, .nil => .nil
  | _, _, .cons _ .nil => .nil
  | _, _, .cons r (.cons r' t) => .cons r (Rps.dropLast (.cons r' t))
theorem Rps.repl {v : V} {d : D} (r : Rp K om io H v d) : ∀ n : Nat, Rps K om io H (List.replicate n v) (List.replicate n d)
  | 0 => .nil
  | n + 1 => .cons r (Rps.repl r n)
theorem Rps.repL {vs : List V} {ds : List D} (r : Rps K om io H vs ds) : ∀ n : Nat, Rps K om io H (List.replicate n vs).flatten (List.replicate n ds).flatten
  | 0 => .nil
  | n + 1 => r.append (Rps.repL r n)
theorem Rps.ints : ∀ ns : List Int, Rps K om io H (ns.map V.int) (ns.map D.int)
  | [] => .nil
  | n :: ns => .cons (.int n) (Rps.ints ns)
theorem Rps.strs : ∀ ss : List (List Char), Rps K om io H (ss.map fun s => V.str (S s)) (ss.map D.str)
  | [] => .nil
  | n :: ns => .cons (.str n) (Rps.strs ns)
end

/-- more of the heap is known, the cells may have changed, there may be more of them -/
structure Ext (io : List Addr) (H : Hp) (io' : List Addr) (H' : Hp) : Prop where
  pre : ∃ more, io' = io ++ more ∧ ∀ a ∈ more, H a = none
  old : ∀ a o, H a = some o → a ∉ io → H' a = some o
  there : ∀ a o, H a = some o → ∃ o', H' a = some o'
section
variable {K : PySem.W.Frag} {om : Om} {io io1 io' : List Addr} {H H1 H' : Hp}
theorem Ext.refl : Ext io H io H := ⟨⟨[], by simp, by simp⟩, fun _ _ e _ => e, fun _ o e => ⟨o, e⟩⟩
theorem Ext.same (s : Same H H') : Ext io H io H' := ⟨⟨[], by simp, by simp⟩, fun a o e _ => s a o e, fun a o e => ⟨o, s a o e⟩⟩
theorem Ext.mem (x : Ext io H io' H') {a : Addr} (h : a ∈ io) : a ∈ io' := by
  obtain ⟨⟨more, rfl, _⟩, _⟩ := x
  exact List.mem_append_left _ h
theorem Ext.not (x : Ext io H io' H') {a : Addr} {o : HO} (e : H a = some o) (h : a ∉ io) : a ∉ io' := by
  obtain ⟨⟨more, rfl, hm⟩, _⟩ := x
  intro q
  rcases List.mem_append.mp q with q | q
  · exact h q
  · rw [hm a q] at e
    cases e
theorem Ext.get (x : Ext io H io' H') {n : Nat} {a : Addr} (h : io[n]? = some a) : io'[n]? = some a := by
  obtain ⟨⟨more, rfl, _⟩, _⟩ := x
  obtain ⟨hn, _⟩ := List.getElem?_eq_some_iff.mp h
  rw [List.getElem?_append_left hn]
  exact h
theorem Ext.len (x : Ext io H io' H') : io.length ≤ io'.length := by
  obtain ⟨⟨more, rfl, _⟩, _⟩ := x
  simp
theorem Ext.trans (x : Ext io H io1 H1) (y : Ext io1 H1 io' H') : Ext io H io' H' := by
  refine ⟨?_, fun a o e h => y.old a o (x.old a o e h) (x.not e h), fun a o e => ?_⟩
  · obtain ⟨⟨m1, rfl, h1⟩, _, t1⟩ := x
    obtain ⟨⟨m2, rfl, h2⟩, _⟩ := y
    refine ⟨m1 ++ m2, by simp, fun a ha => ?_⟩
    rcases List.mem_append.mp ha with q | q
    · exact h1 a q
    · cases e : H a with
      | none => rfl
      | some o =>
        obtain ⟨o', z⟩ := t1 a o e
        rw [h2 a q] at z
        cases z
  · obtain ⟨o1, e1⟩ := x.there a o e
    exact y.there a o1 e1
theorem rd_ext (x : Ext io H io' H') {a : Addr} {u : HO} (r : Rd H a u) (h : a ∉ io) : Rd H' a u ∧ a ∉ io' := by
  rcases r with e | ⟨o, e⟩
  · exact ⟨.inl (x.old a _ e h), x.not e h⟩
  · exact ⟨.inr ⟨o, x.old a _ e h⟩, x.not e h⟩
mutual
theorem Rp.ext (x : Ext io H io' H') : ∀ {v : V} {d : D}, Rp K om io H v d → Rp K om io' H' v d
  | _, _, .non => .non
  | _, _, .bl b => .bl b
  | _, _, .int i => .int i
  | _, _, .str s => .str s
  | _, _, .tup e h1 h2 t => .tup (x.old _ _ e h2) h1 (x.not e h2) (Rps.ext x t)
  | _, _, .lst e h1 h2 t => .lst (x.old _ _ e h2) h1 (x.not e h2) (Rps.ext x t)
  | _, _, .scr r h g t => .scr (rd_ext x r h).1 (rd_ext x r h).2 g (Rps.ext x t)
  | _, _, .scrK r t => .scrK r (Rps.ext x t)
  | _, _, .dct e h1 h2 => .dct (x.old _ _ e h2) h1 (x.not e h2)
  | _, _, .rep d => .rep d
  | _, _, .ref h => .ref (x.get h)
theorem Rps.ext (x : Ext io H io' H') : ∀ {vs : List V} {ds : List D}, Rps K om io H vs ds → Rps K om io' H' vs ds
  | _, _, .nil => .nil
  | _, _, .cons r t => .cons (Rp.ext x r) (Rps.ext x t)
end
end

/-- keys of one kind with values -/
def KVRp {κ κ' : Type} (K : PySem.W.Frag) (om : Om) (io : List Addr) (H : Hp) (f : κ → κ') (ps : List (κ' × V)) (qs : List (κ × D)) : Prop :=
  ps.map (·.1) = qs.map (fun q => f q.1) ∧ Rps K om io H (ps.map (·.2)) (qs.map (·.2))
/-- the object at a is the cell -/
def CellRp (K : PySem.W.Frag) (om : Om) (io : List Addr) (H : Hp) (a : Addr) : Cell → Prop
  | .lst ds => ∃ vs, H a = some (.lst vs) ∧ Rps K om io H vs ds
  | .dK kvs => ∃ ps, H a = some (.dK ps) ∧ KVRp K om io H kOf ps kvs
  | .dT kvs => ∃ ps, H a = some (.dT ps) ∧ KVRp K om io H (List.map kOf) ps kvs
structure HpRp (K : PySem.W.Frag) (om : Om) (io : List Addr) (H : Hp) (h : Hh) : Prop where
  len : io.length = h.length
  nd : io.Nodup
  cell : ∀ (n : Nat) (a : Addr) (c : Cell), io[n]? = some a → h[n]? = some c → CellRp K om io H a c
  out : ∀ a ∈ io, a ∉ om
  om : ∀ a ∈ om, ∃ o, H a = some o
def SlRp (K : PySem.W.Frag) (om : Om) (io : List Addr) (H : Hp) (σ : L2.St) (m : Sl) : Prop :=
  σ.length = m.length ∧ ∀ (i : Nat) (d : D), m[i]? = some (some d) → ∃ v, σ[i]? = some (some v) ∧ Rp K om io H v d
section
variable {K : PySem.W.Frag} {om : Om} {io io1 io' : List Addr} {H H1 H' : Hp} {h : Hh}
theorem SlRp.ext {σ : L2.St} {m : Sl} (x : Ext io H io' H') (r : SlRp K om io H σ m) : SlRp K om io' H' σ m :=
  ⟨r.1, fun i d e => let ⟨v, h1, h2⟩ := r.2 i d e; ⟨v, h1, h2.ext x⟩⟩
theorem SlRp.set {σ : L2.St} {m : Sl} {v : V} {d : D} (i : Nat) (r : SlRp K om io H σ m) (q : Rp K om io H v d) : SlRp K om io H (σ.set i (some v)) (m.set i (some d)) := by
  refine ⟨by rw [List.length_set, List.length_set]; exact r.1, fun j e hj => ?_⟩
  by_cases hij : i = j
  · subst hij
    by_cases hi : i < m.length
    · rw [List.getElem?_set_self hi] at hj
      cases hj
      exact ⟨v, by rw [List.getElem?_set_self (by rw [r.1]; exact hi)], q⟩
    · rw [List.getElem?_eq_none (by rw [List.length_set]; omega)] at hj
      cases hj
  · rw [List.getElem?_set_ne hij] at hj
    obtain ⟨u, h1, h2⟩ := r.2 j e hj
    exact ⟨u, by rw [List.getElem?_set_ne hij]; exact h1, h2⟩
theorem CellRp.ext {a : Addr} {c : Cell} (x : Ext io H io' H') (e : H' a = H a) (r : CellRp K om io H a c) : CellRp K om io' H' a c := by
  cases c with
  | lst ds =>
    obtain ⟨vs, h1, h2⟩ := r
    exact ⟨vs, by rw [e]; exact h1, h2.ext x⟩
  | dK kvs =>
    obtain ⟨vs, h1, h2, h3⟩ := r
    exact ⟨vs, by rw [e]; exact h1, h2, h3.ext x⟩
  | dT kvs =>
    obtain ⟨vs, h1, h2, h3⟩ := r
    exact ⟨vs, by rw [e]; exact h1, h2, h3.ext x⟩
theorem CellRp.there {a : Addr} {c : Cell} (r : CellRp K om io H a c) : ∃ o, H a = some o := by
  cases c with
  | lst ds => obtain ⟨vs, h1, _⟩ := r; exact ⟨_, h1⟩
  | dK kvs => obtain ⟨vs, h1, _⟩ := r; exact ⟨_, h1⟩
  | dT kvs => obtain ⟨vs, h1, _⟩ := r; exact ⟨_, h1⟩
theorem HpRp.at (r : HpRp K om io H h) {a : Addr} (ha : a ∈ io) : ∃ (n : Nat) (c : Cell), io[n]? = some a ∧ h[n]? = some c ∧ CellRp K om io H a c := by
  obtain ⟨n, hn, e⟩ := List.mem_iff_getElem.mp ha
  have hn2 : n < h.length := by rw [← r.len]; exact hn
  have e1 : io[n]? = some a := by rw [List.getElem?_eq_getElem hn, e]
  have e2 : h[n]? = some h[n] := List.getElem?_eq_getElem hn2
  exact ⟨n, _, e1, e2, r.cell n a _ e1 e2⟩
theorem HpRp.there (r : HpRp K om io H h) {a : Addr} (ha : a ∈ io) : ∃ o, H a = some o := by
  obtain ⟨_, _, _, _, z⟩ := r.at ha
  exact z.there
theorem HpRp.same (s : Same H H') (r : HpRp K om io H h) : HpRp K om io H' h := by
  refine ⟨r.len, r.nd, fun n a c h1 h2 => ?_, r.out, fun a ha => ?_⟩
  · have z := r.cell n a c h1 h2
    obtain ⟨o, e⟩ := z.there
    exact z.ext (Ext.same s) (by rw [e, s a o e])
  · obtain ⟨o, e⟩ := r.om a ha
    exact ⟨o, s a o e⟩
theorem HpRp.fresh (r : HpRp K om io H h) {p : Addr} (hp : H p = none) : p ∉ om ∧ p ∉ io := by
  constructor
  · intro z
    obtain ⟨o, e⟩ := r.om p z
    rw [hp] at e
    cases e
  · intro z
    obtain ⟨o, e⟩ := r.there z
    rw [hp] at e
    cases e
theorem same_new {p : Addr} {o : HO} (hp : H p = none) : Same H (upd H p o) := fun b u e => by
  rw [upd_ne (fun z => by rw [z, hp] at e; cases e)]
  exact e
/-- a new cell -/
theorem HpRp.new (r : HpRp K om io H h) {p : Addr} {o : HO} {c : Cell} (hp : H p = none) (hc : CellRp K om (io ++ [p]) (upd H p o) p c) :
    Ext io H (io ++ [p]) (upd H p o) ∧ HpRp K om (io ++ [p]) (upd H p o) (h ++ [c]) := by
  have x : Ext io H (io ++ [p]) (upd H p o) := ⟨⟨[p], rfl, fun a ha => by rw [List.mem_singleton.mp ha]; exact hp⟩, fun a u e _ => same_new hp a u e, fun a u e => ⟨u, same_new hp a u e⟩⟩
  have fr := r.fresh hp
  refine ⟨x, ⟨by simp [r.len], ?_, fun n a d h1 h2 => ?_, fun a ha => ?_, fun a ha => ?_⟩⟩
  · rw [List.nodup_append]
    exact ⟨r.nd, by simp, fun a ha b hb => by rw [List.mem_singleton.mp hb]; exact fun z => fr.2 (z ▸ ha)⟩
  · by_cases hn : n < io.length
    · rw [List.getElem?_append_left hn] at h1
      rw [List.getElem?_append_left (by rw [← r.len]; exact hn)] at h2
      have z := r.cell n a d h1 h2
      obtain ⟨u, e⟩ := z.there
      exact z.ext x (by rw [e, same_new hp a u e])
    · have hn2 : n = io.length := by
        obtain ⟨hl, _⟩ := List.getElem?_eq_some_iff.mp h1
        simp at hl
        omega
      subst hn2
      rw [List.getElem?_append_right (by omega)] at h1
      rw [List.getElem?_append_right (by rw [← r.len]; omega)] at h2
      simp [r.len] at h1 h2
      subst h1 h2
      exact hc
  · rcases List.mem_append.mp ha with q | q
    · exact r.out a q
    · rw [List.mem_singleton.mp q]
      exact fr.1
  · obtain ⟨u, e⟩ := r.om a ha
    exact ⟨u, same_new hp a u e⟩
/-- a cell changes -/
theorem HpRp.put (r : HpRp K om io H h) {n : Nat} {a : Addr} {o : HO} {c : Cell} (hn : io[n]? = some a) (hc : CellRp K om io (upd H a o) a c) :
    Ext io H io (upd H a o) ∧ HpRp K om io (upd H a o) (h.set n c) := by
  have hm : a ∈ io := List.mem_of_getElem? hn
  have x : Ext io H io (upd H a o) := ⟨⟨[], by simp, by simp⟩, fun b u e hb => by
      rw [upd_ne (fun z => hb (by rw [z]; exact hm))]
      exact e, fun b u e => by
      by_cases z : b = a
      · rw [z, upd_same]
        exact ⟨_, rfl⟩
      · rw [upd_ne z]
        exact ⟨u, e⟩⟩
  obtain ⟨hnl, hna⟩ := List.getElem?_eq_some_iff.mp hn
  refine ⟨x, ⟨by simp [r.len], r.nd, fun i b d h1 h2 => ?_, r.out, fun b hb => ?_⟩⟩
  · by_cases z : n = i
    · subst z
      rw [hn] at h1
      cases h1
      rw [List.getElem?_set_self (by rw [← r.len]; exact hnl)] at h2
      cases h2
      exact hc
    · rw [List.getElem?_set_ne z] at h2
      have hba : b ≠ a := by
        intro e
        subst e
        obtain ⟨hil, hib⟩ := List.getElem?_eq_some_iff.mp h1
        exact z ((List.getElem_inj r.nd).mp (hna.trans hib.symm))
      exact (r.cell i b d h1 h2).ext x (upd_ne hba)
  · obtain ⟨u, e⟩ := r.om b hb
    exact x.there b u e
end
end Mini
end
section
set_option Elab.async false
set_option linter.all false
set_option autoImplicit false
set_option maxRecDepth 100000
/-! Sound2: the operators. -/
namespace Mini
open PySem PySem.Spec PyProof.Rows
open L2 (V Hp HO Key Rd SqL SqT Inv Cx RelV upd upd_same upd_ne Same WX VK TE XK OpR UnR CallR R2 EP PE)

/-- what is wanted behind an expression -/
def Post (K : PySem.W.Frag) (om : Om) (io : List Addr) (H : Hp) (h' : Hh) (d : D) (Q : VK) : Prop :=
  ∀ (io' : List Addr) (H' : Hp) (v : V), Ext io H io' H' → HpRp K om io' H' h' → Rp K om io' H' v d → Q v H'
section
variable {K : PySem.W.Frag} {om : Om} {io io' : List Addr} {H H' : Hp} {h h' : Hh} {d : D} {Q : VK} {v u : V} {x y : D}
theorem Post.here (q : Post K om io H h d Q) (r : HpRp K om io H h) (p : Rp K om io H v d) : Q v H := q io H v .refl r p
theorem Post.at (q : Post K om io H h d Q) (r : HpRp K om io H h) (s : Same H H') (p : Rp K om io H' v d) : Q v H' := q io H' v (.same s) (r.same s) p
theorem Post.ext (x : Ext io H io' H') (q : Post K om io H h d Q) : Post K om io' H' h d Q := fun i2 H2 w y r p => q i2 H2 w (x.trans y) r p
/-- a new tuple -/
theorem Post.tup {ds : List D} {vs : List V} (q : Post K om io H h (.tup ds) Q) (r : HpRp K om io H h) (rs : Rps K om io H vs ds) : ∀ p, H p = none → Q (.ref p) (upd H p (.tup vs)) := fun p hp =>
  q.at r (same_new hp) (.tup upd_same (r.fresh hp).1 (r.fresh hp).2 (rs.ext (.same (same_new hp))))
/-- a new list -/
theorem Post.lst {ds : List D} {vs : List V} (q : Post K om io H h (.lst ds) Q) (r : HpRp K om io H h) (rs : Rps K om io H vs ds) : ∀ p, H p = none → Q (.ref p) (upd H p (.lst vs)) := fun p hp =>
  q.at r (same_new hp) (.lst upd_same (r.fresh hp).1 (r.fresh hp).2 (rs.ext (.same (same_new hp))))

/-! ### what stands behind a value -/
theorem tup_at {ds : List D} (r : Rp K om io H v (.tup ds)) : ∃ a vs, v = .ref a ∧ H a = some (.tup vs) ∧ Rps K om io H vs ds := by
  cases r with
  | tup a b c t => exact ⟨_, _, rfl, a, t⟩
theorem tup_of {ds : List D} (r : Rp K om io H v (.tup ds)) : ∃ a vs, v = .ref a ∧ SqT K H a vs ∧ Rps K om io H vs ds := by
  obtain ⟨a, vs, h1, h2, h3⟩ := tup_at r
  exact ⟨a, vs, h1, .inl (.inl h2), h3⟩
theorem lst_at {ds : List D} (r : Rp K om io H v (.lst ds)) : ∃ a vs, v = .ref a ∧ H a = some (.lst vs) ∧ Rps K om io H vs ds := by
  cases r with
  | lst a b c t => exact ⟨_, _, rfl, a, t⟩
theorem ref_at {n : Nat} {ds : List D} (r : Rp K om io H v (.ref n)) (R : HpRp K om io H h) (e : h[n]? = some (.lst ds)) : ∃ a vs, v = .ref a ∧ io[n]? = some a ∧ H a = some (.lst vs) ∧ Rps K om io H vs ds := by
  cases r with
  | ref hn =>
    obtain ⟨vs, h1, h2⟩ := R.cell n _ _ hn e
    exact ⟨_, vs, rfl, hn, h1, h2⟩
theorem lst_of {ds : List D} (e : lstOf h x = some ds) (r : Rp K om io H v x) (R : HpRp K om io H h) : ∃ a vs, v = .ref a ∧ H a = some (.lst vs) ∧ Rps K om io H vs ds := by
  cases x with
  | lst xs =>
    have e1 : xs = ds := Option.some.inj e
    subst e1
    exact lst_at r
  | ref n =>
    have e1 : (match h[n]? with
      | some (.lst xs) => some xs
      | _ => none) = some ds := e
    split at e1
    · rename_i xs hx
      have e2 : xs = ds := Option.some.inj e1
      subst e2
      obtain ⟨a, vs, h1, _, h2, h3⟩ := ref_at r R hx
      exact ⟨a, vs, h1, h2, h3⟩
    · cases e1
  | _ => cases e
theorem rd_of {ds : List D} (e : rdOf h x = some ds) (r : Rp K om io H v x) (R : HpRp K om io H h) : ∃ a vs, v = .ref a ∧ SqL K H a vs ∧ Rps K om io H vs ds := by
  cases x with
  | scr xs =>
    have e1 : xs = ds := Option.some.inj e
    subst e1
    cases r with
    | scr a b _ t => exact ⟨_, _, rfl, .inl a, t⟩
    | scrK a t => exact ⟨_, _, rfl, sqL_none a, t⟩
  | lst xs =>
    obtain ⟨a, vs, h1, h2, h3⟩ := lst_of (h := h) (x := .lst xs) (ds := ds) e r R
    exact ⟨a, vs, h1, .inl (.inl h2), h3⟩
  | ref n =>
    obtain ⟨a, vs, h1, h2, h3⟩ := lst_of (h := h) (x := .ref n) (ds := ds) e r R
    exact ⟨a, vs, h1, .inl (.inl h2), h3⟩
  | _ => cases e
theorem seq_of {ds : List D} (e : seqOf h x = some ds) (r : Rp K om io H v x) (R : HpRp K om io H h) : ∃ a vs, v = .ref a ∧ (SqL K H a vs ∨ SqT K H a vs) ∧ Rps K om io H vs ds := by
  cases x with
  | tup xs =>
    have e1 : xs = ds := Option.some.inj e
    subst e1
    obtain ⟨a, vs, h1, h2, h3⟩ := tup_of r
    exact ⟨a, vs, h1, .inr h2, h3⟩
  | scr xs =>
    obtain ⟨a, vs, h1, h2, h3⟩ := rd_of (h := h) (x := .scr xs) (ds := ds) e r R
    exact ⟨a, vs, h1, .inl h2, h3⟩
  | lst xs =>
    obtain ⟨a, vs, h1, h2, h3⟩ := rd_of (h := h) (x := .lst xs) (ds := ds) e r R
    exact ⟨a, vs, h1, .inl h2, h3⟩
  | ref n =>
    obtain ⟨a, vs, h1, h2, h3⟩ := rd_of (h := h) (x := .ref n) (ds := ds) e r R
    exact ⟨a, vs, h1, .inl h2, h3⟩
  | _ => cases e
theorem int_at {i : Int} (r : Rp K om io H v (.int i)) : v = .int i := by cases r; rfl
theorem bl_at {b : Bool} (r : Rp K om io H v (.bl b)) : v = .bl b := by cases r; rfl
theorem str_at {s : List Char} (r : Rp K om io H v (.str s)) : v = .str (S s) := by cases r; rfl
theorem non_at (r : Rp K om io H v .non) : v = .non := by cases r; rfl
theorem rep_at {d : D} (r : Rp K om io H v (.rep d)) : v = .str (PyData.shown (toPy d)) := by cases r; rfl
end

/-! ### readings by the machine itself -/
def RB (X : Cx) (f : Value → Value → Sem Value) : R2 := fun x y H Q => ∀ (pins : List (Addr × Obj)) (s : Shared) (σ : L2.St) (v u : Value), Inv X pins σ H s → RelV x v → RelV y u →
  wpAny (model X.prog X.w) X.A (f v u) (EP X pins σ Q) X.xe s
theorem rb_op {X : Cx} {f : Value → Value → Sem Value} : OpR X f (RB X f) := fun pins s σ H x y v u Q I rx ry h => h pins s σ v u I rx ry
theorem rb_of {X : Cx} {f : Value → Value → Sem Value} {r : R2} (o : OpR X f r) {x y : V} {H : Hp} {Q : VK} (h : r x y H Q) : RB X f x y H Q := fun pins s σ v u I rx ry => o pins s σ H x y v u Q I rx ry h
def RU (X : Cx) (f : Value → Sem Value) : V → Hp → VK → Prop := fun x H Q => ∀ (pins : List (Addr × Obj)) (s : Shared) (σ : L2.St) (v : Value), Inv X pins σ H s → RelV x v →
  wpAny (model X.prog X.w) X.A (f v) (EP X pins σ Q) X.xe s
theorem ru_op {X : Cx} {f : Value → Sem Value} : UnR X f (RU X f) := fun pins s σ H x v Q I rx h => h pins s σ v I rx
theorem ru_of {X : Cx} {f : Value → Sem Value} {r : V → Hp → VK → Prop} (o : UnR X f r) {x : V} {H : Hp} {Q : VK} (h : r x H Q) : RU X f x H Q := fun pins s σ v I rx => o pins s σ H x v Q I rx h
def RC (X : Cx) (f : Value) : List V → Hp → VK → Prop := fun xs H Q => ∀ (pins : List (Addr × Obj)) (s : Shared) (σ : L2.St) (us : List Value), Inv X pins σ H s → L2.Vals xs us →
  wpAny (model X.prog X.w) X.A (call f us) (EP X pins σ Q) X.xe s
theorem rc_op {X : Cx} {f : Value} : CallR X f (RC X f) := fun pins s σ H xs us Q I rx h => h pins s σ us I rx
theorem rc_of {X : Cx} {f : Value} {r : List V → Hp → VK → Prop} (o : CallR X f r) {xs : List V} {H : Hp} {Q : VK} (h : r xs H Q) : RC X f xs H Q := fun pins s σ us I rx => o pins s σ H xs us Q I rx h

theorem S_append (a b : List Char) : S a ++ S b = S (a ++ b) := by
  show (⟨(S a).cps ++ (S b).cps⟩ : Str) = _
  simp [S]
theorem lim_line {n : Nat} (h : n ≤ lim) : n ≤ sizeLine := by
  rw [sizeLine_eq]
  have h2 : n ≤ 1000000 := h
  omega
theorem lim_lt {n : Nat} (h : n < lim) : n < sizeLine := by
  rw [sizeLine_eq]
  have h2 : n < 1000000 := h
  omega

section
variable {X : Cx}
theorem op_add_bi : OpR X (binaryOp .Add) (fun x y H Q => ∃ b j, x = .bl b ∧ y = .int j ∧ Q (.int ((if b = true then (1 : Int) else 0) + j)) H) := by
  intro pins s σ H x y v u Q I rx ry h
  obtain ⟨b, j, rfl, rfl, q⟩ := h
  obtain ⟨t, rfl⟩ := ry
  cases rx
  exact IntBool.add_bool_int ⟨.int _, H, I.tok _, ⟨_, rfl⟩, q⟩
theorem op_sub_bi : OpR X (binaryOp .Sub) (fun x y H Q => ∃ b j, x = .bl b ∧ y = .int j ∧ Q (.int ((if b = true then (1 : Int) else 0) - j)) H) := by
  intro pins s σ H x y v u Q I rx ry h
  obtain ⟨b, j, rfl, rfl, q⟩ := h
  obtain ⟨t, rfl⟩ := ry
  cases rx
  exact IntBool.sub_bool_int ⟨.int _, H, I.tok _, ⟨_, rfl⟩, q⟩
/-- a tuple times 1 is the tuple itself -/
theorem tuple_mul1 (l : Addr) (items : Array Value) (n : Nat) (dd : Option Addr) (sl : Array (Option Value)) (u : Tok) :
    Meets (Builtin.«tuple.__mul__» ⟨[.ref l, .int 1 u], []⟩) (fun _ R s => s.heap.get? l = some { cls := .type "tuple", dict := dd, data := .seq items n, slots := sl } ∧
      R (.ok (.ret (Value.ref l))) s) :=
  .of_wp fun prog w A R s h => by
    obtain ⟨hp, g, d, tk, os⟩ := s
    obtain ⟨hl, h⟩ := h
    have f1 := AutoSeq1.idx_int
    have c0 : (decide ((1 : Int) < -(2 ^ 63)) || decide ((1 : Int) ≥ 2 ^ 63)) = false := by decide
    have c1 : (items.isEmpty || (1 : Int) == 1) = true := by simp
    wp_walk using wpAny_loadPart' hl
    repeat (first
      | (refine wpAny_ite_false (decide_eq_false (by rw [c0]; exact Bool.false_ne_true)) ?_; wp_walk using wpAny_loadPart' hl)
      | (refine wpAny_ite_true (decide_eq_true c1) ?_; wp_walk using wpAny_loadPart' hl))
    exact ⟨_, rfl, h⟩
theorem op_repT1 : OpR X (binaryOp .Mult) (fun x y H Q => ∃ l xs, x = .ref l ∧ y = .int 1 ∧ SqT X.K H l xs ∧ Q (.ref l) H) := by
  intro pins s σ H x y v u Q I rx ry h
  obtain ⟨l, xs, rfl, rfl, hT, q⟩ := h
  cases rx
  obtain ⟨t, rfl⟩ := ry
  obtain ⟨its, r, ⟨⟨cls, dd, data, sl⟩, ho, hc, n, hd⟩, hs⟩ := I.tuple hT
  simp only at hc hd
  subst hc hd
  refine wpAny_binaryOp_repeat_ref (T := "tuple") (U := "int") (by decide) ⟨_, ho, rfl⟩ (fun s' => typeIs_int s' 1 t) L2.noFill_tuple_mul F.fills_int_mul F.slot_int_rmul L2.repeat_tuple F.slot_int_index.lookup
    (call_meets F.slot_int_rmul (typeIs_int s 1 t) F.entry_int_rmul (F.args_int_rmul_2 _ _) (L2.int_rmul_tuple 1 t l its.toArray n dd sl)
      ⟨ho, rfl, ⟨_, ho, rfl⟩, call_meets F.slot_tuple_mul ⟨_, ho, rfl⟩ F.entry_tuple_mul (F.args_tuple_mul_2 _ _) (tuple_mul1 l its.toArray n dd sl t) ⟨ho, ?_⟩⟩)
  exact ⟨.ref l, H, I, rfl, q⟩
end
section
variable {X : Cx} {om : Om} {io : List Addr} {H : Hp} {h : Hh} {d x y : D} {Q : VK} {v u : V}
theorem add_ok (e : binD h .add x y = some d) (rx : Rp X.K om io H v x) (ry : Rp X.K om io H u y) (R : HpRp X.K om io H h) (q : Post X.K om io H h d Q) : RB X (binaryOp .Add) v u H Q := by
  have gen : ∀ xs ys, lstOf h x = some xs → lstOf h y = some ys → (if xs.length + ys.length ≤ lim then some (D.lst (xs ++ ys)) else none) = some d → RB X (binaryOp .Add) v u H Q := by
    intro xs ys hx hy he
    split at he
    · rename_i hl
      have e2 : D.lst (xs ++ ys) = d := Option.some.inj he
      subst e2
      obtain ⟨a, vs, rfl, ha, ra⟩ := lst_of hx rx R
      obtain ⟨b, us, rfl, hb, rb⟩ := lst_of hy ry R
      exact rb_of L2.op_cat ⟨a, b, vs, us, rfl, rfl, ha, hb, by rw [ra.length, rb.length]; exact lim_line hl, q.lst R (ra.append rb)⟩
    · cases he
  have gen2 : (match lstOf h x, lstOf h y with
      | some xs, some ys => if xs.length + ys.length ≤ lim then some (D.lst (xs ++ ys)) else none
      | _, _ => none) = some d → RB X (binaryOp .Add) v u H Q := by
    intro he
    split at he
    · rename_i xs ys hx hy
      exact gen xs ys hx hy he
    · cases he
  cases x with
  | int i =>
    cases y with
    | int j =>
      have e2 : D.int (i + j) = d := Option.some.inj e
      subst e2
      cases int_at rx
      cases int_at ry
      exact rb_of L2.op_add ⟨i, j, rfl, rfl, q.here R (.int _)⟩
    | _ => exact gen2 e
  | bl b =>
    cases y with
    | int j =>
      have e2 : D.int ((if b = true then (1 : Int) else 0) + j) = d := Option.some.inj e
      subst e2
      cases bl_at rx
      cases int_at ry
      exact rb_of op_add_bi ⟨b, j, rfl, rfl, q.here R (.int _)⟩
    | _ => exact gen2 e
  | str s =>
    cases y with
    | str t =>
      have e1 : (if s.length + t.length ≤ lim then some (D.str (s ++ t)) else none) = some d := e
      split at e1
      · rename_i hl
        have e2 : D.str (s ++ t) = d := Option.some.inj e1
        subst e2
        cases str_at rx
        cases str_at ry
        refine rb_of L2.op_add_str ⟨S s, S t, rfl, rfl, by rw [S_length, S_length]; exact lim_line hl, ?_⟩
        rw [S_append]
        exact q.here R (.str _)
      · cases e1
    | _ => exact gen2 e
  | tup xs =>
    cases y with
    | tup ys =>
      have e1 : (if xs.length + ys.length ≤ lim then some (D.tup (xs ++ ys)) else none) = some d := e
      split at e1
      · rename_i hl
        have e2 : D.tup (xs ++ ys) = d := Option.some.inj e1
        subst e2
        obtain ⟨a, vs, rfl, ha, ra⟩ := tup_of rx
        obtain ⟨b, us, rfl, hb, rb⟩ := tup_of ry
        refine rb_of L2.op_catA ⟨a, b, vs, us, rfl, rfl, ha, hb, by rw [ra.length, rb.length]; exact lim_line hl, fun z => ?_, fun _ z => ?_, fun _ _ => q.tup R (ra.append rb)⟩
        · have z2 : xs = [] := List.eq_nil_of_length_eq_zero (by rw [← ra.length, z]; rfl)
          subst z2
          exact q.here R ry
        · have z2 : ys = [] := List.eq_nil_of_length_eq_zero (by rw [← rb.length, z]; rfl)
          subst z2
          rw [List.append_nil] at q
          exact q.here R rx
      · cases e1
    | _ => exact gen2 e
  | _ => exact gen2 e
theorem sub_ok (e : binD h .sub x y = some d) (rx : Rp X.K om io H v x) (ry : Rp X.K om io H u y) (R : HpRp X.K om io H h) (q : Post X.K om io H h d Q) : RB X (binaryOp .Sub) v u H Q := by
  cases x with
  | int i => cases y with
    | int j =>
      have e2 : D.int (i - j) = d := Option.some.inj e
      subst e2
      cases int_at rx
      cases int_at ry
      exact rb_of L2.op_sub ⟨i, j, rfl, rfl, q.here R (.int _)⟩
    | _ => cases e
  | bl b => cases y with
    | int j =>
      have e2 : D.int ((if b = true then (1 : Int) else 0) - j) = d := Option.some.inj e
      subst e2
      cases bl_at rx
      cases int_at ry
      exact rb_of op_sub_bi ⟨b, j, rfl, rfl, q.here R (.int _)⟩
    | _ => cases e
  | _ => cases e
theorem S_rep (s : List Char) : ∀ k : Nat, (⟨(List.replicate k (S s).cps).foldl (· ++ ·) #[]⟩ : Str) = S (repL k s) := by
  have go : ∀ (k : Nat) (acc : List Char), (List.replicate k (S s).cps).foldl (· ++ ·) (acc.map Char.toNat).toArray = ((acc ++ (List.replicate k s).flatten).map Char.toNat).toArray := by
    intro k
    induction k with
    | zero => intro acc; simp
    | succ k ih =>
      intro acc
      rw [List.replicate_succ, List.foldl_cons, List.replicate_succ, List.flatten_cons]
      have e : (acc.map Char.toNat).toArray ++ (S s).cps = ((acc ++ s).map Char.toNat).toArray := by simp [S]
      rw [e, ih (acc ++ s), List.append_assoc]
  intro k
  have := go k []
  simp only [List.map_nil, List.nil_append] at this
  rw [show (#[] : Array Nat) = ([] : List Nat).toArray from rfl, this]
  rfl
theorem op_mulS : OpR X (binaryOp .Mult) (fun x y H Q => ∃ (s : List Char) (k : Int), x = .str (S s) ∧ y = .int k ∧ s ≠ [] ∧ 2 ≤ k ∧ s.length ≤ 1000 ∧ k ≤ 1000 ∧ Q (.str (S (repL k.toNat s))) H) := by
  intro pins st σ H x y v u Q I rx ry h
  obtain ⟨s, k, rfl, rfl, hne, h2, h3, h4, q⟩ := h
  obtain ⟨t, rfl⟩ := rx
  obtain ⟨t2, rfl⟩ := ry
  have hlen : (S s).length = s.length := S_length s
  have hl : 1 ≤ s.length := by cases s with
    | nil => exact absurd rfl hne
    | cons _ _ => simp
  have c1 : (k == 1 || (S s).length == 0) = false := by
    rw [hlen, Bool.or_eq_false_iff]
    exact ⟨beq_eq_false_iff_ne.mpr (by omega), beq_eq_false_iff_ne.mpr (by omega)⟩
  refine PySem.P.mul_str (by rw [decide_eq_false (by omega), decide_eq_false (by omega)]; rfl) (fun _ _ => ?_) (fun _ _ => ?_) ?_
  · rw [hlen]
    have : (1000 : Int) ≤ (2 ^ 63 - 1) / k := by
      rw [Int.le_ediv_iff_mul_le (by omega)]
      omega
    omega
  · rw [hlen]
    have : s.length * k.toNat ≤ 1000 * 1000 := Nat.mul_le_mul h3 (by omega)
    unfold Builtin.Str.tooLong
    rw [sizeLine_eq]
    exact decide_eq_false (by omega)
  · rw [if_neg (by omega), if_neg (by rw [c1]; simp), S_rep]
    refine ⟨?_, .str _, H, I.tok _, ⟨_, rfl⟩, q⟩
    rw [S_length, sizeLine_eq, repL, PyProof.Rows.lm_len_rep_flat]
    have a1 : k.toNat * s.length ≤ 1000 * 1000 := Nat.mul_le_mul (by omega) h3
    omega
theorem mul_ok (e : binD h .mul x y = some d) (rx : Rp X.K om io H v x) (ry : Rp X.K om io H u y) (R : HpRp X.K om io H h) (q : Post X.K om io H h d Q) : RB X (binaryOp .Mult) v u H Q := by
  have gen : ∀ k : Int, y = .int k → (match lstOf h x with
      | some xs => if xs.length ≤ 1000 ∧ -1000 ≤ k ∧ k ≤ 1000 then some (D.lst (repL k.toNat xs)) else none
      | none => none) = some d → RB X (binaryOp .Mult) v u H Q := by
    intro k hk he
    subst hk
    split at he
    · rename_i xs hx
      split at he
      · rename_i hl
        have e2 : D.lst (repL k.toNat xs) = d := Option.some.inj he
        subst e2
        obtain ⟨a, vs, rfl, ha, ra⟩ := lst_of hx rx R
        cases int_at ry
        refine rb_of L2.op_rep ⟨a, k, vs, rfl, rfl, ha, by omega, by omega, ?_, q.lst R (Rps.repL ra k.toNat)⟩
        rw [ra.length, sizeLine_eq]
        have h1 : xs.length * k.toNat ≤ 1000 * 1000 := Nat.mul_le_mul hl.1 (by omega)
        omega
      · cases he
    · cases he
  cases x with
  | int i => cases y with
    | int j =>
      have e1 : (if CMul i j then some (D.int (i * j)) else none) = some d := e
      split at e1
      · rename_i hc
        have e2 : D.int (i * j) = d := Option.some.inj e1
        subst e2
        cases int_at rx
        cases int_at ry
        refine rb_of L2.op_mul ⟨i, j, rfl, rfl, ?_, q.here R (.int _)⟩
        simp only [CMul, Bool.or_eq_true, decide_eq_true_eq] at hc
        exact hc
      · cases e1
    | _ => cases e
  | tup xs => cases y with
    | int k =>
      have e1 : (if k = 1 then some (D.tup xs) else if xs ≠ [] ∧ 2 ≤ k ∧ xs.length ≤ 1000 ∧ k ≤ 1000 then some (D.tup (repL k.toNat xs)) else none) = some d := e
      split at e1
      · rename_i hk
        subst hk
        have e2 : D.tup xs = d := Option.some.inj e1
        subst e2
        obtain ⟨a, vs, rfl, ha, ra⟩ := tup_of rx
        cases int_at ry
        exact rb_of op_repT1 ⟨a, vs, rfl, rfl, ha, q.here R rx⟩
      split at e1
      · rename_i hc
        have e2 : D.tup (repL k.toNat xs) = d := Option.some.inj e1
        subst e2
        obtain ⟨a, vs, rfl, ha, ra⟩ := tup_of rx
        cases int_at ry
        refine rb_of L2.op_repT ⟨a, k, vs, rfl, rfl, ha, fun z => hc.1 ?_, hc.2.1, hc.2.2.2, by rw [ra.length]; exact hc.2.2.1, q.tup R (Rps.repL ra k.toNat)⟩
        exact List.eq_nil_of_length_eq_zero (by rw [← ra.length, z]; rfl)
      · cases e1
    | _ => cases e
  | lst xs => cases y with
    | int k => exact gen k rfl e
    | _ => cases e
  | ref n => cases y with
    | int k => exact gen k rfl e
    | _ => cases e
  | non => cases y <;> cases e
  | bl b => cases y <;> cases e
  | str s => cases y with
    | int k =>
      have e1 : (if s ≠ [] ∧ 2 ≤ k ∧ s.length ≤ 1000 ∧ k ≤ 1000 then some (D.str (repL k.toNat s)) else none) = some d := e
      split at e1
      · rename_i hc
        have e2 : D.str (repL k.toNat s) = d := Option.some.inj e1
        subst e2
        cases str_at rx
        cases int_at ry
        exact rb_of op_mulS ⟨s, k, rfl, rfl, hc.1, hc.2.1, hc.2.2.1, hc.2.2.2, q.here R (.str _)⟩
      · cases e1
    | _ => cases e
  | scr xs => cases y <;> cases e
  | dct xs => cases y <;> cases e
  | rep xs => cases y <;> cases e
theorem mod_ok (e : binD h .mod x y = some d) (rx : Rp X.K om io H v x) (ry : Rp X.K om io H u y) (R : HpRp X.K om io H h) (q : Post X.K om io H h d Q) : RB X (binaryOp .Mod) v u H Q := by
  cases x with
  | int i => cases y with
    | int j =>
      have e1 : (if 0 < j then some (D.int (i % j)) else none) = some d := e
      split at e1
      · rename_i hc
        have e2 := Option.some.inj e1
        subst e2
        cases int_at rx
        cases int_at ry
        exact rb_of L2.op_mod ⟨i, j, rfl, rfl, hc, q.here R (.int _)⟩
      · cases e1
    | _ => cases e
  | _ => cases e
theorem fdiv_ok (e : binD h .fdiv x y = some d) (rx : Rp X.K om io H v x) (ry : Rp X.K om io H u y) (R : HpRp X.K om io H h) (q : Post X.K om io H h d Q) : RB X (binaryOp .FloorDiv) v u H Q := by
  cases x with
  | int i => cases y with
    | int j =>
      have e1 : (if 0 < j ∧ j < 1073741824 then some (D.int (i / j)) else none) = some d := e
      split at e1
      · rename_i hc
        have e2 := Option.some.inj e1
        subst e2
        cases int_at rx
        cases int_at ry
        exact rb_of L2.op_fdiv ⟨i, j, rfl, rfl, hc, q.here R (.int _)⟩
      · cases e1
    | _ => cases e
  | _ => cases e
theorem pow_ok (e : binD h .pow x y = some d) (rx : Rp X.K om io H v x) (ry : Rp X.K om io H u y) (R : HpRp X.K om io H h) (q : Post X.K om io H h d Q) : RB X (binaryOp .Pow) v u H Q := by
  cases x with
  | int i => cases y with
    | int j =>
      have e1 : (if 0 ≤ j ∧ j ≤ 1000 ∧ i.natAbs < 2 ^ 64 then some (D.int (i ^ j.toNat)) else none) = some d := e
      split at e1
      · rename_i hc
        have e2 := Option.some.inj e1
        subst e2
        cases int_at rx
        cases int_at ry
        exact rb_of L2.op_pow ⟨i, j, rfl, rfl, ⟨hc.1, by omega, hc.2.2⟩, q.here R (.int _)⟩
      · cases e1
    | _ => cases e
  | _ => cases e
theorem shl_ok (e : binD h .shl x y = some d) (rx : Rp X.K om io H v x) (ry : Rp X.K om io H u y) (R : HpRp X.K om io H h) (q : Post X.K om io H h d Q) : RB X (binaryOp .LShift) v u H Q := by
  cases x with
  | int i => cases y with
    | int j =>
      have e1 : (if 0 ≤ j ∧ j ≤ 1000 ∧ i.natAbs < 2 ^ 64 then some (D.int (i * 2 ^ j.toNat)) else none) = some d := e
      split at e1
      · rename_i hc
        have e2 := Option.some.inj e1
        subst e2
        cases int_at rx
        cases int_at ry
        exact rb_of L2.op_shl ⟨i, j, rfl, rfl, ⟨hc.1, by omega, hc.2.2⟩, q.here R (.int _)⟩
      · cases e1
    | _ => cases e
  | _ => cases e
theorem shr_ok (e : binD h .shr x y = some d) (rx : Rp X.K om io H v x) (ry : Rp X.K om io H u y) (R : HpRp X.K om io H h) (q : Post X.K om io H h d Q) : RB X (binaryOp .RShift) v u H Q := by
  cases x with
  | int i => cases y with
    | int j =>
      have e1 : (if 0 ≤ j then some (D.int (i / 2 ^ j.toNat)) else none) = some d := e
      split at e1
      · rename_i hc
        have e2 := Option.some.inj e1
        subst e2
        cases int_at rx
        cases int_at ry
        exact rb_of L2.op_shr ⟨i, j, rfl, rfl, hc, q.here R (.int _)⟩
      · cases e1
    | _ => cases e
  | _ => cases e
end
end Mini
end
section
set_option Elab.async false
set_option linter.all false
set_option autoImplicit false
set_option maxRecDepth 100000
/-! Sound3: comparisons. -/
namespace Mini
open PySem PySem.Spec PyProof.Rows
open L2 (V Hp HO Key Rd SqL SqT Inv Cx RelV upd upd_same upd_ne Same WX VK TE XK OpR UnR CallR R2 EP PE Dp DpAll)

theorem S_valid (s : List Char) : PyData.strOk (S s) = true := by
  show (S s).cps.all (fun c => decide (c < 0x110000)) = true
  simp only [S, List.all_toArray, List.all_map, List.all_eq_true, Function.comp, decide_eq_true_eq]
  intro c _
  have h := c.valid
  have h2 : c.toNat = c.val.toNat := rfl
  simp only [UInt32.isValidChar, Nat.isValidChar] at h
  omega
mutual
theorem canLay_data : ∀ d : D, dataD d = true → (toPy d).canLay0 = true
  | .non, _ => by simp [toPy, PyData.canLay0]
  | .bl _, _ => by simp [toPy, PyData.canLay0]
  | .int _, _ => by simp [toPy, PyData.canLay0]
  | .str s, _ => by simp [toPy, PyData.canLay0, S_valid]
  | .tup xs, h => by
    simp only [toPy, PyData.canLay0]
    exact canLay_dataL xs (by simpa [dataD] using h)
  | .lst xs, h => by
    simp only [toPy, PyData.canLay0]
    exact canLay_dataL xs (by simpa [dataD] using h)
  | .ref _, h => by simp [dataD] at h
  | .scr _, h => by simp [dataD] at h
  | .dct _, h => by simp [dataD] at h
  | .rep _, h => by simp [dataD] at h
theorem canLay_dataL : ∀ ds : List D, dataL ds = true → PyData.canLayAll0 (toPyL ds) = true
  | [], _ => by simp [toPyL, PyData.canLayAll0]
  | x :: xs, h => by
    simp only [dataL, Bool.and_eq_true] at h
    simp only [toPyL, PyData.canLayAll0, Bool.and_eq_true]
    exact ⟨canLay_data x h.1, canLay_dataL xs h.2⟩
end
mutual
theorem dep_data : ∀ d : D, dataD d = true → (toPy d).depth = depD d
  | .non, _ => by simp [toPy, PyData.depth, depD]
  | .bl _, _ => by simp [toPy, PyData.depth, depD]
  | .int _, _ => by simp [toPy, PyData.depth, depD]
  | .str s, _ => by simp [toPy, PyData.depth, depD]
  | .tup xs, h => by
    simp only [toPy, PyData.depth, depD]
    rw [dep_dataL xs (by simpa [dataD] using h)]
  | .lst xs, h => by
    simp only [toPy, PyData.depth, depD]
    rw [dep_dataL xs (by simpa [dataD] using h)]
  | .ref _, h => by simp [dataD] at h
  | .scr _, h => by simp [dataD] at h
  | .dct _, h => by simp [dataD] at h
  | .rep _, h => by simp [dataD] at h
theorem dep_dataL : ∀ ds : List D, dataL ds = true → PyData.depthAll (toPyL ds) = depL ds
  | [], _ => by simp [toPyL, PyData.depthAll, depL]
  | x :: xs, h => by
    simp only [dataL, Bool.and_eq_true] at h
    simp only [toPyL, PyData.depthAll, depL]
    rw [dep_data x h.1, dep_dataL xs h.2]
end
theorem shaped_ok {d : D} (h : cmpOk d = true) : SeqAt.shaped (toPy d) = true := by
  simp only [cmpOk, Bool.and_eq_true, decide_eq_true_eq] at h
  show ((toPy d).canLay0 && decide ((toPy d).depth ≤ 64)) = true
  rw [canLay_data d h.1, dep_data d h.1, Bool.true_and]
  exact decide_eq_true (by omega)
theorem cmpOk_data {d : D} (h : cmpOk d = true) : dataD d = true := by
  simp only [cmpOk, Bool.and_eq_true] at h
  exact h.1
mutual
theorem eqv_py : ∀ x y : D, dataD x = true → dataD y = true → eqv x y = PyData.eqv (toPy x) (toPy y)
  | .non, y, _, hy => by cases y <;> simp [dataD] at hy <;> simp [eqv, toPy, PyData.eqv]
  | .bl _, y, _, hy => by cases y <;> simp [dataD] at hy <;> simp [eqv, toPy, PyData.eqv]
  | .int _, y, _, hy => by cases y <;> simp [dataD] at hy <;> simp [eqv, toPy, PyData.eqv]
  | .str s, y, _, hy => by
    cases y with
    | str t =>
      simp only [eqv, toPy, PyData.eqv]
      rw [Bool.eq_iff_iff, beq_iff_eq, beq_iff_eq]
      exact ⟨fun e => by rw [e], fun e => S_inj e⟩
    | _ => simp [dataD] at hy <;> simp [eqv, toPy, PyData.eqv]
  | .tup xs, y, hx, hy => by
    cases y with
    | tup ys =>
      simp only [eqv, toPy, PyData.eqv]
      exact eqvL_py xs ys (by simpa [dataD] using hx) (by simpa [dataD] using hy)
    | _ => simp [dataD] at hy <;> simp [eqv, toPy, PyData.eqv]
  | .lst xs, y, hx, hy => by
    cases y with
    | lst ys =>
      simp only [eqv, toPy, PyData.eqv]
      exact eqvL_py xs ys (by simpa [dataD] using hx) (by simpa [dataD] using hy)
    | _ => simp [dataD] at hy <;> simp [eqv, toPy, PyData.eqv]
  | .ref _, _, h, _ => by simp [dataD] at h
  | .scr _, _, h, _ => by simp [dataD] at h
  | .dct _, _, h, _ => by simp [dataD] at h
  | .rep _, _, h, _ => by simp [dataD] at h
theorem eqvL_py : ∀ xs ys : List D, dataL xs = true → dataL ys = true → eqvL xs ys = PyData.eqvAll (toPyL xs) (toPyL ys)
  | [], ys, _, _ => by cases ys <;> simp [eqvL, toPyL, PyData.eqvAll]
  | x :: xs, ys, hx, hy => by
    cases ys with
    | nil => simp [eqvL, toPyL, PyData.eqvAll]
    | cons y ys =>
      simp only [dataL, Bool.and_eq_true] at hx hy
      simp only [eqvL, toPyL, PyData.eqvAll]
      rw [eqv_py x y hx.1 hy.1, eqvL_py xs ys hx.2 hy.2]
end

section
variable {K : PySem.W.Frag} {om : Om} {io : List Addr} {H : Hp} {h : Hh}
mutual
theorem dp_data : ∀ {d : D} {v : V}, dataD d = true → Rp K om io H v d → Dp K H v (toPy d)
  | .non, _, _, .non => by simp only [toPy]; exact .non
  | .bl _, _, _, .bl b => by simp only [toPy]; exact .bl b
  | .int _, _, _, .int i => by simp only [toPy]; exact .int i
  | .str _, _, _, .str s => by simp only [toPy]; exact .str _
  | .tup ds, _, h, .tup r _ _ t => by
    simp only [toPy]
    exact .tup (.inl (.inl r)) (dp_dataL (by simpa [dataD] using h) t)
  | .lst ds, _, h, .lst r _ _ t => by
    simp only [toPy]
    exact .lst (.inl (.inl r)) (dp_dataL (by simpa [dataD] using h) t)
  | .ref _, _, h, _ => by simp [dataD] at h
  | .scr _, _, h, _ => by simp [dataD] at h
  | .dct _, _, h, _ => by simp [dataD] at h
  | .rep _, _, h, _ => by simp [dataD] at h
theorem dp_dataL : ∀ {ds : List D} {vs : List V}, dataL ds = true → Rps K om io H vs ds → DpAll K H vs (toPyL ds)
  | [], _, _, .nil => by simp only [toPyL]; exact .nil
  | d :: ds, _, h, .cons r t => by
    simp only [dataL, Bool.and_eq_true] at h
    simp only [toPyL]
    exact .cons (dp_data h.1 r) (dp_dataL h.2 t)
end
theorem optAll_dp {n : Nat} (f : D → Option D) (ih : ∀ x x' v, f x = some x' → dataD x' = true → Rp K om io H v x → Dp K H v (toPy x')) :
    ∀ (xs ys : List D) (vs : List V), optAll f xs = some ys → dataL ys = true → Rps K om io H vs xs → DpAll K H vs (toPyL ys)
  | [], ys, vs, e, _, r => by
    cases r
    have e1 : [] = ys := Option.some.inj e
    subst e1
    simp only [toPyL]
    exact .nil
  | x :: xs, ys, vs, e, hd, r => by
    cases r with
    | cons r t =>
      unfold optAll at e
      split at e
      · rename_i y hy
        split at e
        · rename_i zs hz
          have e2 := Option.some.inj e
          subst e2
          simp only [dataL, Bool.and_eq_true] at hd
          simp only [toPyL]
          exact .cons (ih x y _ hy hd.1 r) (optAll_dp (n := n) f ih xs zs _ hz hd.2 t)
        · cases e
      · cases e
theorem map_some {α β : Type} {o : Option α} {f : α → β} {b : β} (e : o.map f = some b) : ∃ a, o = some a ∧ f a = b := by
  cases o with
  | none => cases e
  | some a => exact ⟨a, rfl, Option.some.inj e⟩
theorem view_dp (R : HpRp K om io H h) : ∀ (n : Nat) (x x' : D) (v : V), view h n x = some x' → dataD x' = true → Rp K om io H v x → Dp K H v (toPy x')
  | 0, x, x', v, e, hd, r => by
    have e1 : (if pureD x then some x else none) = some x' := e
    split at e1
    · have e2 := Option.some.inj e1
      subst e2
      exact dp_data hd r
    · cases e1
  | n + 1, x, x', v, e, hd, r => by
    unfold view at e
    split at e
    · have e2 := Option.some.inj e
      subst e2
      exact dp_data hd r
    · have ih := view_dp R n
      split at e
      · obtain ⟨ys, h1, h2⟩ := map_some e
        subst h2
        obtain ⟨a, vs, rfl, ha, ra⟩ := tup_of r
        simp only [toPy]
        exact .tup ha (optAll_dp (n := n) _ (fun x x' v => ih x x' v) _ _ _ h1 (by simpa [dataD] using hd) ra)
      · obtain ⟨ys, h1, h2⟩ := map_some e
        subst h2
        obtain ⟨a, vs, rfl, ha, ra⟩ := lst_at r
        simp only [toPy]
        exact .lst (.inl (.inl ha)) (optAll_dp (n := n) _ (fun x x' v => ih x x' v) _ _ _ h1 (by simpa [dataD] using hd) ra)
      · obtain ⟨ys, h1, h2⟩ := map_some e
        subst h2
        cases r with
        | scrK a ra =>
          simp only [toPy]
          exact .lst (sqL_none a) (optAll_dp (n := n) _ (fun x x' v => ih x x' v) _ _ _ h1 (by simpa [dataD] using hd) ra)
        | scr a b _ ra =>
          simp only [toPy]
          exact .lst (.inl a) (optAll_dp (n := n) _ (fun x x' v => ih x x' v) _ _ _ h1 (by simpa [dataD] using hd) ra)
      · split at e
        · rename_i xs hx
          obtain ⟨ys, h1, h2⟩ := map_some e
          subst h2
          obtain ⟨a, vs, rfl, _, ha, ra⟩ := ref_at r R hx
          simp only [toPy]
          exact .lst (.inl (.inl ha)) (optAll_dp (n := n) _ (fun x x' v => ih x x' v) _ _ _ h1 (by simpa [dataD] using hd) ra)
        · cases e
      · cases e
end

section
variable {X : Cx} {om : Om} {io : List Addr} {H : Hp} {h : Hh} {x y : D} {Q : VK} {v u : V} {b : Bool}
/-- x in a tuple of data -/
def rInT (K : PySem.W.Frag) (neg : Bool) : R2 := fun x y H Q => ∃ d ds, Dp K H x d ∧ Dp K H y (.tuple ds) ∧ SeqAt.shaped d = true ∧ SeqAt.shaped (.tuple ds) = true ∧ Q (.bl (if neg then !ds.any fun z => PyData.eqv z d else ds.any fun z => PyData.eqv z d)) H
theorem op_inT (hu : X.A.units + 65 < cLine) : OpR X (compareOp .In) (rInT X.K false) := by
  intro pins s σ H x y v u Q I rx ry h
  obtain ⟨d, ds, hd, he, sd, se, q⟩ := h
  obtain ⟨as, r1⟩ := Dp.reads I d x v hd rx
  obtain ⟨bs, r2⟩ := Dp.reads I (.tuple ds) y u he ry
  have hd2 := SeqAt.depth_of_shaped sd
  have hm : min (PyData.depthAll ds) d.depth ≤ d.depth := Nat.min_le_right _ _
  exact SeqAt.in_tuple_reads r2 r1 (by simpa [PyData.canLay0] using SeqAt.canLay_of_shaped se) (SeqAt.canLay_of_shaped sd) (by omega) ⟨.bl _, H, I, rfl, q⟩
theorem op_notInT (hu : X.A.units + 65 < cLine) : OpR X (compareOp .NotIn) (rInT X.K true) := by
  intro pins s σ H x y v u Q I rx ry h
  obtain ⟨d, ds, hd, he, sd, se, q⟩ := h
  obtain ⟨as, r1⟩ := Dp.reads I d x v hd rx
  obtain ⟨bs, r2⟩ := Dp.reads I (.tuple ds) y u he ry
  have hd2 := SeqAt.depth_of_shaped sd
  have hm : min (PyData.depthAll ds) d.depth ≤ d.depth := Nat.min_le_right _ _
  exact SeqAt.notIn_tuple_reads r2 r1 (by simpa [PyData.canLay0] using SeqAt.canLay_of_shaped se) (SeqAt.canLay_of_shaped sd) (by omega) ⟨.bl _, H, I, rfl, q⟩

theorem eqE_ok (hu : X.A.units + 65 < cLine) (e : eqE x y = some b) (rx : Rp X.K om io H v x) (ry : Rp X.K om io H u y) :
    (Q (.bl b) H → RB X (compareOp .Eq) v u H Q) ∧ (Q (.bl (!b)) H → RB X (compareOp .NotEq) v u H Q) := by
  unfold eqE at e
  split at e
  · rename_i xs
    cases e
    obtain ⟨a1, vs, rfl, ha, ra⟩ := tup_at rx
    obtain ⟨a2, us, rfl, hb, rb⟩ := tup_at ry
    cases rb
    have key : ∀ (pins : List (Addr × Obj)) (s : Shared) (σ : L2.St), Inv X pins σ H s → ∃ its its2 : Array Value, s.heap.IsTuple a1 its ∧ s.heap.IsTuple a2 its2 ∧ its2.size = 0 ∧ its.size = xs.length := fun pins s σ I => by
      obtain ⟨i1, r1, ⟨o1, ho1, hc1, n1, hd1⟩, _⟩ := I.tuple (.inl (.inl ha))
      obtain ⟨i2, r2, ⟨o2, ho2, hc2, n2, hd2⟩, _⟩ := I.tuple (.inl (.inl hb))
      cases r2
      exact ⟨_, _, ⟨o1, ho1, hc1, n1, hd1⟩, ⟨o2, ho2, hc2, n2, hd2⟩, rfl, by rw [List.size_toArray, ← r1.length, ra.length]⟩
    have fin : ∀ (n m : Nat), m = 0 → ((List.range (min n m)).all (fun _ => true) && n == m) = decide (n = 0) := fun n m hm => by subst hm; simp [Bool.beq_eq_decide_eq]
    refine ⟨fun q pins s σ w1 w2 I r1 r2 => ?_, fun q pins s σ w1 w2 I r1 r2 => ?_⟩
    · cases r1
      cases r2
      obtain ⟨i1, i2, t1, t2, z1, z2⟩ := key pins s σ I
      refine SeqAt.eq_tupleAt (e := fun _ => true) t1 t2 (by omega) (fun j _ h2 => by omega) ⟨.bl _, H, I, rfl, ?_⟩
      rw [fin _ _ z1, z2]
      have : decide (xs.length = 0) = xs.isEmpty := by cases xs <;> simp
      rw [this]
      exact q
    · cases r1
      cases r2
      obtain ⟨i1, i2, t1, t2, z1, z2⟩ := key pins s σ I
      refine SeqAt.RcNeAt.tuples (e := fun _ => true) t1 t2 (by omega) (fun j _ h2 => by omega) _ _ _ _ ⟨.bl _, H, I, rfl, ?_⟩
      rw [fin _ _ z1, z2]
      have : decide (xs.length = 0) = xs.isEmpty := by cases xs <;> simp
      rw [this]
      exact q
  · rename_i xs
    cases e
    obtain ⟨a1, vs, rfl, ha, ra⟩ := lst_at rx
    obtain ⟨a2, us, rfl, hb, rb⟩ := lst_at ry
    cases rb
    have key : ∀ (pins : List (Addr × Obj)) (s : Shared) (σ : L2.St), Inv X pins σ H s → ∃ its its2 : Array Value, s.heap.IsList a1 its ∧ s.heap.IsList a2 its2 ∧ its2.size = 0 ∧ its.size = xs.length := fun pins s σ I => by
      obtain ⟨i1, r1, ⟨o1, n1, ho1, hc1, _, hd1⟩, _⟩ := I.list (.inl (.inl ha))
      obtain ⟨i2, r2, ⟨o2, n2, ho2, hc2, _, hd2⟩, _⟩ := I.list (.inl (.inl hb))
      cases r2
      exact ⟨_, _, ⟨o1, ho1, hc1, n1, hd1⟩, ⟨o2, ho2, hc2, n2, hd2⟩, rfl, by rw [List.size_toArray, ← r1.length, ra.length]⟩
    refine ⟨fun q pins s σ w1 w2 I r1 r2 => ?_, fun q pins s σ w1 w2 I r1 r2 => ?_⟩
    · cases r1
      cases r2
      obtain ⟨i1, i2, t1, t2, z1, z2⟩ := key pins s σ I
      cases xs with
      | nil =>
        have z3 : i1.size = 0 := z2
        refine SeqAt.RcAt.lists (e := fun _ => true) t1 t2 (by omega) (by omega) (fun j _ h2 => by omega) _ _ _ _ ⟨.bl _, H, I, rfl, ?_⟩
        rw [z3]
        exact q
      | cons x xs =>
        have z3 : i1.size = xs.length + 1 := z2
        exact SeqAt.RcAt.lists_lengths t1 t2 (by rw [z1, z3]; simp) (by omega) _ _ _ _ ⟨.bl _, H, I, rfl, q⟩
    · cases r1
      cases r2
      obtain ⟨i1, i2, t1, t2, z1, z2⟩ := key pins s σ I
      cases xs with
      | nil =>
        have z3 : i1.size = 0 := z2
        refine SeqAt.RcNeAt.lists (e := fun _ => true) t1 t2 (by omega) (by omega) (fun j _ h2 => by omega) _ _ _ _ ⟨.bl _, H, I, rfl, ?_⟩
        rw [z3]
        exact q
      | cons x xs =>
        have z3 : i1.size = xs.length + 1 := z2
        exact SeqAt.RcNeAt.lists_lengths t1 t2 (by rw [z1, z3]; simp) (by omega) _ _ _ _ ⟨.bl _, H, I, rfl, q⟩
  · cases e
theorem eq_ok (hu : X.A.units + 65 < cLine) (e : eqD h x y = some b) (rx : Rp X.K om io H v x) (ry : Rp X.K om io H u y) (R : HpRp X.K om io H h) :
    (Q (.bl b) H → RB X (compareOp .Eq) v u H Q) ∧ (Q (.bl (!b)) H → RB X (compareOp .NotEq) v u H Q) := by
  have gen : (match view h 8 x, view h 8 y with
    | some x', some y' => if cmpOk x' && cmpOk y' then some (eqv x' y') else eqE x y
    | _, _ => eqE x y) = some b → (Q (.bl b) H → RB X (compareOp .Eq) v u H Q) ∧ (Q (.bl (!b)) H → RB X (compareOp .NotEq) v u H Q) := by
    intro e
    split at e
    · rename_i x' y' hx hy
      split at e
      · rename_i hc
        have e2 := Option.some.inj e
        simp only [Bool.and_eq_true] at hc
        have dx := view_dp R 8 x x' v hx (cmpOk_data hc.1) rx
        have dy := view_dp R 8 y y' u hy (cmpOk_data hc.2) ry
        rw [eqv_py x' y' (cmpOk_data hc.1) (cmpOk_data hc.2)] at e2
        subst e2
        exact ⟨fun q => rb_of (L2.op_eqD (by omega)) ⟨_, _, dx, dy, shaped_ok hc.1, shaped_ok hc.2, q⟩, fun q => rb_of (L2.op_neD (by omega)) ⟨_, _, dx, dy, shaped_ok hc.1, shaped_ok hc.2, q⟩⟩
      · exact eqE_ok hu e rx ry
    · exact eqE_ok hu e rx ry
  cases x with
  | int i =>
    cases y with
    | int j =>
      have e2 : decide (i = j) = b := Option.some.inj e
      subst e2
      cases int_at rx
      cases int_at ry
      have z : decide (V.int i = V.int j) = decide (i = j) := by simp
      exact ⟨fun q => rb_of L2.op_eq ⟨rfl, by rw [z]; exact q⟩, fun q => rb_of L2.op_ne ⟨rfl, by rw [z]; exact q⟩⟩
    | _ => exact gen e
  | str s =>
    cases y with
    | str t =>
      have e2 : decide (s = t) = b := Option.some.inj e
      subst e2
      cases str_at rx
      cases str_at ry
      have z : decide (V.str (S s) = V.str (S t)) = decide (s = t) := by
        by_cases q : s = t
        · rw [q]; simp
        · rw [decide_eq_false q, decide_eq_false]
          intro z
          exact q (S_inj (V.str.inj z))
      exact ⟨fun q => rb_of L2.op_eq ⟨rfl, by rw [z]; exact q⟩, fun q => rb_of L2.op_ne ⟨rfl, by rw [z]; exact q⟩⟩
    | _ => exact gen e
  | bl s =>
    cases y with
    | bl t =>
      have e2 : decide (s = t) = b := Option.some.inj e
      subst e2
      cases bl_at rx
      cases bl_at ry
      have z : decide (V.bl s = V.bl t) = decide (s = t) := by simp
      exact ⟨fun q => rb_of L2.op_eq ⟨rfl, by rw [z]; exact q⟩, fun q => rb_of L2.op_ne ⟨rfl, by rw [z]; exact q⟩⟩
    | _ => exact gen e
  | rep s =>
    cases y with
    | rep t =>
      have e2 : decide (PyData.shown (toPy s) = PyData.shown (toPy t)) = b := Option.some.inj e
      subst e2
      cases rep_at rx
      cases rep_at ry
      have z : decide (V.str (PyData.shown (toPy s)) = V.str (PyData.shown (toPy t))) = decide (PyData.shown (toPy s) = PyData.shown (toPy t)) := by simp
      exact ⟨fun q => rb_of L2.op_eq ⟨rfl, by rw [z]; exact q⟩, fun q => rb_of L2.op_ne ⟨rfl, by rw [z]; exact q⟩⟩
    | _ => exact gen e
  | _ => exact gen e
theorem non_iff (r : Rp X.K om io H v x) : decide (v = V.non) = isNon x := by
  cases r <;> simp [isNon]

/-- what the machine knows of a dict at a key -/
theorem key1_of {x : D} {k : K1} (e : key1 x = some k) (r : Rp X.K om io H v x) : v = L2.kV (kOf k) := by
  cases x with
  | int i =>
    have e1 : Sum.inl i = k := Option.some.inj e
    subst e1
    exact int_at r
  | str s =>
    have e1 : Sum.inr s = k := Option.some.inj e
    subst e1
    exact str_at r
  | _ => cases e
theorem keyT_of {x : D} {k : List K1} (e : keyT x = some k) (r : Rp X.K om io H v x) : ∃ a, v = .ref a ∧ H a = some (.tup ((k.map kOf).map L2.kV)) := by
  cases x with
  | tup xs =>
    obtain ⟨a, vs, h1, h2, h3⟩ := tup_at r
    have go : ∀ (xs : List D) (k : List K1) (vs : List V), optAll key1 xs = some k → Rps X.K om io H vs xs → vs = (k.map kOf).map L2.kV := by
      intro xs
      induction xs with
      | nil =>
        intro k vs e r
        cases r
        have e1 : [] = k := Option.some.inj e
        subst e1
        rfl
      | cons x xs ih =>
        intro k vs e r
        cases r with
        | cons r t =>
          unfold optAll at e
          split at e
          · rename_i y hy
            split at e
            · rename_i ys hys
              have e1 := Option.some.inj e
              subst e1
              rw [List.map_cons, List.map_cons, key1_of hy r, ih ys _ hys t]
            · cases e
          · cases e
    rw [go xs k vs e h3] at h2
    exact ⟨a, h1, h2⟩
  | _ => cases e
theorem kv_look {κ κ' : Type} [DecidableEq κ] [DecidableEq κ'] {f : κ → κ'} (hf : ∀ a b, f a = f b → a = b) (k : κ) :
    ∀ {ps : List (κ' × V)} {qs : List (κ × D)}, KVRp X.K om io H f ps qs → (∀ d, findK k qs = some d → ∃ v, L2.valV ps (f k) = some v ∧ Rp X.K om io H v d) ∧ (findK k qs = none → L2.valV ps (f k) = none)
  | [], [], _ => ⟨fun d e => (by cases e), fun _ => rfl⟩
  | [], _ :: _, r => by
    have e := r.1
    simp at e
  | _ :: _, [], r => by
    have e := r.1
    simp at e
  | (p, v) :: ps, (q, d) :: qs, r => by
    obtain ⟨h1, h2⟩ := r
    simp only [List.map_cons, List.cons.injEq] at h1
    simp only [List.map_cons] at h2
    cases h2 with
    | cons r t =>
      have ih := kv_look hf k (ps := ps) (qs := qs) ⟨h1.2, t⟩
      by_cases e : q = k
      · subst e
        refine ⟨fun d' e' => ?_, fun e' => ?_⟩
        · unfold findK at e'
          rw [if_pos rfl] at e'
          cases e'
          exact ⟨v, by rw [L2.valV_pos h1.1], r⟩
        · unfold findK at e'
          rw [if_pos rfl] at e'
          cases e'
      · have ne : ¬ p = f k := fun z => e (hf _ _ (h1.1.symm.trans z))
        refine ⟨fun d' e' => ?_, fun e' => ?_⟩
        · unfold findK at e'
          rw [if_neg e] at e'
          rw [L2.valV_neg ne]
          exact ih.1 d' e'
        · unfold findK at e'
          rw [if_neg e] at e'
          rw [L2.valV_neg ne]
          exact ih.2 e'
theorem map_kOf_inj : ∀ a b : List K1, a.map kOf = b.map kOf → a = b := fun a b h => List.map_inj_right (fun x y e => kOf_inj e) |>.mp h
/-- what a dict's cell gives at a key -/
theorem dget_of {n : Nat} {o : Option D} (r : Rp X.K om io H u (.ref n)) (rx : Rp X.K om io H v x) (R : HpRp X.K om io H h)
    (e : (∃ kvs k, h[n]? = some (.dK kvs) ∧ key1 x = some k ∧ o = findK k kvs) ∨ (∃ kvs k, h[n]? = some (.dT kvs) ∧ keyT x = some k ∧ o = findK k kvs)) :
    ∃ a q, u = .ref a ∧ L2.DGet H a v q ∧ q.isSome = o.isSome ∧ ∀ d, o = some d → ∃ w, q = some w ∧ Rp X.K om io H w d := by
  cases r with
  | ref hn =>
    rcases e with ⟨kvs, k, e1, e2, rfl⟩ | ⟨kvs, k, e1, e2, rfl⟩
    · obtain ⟨ps, h1, h2⟩ := R.cell n _ _ hn e1
      have z := key1_of e2 rx
      subst z
      have lk := kv_look (X := X) (fun a b => kOf_inj) k h2
      refine ⟨_, _, rfl, L2.DGet.k h1, ?_, fun d hd => ?_⟩
      · cases q : findK k kvs with
        | none => rw [lk.2 q]; rfl
        | some d => obtain ⟨w, hw, _⟩ := lk.1 d q; rw [hw]; rfl
      · exact lk.1 d hd
    · obtain ⟨ps, h1, h2⟩ := R.cell n _ _ hn e1
      obtain ⟨b, rfl, hb⟩ := keyT_of e2 rx
      have lk := kv_look (X := X) map_kOf_inj k h2
      refine ⟨_, _, rfl, L2.DGet.t h1 hb, ?_, fun d hd => ?_⟩
      · cases q : findK k kvs with
        | none => rw [lk.2 q]; rfl
        | some d => obtain ⟨w, hw, _⟩ := lk.1 d q; rw [hw]; rfl
      · exact lk.1 d hd
def rDIn (neg : Bool) : R2 := fun x y H Q => ∃ a o, y = .ref a ∧ L2.DGet H a x o ∧ Q (.bl (if neg then !o.isSome else o.isSome)) H
theorem op_dIn (hu : X.A.units + 65 < cLine) : OpR X (compareOp .In) (rDIn false) := by
  intro pins s σ H x y v u Q I rx ry h
  obtain ⟨a, o, rfl, g, q⟩ := h
  cases ry
  exact L2.d_in (by omega) I g rx fun s' I' => ⟨.bl _, H, I', rfl, q⟩
theorem op_dNotIn (hu : X.A.units + 65 < cLine) : OpR X (compareOp .NotIn) (rDIn true) := by
  intro pins s σ H x y v u Q I rx ry h
  obtain ⟨a, o, rfl, g, q⟩ := h
  cases ry
  exact L2.d_notIn (by omega) I g rx fun s' I' => ⟨.bl _, H, I', rfl, q⟩

theorem any_py (d : D) (hd : dataD d = true) : ∀ ys : List D, dataL ys = true → (ys.any fun y => eqv y d) = ((toPyL ys).any fun z => PyData.eqv z (toPy d))
  | [], _ => rfl
  | y :: ys, h => by
    simp only [dataL, Bool.and_eq_true] at h
    simp only [toPyL, List.any_cons]
    rw [eqv_py y d h.1 hd, any_py d hd ys h.2]
theorem inSeq_ok (hu : X.A.units + 65 < cLine) (e : inSeq h x y = some b) (rx : Rp X.K om io H v x) (ry : Rp X.K om io H u y) (R : HpRp X.K om io H h) :
    (Q (.bl b) H → RB X (compareOp .In) v u H Q) ∧ (Q (.bl (!b)) H → RB X (compareOp .NotIn) v u H Q) := by
  unfold inSeq at e
  split at e
  · rename_i x' ys hx hy
    split at e
    · rename_i hc
      simp only [Bool.and_eq_true] at hc
      have e2 := Option.some.inj e
      have dx := view_dp R 8 x x' v hx (cmpOk_data hc.1) rx
      have dy := view_dp R 8 y _ u hy (cmpOk_data hc.2) ry
      have dys : dataL ys = true := by simpa [dataD] using cmpOk_data hc.2
      rw [any_py x' (cmpOk_data hc.1) ys dys] at e2
      subst e2
      simp only [toPy] at dy
      have sy := shaped_ok hc.2
      simp only [toPy] at sy
      exact ⟨fun q => rb_of (op_inT hu) ⟨_, _, dx, dy, shaped_ok hc.1, sy, q⟩, fun q => rb_of (op_notInT hu) ⟨_, _, dx, dy, shaped_ok hc.1, sy, q⟩⟩
    · cases e
  · rename_i x' ys hx hy
    split at e
    · rename_i hc
      simp only [Bool.and_eq_true] at hc
      have e2 := Option.some.inj e
      have dx := view_dp R 8 x x' v hx (cmpOk_data hc.1) rx
      have dy := view_dp R 8 y _ u hy (cmpOk_data hc.2) ry
      have dys : dataL ys = true := by simpa [dataD] using cmpOk_data hc.2
      rw [any_py x' (cmpOk_data hc.1) ys dys] at e2
      subst e2
      simp only [toPy] at dy
      have sy := shaped_ok hc.2
      simp only [toPy] at sy
      exact ⟨fun q => rb_of (L2.op_inD hu) ⟨_, _, dx, dy, shaped_ok hc.1, sy, q⟩, fun q => rb_of (L2.op_notInD hu) ⟨_, _, dx, dy, shaped_ok hc.1, sy, q⟩⟩
    · cases e
  · cases e
theorem in_ok (hu : X.A.units + 65 < cLine) (e : inD h x y = some b) (rx : Rp X.K om io H v x) (ry : Rp X.K om io H u y) (R : HpRp X.K om io H h) :
    (Q (.bl b) H → RB X (compareOp .In) v u H Q) ∧ (Q (.bl (!b)) H → RB X (compareOp .NotIn) v u H Q) := by
  unfold inD at e
  split at e
  · rename_i t
    split at e
    · rename_i c
      have e2 := Option.some.inj e
      subst e2
      cases str_at rx
      cases str_at ry
      have z : decide (c.toNat ∈ (S t).cps.toList) = decide (c ∈ t) := by
        rw [Bool.eq_iff_iff, decide_eq_true_eq, decide_eq_true_eq]
        simp only [S, List.mem_map]
        constructor
        · rintro ⟨d, hd, e⟩
          rw [← Char.toNat_inj.mp e]
          exact hd
        · intro hc
          exact ⟨c, hc, rfl⟩
      exact ⟨fun q => rb_of L2.op_in_sign ⟨c.toNat, S t, rfl, rfl, by rw [z]; exact q⟩, fun q => rb_of L2.op_notIn_sign ⟨c.toNat, S t, rfl, rfl, by rw [z]; exact q⟩⟩
    · cases e
  · rename_i n
    split at e
    · rename_i kvs hn
      split at e
      · rename_i k hk
        have e2 := Option.some.inj e
        obtain ⟨a, q, rfl, g, hs, _⟩ := dget_of ry rx R (.inl ⟨kvs, k, hn, hk, rfl⟩)
        rw [← e2, ← hs]
        exact ⟨fun z => rb_of (op_dIn hu) ⟨a, q, rfl, g, z⟩, fun z => rb_of (op_dNotIn hu) ⟨a, q, rfl, g, z⟩⟩
      · cases e
    · rename_i kvs hn
      split at e
      · rename_i k hk
        have e2 := Option.some.inj e
        obtain ⟨a, q, rfl, g, hs, _⟩ := dget_of ry rx R (.inr ⟨kvs, k, hn, hk, rfl⟩)
        rw [← e2, ← hs]
        exact ⟨fun z => rb_of (op_dIn hu) ⟨a, q, rfl, g, z⟩, fun z => rb_of (op_dNotIn hu) ⟨a, q, rfl, g, z⟩⟩
      · cases e
    · exact inSeq_ok hu e rx ry R
  · exact inSeq_ok hu e rx ry R

theorem isBl_some {x y : D} {b : Bool} (e : isBl x y = some b) : ∃ p q, x = .bl p ∧ y = .bl q ∧ decide (p = q) = b := by
  match x, y, e with
  | .bl p, .bl q, e => exact ⟨p, q, rfl, rfl, Option.some.inj e⟩
def cmOf : Cm → CmpOp
  | .eq => .Eq
  | .ne => .NotEq
  | .lt => .Lt
  | .le => .LtE
  | .gt => .Gt
  | .ge => .GtE
  | .isn => .Is
  | .notn => .IsNot
  | .inn => .In
  | .nin => .NotIn
theorem cmp_ok (hu : X.A.units + 65 < cLine) (op : Cm) (e : cmpD h op x y = some b) (rx : Rp X.K om io H v x) (ry : Rp X.K om io H u y) (R : HpRp X.K om io H h) (q : Q (.bl b) H) : RB X (compareOp (cmOf op)) v u H Q := by
  have hints : ∀ (f : Int → Int → Bool) (op : CmpOp), OpR X (compareOp op) (L2.rI0 fun i j => .bl (f i j)) → ints2 f x y = some b → RB X (compareOp op) v u H Q := by
    intro f op o e
    cases x with
    | int i => cases y with
      | int j =>
        have e2 : f i j = b := Option.some.inj e
        subst e2
        cases int_at rx
        cases int_at ry
        exact rb_of o ⟨i, j, rfl, rfl, q⟩
      | _ => cases e
    | _ => cases e
  cases op with
  | eq => exact (eq_ok hu e rx ry R).1 q
  | ne =>
    obtain ⟨b', h1, h2⟩ := map_some e
    subst h2
    exact (eq_ok hu h1 rx ry R).2 q
  | lt => exact hints (fun i j => decide (i < j)) _ L2.op_lt e
  | le => exact hints (fun i j => decide (i ≤ j)) _ L2.op_le e
  | gt => exact hints (fun i j => decide (j < i)) _ L2.op_gt e
  | ge => exact hints (fun i j => decide (j ≤ i)) _ L2.op_ge e
  | isn =>
    have e1 : (if isNon y then some (isNon x) else isBl x y) = some b := e
    split at e1
    · rename_i hy
      have e2 := Option.some.inj e1
      subst e2
      cases y <;> simp [isNon] at hy
      cases non_at ry
      exact rb_of L2.op_isN ⟨rfl, by rw [non_iff rx]; exact q⟩
    · obtain ⟨p, r, rfl, rfl, e2⟩ := isBl_some e1
      subst e2
      cases bl_at rx
      cases bl_at ry
      exact rb_of L2.op_isBl ⟨p, r, rfl, rfl, q⟩
  | notn =>
    have e1 : (if isNon y then some (!isNon x) else (isBl x y).map (!·)) = some b := e
    split at e1
    · rename_i hy
      have e2 := Option.some.inj e1
      subst e2
      cases y <;> simp [isNon] at hy
      cases non_at ry
      exact rb_of L2.op_notN ⟨rfl, by rw [non_iff rx]; exact q⟩
    · obtain ⟨b', e3, e4⟩ := map_some e1
      obtain ⟨p, r, rfl, rfl, e2⟩ := isBl_some e3
      subst e2
      subst e4
      cases bl_at rx
      cases bl_at ry
      exact rb_of L2.op_notBl ⟨p, r, rfl, rfl, q⟩
  | inn => exact (in_ok hu e rx ry R).1 q
  | nin =>
    obtain ⟨b', h1, h2⟩ := map_some e
    subst h2
    exact (in_ok hu h1 rx ry R).2 q
end
end Mini
end
section
set_option Elab.async false
set_option linter.all false
set_option autoImplicit false
set_option maxRecDepth 100000
/-! Sound4: built-in functions, items, slices, methods. -/
namespace Mini
open PySem PySem.Spec PyProof.Rows
open L2 (V Hp HO Key Rd SqL SqT Inv Cx RelV upd upd_same upd_ne Same WX VK TE XK OpR UnR CallR R2 EP PE Dp DpAll MtR MtM IxR SlR PSet)

theorem optAll_len {α β : Type} {f : α → Option β} : ∀ {xs : List α} {ys : List β}, optAll f xs = some ys → ys.length = xs.length
  | [], ys, e => by
    have e1 : [] = ys := Option.some.inj e
    subst e1
    rfl
  | x :: xs, ys, e => by
    unfold optAll at e
    split at e
    · split at e
      · rename_i zs hz
        have e1 := Option.some.inj e
        subst e1
        simp [optAll_len hz]
      · cases e
    · cases e
theorem optAll_rp {K : PySem.W.Frag} {om : Om} {io : List Addr} {H : Hp} {β : Type} {f : D → Option β} {g : β → V} (hf : ∀ d b v, f d = some b → Rp K om io H v d → v = g b) :
    ∀ {xs : List D} {ys : List β} {vs : List V}, optAll f xs = some ys → Rps K om io H vs xs → vs = ys.map g
  | [], ys, vs, e, r => by
    cases r
    have e1 : [] = ys := Option.some.inj e
    subst e1
    rfl
  | x :: xs, ys, vs, e, r => by
    cases r with
    | cons r t =>
      unfold optAll at e
      split at e
      · rename_i y hy
        split at e
        · rename_i zs hz
          have e1 := Option.some.inj e
          subst e1
          rw [List.map_cons, hf x y _ hy r, optAll_rp hf hz t]
        · cases e
      · cases e
section
variable {K : PySem.W.Frag} {om : Om} {io : List Addr} {H : Hp}
theorem ints_at {xs : List D} {ns : List Int} {vs : List V} (e : intsOf xs = some ns) (r : Rps K om io H vs xs) : vs = ns.map V.int :=
  optAll_rp (fun d b v hd rv => by
    cases d with
    | int i =>
      have e1 : i = b := Option.some.inj hd
      subst e1
      exact int_at rv
    | _ => cases hd) e r
theorem bls_at {xs : List D} {ns : List Bool} {vs : List V} (e : blsOf xs = some ns) (r : Rps K om io H vs xs) : vs = ns.map V.bl :=
  optAll_rp (fun d b v hd rv => by
    cases d with
    | bl i =>
      have e1 : i = b := Option.some.inj hd
      subst e1
      exact bl_at rv
    | _ => cases hd) e r
theorem strs_at {xs : List D} {ns : List (List Char)} {vs : List V} (e : strsOf xs = some ns) (r : Rps K om io H vs xs) : vs = (ns.map S).map V.str := by
  rw [List.map_map]
  exact optAll_rp (g := V.str ∘ S) (fun d b v hd rv => by
    cases d with
    | str i =>
      have e1 : i = b := Option.some.inj hd
      subst e1
      exact str_at rv
    | _ => cases hd) e r
end

theorem foldl_max : ∀ (xs : List Int) (a : Int), (∀ y ∈ xs, y ≤ xs.foldl (fun a b => if b > a then b else a) a) ∧ a ≤ xs.foldl (fun a b => if b > a then b else a) a ∧ (xs.foldl (fun a b => if b > a then b else a) a = a ∨ xs.foldl (fun a b => if b > a then b else a) a ∈ xs)
  | [], a => ⟨by simp, Int.le_refl _, .inl rfl⟩
  | x :: xs, a => by
    have ih := foldl_max xs (if x > a then x else a)
    simp only [List.foldl_cons]
    generalize hM : xs.foldl (fun a b => if b > a then b else a) (if x > a then x else a) = M at ih ⊢
    obtain ⟨i1, i2, i3⟩ := ih
    by_cases h : x > a
    · rw [if_pos h] at i2 i3
      refine ⟨fun y hy => ?_, by omega, ?_⟩
      · rcases List.mem_cons.mp hy with e | q
        · rw [e]; exact i2
        · exact i1 y q
      · rcases i3 with e | q
        · exact .inr (by rw [e]; exact List.mem_cons_self)
        · exact .inr (List.mem_cons_of_mem _ q)
    · rw [if_neg h] at i2 i3
      refine ⟨fun y hy => ?_, i2, ?_⟩
      · rcases List.mem_cons.mp hy with e | q
        · rw [e]; omega
        · exact i1 y q
      · rcases i3 with e | q
        · exact .inl e
        · exact .inr (List.mem_cons_of_mem _ q)
theorem foldl_min : ∀ (xs : List Int) (a : Int), (∀ y ∈ xs, xs.foldl (fun a b => if b < a then b else a) a ≤ y) ∧ xs.foldl (fun a b => if b < a then b else a) a ≤ a ∧ (xs.foldl (fun a b => if b < a then b else a) a = a ∨ xs.foldl (fun a b => if b < a then b else a) a ∈ xs)
  | [], a => ⟨by simp, Int.le_refl _, .inl rfl⟩
  | x :: xs, a => by
    have ih := foldl_min xs (if x < a then x else a)
    simp only [List.foldl_cons]
    generalize hM : xs.foldl (fun a b => if b < a then b else a) (if x < a then x else a) = M at ih ⊢
    obtain ⟨i1, i2, i3⟩ := ih
    by_cases h : x < a
    · rw [if_pos h] at i2 i3
      refine ⟨fun y hy => ?_, by omega, ?_⟩
      · rcases List.mem_cons.mp hy with e | q
        · rw [e]; exact i2
        · exact i1 y q
      · rcases i3 with e | q
        · exact .inr (by rw [e]; exact List.mem_cons_self)
        · exact .inr (List.mem_cons_of_mem _ q)
    · rw [if_neg h] at i2 i3
      refine ⟨fun y hy => ?_, i2, ?_⟩
      · rcases List.mem_cons.mp hy with e | q
        · rw [e]; omega
        · exact i1 y q
      · rcases i3 with e | q
        · exact .inl e
        · exact .inr (List.mem_cons_of_mem _ q)
theorem maxL_eq {ns : List Int} {M m : Int} (e : maxL ns = some M) (hm : m ∈ ns) (ht : ∀ y ∈ ns, y ≤ m) : m = M := by
  cases ns with
  | nil => cases e
  | cons x xs =>
    have e1 : xs.foldl (fun a b => if b > a then b else a) x = M := Option.some.inj e
    obtain ⟨i1, i2, i3⟩ := foldl_max xs x
    rw [e1] at i1 i2 i3
    have hM : M ∈ x :: xs := by
      rcases i3 with q | q
      · rw [q]; exact List.mem_cons_self
      · exact List.mem_cons_of_mem _ q
    have h1 := ht M hM
    have h2 : m ≤ M := by
      rcases List.mem_cons.mp hm with q | q
      · rw [q]; exact i2
      · exact i1 m q
    omega
theorem minL_eq {ns : List Int} {M m : Int} (e : minL ns = some M) (hm : m ∈ ns) (ht : ∀ y ∈ ns, m ≤ y) : m = M := by
  cases ns with
  | nil => cases e
  | cons x xs =>
    have e1 : xs.foldl (fun a b => if b < a then b else a) x = M := Option.some.inj e
    obtain ⟨i1, i2, i3⟩ := foldl_min xs x
    rw [e1] at i1 i2 i3
    have hM : M ∈ x :: xs := by
      rcases i3 with q | q
      · rw [q]; exact List.mem_cons_self
      · exact List.mem_cons_of_mem _ q
    have h1 := ht M hM
    have h2 : M ≤ m := by
      rcases List.mem_cons.mp hm with q | q
      · rw [q]; exact i2
      · exact i1 m q
    omega

/-! ### sorting -/
theorem ins_perm {α : Type} (lt : α → α → Bool) (x : α) : ∀ ys : List α, (ins lt x ys).Perm (x :: ys)
  | [] => .refl _
  | y :: ys => by
    unfold ins
    split
    · exact .refl _
    · exact (List.Perm.cons y (ins_perm lt x ys)).trans (List.Perm.swap x y ys)
theorem ins_sorted {x : Int} : ∀ {ys : List Int}, ys.Pairwise (· ≤ ·) → (ins intLt x ys).Pairwise (· ≤ ·)
  | [], _ => by simp [ins]
  | y :: ys, h => by
    have h1 := List.pairwise_cons.mp h
    unfold ins
    split
    · rename_i hlt
      have hlt : x < y := by simpa [intLt] using hlt
      refine List.pairwise_cons.mpr ⟨fun z hz => ?_, h⟩
      rcases List.mem_cons.mp hz with e | q
      · omega
      · have := h1.1 z q
        omega
    · rename_i hlt
      have hlt : ¬ x < y := by simpa [intLt] using hlt
      refine List.pairwise_cons.mpr ⟨fun z hz => ?_, ins_sorted h1.2⟩
      rcases List.mem_cons.mp ((ins_perm intLt x ys).mem_iff.mp hz) with e | q
      · omega
      · exact h1.1 z q
theorem sort_perm {α : Type} (lt : α → α → Bool) (xs : List α) : (sortBy lt xs).Perm xs := by
  have go : ∀ ys : List α, (ys.foldr (ins lt) []).Perm ys := by
    intro ys
    induction ys with
    | nil => exact .refl _
    | cons y ys ih => exact (ins_perm lt y _).trans (List.Perm.cons y ih)
  exact (go _).trans (List.reverse_perm xs)
theorem sort_sorted (xs : List Int) : (sortBy intLt xs).Pairwise (· ≤ ·) := by
  have go : ∀ ys : List Int, (ys.foldr (ins intLt) []).Pairwise (· ≤ ·) := by
    intro ys
    induction ys with
    | nil => exact .nil
    | cons y ys ih => exact ins_sorted ih
  exact go _
theorem sorted_eq {xs ys : List Int} (p : ys.Perm xs) (h : ys.Pairwise (· ≤ ·)) : ys = sortBy intLt xs :=
  List.Perm.eq_of_pairwise (fun a b _ _ h1 h2 => Int.le_antisymm h1 h2) h (sort_sorted xs) (p.trans (sort_perm intLt xs).symm)

theorem seqOf_ref {h : Hh} {n : Nat} {xs : List D} (hn : h[n]? = some (.lst xs)) : seqOf h (.ref n) = some xs := by simp [seqOf, hn]
theorem rdOf_ref {h : Hh} {n : Nat} {xs : List D} (hn : h[n]? = some (.lst xs)) : rdOf h (.ref n) = some xs := by simp [rdOf, hn]
theorem lstOf_ref {h : Hh} {n : Nat} {xs : List D} (hn : h[n]? = some (.lst xs)) : lstOf h (.ref n) = some xs := by simp [lstOf, hn]
/-! ### functions of one value -/
/-- the built-in value of a plain function -/
def biV : Bi → Option (Str × Value)
  | .len => some (PySem.Str.ofString "len", .builtin "len")
  | .tuple => some (PySem.Str.ofString "tuple", .type "tuple")
  | .list => some (PySem.Str.ofString "list", .type "list")
  | .all => some (PySem.Str.ofString "all", .builtin "all")
  | .any => some (PySem.Str.ofString "any", .builtin "any")
  | .sum => some (PySem.Str.ofString "sum", .builtin "sum")
  | .max => some (PySem.Str.ofString "max", .builtin "max")
  | .min => some (PySem.Str.ofString "min", .builtin "min")
  | .abs => some (PySem.Str.ofString "abs", .builtin "abs")
  | .int => some (PySem.Str.ofString "int", .type "int")
  | .str => some (PySem.Str.ofString "str", .type "str")
  | .repr => some (PySem.Str.ofString "repr", .builtin "repr")
  | .sorted => some (PySem.Str.ofString "sorted", .builtin "sorted")
  | .sortedLen => none
  | .setLen => none
  | .sortedSet => none
section
variable {X : Cx} {om : Om} {io : List Addr} {H : Hp} {h : Hh} {d x : D} {Q : VK} {v : V}
theorem len_seq_ok {xs : List D} (e : seqOf h x = some xs) (rx : Rp X.K om io H v x) (R : HpRp X.K om io H h) (q : Post X.K om io H h (.int xs.length) Q) : RC X (.builtin "len") [v] H Q := by
  obtain ⟨a, vs, rfl, ha, ra⟩ := seq_of e rx R
  exact rc_of L2.call_len_seq ⟨a, vs, rfl, ha, by rw [ra.length]; exact q.here R (.int _)⟩
theorem len_ok (e : biD h .len x = some d) (rx : Rp X.K om io H v x) (R : HpRp X.K om io H h) (q : Post X.K om io H h d Q) : RC X (.builtin "len") [v] H Q := by
  have gen : ∀ o, seqOf h x = o → o.map (fun xs => D.int xs.length) = some d → RC X (.builtin "len") [v] H Q := by
    intro o ho e
    obtain ⟨xs, h1, h2⟩ := map_some e
    subst h2
    exact len_seq_ok (ho.trans h1) rx R q
  cases x with
  | str s =>
    have e1 : (if s.length ≤ lim then some (D.int s.length) else none) = some d := e
    split at e1
    · rename_i hl
      have e2 := Option.some.inj e1
      subst e2
      cases str_at rx
      refine rc_of L2.call_len_str ⟨S s, rfl, by rw [S_length]; exact lim_line hl, ?_⟩
      rw [S_length]
      exact q.here R (.int _)
    · cases e1
  | ref n =>
    have e1 : (match h[n]? with
      | some (.lst xs) => some (D.int xs.length)
      | some (.dK kvs) => some (.int kvs.length)
      | _ => none) = some d := e
    split at e1
    · rename_i xs hn
      have e2 := Option.some.inj e1
      subst e2
      exact len_seq_ok (x := .ref n) (seqOf_ref hn) rx R q
    · rename_i kvs hn
      have e2 := Option.some.inj e1
      subst e2
      cases rx with
      | ref hr =>
        obtain ⟨ps, h1, h2, h3⟩ := R.cell n _ _ hr hn
        have hl : ps.length = kvs.length := by
          have := congrArg List.length h2
          simpa using this
        intro pins s σ us I r
        cases r with
        | cons r t =>
          cases t
          cases r
          exact L2.d_len I (.inl h1) fun t s' I' => ⟨.int ps.length, H, I', ⟨_, rfl⟩, by rw [hl]; exact q.here R (.int _)⟩
    · cases e1
  | tup xs => exact gen _ rfl e
  | lst xs => exact gen _ rfl e
  | scr xs => exact gen _ rfl e
  | _ => cases e
theorem tuple_ok (e : biD h .tuple x = some d) (rx : Rp X.K om io H v x) (R : HpRp X.K om io H h) (q : Post X.K om io H h d Q) : RC X (.type "tuple") [v] H Q := by
  have gen : (rdOf h x).map D.tup = some d → RC X (.type "tuple") [v] H Q := by
    intro e
    obtain ⟨xs, h1, h2⟩ := map_some e
    subst h2
    obtain ⟨a, vs, rfl, ha, ra⟩ := rd_of h1 rx R
    exact rc_of L2.call_tuple_of ⟨a, vs, rfl, .inl ⟨ha, q.tup R ra⟩⟩
  cases x with
  | tup xs =>
    have e2 : D.tup xs = d := Option.some.inj e
    subst e2
    obtain ⟨a, vs, rfl, ha, ra⟩ := tup_of rx
    exact rc_of L2.call_tuple_of ⟨a, vs, rfl, .inr ⟨ha, q.here R rx⟩⟩
  | _ => exact gen e
theorem list_ok {xs : List D} (e : seqOf h x = some xs) (rx : Rp X.K om io H v x) (R : HpRp X.K om io H h) (q : ∀ vs p, Rps X.K om io H vs xs → H p = none → Q (.ref p) (upd H p (.lst vs))) : RC X (.type "list") [v] H Q := by
  obtain ⟨a, vs, rfl, ha, ra⟩ := seq_of e rx R
  exact rc_of L2.call_list_of ⟨a, vs, rfl, ha, fun p hp => q vs p ra hp⟩
theorem bind_some {α β : Type} {o : Option α} {f : α → Option β} {b : β} (e : o.bind f = some b) : ∃ a, o = some a ∧ f a = some b := by
  cases o with
  | none => cases e
  | some a => exact ⟨a, rfl, e⟩
theorem all_ok (hc : X.calm = true) (e : biD h .all x = some d) (rx : Rp X.K om io H v x) (R : HpRp X.K om io H h) (q : Post X.K om io H h d Q) : RC X (.builtin "all") [v] H Q := by
  obtain ⟨xs, h1, e⟩ := bind_some e
  obtain ⟨bs, h2, e⟩ := map_some e
  subst e
  obtain ⟨a, vs, rfl, ha, ra⟩ := rd_of h1 rx R
  rw [bls_at h2 ra] at ha
  exact rc_of (L2.cr_all hc) ⟨a, bs, rfl, ha, q.here R (.bl _)⟩
theorem any_ok (hc : X.calm = true) (e : biD h .any x = some d) (rx : Rp X.K om io H v x) (R : HpRp X.K om io H h) (q : Post X.K om io H h d Q) : RC X (.builtin "any") [v] H Q := by
  obtain ⟨xs, h1, e⟩ := bind_some e
  obtain ⟨bs, h2, e⟩ := map_some e
  subst e
  obtain ⟨a, vs, rfl, ha, ra⟩ := rd_of h1 rx R
  rw [bls_at h2 ra] at ha
  exact rc_of (L2.cr_any hc) ⟨a, bs, rfl, ha, q.here R (.bl _)⟩
theorem sum_ok (hc : X.calm = true) (e : biD h .sum x = some d) (rx : Rp X.K om io H v x) (R : HpRp X.K om io H h) (q : Post X.K om io H h d Q) : RC X (.builtin "sum") [v] H Q := by
  obtain ⟨xs, h1, e⟩ := bind_some e
  obtain ⟨bs, h2, e⟩ := map_some e
  subst e
  obtain ⟨a, vs, rfl, ha, ra⟩ := rd_of h1 rx R
  rw [ints_at h2 ra] at ha
  exact rc_of (L2.cr_sum hc) ⟨a, bs, rfl, ha, q.here R (.int _)⟩
theorem max_ok (hc : X.calm = true) (e : biD h .max x = some d) (rx : Rp X.K om io H v x) (R : HpRp X.K om io H h) (q : Post X.K om io H h d Q) : RC X (.builtin "max") [v] H Q := by
  obtain ⟨xs, h1, e⟩ := bind_some e
  obtain ⟨bs, h2, e⟩ := bind_some e
  obtain ⟨M, h3, e⟩ := map_some e
  subst e
  obtain ⟨a, vs, rfl, ha, ra⟩ := rd_of h1 rx R
  rw [ints_at h2 ra] at ha
  refine rc_of (L2.cr_max hc) ⟨a, bs, rfl, ha, ?_, fun m hm ht => ?_⟩
  · cases bs with
    | nil => cases h3
    | cons b bs => exact Nat.succ_pos _
  · rw [maxL_eq h3 hm ht]
    exact q.here R (.int _)
theorem min_ok (hc : X.calm = true) (e : biD h .min x = some d) (rx : Rp X.K om io H v x) (R : HpRp X.K om io H h) (q : Post X.K om io H h d Q) : RC X (.builtin "min") [v] H Q := by
  obtain ⟨xs, h1, e⟩ := bind_some e
  obtain ⟨bs, h2, e⟩ := bind_some e
  obtain ⟨M, h3, e⟩ := map_some e
  subst e
  obtain ⟨a, vs, rfl, ha, ra⟩ := rd_of h1 rx R
  rw [ints_at h2 ra] at ha
  refine rc_of (L2.cr_min hc) ⟨a, bs, rfl, ha, ?_, fun m hm ht => ?_⟩
  · cases bs with
    | nil => cases h3
    | cons b bs => exact Nat.succ_pos _
  · rw [minL_eq h3 hm ht]
    exact q.here R (.int _)
theorem abs_ok (e : biD h .abs x = some d) (rx : Rp X.K om io H v x) (R : HpRp X.K om io H h) (q : Post X.K om io H h d Q) : RC X (.builtin "abs") [v] H Q := by
  cases x with
  | int i =>
    have e2 := Option.some.inj e
    subst e2
    cases int_at rx
    exact rc_of L2.call_abs ⟨i, rfl, q.here R (.int _)⟩
  | _ => cases e
theorem toint_ok (e : biD h .int x = some d) (rx : Rp X.K om io H v x) (R : HpRp X.K om io H h) (q : Post X.K om io H h d Q) : RC X (.type "int") [v] H Q := by
  cases x with
  | int i =>
    have e2 := Option.some.inj e
    subst e2
    cases int_at rx
    exact rc_of L2.call_int1 (.inl ⟨i, rfl, q.here R (.int _)⟩)
  | bl b =>
    have e2 := Option.some.inj e
    subst e2
    cases bl_at rx
    exact rc_of L2.call_int1 (.inr ⟨b, rfl, q.here R (.int _)⟩)
  | str s =>
    have e1 : (if s.length ≤ 640 then (PySem.intText? (S s)).map D.int else none) = some d := e
    split at e1
    · rename_i hl
      obtain ⟨n, h1, h2⟩ := map_some e1
      subst h2
      cases str_at rx
      exact rc_of L2.call_int_str ⟨S s, n, rfl, h1, by rw [S_length]; exact hl, q.here R (.int _)⟩
    · cases e1
  | _ => cases e
theorem call_str_bool : CallR X (.type "str") (fun xs H Q => ∃ b, xs = [.bl b] ∧ Q (.str (if b then "True" else "False")) H) := by
  intro pins s σ H xs us Q I r h
  obtain ⟨b, rfl, q⟩ := h
  cases r with
  | cons r t =>
    cases t
    cases r
    exact PySem.P.str_of_bool ⟨.str _, H, I.tok _, ⟨_, rfl⟩, q⟩
theorem tostr_ok (e : biD h .str x = some d) (rx : Rp X.K om io H v x) (R : HpRp X.K om io H h) (q : Post X.K om io H h d Q) : RC X (.type "str") [v] H Q := by
  cases x with
  | int i =>
    have e1 : (if i.natAbs < 2 ^ 1900 then some (D.str (toString i).toList) else none) = some d := e
    split at e1
    · rename_i hi
      have e2 := Option.some.inj e1
      subst e2
      cases int_at rx
      have hlog : i.natAbs.log2 < 1920 := by
        by_cases z : i.natAbs = 0
        · rw [z]; decide
        · have := (Nat.log2_lt z).mpr hi
          omega
      refine rc_of L2.call_str_int ⟨i, rfl, hlog, ?_⟩
      have hs : (PySem.Str.ofString (toString i)) = S (toString i).toList := by
        rw [PySem.Str.ofString_eq_toList]
        rfl
      show Q (.str (PySem.Str.ofString (toString i))) H
      rw [hs]
      exact q.here R (.str _)
    · cases e1
  | bl b =>
    have e2 := Option.some.inj e
    subst e2
    cases bl_at rx
    refine rc_of call_str_bool ⟨b, rfl, ?_⟩
    have hs : (if b = true then ("True" : Str) else "False") = S (if b = true then ['T', 'r', 'u', 'e'] else ['F', 'a', 'l', 's', 'e']) := by cases b <;> decide +kernel
    rw [hs]
    exact q.here R (.str _)
  | _ => cases e
theorem sorted_int_ok {xs : List D} {ns : List Int} (h1 : rdOf h x = some xs) (h2 : intsOf xs = some ns) (rx : Rp X.K om io H v x) (R : HpRp X.K om io H h) (q : ∀ p, H p = none → Q (.ref p) (upd H p (.lst ((sortBy intLt ns).map V.int)))) : RC X (.builtin "sorted") [v] H Q := by
  obtain ⟨a, vs, rfl, ha, ra⟩ := rd_of h1 rx R
  rw [ints_at h2 ra] at ha
  exact rc_of L2.cr_sortedI ⟨a, ns, rfl, ha, fun ns' p hp hs hn => by
    rw [sorted_eq hp hs]
    exact q p hn⟩
end
end Mini
end
section
set_option Elab.async false
set_option linter.all false
set_option autoImplicit false
set_option maxRecDepth 100000
/-! Sound5: items, slices, stores, methods. -/
namespace Mini
open PySem PySem.Spec PyProof.Rows
open L2 (V Hp HO Key Rd SqL SqT Inv Cx RelV upd upd_same upd_ne Same WX VK TE XK OpR UnR CallR R2 EP PE Dp DpAll MtR MtM IxR SlR PSet)

/-! ### readings -/
def RI (X : Cx) : R2 := fun x y H Q => ∀ (value slice : Expr) (pins : List (Addr × Obj)) (s : Shared) (σ : L2.St) (v u : Value), Inv X pins σ H s → RelV x v → RelV y u →
  subscripted slice false v u = operate [v, u] (getItem v u) → wpAny (model X.prog X.w) X.A (subscriptTail value slice v u) (EP X pins σ Q) X.xe s
theorem ri_ix {X : Cx} : IxR X (RI X) := fun value slice pins s σ H x y v u Q I rx ry h hs => h value slice pins s σ v u I rx ry hs
theorem ri_of {X : Cx} {r : R2} (o : IxR X r) {x y : V} {H : Hp} {Q : VK} (h : r x y H Q) : RI X x y H Q := fun value slice pins s σ v u I rx ry hs => o value slice pins s σ H x y v u Q I rx ry h hs
def rIxD : R2 := fun x y H Q => ∃ a v, x = .ref a ∧ L2.DGet H a y (some v) ∧ Q v H
theorem ix_dict {X : Cx} (hu : X.A.units + 65 < cLine) : IxR X rIxD := by
  intro value slice pins s σ H x y v u Q I rx ry h hs
  obtain ⟨a, w, rfl, g, q⟩ := h
  obtain rfl : v = Value.ref a := rx
  exact tail_any (L2.dict_typeIs I g) PySem.F.slot_dict_getitem.lookup (L2.d_getItem (by omega) I g ry fun w' s' I' rw' => ⟨w, H, I', rw', q⟩) hs
def RS (X : Cx) : V → Option Int → Option Int → Hp → VK → Prop := fun x lo hi H Q => ∀ (pins : List (Addr × Obj)) (s : Shared) (σ : L2.St) (v vl vu : Value) (sl : Addr), Inv X pins σ H s → RelV x v → s.heap.IsSliceOf sl vl vu .none → IsPart vl lo → IsPart vu hi →
  ∃ T id, typeLookup (.type T) "__getitem__" = pure (some (.builtin id)) ∧ s.TypeIs v T ∧ wpAny (model X.prog X.w) X.A (getItem v (.ref sl)) (EP X pins σ Q) X.xe s
theorem rs_sl {X : Cx} : SlR X (RS X) := fun pins s σ H x v vl vu lo hi sl Q I rx hs pl pu h => h pins s σ v vl vu sl I rx hs pl pu
theorem rs_of {X : Cx} {r : V → Option Int → Option Int → Hp → VK → Prop} (o : SlR X r) {x : V} {lo hi : Option Int} {H : Hp} {Q : VK} (h : r x lo hi H Q) : RS X x lo hi H Q :=
  fun pins s σ v vl vu sl I rx hs pl pu => o pins s σ H x v vl vu lo hi sl Q I rx hs pl pu h
def RM (X : Cx) (id : String) : V → List V → Hp → VK → Prop := fun x xs H Q => ∀ (pins : List (Addr × Obj)) (s : Shared) (σ : L2.St) (v : Value) (us : List Value), Inv X pins σ H s → RelV x v → L2.Vals xs us →
  wpAny (model X.prog X.w) X.A (call (.builtin id) (v :: us)) (EP X pins σ Q) X.xe s
theorem rm_mt {X : Cx} {id : String} : MtR X id (RM X id) := fun pins s σ H x xs v us Q I rx rs h => h pins s σ v us I rx rs
theorem rm_of {X : Cx} {id : String} {r : V → List V → Hp → VK → Prop} (o : MtR X id r) {x : V} {xs : List V} {H : Hp} {Q : VK} (h : r x xs H Q) : RM X id x xs H Q := fun pins s σ v us I rx rs => o pins s σ H x xs v us Q I rx rs h
def RSet (X : Cx) : V → V → V → Hp → (Hp → Prop) → Prop := fun o i v H Q => ∀ (pins : List (Addr × Obj)) (s : Shared) (σ : L2.St) (ov iv u : Value), Inv X pins σ H s → RelV o ov → RelV i iv → RelV v u →
  wpAny (model X.prog X.w) X.A (setItem ov iv u) (fun _ s' => ∃ H', Inv X pins σ H' s' ∧ Q H') X.xe s
theorem rset_p {X : Cx} : PSet X (RSet X) := fun pins s σ H o i v ov iv u Q I ro ri rv h => h pins s σ ov iv u I ro ri rv
theorem rset_of {X : Cx} {t : L2.TSet} (p : PSet X t) {o i v : V} {H : Hp} {Q : Hp → Prop} (h : t o i v H Q) : RSet X o i v H Q := fun pins s σ ov iv u I ro ri rv => p pins s σ H o i v ov iv u Q I ro ri rv h

theorem atI_eq {α : Type} (xs : List α) (i : Int) : atI xs i = L2.atI xs i := by
  unfold atI L2.atI
  show (match L2.ixN xs.length i with
    | some j => xs[j]?
    | none => none) = _
  cases L2.ixN xs.length i <;> rfl
theorem atI_some {α : Type} {xs : List α} {i : Int} {d : α} (e : atI xs i = some d) : ∃ j, ixN xs.length i = some j ∧ xs[j]? = some d := by
  unfold atI at e
  split at e
  · rename_i j hj
    exact ⟨j, hj, e⟩
  · cases e
theorem atI_rps {K : PySem.W.Frag} {om : Om} {io : List Addr} {H : Hp} {vs : List V} {xs : List D} {i : Int} {d : D} (r : Rps K om io H vs xs) (e : atI xs i = some d) : ∃ v, L2.atI vs i = some v ∧ Rp K om io H v d := by
  obtain ⟨j, h1, h2⟩ := atI_some e
  obtain ⟨v, h3, h4⟩ := r.get h2
  refine ⟨v, ?_, h4⟩
  rw [← atI_eq]
  unfold atI
  rw [r.length, h1]
  exact h3
theorem S_toList (s : List Char) : (S s).cps.toList = s.map Char.toNat := by simp [S]
theorem S_one (c : Char) : (⟨#[c.toNat]⟩ : Str) = S [c] := by simp [S]

section
variable {X : Cx} {om : Om} {io : List Addr} {H : Hp} {h : Hh} {d x y : D} {Q : VK} {v u : V}
theorem idx_ok (hu : X.A.units + 65 < cLine) (e : idxD h x y = some d) (rx : Rp X.K om io H v x) (ry : Rp X.K om io H u y) (R : HpRp X.K om io H h) (q : Post X.K om io H h d Q) : RI X v u H Q := by
  have seq : ∀ xs i, (∃ a vs, v = .ref a ∧ (SqL X.K H a vs ∨ SqT X.K H a vs) ∧ Rps X.K om io H vs xs) → y = .int i → atI xs i = some d → RI X v u H Q := by
    clear e
    intro xs i ⟨a, vs, hv, ha, ra⟩ hy e
    subst hv hy
    cases int_at ry
    obtain ⟨w, h1, h2⟩ := atI_rps ra e
    rcases ha with ha | ha
    · exact ri_of L2.ix_list ⟨a, vs, i, w, rfl, rfl, ha, h1, q.here R h2⟩
    · exact ri_of L2.ix_tup ⟨a, vs, i, w, rfl, rfl, ha, h1, q.here R h2⟩
  cases x with
  | tup xs => cases y with
    | int i =>
      obtain ⟨a, vs, h1, h2, h3⟩ := tup_of rx
      exact seq xs i ⟨a, vs, h1, .inr h2, h3⟩ rfl e
    | _ => cases e
  | lst xs => cases y with
    | int i =>
      obtain ⟨a, vs, h1, h2, h3⟩ := rd_of (h := h) (x := .lst xs) (ds := xs) rfl rx R
      exact seq xs i ⟨a, vs, h1, .inl h2, h3⟩ rfl e
    | _ => cases e
  | scr xs => cases y with
    | int i =>
      obtain ⟨a, vs, h1, h2, h3⟩ := rd_of (h := h) (x := .scr xs) (ds := xs) rfl rx R
      exact seq xs i ⟨a, vs, h1, .inl h2, h3⟩ rfl e
    | _ => cases e
  | str s => cases y with
    | int i =>
      have e1 : (if s.length ≤ lim then (atI s i).map fun c => D.str [c] else none) = some d := e
      split at e1
      · rename_i hl
        obtain ⟨c, h1, h2⟩ := map_some e1
        subst h2
        cases str_at rx
        cases int_at ry
        refine ri_of L2.ix_str ⟨S s, i, c.toNat, rfl, rfl, by rw [S_length]; exact lim_line hl, ?_, ?_⟩
        · rw [S_toList, ← atI_eq]
          obtain ⟨j, h3, h4⟩ := atI_some h1
          unfold atI
          rw [List.length_map, h3]
          show (s.map Char.toNat)[j]? = _
          rw [List.getElem?_map, h4]
          rfl
        · rw [S_one]
          exact q.here R (.str _)
      · cases e1
    | _ => cases e
  | dct kvs => cases y with
    | str s =>
      have e1 : (match findK s (kvs.map fun kv => (kv.1, D.int kv.2)) with
        | some v => some v
        | none => none) = some d := e
      split at e1
      · rename_i w hw
        have e2 := Option.some.inj e1
        subst e2
        cases str_at ry
        cases rx with
        | dct ha h1 h2 =>
          have go : ∀ kvs : List (List Char × Int), findK s (kvs.map fun kv => (kv.1, D.int kv.2)) = some w → ∃ n : Int, w = .int n ∧ L2.valV (kvs.map fun kv => ((Sum.inr (S kv.1) : Key), V.int kv.2)) (Sum.inr (S s)) = some (.int n) := by
            intro kvs
            induction kvs with
            | nil => intro z; cases z
            | cons kv kvs ih =>
              intro z
              rw [List.map_cons] at z
              unfold findK at z
              split at z
              · rename_i hk
                have z2 := Option.some.inj z
                refine ⟨kv.2, z2.symm, ?_⟩
                rw [List.map_cons, L2.valV_pos (by rw [show kv.1 = s from hk])]
              · rename_i hk
                obtain ⟨n, h1, h2⟩ := ih z
                refine ⟨n, h1, ?_⟩
                rw [List.map_cons, L2.valV_neg (fun z => hk (S_inj (Sum.inr.inj z)))]
                exact h2
          obtain ⟨n, rfl, hn⟩ := go kvs hw
          exact ri_of (ix_dict hu) ⟨_, .int n, rfl, .inl ⟨_, _, .inl ha, rfl, hn.symm⟩, q.here R (.int _)⟩
      · cases e1
    | _ => cases e
  | ref n =>
    unfold idxD at e
    simp only at e
    split at e
    · rename_i xs hn
      split at e
      · rename_i i
        obtain ⟨a, vs, h1, h2, h3⟩ := rd_of (h := h) (x := .ref n) (rdOf_ref hn) rx R
        exact seq xs i ⟨a, vs, h1, .inl h2, h3⟩ rfl e
      · cases e
    · rename_i kvs hn
      split at e
      · rename_i k hk
        obtain ⟨a, o, rfl, g, hs, hd⟩ := dget_of rx ry R (.inl ⟨kvs, k, hn, hk, rfl⟩)
        obtain ⟨w, hw, rw'⟩ := hd d e
        subst hw
        exact ri_of (ix_dict hu) ⟨a, w, rfl, g, q.here R rw'⟩
      · cases e
    · rename_i kvs hn
      split at e
      · rename_i k hk
        obtain ⟨a, o, rfl, g, hs, hd⟩ := dget_of rx ry R (.inr ⟨kvs, k, hn, hk, rfl⟩)
        obtain ⟨w, hw, rw'⟩ := hd d e
        subst hw
        exact ri_of (ix_dict hu) ⟨a, w, rfl, g, q.here R rw'⟩
      · cases e
    · cases e
  | _ => cases y <;> cases e

theorem sIx_eq (n d : Nat) (o : Option Int) : sIx n d o = HT.sIx n d o := by
  cases o <;> rfl
theorem cut_rps {K : PySem.W.Frag} {vs : List V} {xs : List D} (r : Rps K om io H vs xs) (lo hi : Option Int) : Rps K om io H (L2.cutV vs lo hi) (cut xs lo hi) := by
  unfold L2.cutV cut
  rw [sIx_eq, sIx_eq, r.length]
  exact (r.drop _).take _
theorem slice_ok {lo hi : Option Int} (e : sliceD h x lo hi = some d) (rx : Rp X.K om io H v x) (R : HpRp X.K om io H h) (q : Post X.K om io H h d Q) : RS X v lo hi H Q := by
  have gen : (rdOf h x).map (fun xs => D.lst (cut xs lo hi)) = some d → RS X v lo hi H Q := by
    intro e
    obtain ⟨xs, h1, h2⟩ := map_some e
    subst h2
    obtain ⟨a, vs, rfl, ha, ra⟩ := rd_of h1 rx R
    exact rs_of L2.sl_list ⟨a, vs, rfl, ha, q.lst R (cut_rps ra lo hi)⟩
  cases x with
  | tup xs =>
    have e2 : D.tup (cut xs lo hi) = d := Option.some.inj e
    subst e2
    obtain ⟨a, vs, rfl, ha, ra⟩ := tup_of rx
    refine rs_of L2.sl_tupA ⟨a, vs, rfl, ha, fun z => ?_, fun _ => q.tup R (cut_rps ra lo hi)⟩
    have e3 : cut xs lo hi = xs := by
      unfold cut
      rw [sIx_eq, sIx_eq, ← ra.length, z.1, z.2, List.drop_zero, Nat.sub_zero, ra.length, List.take_length]
    rw [e3] at q
    exact q.here R rx
  | str s =>
    have e1 : (if s.length ≤ lim then some (D.str (cut s lo hi)) else none) = some d := e
    split at e1
    · rename_i hl
      have e2 := Option.some.inj e1
      subst e2
      cases str_at rx
      refine rs_of L2.sl_str ⟨S s, rfl, by rw [S_length]; exact lim_line hl, ?_⟩
      have e3 : L2.cutS (S s) lo hi = S (cut s lo hi) := by
        unfold L2.cutS cut
        rw [S_length, S_toList, sIx_eq, sIx_eq]
        simp only [S, List.map_take, List.map_drop]
      rw [e3]
      exact q.here R (.str _)
    · cases e1
  | _ => exact gen e

/-! ### stores -/
theorem kv_any {κ κ' : Type} [DecidableEq κ] [DecidableEq κ'] {f : κ → κ'} (hf : ∀ a b, f a = f b → a = b) (k : κ) :
    ∀ {ps : List (κ' × V)} {qs : List (κ × D)}, ps.map (·.1) = qs.map (fun q => f q.1) → ps.any (fun kv => decide (kv.1 = f k)) = qs.any (fun q => decide (q.1 = k))
  | [], [], _ => rfl
  | [], _ :: _, e => by simp at e
  | _ :: _, [], e => by simp at e
  | (p, v') :: ps, (q, d') :: qs, e => by
    simp only [List.map_cons, List.cons.injEq] at e
    rw [List.any_cons, List.any_cons, kv_any hf k e.2]
    congr 1
    show decide (p = f k) = decide (q = k)
    rw [show p = f q from e.1]
    exact decide_eq_decide.mpr ⟨hf q k, fun z => by rw [z]⟩
theorem kv_map {κ κ' : Type} [DecidableEq κ] [DecidableEq κ'] {f : κ → κ'} (hf : ∀ a b, f a = f b → a = b) (k : κ) (r : Rp X.K om io H v d) :
    ∀ {ps : List (κ' × V)} {qs : List (κ × D)}, KVRp X.K om io H f ps qs → KVRp X.K om io H f (ps.map fun kv => if kv.1 = f k then (kv.1, v) else kv) (qs.map fun q => if q.1 = k then (q.1, d) else q)
  | [], [], _ => ⟨rfl, .nil⟩
  | [], _ :: _, z => by
    have e := z.1
    simp at e
  | _ :: _, [], z => by
    have e := z.1
    simp at e
  | (p, v') :: ps, (q, d') :: qs, z => by
    obtain ⟨h1, h2⟩ := z
    simp only [List.map_cons, List.cons.injEq] at h1
    simp only [List.map_cons] at h2
    cases h2 with
    | cons r' t =>
      obtain ⟨i1, i2⟩ := kv_map hf k r (ps := ps) (qs := qs) ⟨h1.2, t⟩
      have hp : p = f q := h1.1
      subst hp
      by_cases e : q = k
      · subst e
        refine ⟨?_, ?_⟩
        · simp only [List.map_cons, if_true]
          rw [i1]
        · simp only [List.map_cons, if_true]
          exact .cons r i2
      · have ne : ¬ f q = f k := fun z => e (hf _ _ z)
        refine ⟨?_, ?_⟩
        · simp only [List.map_cons, if_neg e, if_neg ne]
          rw [i1]
        · simp only [List.map_cons, if_neg e, if_neg ne]
          exact .cons r' i2
theorem kv_put {κ κ' : Type} [DecidableEq κ] [DecidableEq κ'] {f : κ → κ'} (hf : ∀ a b, f a = f b → a = b) (k : κ) (r : Rp X.K om io H v d)
    {ps : List (κ' × V)} {qs : List (κ × D)} (z : KVRp X.K om io H f ps qs) : KVRp X.K om io H f (L2.putK ps (f k) v) (putK k d qs) := by
  have ha := kv_any hf k z.1
  unfold L2.putK putK
  by_cases e : qs.any (fun q => decide (q.1 = k)) = true
  · rw [if_pos e, if_pos (by rw [ha]; exact e)]
    exact kv_map hf k r z
  · rw [if_neg e, if_neg (by rw [ha]; exact e)]
    exact ⟨by rw [List.map_append, List.map_append, z.1]; rfl, by rw [List.map_append, List.map_append]; exact z.2.append (.one r)⟩
theorem kv_len {κ κ' : Type} {f : κ → κ'} {ps : List (κ' × V)} {qs : List (κ × D)} (r : KVRp X.K om io H f ps qs) : ps.length = qs.length := by
  have := congrArg List.length r.1
  simpa using this
/-- what is wanted behind a store -/
def PostS (K : PySem.W.Frag) (om : Om) (io : List Addr) (H : Hp) (h' : Hh) (Q : Hp → Prop) : Prop := ∀ (io' : List Addr) (H' : Hp), Ext io H io' H' → HpRp K om io' H' h' → Q H'
theorem KVRp.ext {κ κ' : Type} {f : κ → κ'} {io' : List Addr} {H' : Hp} {ps : List (κ' × V)} {qs : List (κ × D)} (x : Ext io H io' H') (r : KVRp X.K om io H f ps qs) : KVRp X.K om io' H' f ps qs := ⟨r.1, r.2.ext x⟩
theorem put_ext {a : Addr} {n : Nat} {o : HO} (hn : io[n]? = some a) : Ext io H io (upd H a o) := by
  have hm : a ∈ io := List.mem_of_getElem? hn
  refine ⟨⟨[], by simp, by simp⟩, fun b u e hb => ?_, fun b u e => ?_⟩
  · rw [upd_ne (fun z => hb (by rw [z]; exact hm))]
    exact e
  · by_cases z : b = a
    · rw [z, upd_same]
      exact ⟨_, rfl⟩
    · rw [upd_ne z]
      exact ⟨u, e⟩
/-- a list's cell takes other items -/
theorem put_lst {a : Addr} {n : Nat} {vs : List V} {xs : List D} (R : HpRp X.K om io H h) (hn : io[n]? = some a) (r : Rps X.K om io H vs xs) :
    Ext io H io (upd H a (.lst vs)) ∧ HpRp X.K om io (upd H a (.lst vs)) (h.set n (.lst xs)) :=
  R.put hn ⟨vs, upd_same, r.ext (put_ext hn)⟩
theorem set_ok {h' : Hh} {z : D} {w : V} {QS : Hp → Prop} (hu : X.A.units + 65 < cLine) (e : setD h x y z = some h') (rx : Rp X.K om io H v x) (ry : Rp X.K om io H u y) (rz : Rp X.K om io H w z) (R : HpRp X.K om io H h)
    (q : PostS X.K om io H h' QS) : RSet X v u w H QS := by
  cases x with
  | ref n =>
    unfold setD at e
    simp only at e
    split at e
    · rename_i xs hn
      split at e
      · rename_i i
        split at e
        · rename_i k hk
          have e2 := Option.some.inj e
          subst e2
          obtain ⟨a, vs, rfl, hio, ha, ra⟩ := ref_at rx R hn
          cases int_at ry
          obtain ⟨x1, r1⟩ := put_lst R hio (ra.set k rz)
          exact rset_of L2.set_list ⟨a, vs, i, k, rfl, rfl, ha, by rw [ra.length]; exact hk, q _ _ x1 r1⟩
        · cases e
      · cases e
    · rename_i kvs hn
      split at e
      · rename_i k hk
        split at e
        · rename_i hl
          have e2 := Option.some.inj e
          subst e2
          cases rx with
          | ref hio =>
            obtain ⟨ps, h1, h2⟩ := R.cell n _ _ hio hn
            cases key1_of (X := X) hk ry
            have lk := kv_len h2
            obtain ⟨x1, r1⟩ := R.put (o := .dK (L2.putK ps (kOf k) w)) (c := .dK (putK k z kvs)) hio ⟨_, upd_same, KVRp.ext (put_ext hio) (kv_put (fun a b => kOf_inj) k rz h2)⟩
            intro pins s σ ov iv u I ro ri rv
            cases ro
            exact L2.d_setItem (by omega) I (L2.DPut.k h1 (by rw [lk]; exact lim_lt hl)) ri rv fun s' I' => ⟨_, I', q _ _ x1 r1⟩
        · cases e
      · cases e
    · rename_i kvs hn
      split at e
      · rename_i k hk
        split at e
        · rename_i hl
          have e2 := Option.some.inj e
          subst e2
          cases rx with
          | ref hio =>
            obtain ⟨ps, h1, h2⟩ := R.cell n _ _ hio hn
            obtain ⟨b, rfl, hb⟩ := keyT_of (X := X) hk ry
            have lk := kv_len h2
            obtain ⟨x1, r1⟩ := R.put (o := .dT (L2.putK ps (k.map kOf) w)) (c := .dT (putK k z kvs)) hio ⟨_, upd_same, KVRp.ext (put_ext hio) (kv_put map_kOf_inj k rz h2)⟩
            intro pins s σ ov iv u I ro ri rv
            cases ro
            exact L2.d_setItem (by omega) I (L2.DPut.t h1 hb (by rw [lk]; exact lim_lt hl)) ri rv fun s' I' => ⟨_, I', q _ _ x1 r1⟩
        · cases e
      · cases e
    · cases e
  | _ => cases e
end

/-! ### methods -/
theorem ixN_lt {n k : Nat} {i : Int} (e : ixN n i = some k) : k < n ∧ -(n : Int) ≤ i ∧ i < n ∧ seqIndex? i n = some k := by
  unfold ixN at e
  unfold seqIndex?
  by_cases h0 : 0 ≤ i
  · rw [if_pos h0] at e
    split at e
    · rename_i h1
      have e2 := Option.some.inj e
      subst e2
      refine ⟨by omega, by omega, h1, ?_⟩
      have hn : ¬ i < 0 := by omega
      simp only [if_neg hn]
      rw [if_pos (by simp [h0, h1])]
    · cases e
  · rw [if_neg h0] at e
    split at e
    · rename_i h1
      have e2 := Option.some.inj e
      subst e2
      have hn : i < 0 := by omega
      refine ⟨by omega, h1, by omega, ?_⟩
      simp only [if_pos hn]
      rw [if_pos (by simp; omega)]
    · cases e
section
variable {X : Cx} {om : Om} {io : List Addr} {H : Hp} {h h' : Hh} {d x y : D} {Q : VK} {v u : V} {as : List D} {us : List V}
def muV : Mu → String
  | .append => "list.append"
  | .extend => "list.extend"
  | .pop => "list.pop"
theorem mut_ok {m : Mu} (e : mutD h m x as = .ok d h') (rx : Rp X.K om io H v x) (ra : Rps X.K om io H us as) (R : HpRp X.K om io H h) (q : Post X.K om io H h' d Q) :
    RM X (muV m) v us H Q ∧ L2.tyV X.K "list" v H := by
  cases x with
  | ref n =>
    unfold mutD at e
    simp only at e
    split at e
    · rename_i xs hn
      obtain ⟨a, vs, rfl, hio, ha, rs⟩ := ref_at rx R hn
      refine ⟨?_, .inl ⟨rfl, vs, .inl (.inl ha)⟩⟩
      split at e
      · rename_i z
        split at e
        · rename_i hl
          obtain ⟨rfl, rfl⟩ : D.non = d ∧ h.set n (.lst (xs ++ [z])) = h' := by
            injection e with e1 e2
            exact ⟨e1, e2⟩
          cases ra with
          | cons rz t =>
            cases t
            obtain ⟨x1, r1⟩ := put_lst R hio (rs.append (.one rz))
            exact rm_of L2.mt_append ⟨a, vs, _, rfl, rfl, ha, by rw [rs.length]; exact lim_lt hl, q _ _ _ x1 r1 .non⟩
        · cases e
      · rename_i z
        split at e
        · rename_i ys hy
          split at e
          · rename_i hl
            obtain ⟨rfl, rfl⟩ : D.non = d ∧ h.set n (.lst (xs ++ ys)) = h' := by
              injection e with e1 e2
              exact ⟨e1, e2⟩
            cases ra with
            | cons rz t =>
              cases t
              obtain ⟨b, ws, rfl, hb, rb⟩ := lst_of hy rz R
              obtain ⟨x1, r1⟩ := put_lst R hio (rs.append rb)
              exact rm_of L2.mt_extend ⟨a, b, vs, ws, rfl, rfl, ha, hb, by rw [rs.length, rb.length]; exact lim_line hl, q _ _ _ x1 r1 .non⟩
          · cases e
        · cases e
      · split at e
        · rename_i z hz
          obtain ⟨rfl, rfl⟩ : z = d ∧ h.set n (.lst xs.dropLast) = h' := by
            injection e with e1 e2
            exact ⟨e1, e2⟩
          cases ra
          obtain ⟨x1, r1⟩ := put_lst R hio rs.dropLast
          rw [List.getLast?_eq_getElem?] at hz
          obtain ⟨w, h1, h2⟩ := rs.get hz
          exact rm_of L2.mt_pop ⟨a, vs, w, rfl, rfl, ha, by rw [rs.length]; exact h1, q _ _ _ x1 r1 (h2.ext x1)⟩
        · cases e
      · rename_i i
        split at e
        · rename_i k hk
          split at e
          · rename_i z hz
            obtain ⟨rfl, rfl⟩ : z = d ∧ h.set n (.lst (xs.eraseIdx k)) = h' := by
              injection e with e1 e2
              exact ⟨e1, e2⟩
            cases ra with
            | cons rz t =>
              cases t
              cases int_at rz
              obtain ⟨x1, r1⟩ := put_lst R hio (rs.eraseIdx k)
              obtain ⟨w, h1, h2⟩ := rs.get hz
              obtain ⟨hk1, hk2, hk3, hk4⟩ := ixN_lt hk
              intro pins s σ v us I rv ru
              obtain ⟨_, _, _, hz2⟩ := I.list (.inl (.inl ha))
              have hz3 : vs.length ≤ 16777216 := by rw [← sizeLine_eq]; exact hz2
              rw [rs.length] at hz3
              exact rm_of L2.mt_popAt ⟨a, vs, i, k, w, rfl, rfl, ha, by omega, by omega, by rw [rs.length]; exact hk4, h1, q _ _ _ x1 r1 (h2.ext x1)⟩ pins s σ v us I rv ru
          · cases e
        · cases e
      · cases e
    · cases e
  | _ => cases e

theorem join_S (a : List Char) : ∀ ss : List (List Char), Str.join (S a) (ss.map S) = S (joinC a ss)
  | [] => rfl
  | [x] => rfl
  | x :: y :: r => by
    show S x ++ S a ++ Str.join (S a) ((y :: r).map S) = S (x ++ a ++ joinC a (y :: r))
    rw [join_S a (y :: r), S_append, S_append]
theorem meth_join_ok (e : methD h .join x as = some d) (rx : Rp X.K om io H v x) (ra : Rps X.K om io H us as) (R : HpRp X.K om io H h) (q : Post X.K om io H h d Q) :
    RM X "str.join" v us H Q ∧ L2.tyV X.K "str" v H := by
  cases x with
  | str sep =>
    cases ra with
    | nil => cases e
    | cons r t =>
      cases t with
      | cons r' t => cases e
      | nil =>
        obtain ⟨xs, h1, e⟩ := bind_some e
        obtain ⟨ss, h2, e⟩ := bind_some e
        split at e
        · rename_i hl
          have e2 := Option.some.inj e
          subst e2
          cases str_at rx
          obtain ⟨a, vs, rfl, ha, rs⟩ := rd_of h1 r R
          rw [strs_at h2 rs] at ha
          refine ⟨rm_of L2.mt_join ⟨S sep, a, ss.map S, rfl, rfl, .inl ha, ?_, ?_⟩, rfl⟩
          · rw [List.map_map, List.length_map, S_length]
            have e3 : (ss.map ((fun x => x.length) ∘ S)) = ss.map List.length := List.map_congr_left fun s _ => S_length s
            rw [e3]
            have h3 : (ss.map List.length).sum + ss.length * sep.length ≤ 1000000 := hl
            omega
          · rw [TL.join_eq, join_S]
            exact q.here R (.str _)
        · cases e
  | _ => cases e
end
end Mini
end
section
set_option Elab.async false
set_option linter.all false
set_option autoImplicit false
set_option maxRecDepth 100000
/-! Sound6: isinstance; truth. -/
namespace Mini
open PySem PySem.Spec PyProof.Rows
open L2 (V Hp HO Key Rd SqL SqT Inv Cx RelV upd upd_same upd_ne Same WX VK TE XK OpR UnR CallR R2 EP PE Dp DpAll MtR MtM IxR SlR PSet)

def tyS : Ty → String
  | .int => "int"
  | .bool => "bool"
  | .str => "str"
  | .tuple => "tuple"
  | .list => "list"
  | .dict => "dict"
theorem kit_same (t u : Ty) (h : t ≠ .bool) : L2.kitB (tyS t) (tyS u) = some (decide (t = u)) := by
  cases t <;> cases u <;> first | exact absurd rfl h | decide +kernel
theorem kit_bool (u : Ty) : L2.kitB "bool" (tyS u) = some (decide (u = .bool) || decide (u = .int)) := by
  cases u <;> decide +kernel
theorem kit_non (u : Ty) : L2.kitB "NoneType" (tyS u) = some false := by
  cases u <;> decide +kernel
theorem kitAny_ts {K : PySem.W.Frag} {t : Value} (f : Ty → Bool) (hf : ∀ u, PySem.W.kitOne K t (.type (tyS u)) = some (f u)) : ∀ us : List Ty, PySem.W.kitAny K t (us.map fun u => Value.type (tyS u)) = some (us.any f)
  | [] => rfl
  | u :: us => by
    refine L2.kitAny_cons (hf u) (fun e => ?_) fun e => ?_
    · rw [List.any_cons, e, Bool.false_or]
      exact kitAny_ts f hf us
    · rw [List.any_cons, e, Bool.true_or]

section
variable {X : Cx} {om : Om} {io : List Addr} {H : Hp} {h h' : Hh} {d x y : D} {Q : VK} {v u : V} {as : List D} {us : List V}
theorem isi_ty {ts : List Ty} {b : Bool} (e : isiD h x ts = some b) (rx : Rp X.K om io H v x) (R : HpRp X.K om io H h) :
    ∃ (t : Value) (f : Ty → Bool), L2.TyX X.K H v t ∧ (∀ u, PySem.W.kitOne X.K t (.type (tyS u)) = some (f u)) ∧ ts.any f = b := by
  have one : ∀ t : Ty, t ≠ .bool → L2.TyX X.K H v (.type (tyS t)) → decide (t ∈ ts) = b → ∃ (t : Value) (f : Ty → Bool), L2.TyX X.K H v t ∧ (∀ u, PySem.W.kitOne X.K t (.type (tyS u)) = some (f u)) ∧ ts.any f = b := by
    intro t ht hx hb
    refine ⟨_, fun u => decide (t = u), hx, fun u => L2.kit_ty (kit_same t u ht), ?_⟩
    rw [← hb, Bool.eq_iff_iff]
    simp
  cases x with
  | non =>
    cases non_at rx
    have e2 : false = b := Option.some.inj e
    refine ⟨_, fun _ => false, .base .non, fun u => L2.kit_ty (kit_non u), ?_⟩
    rw [← e2]
    simp
  | bl k =>
    cases bl_at rx
    have e2 := Option.some.inj e
    refine ⟨_, fun u => decide (u = .bool) || decide (u = .int), .base (.bl k), fun u => L2.kit_ty (kit_bool u), ?_⟩
    rw [← e2, Bool.eq_iff_iff]
    simp only [List.any_eq_true, Bool.or_eq_true, decide_eq_true_eq]
    constructor
    · rintro ⟨x, hx, rfl | rfl⟩
      · exact .inl hx
      · exact .inr hx
    · rintro (hx | hx)
      · exact ⟨_, hx, .inl rfl⟩
      · exact ⟨_, hx, .inr rfl⟩
  | int i =>
    cases int_at rx
    exact one .int (by decide) (.base (.int i)) (Option.some.inj e)
  | str s =>
    cases str_at rx
    exact one .str (by decide) (.base (.str _)) (Option.some.inj e)
  | rep s =>
    cases rep_at rx
    exact one .str (by decide) (.base (.str _)) (Option.some.inj e)
  | tup xs =>
    obtain ⟨a, vs, rfl, ha, ra⟩ := tup_at rx
    exact one .tuple (by decide) (.base (.tup ha)) (Option.some.inj e)
  | lst xs =>
    obtain ⟨a, vs, rfl, ha, ra⟩ := lst_at rx
    exact one .list (by decide) (.base (.lst ha)) (Option.some.inj e)
  | scr xs =>
    cases rx with
    | scrK r _ =>
      rcases r with (r | ⟨o, r⟩) | ⟨o, its, n, r1, r2, _⟩
      · cases r
      · cases r
      · exact one .list (by decide) (.kList r1 r2) (Option.some.inj e)
    | scr r _ _ _ =>
      rcases r with r | ⟨o, r⟩
      · exact one .list (by decide) (.base (.lst r)) (Option.some.inj e)
      · exact one .list (by decide) (.base (.frz r)) (Option.some.inj e)
  | dct kvs =>
    cases rx with
    | dct r _ _ => exact one .dict (by decide) (.base (.dK r)) (Option.some.inj e)
  | ref n =>
    cases rx with
    | ref hio =>
      unfold isiD at e
      simp only at e
      split at e
      · rename_i xs hn
        obtain ⟨vs, h1, _⟩ := R.cell n _ _ hio hn
        exact one .list (by decide) (.base (.lst h1)) (Option.some.inj e)
      · rename_i c hn hne
        cases c with
        | lst xs => exact absurd rfl (hn xs)
        | dK kvs =>
          obtain ⟨ps, h1, _⟩ := R.cell n _ _ hio hne
          exact one .dict (by decide) (.base (.dK h1)) (Option.some.inj e)
        | dT kvs =>
          obtain ⟨ps, h1, _⟩ := R.cell n _ _ hio hne
          exact one .dict (by decide) (.base (.dT h1)) (Option.some.inj e)
      · cases e
theorem isi_ok {t : Ty} {b : Bool} (e : isiD h x [t] = some b) (rx : Rp X.K om io H v x) (R : HpRp X.K om io H h) (q : Q (.bl b) H) : RC X (.builtin "isinstance") [v, .ty (tyS t)] H Q := by
  obtain ⟨tv, f, h1, h2, h3⟩ := isi_ty e rx R
  have h3 : f t = b := by simpa using h3
  refine rc_of L2.call_isi ⟨v, .ty (tyS t), tv, .type (tyS t), b, rfl, .ty _, h1, ?_, q⟩
  rw [h2, h3]
theorem isiT_ok {ts : List Ty} {b : Bool} {tp : Addr} (e : isiD h x ts = some b) (rx : Rp X.K om io H v x) (R : HpRp X.K om io H h) (hp : H tp = some (.tup (ts.map fun t => V.ty (tyS t)))) (q : Q (.bl b) H) : RC X (.builtin "isinstance") [v, .ref tp] H Q := by
  obtain ⟨tv, f, h1, h2, h3⟩ := isi_ty e rx R
  refine rc_of L2.call_isiT ⟨v, tp, ts.map fun t => V.ty (tyS t), tv, ts.map fun t => Value.type (tyS t), b, rfl, hp, ?_, h1, ?_, q⟩
  · clear e h3 hp
    induction ts with
    | nil => exact .nil
    | cons t ts ih => exact .cons (.ty _) ih
  · rw [kitAny_ts f h2, h3]

/-! ### truth -/
theorem S_ne (s : List Char) : (((S s).length : Int) != 0) = !s.isEmpty := by
  rw [S_length]
  cases s <;> simp
  omega
theorem isEmpty_rps {K : PySem.W.Frag} {vs : List V} {xs : List D} (r : Rps K om io H vs xs) : vs.isEmpty = xs.isEmpty := by
  cases r <;> rfl
theorem tru_ok {b : Bool} (e : truthy h x = some b) (rx : Rp X.K om io H v x) (R : HpRp X.K om io H h) : L2.TruV X.K v H b := by
  cases x with
  | non =>
    cases non_at rx
    exact (Option.some.inj e).symm
  | bl k =>
    cases bl_at rx
    exact (Option.some.inj e).symm
  | int i =>
    cases int_at rx
    exact (Option.some.inj e).symm
  | str s =>
    have e1 : (if s.length ≤ lim then some (!s.isEmpty) else none) = some b := e
    split at e1
    · rename_i hl
      cases str_at rx
      exact ⟨by rw [S_length]; exact lim_line hl, by rw [S_ne]; exact (Option.some.inj e1).symm⟩
    · cases e1
  | tup xs =>
    obtain ⟨a, vs, rfl, ha, ra⟩ := tup_of rx
    exact .inr (.inl ⟨vs, ha, by rw [isEmpty_rps ra]; exact (Option.some.inj e).symm⟩)
  | lst xs =>
    obtain ⟨a, vs, rfl, ha, ra⟩ := rd_of (h := h) (x := .lst xs) (ds := xs) rfl rx R
    exact .inl ⟨vs, ha, by rw [isEmpty_rps ra]; exact (Option.some.inj e).symm⟩
  | scr xs =>
    obtain ⟨a, vs, rfl, ha, ra⟩ := rd_of (h := h) (x := .scr xs) (ds := xs) rfl rx R
    exact .inl ⟨vs, ha, by rw [isEmpty_rps ra]; exact (Option.some.inj e).symm⟩
  | ref n =>
    unfold truthy at e
    simp only at e
    split at e
    · rename_i xs hn
      obtain ⟨a, vs, rfl, ha, ra⟩ := rd_of (h := h) (x := .ref n) (rdOf_ref hn) rx R
      exact .inl ⟨vs, ha, by rw [isEmpty_rps ra]; exact (Option.some.inj e).symm⟩
    · cases e
  | _ => cases e
end
end Mini
end
section
set_option Elab.async false
set_option linter.all false
set_option autoImplicit false
set_option maxRecDepth 100000
/-! SoundR: repr. -/
namespace Mini
open PySem PySem.Spec PyProof.Rows
open L2 (V Hp HO Key Rd SqL SqT Inv Cx RelV upd upd_same upd_ne Same WX VK TE XK OpR UnR CallR R2 EP PE Dp DpAll)

theorem len_app (a b : Str) : (a ++ b).length = a.length + b.length := by
  show (a.cps ++ b.cps).size = _
  rw [Array.size_append]
  rfl
theorem from_le : ∀ (ts : List Str) (k : Nat) (acc : Str), (PySem.textFrom k acc ts).length ≤ acc.length + PySem.piled ts
  | [], k, acc => by
    show acc.length ≤ acc.length + 0
    omega
  | t :: ts, k, acc => by
    have ih := from_le ts (k + 1) (acc ++ (if k > 0 then ", " else "" : String) ++ t)
    rw [len_app, len_app] at ih
    rw [PySem.piled_cons]
    have e : ((if k > 0 then ", " else "" : String) : Str).length ≤ 2 := by
      split
      · exact Nat.le_of_eq rfl
      · exact Nat.le_trans (Nat.le_of_eq rfl) (by omega : 0 ≤ 2)
    show (PySem.textFrom (k + 1) _ ts).length ≤ _
    omega
theorem list_le (ts : List Str) : (PySem.listText ts).length ≤ PySem.piled ts + 2 := by
  unfold PySem.listText
  rw [len_app]
  have h := from_le ts 0 "["
  have e1 : (("[" : String) : Str).length = 1 := rfl
  have e2 : (("]" : String) : Str).length = 1 := rfl
  omega
theorem tuple_le (ts : List Str) : (PySem.tupleText ts).length ≤ PySem.piled ts + 3 := by
  unfold PySem.tupleText
  rw [len_app, len_app]
  have e1 : (("(" : String) : Str).length = 1 := rfl
  have e2 : ((if ts.length == 1 then ",)" else ")" : String) : Str).length ≤ 2 := by
    split
    · exact Nat.le_of_eq rfl
    · exact Nat.le_trans (Nat.le_of_eq rfl) (by omega : 1 ≤ 2)
  cases ts with
  | nil =>
    have e3 : (Str.join ", " []).length = 0 := rfl
    omega
  | cons t ts =>
    have h := PySem.join_length_add (t :: ts) (by simp)
    omega
theorem S_small (s : List Char) : ∀ c ∈ (S s).cps.toList, c < 16 ^ 8 := by
  intro c hc
  simp only [S, List.mem_map] at hc
  obtain ⟨d, _, rfl⟩ := hc
  have h := d.val.toNat_lt
  have h2 : d.toNat = d.val.toNat := rfl
  omega
mutual
theorem shown_le : ∀ d : D, dataD d = true → wtD d < lim → (PyData.shown (toPy d)).length ≤ wtD d
  | .non, _, _ => by simp only [toPy, PyData.shown, wtD]; exact Nat.le_of_eq rfl
  | .bl b, _, _ => by cases b <;> (simp only [toPy, PyData.shown, wtD]; first | exact Nat.le_of_eq rfl | exact Nat.le_trans (Nat.le_of_eq rfl) (by omega : 4 ≤ 5))
  | .int i, _, h => by
    simp only [toPy, PyData.shown, wtD] at h ⊢
    have go : ∀ k, 0 < k → i.natAbs < 2 ^ k → (Str.ofString (toString i)).length ≤ k + 1 := fun k hk hi => by
      have h1 : i.natAbs.log2 < k := by
        by_cases z : i.natAbs = 0
        · rw [z]; exact hk
        · exact (Nat.log2_lt z).mpr hi
      have h2 := int_text_length_le hk h1
      have h3 : (Str.ofString (toString i)).length = (toString i).length := by
        rw [PySem.Str.ofString_eq_toList]
        show ((toString i).toList.map Char.toNat).toArray.size = _
        rw [List.size_toArray, List.length_map]
        exact String.length_toList
      omega
    split at h
    · rename_i h64
      rw [if_pos h64]
      have := go 64 (by omega) h64
      omega
    · rename_i h64
      rw [if_neg h64]
      split at h
      · rename_i h19
        rw [if_pos h19]
        have := go 1900 (by omega) h19
        omega
      · exact absurd h (by show ¬ lim < lim; omega)
  | .str s, _, _ => by
    simp only [toPy, PyData.shown, wtD]
    have h := PySem.StrLaws.reprText_len (S s) (S_small s)
    rw [S_length] at h
    exact h
  | .tup xs, hd, h => by
    simp only [toPy, PyData.shown, wtD] at h ⊢
    have h1 := piled_le xs (by simpa [dataD] using hd) (by omega)
    have h2 := tuple_le (PyData.shownAll (toPyL xs))
    omega
  | .lst xs, hd, h => by
    simp only [toPy, PyData.shown, wtD] at h ⊢
    have h1 := piled_le xs (by simpa [dataD] using hd) (by omega)
    have h2 := list_le (PyData.shownAll (toPyL xs))
    omega
  | .ref _, h, _ => by simp [dataD] at h
  | .scr _, h, _ => by simp [dataD] at h
  | .dct _, h, _ => by simp [dataD] at h
  | .rep _, h, _ => by simp [dataD] at h
theorem piled_le : ∀ ds : List D, dataL ds = true → wtL ds < lim → PySem.piled (PyData.shownAll (toPyL ds)) ≤ wtL ds
  | [], _, _ => by simp [toPyL, PyData.shownAll, PySem.piled, wtL]
  | x :: xs, hd, h => by
    simp only [dataL, Bool.and_eq_true] at hd
    simp only [wtL] at h
    simp only [toPyL, PyData.shownAll, wtL]
    rw [PySem.piled_cons]
    have h1 := shown_le x hd.1 (by omega)
    have h2 := piled_le xs hd.2 (by omega)
    omega
end
mutual
theorem showable_ok : ∀ d : D, dataD d = true → wtD d < lim → PyData.showable (toPy d) = true
  | .non, _, _ => by simp [toPy, PyData.showable]
  | .bl b, _, _ => by simp [toPy, PyData.showable]
  | .int i, _, h => by
    simp only [toPy, PyData.showable, wtD] at h ⊢
    have go : i.natAbs < 2 ^ 1900 → i.natAbs.log2 < 1920 := fun hi => by
      by_cases z : i.natAbs = 0
      · rw [z]; decide
      · have := (Nat.log2_lt z).mpr hi
        omega
    refine decide_eq_true (go ?_)
    split at h
    · rename_i h64
      exact Nat.lt_trans h64 (Nat.pow_lt_pow_right (by omega) (by omega))
    · split at h
      · rename_i h19; exact h19
      · exact absurd h (by show ¬ lim < lim; omega)
  | .str s, _, _ => by simp [toPy, PyData.showable]
  | .tup xs, hd, h => by
    simp only [toPy, PyData.showable, wtD] at h ⊢
    exact showable_okL xs (by simpa [dataD] using hd) (by omega)
  | .lst xs, hd, h => by
    simp only [toPy, PyData.showable, wtD] at h ⊢
    exact showable_okL xs (by simpa [dataD] using hd) (by omega)
  | .ref _, h, _ => by simp [dataD] at h
  | .scr _, h, _ => by simp [dataD] at h
  | .dct _, h, _ => by simp [dataD] at h
  | .rep _, h, _ => by simp [dataD] at h
theorem showable_okL : ∀ ds : List D, dataL ds = true → wtL ds < lim → PyData.showableAll (toPyL ds) = true
  | [], _, _ => by simp [toPyL, PyData.showableAll]
  | x :: xs, hd, h => by
    simp only [dataL, Bool.and_eq_true] at hd
    simp only [wtL] at h
    simp only [toPyL, PyData.showableAll, Bool.and_eq_true]
    exact ⟨showable_ok x hd.1 (by omega), showable_okL xs hd.2 (by omega)⟩
end
mutual
theorem shown_leR : ∀ d : D, datR d = true → wtD d < lim → (PyData.shown (toPy d)).length ≤ wtD d
  | .non, _, _ => by simp only [toPy, PyData.shown, wtD]; exact Nat.le_of_eq rfl
  | .bl b, _, _ => by cases b <;> (simp only [toPy, PyData.shown, wtD]; first | exact Nat.le_of_eq rfl | exact Nat.le_trans (Nat.le_of_eq rfl) (by omega : 4 ≤ 5))
  | .int i, _, h => by
    simp only [toPy, PyData.shown, wtD] at h ⊢
    have go : ∀ k, 0 < k → i.natAbs < 2 ^ k → (Str.ofString (toString i)).length ≤ k + 1 := fun k hk hi => by
      have h1 : i.natAbs.log2 < k := by
        by_cases z : i.natAbs = 0
        · rw [z]; exact hk
        · exact (Nat.log2_lt z).mpr hi
      have h2 := int_text_length_le hk h1
      have h3 : (Str.ofString (toString i)).length = (toString i).length := by
        rw [PySem.Str.ofString_eq_toList]
        show ((toString i).toList.map Char.toNat).toArray.size = _
        rw [List.size_toArray, List.length_map]
        exact String.length_toList
      omega
    split at h
    · rename_i h64
      rw [if_pos h64]
      have := go 64 (by omega) h64
      omega
    · rename_i h64
      rw [if_neg h64]
      split at h
      · rename_i h19
        rw [if_pos h19]
        have := go 1900 (by omega) h19
        omega
      · exact absurd h (by show ¬ lim < lim; omega)
  | .str s, _, _ => by
    simp only [toPy, PyData.shown, wtD]
    have h := PySem.StrLaws.reprText_len (S s) (S_small s)
    rw [S_length] at h
    exact h
  | .tup xs, hd, h => by
    simp only [toPy, PyData.shown, wtD] at h ⊢
    have h1 := piled_leR xs (by simpa [datR] using hd) (by omega)
    have h2 := tuple_le (PyData.shownAll (toPyL xs))
    omega
  | .lst xs, hd, h => by
    simp only [toPy, PyData.shown, wtD] at h ⊢
    have h1 := piled_leR xs (by simpa [datR] using hd) (by omega)
    have h2 := list_le (PyData.shownAll (toPyL xs))
    omega
  | .ref _, h, _ => by simp [datR] at h
  | .scr _, h, _ => by simp [datR] at h
  | .dct kvs, h, _ => by
    simp only [datR, Bool.or_eq_true, decide_eq_true_eq] at h
    rcases h with rfl | rfl <;> (first | decide +kernel | exact Nat.le_of_eq rfl | exact Nat.le_trans (Nat.le_of_eq rfl) (by decide : 8 ≤ 618))
  | .rep _, h, _ => by simp [datR] at h
theorem piled_leR : ∀ ds : List D, datRL ds = true → wtL ds < lim → PySem.piled (PyData.shownAll (toPyL ds)) ≤ wtL ds
  | [], _, _ => by simp [toPyL, PyData.shownAll, PySem.piled, wtL]
  | x :: xs, hd, h => by
    simp only [datRL, Bool.and_eq_true] at hd
    simp only [wtL] at h
    simp only [toPyL, PyData.shownAll, wtL]
    rw [PySem.piled_cons]
    have h1 := shown_leR x hd.1 (by omega)
    have h2 := piled_leR xs hd.2 (by omega)
    omega
end
mutual
theorem showable_okR : ∀ d : D, datR d = true → wtD d < lim → PyData.showable (toPy d) = true
  | .non, _, _ => by simp [toPy, PyData.showable]
  | .bl b, _, _ => by simp [toPy, PyData.showable]
  | .int i, _, h => by
    simp only [toPy, PyData.showable, wtD] at h ⊢
    have go : i.natAbs < 2 ^ 1900 → i.natAbs.log2 < 1920 := fun hi => by
      by_cases z : i.natAbs = 0
      · rw [z]; decide
      · have := (Nat.log2_lt z).mpr hi
        omega
    refine decide_eq_true (go ?_)
    split at h
    · rename_i h64
      exact Nat.lt_trans h64 (Nat.pow_lt_pow_right (by omega) (by omega))
    · split at h
      · rename_i h19; exact h19
      · exact absurd h (by show ¬ lim < lim; omega)
  | .str s, _, _ => by simp [toPy, PyData.showable]
  | .tup xs, hd, h => by
    simp only [toPy, PyData.showable, wtD] at h ⊢
    exact showable_okRL xs (by simpa [datR] using hd) (by omega)
  | .lst xs, hd, h => by
    simp only [toPy, PyData.showable, wtD] at h ⊢
    exact showable_okRL xs (by simpa [datR] using hd) (by omega)
  | .ref _, h, _ => by simp [datR] at h
  | .scr _, h, _ => by simp [datR] at h
  | .dct kvs, h, _ => by
    simp only [datR, Bool.or_eq_true, decide_eq_true_eq] at h
    rcases h with rfl | rfl <;> (first | rfl | decide +kernel)
  | .rep _, h, _ => by simp [datR] at h
theorem showable_okRL : ∀ ds : List D, datRL ds = true → wtL ds < lim → PyData.showableAll (toPyL ds) = true
  | [], _, _ => by simp [toPyL, PyData.showableAll]
  | x :: xs, hd, h => by
    simp only [datRL, Bool.and_eq_true] at hd
    simp only [wtL] at h
    simp only [toPyL, PyData.showableAll, Bool.and_eq_true]
    exact ⟨showable_okR x hd.1 (by omega), showable_okRL xs hd.2 (by omega)⟩
end
mutual
theorem depR : ∀ d : D, datR d = true → (toPy d).depth = depD d
  | .non, _ => by simp [toPy, PyData.depth, depD]
  | .bl _, _ => by simp [toPy, PyData.depth, depD]
  | .int _, _ => by simp [toPy, PyData.depth, depD]
  | .str s, _ => by simp [toPy, PyData.depth, depD]
  | .tup xs, h => by
    simp only [toPy, PyData.depth, depD]
    rw [depRL xs (by simpa [datR] using h)]
  | .lst xs, h => by
    simp only [toPy, PyData.depth, depD]
    rw [depRL xs (by simpa [datR] using h)]
  | .ref _, h => by simp [datR] at h
  | .scr _, h => by simp [datR] at h
  | .dct kvs, h => by
    simp only [datR, Bool.or_eq_true, decide_eq_true_eq] at h
    rcases h with rfl | rfl <;> (first | rfl | decide +kernel)
  | .rep _, h => by simp [datR] at h
theorem depRL : ∀ ds : List D, datRL ds = true → PyData.depthAll (toPyL ds) = depL ds
  | [], _ => by simp [toPyL, PyData.depthAll, depL]
  | x :: xs, h => by
    simp only [datRL, Bool.and_eq_true] at h
    simp only [toPyL, PyData.depthAll, depL]
    rw [depR x h.1, depRL xs h.2]
end
/-- sys.modules stands in the known part, as a dict -/
def SysK (K : PySem.W.Frag) : Prop := ∃ o, K.lookup sysModules = some o ∧ o.cls = .type "dict"
section
variable {X : Cx} {om : Om} {io : List Addr} {H : Hp} {pins : List (Addr × Obj)} {σ : L2.St} {s : Shared}
theorem SysK.ne (sk : SysK X.K) (I : Inv X pins σ H s) {a : Addr} {o : Obj} {c : String} (h : s.heap.get? a = some o) (hc : o.cls = .type c) (hn : c ≠ "dict") : a ≠ sysModules := fun e => by
  obtain ⟨o2, h1, h2⟩ := sk
  have h3 := I.kIn _ _ h1
  rw [← e, h] at h3
  cases h3
  rw [hc] at h2
  injection h2 with h2
  exact hn h2
mutual
theorem rp_reads (sk : SysK X.K) (I : Inv X pins σ H s) : ∀ (d : D) (v : V) (u : Value), datR d = true → Rp X.K om io H v d → RelV v u → ∃ as, Reads s.heap u (toPy d) as ∧ sysModules ∉ as
  | .non, _, _, _, .non, r => by
    cases r
    simp only [toPy]
    exact ⟨_, .none, by simp⟩
  | .bl _, _, _, _, .bl b, r => by
    cases r
    simp only [toPy]
    exact ⟨_, .bool b, by simp⟩
  | .int _, _, _, _, .int i, r => by
    obtain ⟨t, rfl⟩ := r
    simp only [toPy]
    exact ⟨_, .int i t, by simp⟩
  | .str _, _, _, _, .str x, r => by
    obtain ⟨t, rfl⟩ := r
    simp only [toPy]
    exact ⟨_, .str _ t, by simp⟩
  | .lst ds, _, _, h, .lst ha _ _ t, r => by
    cases r
    simp only [toPy]
    obtain ⟨its, rv, ⟨o, n, ho, hc, _, hd⟩, _⟩ := I.list (.inl (.inl ha))
    obtain ⟨as, hr, hn⟩ := rp_readsL sk I ds _ its (by simpa [datR] using h) t rv
    refine ⟨_, .list ho hc hd hr, ?_⟩
    simp only [List.mem_cons, not_or]
    exact ⟨fun e => sk.ne I ho hc (by decide) e.symm, hn⟩
  | .tup ds, _, _, h, .tup ha _ _ t, r => by
    cases r
    simp only [toPy]
    obtain ⟨its, rv, ⟨o, ho, hc, n, hd⟩, _⟩ := I.tuple (.inl (.inl ha))
    obtain ⟨as, hr, hn⟩ := rp_readsL sk I ds _ its (by simpa [datR] using h) t rv
    exact ⟨_, .tuple ho hc hd hr, hn⟩
  | .dct kvs, _, _, h, .dct ha _ _, r => by
    cases r
    simp only [datR, Bool.or_eq_true, decide_eq_true_eq] at h
    obtain ⟨_, hs, vs, kv, o, es, ep, ho, hx, hd, _, hp, _⟩ := L2.dk_of I.hok ha
    have hs' : ¬ _ = sysModules := beq_eq_false_iff_ne.mp hs
    rcases h with rfl | rfl
    · cases kv
      have hes : es.toList = [] := List.length_eq_zero_iff.mp hp.length
      refine ⟨_, .dict (kvs := []) (as := []) (bs := []) ho hx.1 hd ?_ ?_, ?_⟩
      · rw [hes]; exact .nil
      · rw [hes]; exact .nil
      · simp only [List.append_nil, List.mem_cons, List.not_mem_nil, or_false]
        exact fun e => hs' e.symm
    · cases kv with
      | cons k1 kt =>
        cases kt
        rename_i q _
        obtain ⟨z1, z2⟩ := q
        obtain ⟨k1, k2⟩ := k1
        have k1' : Sum.inr (S ['a']) = z1 := k1
        obtain ⟨t2, e2⟩ := (show ∃ t, z2 = Value.int 1 t from k2)
        rw [← k1', e2] at hp
        generalize hes : es.toList = el at hp
        cases hp with
        | cons p1 p2 p3 =>
          cases p3
          rename_i en
          obtain ⟨t1, e1⟩ := Value.isStrOf_shape (x := S ['a']) (v := en.key) p1
          refine ⟨_, .dict (kvs := [(.str (S ['a']), .int 1)]) (as := [] ++ []) (bs := [] ++ []) ho hx.1 hd ?_ ?_, ?_⟩
          · rw [hes]
            show ReadsAll _ [en.key] _ _
            rw [e1]
            exact .cons (.str _ t1) .nil
          · rw [hes]
            show ReadsAll _ [en.val] _ _
            rw [p2]
            exact .cons (.int 1 t2) .nil
          · simp only [List.append_nil, List.mem_cons, List.not_mem_nil, or_false]
            exact fun e => hs' e.symm
  | .ref _, _, _, h, _, _ => by simp [datR] at h
  | .scr _, _, _, h, _, _ => by simp [datR] at h
  | .rep _, _, _, h, _, _ => by simp [datR] at h
theorem rp_readsL (sk : SysK X.K) (I : Inv X pins σ H s) : ∀ (ds : List D) (vs : List V) (us : List Value), datRL ds = true → Rps X.K om io H vs ds → L2.Vals vs us → ∃ as, ReadsAll s.heap us (toPyL ds) as ∧ sysModules ∉ as
  | [], _, _, _, .nil, r => by
    cases r
    simp only [toPyL]
    exact ⟨_, .nil, by simp⟩
  | d :: ds, _, _, h, .cons h1 h2, r => by
    cases r with
    | cons r1 r2 =>
      simp only [datRL, Bool.and_eq_true] at h
      simp only [toPyL]
      obtain ⟨as, q1, n1⟩ := rp_reads sk I d _ _ h.1 h1 r1
      obtain ⟨bs, q2, n2⟩ := rp_readsL sk I ds _ _ h.2 h2 r2
      refine ⟨_, .cons q1 q2, ?_⟩
      rw [List.mem_append, not_or]
      exact ⟨n1, n2⟩
end
end
section
variable {X : Cx} {om : Om} {io : List Addr} {H : Hp} {h : Hh} {d x : D} {Q : VK} {v : V}
theorem repr_data {y : D} (hu : X.A.units + 65 < cLine) (hg : X.A.guards = some []) (hd : dataD y = true) (hw : wtD y < lim) (hp : depD y ≤ 60) (dp : Dp X.K H v (toPy y)) (hr : ∃ a, v = .ref a) (q : Q (.str (PyData.shown (toPy y))) H) : RC X (.builtin "repr") [v] H Q := by
  intro pins s σ us I r
  obtain ⟨a, rfl⟩ := hr
  cases r with
  | cons r t =>
    cases t
    cases r
    obtain ⟨as, rd⟩ := Dp.reads I (toPy y) (.ref a) (.ref a) dp rfl
    refine repr_of_reads' rd (showable_ok y hd hw) (PyData.noDict_hsm (PyData.hasDict_of_canLay _ (canLay_data y hd))) hg ?_ (fun b o e => e) (fun h' u tk hk => ⟨.str _, H, I.kept hk, ⟨_, rfl⟩, q⟩) (lim_line (Nat.le_of_lt (Nat.lt_of_le_of_lt (shown_le y hd hw) hw)))
    rw [dep_data y hd]
    omega
theorem repr_R (sk : SysK X.K) (hu : X.A.units + 65 < cLine) (hg : X.A.guards = some []) (e : reprR x = some d) (rx : Rp X.K om io H v x) (R : HpRp X.K om io H h) (q : Post X.K om io H h d Q) : RC X (.builtin "repr") [v] H Q := by
  unfold reprR at e
  split at e
  · rename_i hc
    simp only [Bool.and_eq_true, decide_eq_true_eq] at hc
    obtain ⟨hd, hw, hp⟩ := hc
    cases e
    have q1 := q.here R (.rep x)
    have hfit := lim_line (Nat.le_of_lt (Nat.lt_of_le_of_lt (shown_leR x hd hw) hw))
    have hsh := showable_okR x hd hw
    intro pins s σ us I r
    cases r with
    | cons r t =>
      cases t
      rename_i u
      obtain ⟨as, rd, hn⟩ := rp_reads sk I x v u hd rx r
      cases rx with
      | non =>
        cases r
        have e1 : PyData.shown (toPy D.non) = ("None" : Str) := by simp [toPy, PyData.shown]
        rw [e1] at q1
        exact PySem.P.repr_of_none ⟨.str _, H, I.tok _, ⟨_, rfl⟩, q1⟩
      | bl b =>
        cases r
        have e1 : PyData.shown (toPy (D.bl b)) = (if b then "True" else "False" : Str) := by simp [toPy, PyData.shown]
        rw [e1] at q1
        exact PySem.P.repr_of_bool ⟨.str _, H, I.tok _, ⟨_, by cases b <;> rfl⟩, q1⟩
      | int i =>
        obtain ⟨t, rfl⟩ := r
        have e1 : PyData.shown (toPy (D.int i)) = (Str.ofString (toString i)) := by simp only [toPy, PyData.shown]
        rw [e1] at q1
        refine PySem.P.repr_of_int ?_ ⟨.str _, H, I.tok _, ⟨_, rfl⟩, q1⟩
        simp only [toPy, PyData.showable, decide_eq_true_eq] at hsh
        exact hsh
      | str z =>
        obtain ⟨t, rfl⟩ := r
        have e1 : PyData.shown (toPy (D.str z)) = reprText (S z) := by simp only [toPy, PyData.shown]
        rw [e1] at q1 hfit
        exact PySem.P.repr_of_str ⟨.str _, H, I.tok _, ⟨_, rfl⟩, q1⟩ (hsz := hfit)
      | tup _ _ _ _ =>
        cases r
        exact repr_of_reads' rd hsh (fun _ => hn) hg (by rw [depR _ hd]; omega) (fun b o e => e) (fun h' u tk hk => ⟨.str _, H, I.kept hk, ⟨_, rfl⟩, q1⟩) hfit
      | lst _ _ _ _ =>
        cases r
        exact repr_of_reads' rd hsh (fun _ => hn) hg (by rw [depR _ hd]; omega) (fun b o e => e) (fun h' u tk hk => ⟨.str _, H, I.kept hk, ⟨_, rfl⟩, q1⟩) hfit
      | dct _ _ _ =>
        cases r
        exact repr_of_reads' rd hsh (fun _ => hn) hg (by rw [depR _ hd]; omega) (fun b o e => e) (fun h' u tk hk => ⟨.str _, H, I.kept hk, ⟨_, rfl⟩, q1⟩) hfit
      | _ => simp [datR] at hd
  · cases e
theorem repr_ok (sk : SysK X.K) (hu : X.A.units + 65 < cLine) (hg : X.A.guards = some []) (e : biD h .repr x = some d) (rx : Rp X.K om io H v x) (R : HpRp X.K om io H h) (q : Post X.K om io H h d Q) : RC X (.builtin "repr") [v] H Q := by
  have e1 : (match view h 8 x with
    | some (.tup xs) => if dataL xs && decide (wtD (.tup xs) < lim) && decide (depD (.tup xs) ≤ 60) then some (D.rep (.tup xs)) else reprR x
    | some (.lst xs) => if dataL xs && decide (wtD (.lst xs) < lim) && decide (depD (.lst xs) ≤ 60) then some (D.rep (.lst xs)) else reprR x
    | _ => reprR x) = some d := e
  split at e1
  · rename_i xs hv
    split at e1
    · rename_i hc
      simp only [Bool.and_eq_true, decide_eq_true_eq] at hc
      have e2 := Option.some.inj e1
      subst e2
      have hd : dataD (.tup xs) = true := by simpa [dataD] using hc.1.1
      have dp := view_dp R 8 x _ v hv hd rx
      refine repr_data hu hg hd hc.1.2 hc.2 dp ?_ (q.here R (.rep _))
      simp only [toPy] at dp
      cases dp with
      | tup _ _ => exact ⟨_, rfl⟩
    · exact repr_R sk hu hg e1 rx R q
  · rename_i xs hv
    split at e1
    · rename_i hc
      simp only [Bool.and_eq_true, decide_eq_true_eq] at hc
      have e2 := Option.some.inj e1
      subst e2
      have hd : dataD (.lst xs) = true := by simpa [dataD] using hc.1.1
      have dp := view_dp R 8 x _ v hv hd rx
      refine repr_data hu hg hd hc.1.2 hc.2 dp ?_ (q.here R (.rep _))
      simp only [toPy] at dp
      cases dp with
      | lst _ _ => exact ⟨_, rfl⟩
    · exact repr_R sk hu hg e1 rx R q
  · exact repr_R sk hu hg e1 rx R q
end
end Mini
end
section
set_option Elab.async false
set_option linter.all false
set_option autoImplicit false
set_option maxRecDepth 100000
/-! SoundK: the walk over the top, sys.modules looked at too. -/
namespace Mini
open PySem PySem.Spec PyProof.Rows He
def sysB (K : PySem.W.Frag) : Bool := match K.lookup sysModules with
  | some o => (match o.cls with
    | .type c => decide (c = "dict")
    | _ => false)
  | none => false
theorem sysK_of {K : PySem.W.Frag} (h : sysB K = true) : SysK K := by
  unfold sysB at h
  split at h
  · rename_i o ho
    split at h
    · rename_i c hc
      exact ⟨o, ho, by rw [hc, of_decide_eq_true h]⟩
    · cases h
  · cases h
def obsS (n : Nat) (fa : List Fa) (fn : List DefD) (g : Addr → Option Obj) : AlD × Bool := (obsD fa fn (frG g (sysModules :: asD g n)), sysB (frG g (sysModules :: asD g n)))
def hookS (n : Nat) (fa : List Fa) (fn : List DefD) : PySem.W.Hook where
  α := AlD × Bool
  obs := fun s => obsS n fa fn s.heap.get?
  val := fun _ => (valD fn, true)
  says := fun _ h => ∃ K : PySem.W.Frag, K.In h ∧ SaysD fa fn K ∧ SysK K
  of := fun _ _ e => ⟨_, frG_in, congrArg (fun z : AlD × Bool => z.1) e, sysK_of (congrArg (fun z : AlD × Bool => z.2) e)⟩
  keeps := fun _ _ _ ⟨K, hK, c⟩ k => ⟨K, PySem.W.Frag.In.keeps hK k, c⟩
theorem obsS_eq {n : Nat} {fa : List Fa} {fn : List DefD} {g : Addr → Option Obj} {s : Shared} (h : ∀ a, g a = s.heap.get? a) : obsS n fa fn g = (hookS n fa fn).obs s := by
  have e : g = s.heap.get? := funext h
  rw [e] <;> rfl
end Mini
end
section
set_option Elab.async false
set_option linter.all false
set_option autoImplicit false
set_option maxRecDepth 100000
/-! SoundI: enumerate over a tuple and over a text. -/
namespace RE
open PySem PySem.Spec PyProof.Rows L2

/-- the items of the tuple at a, n of them, each in a new pair -/
def IteT (K : PySem.W.Frag) (a : Addr) (n : Nat) : It :=
  ⟨fun i H => i < n ∧ ∃ (xs : List V) (x : V), SqT K H a xs ∧ xs.length = n ∧ xs[i]? = some x, fun i H v H' => ∃ T x, v = .ref T ∧ H T = none ∧ H' = upd H T (.tup [.int (i : Nat), x]) ∧ ∀ xs, SqT K H a xs → xs[i]? = some x, fun i H => n ≤ i ∧ ∃ xs : List V, SqT K H a xs ∧ xs.length = n⟩
theorem apart {h : Heap} {a it : Addr} {i : Nat} {items : Array Value} (h1 : h.IsTuple a items) (h2 : h.IsTupleIter it a i) : a ≠ it := fun z => by
  subst z
  obtain ⟨o, e1, c1, _⟩ := h1
  obtain ⟨o', e2, c2, _⟩ := h2
  rw [e1] at e2
  cases e2
  rw [c1] at c2
  injection c2 with c2
  exact absurd c2 (by decide)
theorem apart2 {h : Heap} {a e it : Addr} {i : Int} {old : Value} {items : Array Value} (h1 : h.IsTuple a items) (h2 : IsEnum h e it i old) : e ≠ a := fun z => by
  subst z
  obtain ⟨o, e1, c1, _⟩ := h1
  have e2 : h.get? e = some _ := h2
  rw [e1] at e2
  cases e2
  injection c1 with c1
  exact absurd c1 (by decide)
theorem turn_enumT {P : Program} {w : World} {K : PySem.W.Frag} {elts : List Expr} {kk : Nat} {tpos : Pos} (a e it : Addr) (n : Nat) :
    Turn P w K (.Tuple elts kk tpos) (IteT K a n) [e, it] e (fun i h => (∃ old, IsEnum h e it ((i : Nat) : Int) old) ∧ h.IsTupleIter it a i ∧ e ≠ it ∧ i ≤ n) where
  mem := by simp
  obj := fun i h st b hb => by
    obtain ⟨⟨old, he⟩, ⟨o, ho, hc, hd⟩, _⟩ := st
    have e' : b = e ∨ b = it := by simpa using hb
    rcases e' with z | z
    · rw [z]; exact ⟨_, he, fun v q => nomatch q⟩
    · rw [z]; exact ⟨o, ho, fun v q => by rw [hd] at q; cases q⟩
  keep := fun i h h' st k => let ⟨⟨old, he⟩, hi, hne⟩ := st; ⟨⟨old, k e (by simp) _ he⟩, hi.at fun o q => k it (by simp) o q, hne⟩
  item := by
    intro X hP hw hK hc i pins s σ H E I hf st hg
    subst hP hw hK
    obtain ⟨⟨old, he⟩, hit, hne, hin⟩ := st
    obtain ⟨hlt, xs, x, hq, hxl, hx⟩ := hg
    obtain ⟨its, rv, p, hz⟩ := I.tuple hq
    obtain ⟨u, hu, ru⟩ := rv.get hx
    have p : s.heap.IsTuple a its.toArray := p
    have hel : e < s.heap.objs.size := Heap.lt_size he
    have hil : it < s.heap.objs.size := by obtain ⟨_, q, _⟩ := hit; exact Heap.lt_size q
    have D := Draws.tuple (prog := X.prog) (w := X.w) (A := X.A.in1) (I.ok.hd hc) it a (apart p hit) its.toArray
    have hsz : its.toArray.size = n := by rw [List.size_toArray, ← rv.length, hxl]
    refine wpAny_pyNext_enum_itemD D he ⟨hit, p⟩ (by rw [hsz]; exact hlt) hne (by simp [hne, apart2 p he]) fun y h' tk hP ho hst hT hsz' hk => ?_
    have hy : y = u := by
      have hu' : its.toArray[i]? = some u := by simpa using hu
      exact Option.some.inj (hP.symm.trans hu')
    subst hy
    refine ⟨_, rfl, wpAny_letOwnedTupleGo_enum (s := { s with heap := h', toks := tk + 1 }) ho fun h'' he' sb => ?_⟩
    have hT2 : h''.get? s.heap.objs.size = some { cls := .type "tuple", data := .seq #[.int i tk, y] } := (sb.2 _ (Nat.ne_of_gt hel)).trans hT
    have new : ObjOk X.prog X.w (upd H s.heap.objs.size (.tup [.int (i : Nat), x])) h'' s.heap.objs.size (.tup [.int (i : Nat), x]) :=
      ⟨by show 2 ≤ sizeLine; decide, [.int i tk, y], .cons ⟨_, rfl⟩ (.cons ru .nil), ⟨_, hT2, rfl, _, rfl⟩⟩
    have I1 : Inv X pins σ (upd H s.heap.objs.size (.tup [.int (i : Nat), x])) { s with heap := h'', toks := tk + 1 } :=
      I.turnedNew (ch := [e, it]) (fun b ob hb q => (sb.2 b (fun z => hb (by simp [z]))).trans (hk b ob (fun z => hb (by simp [z])) (fun z => hb (by simp [z])) q)) hf (Nat.le_refl _) new
    refine ⟨.ref s.heap.objs.size, _, I1, rfl, ⟨_, x, rfl, I.hok.fresh (Nat.le_refl _), rfl, fun ys hy => by rw [I.tuple_inj hy hq]; exact hx⟩, ⟨⟨y, ?_⟩, hst.1.at fun o q => (sb.2 it (Ne.symm hne)).trans q, hne, hlt⟩, fun b hb => ?_⟩
    · have e1 : ((i + 1 : Nat) : Int) = (i : Int) + 1 := by omega
      rw [e1]; exact he'
    · have hb' : b < s.heap.objs.size := by
        have e' : b = e ∨ b = it := by simpa using hb
        rcases e' with z | z
        · rw [z]; exact hel
        · rw [z]; exact hil
      rw [upd_ne (Nat.ne_of_lt hb')]
      exact (hf b hb).1
  done := by
    intro X hP hw hK hc i pins s σ H E I hf st hg
    subst hP hw hK
    obtain ⟨⟨old, he⟩, hit, hne, hin⟩ := st
    obtain ⟨hle, xs, hq, hxl⟩ := hg
    obtain ⟨its, rv, p, hz⟩ := I.tuple hq
    have p : s.heap.IsTuple a its.toArray := p
    obtain ⟨f0, f1, f2, f3, f4, f5⟩ := hf it (by simp)
    have D := Draws.tuple (prog := X.prog) (w := X.w) (A := X.A.in1) (I.ok.hd hc) it a (apart p hit) its.toArray
    have hsz : its.toArray.size = n := by rw [List.size_toArray, ← rv.length, hxl]
    have hi : i = its.toArray.size := by rw [hsz]; omega
    subst hi
    exact wpAny_pyNext_enum_endD D he ⟨hit, p⟩ fun h' eb => ⟨rfl, I.turned (t' := s.toks) (fun b o hb q => eb b o hb q) f0 f1 f3 f4 f5⟩
  self := fun A i s Q E st h => let ⟨⟨_, he⟩, _⟩ := st; wpAny_pyIter_enum he h
/-- the signs of a text, each in a new pair -/
def IteS (x : Str) : It :=
  ⟨fun i _ => i < x.cps.size, fun i H v H' => ∃ T c, v = .ref T ∧ H T = none ∧ H' = upd H T (.tup [.int (i : Nat), .str ⟨#[c]⟩]) ∧ x.cps[i]? = some c, fun i _ => x.cps.size ≤ i⟩
theorem turn_enumS {P : Program} {w : World} {K : PySem.W.Frag} {elts : List Expr} {kk : Nat} {tpos : Pos} (x : Str) (t : Tok) (e it : Addr) :
    Turn P w K (.Tuple elts kk tpos) (IteS x) [e, it] e (fun i h => (∃ old, IsEnum h e it ((i : Nat) : Int) old) ∧ h.IsStrIter it (strIterType x) x t i ∧ e ≠ it ∧ i ≤ x.cps.size) where
  mem := by simp
  obj := fun i h st b hb => by
    obtain ⟨⟨old, he⟩, ⟨o, ho, hc, hd⟩, _⟩ := st
    have e' : b = e ∨ b = it := by simpa using hb
    rcases e' with z | z
    · rw [z]; exact ⟨_, he, fun v q => nomatch q⟩
    · rw [z]; exact ⟨o, ho, fun v q => by rw [hd] at q; cases q⟩
  keep := fun i h h' st k => let ⟨⟨old, he⟩, ⟨o, ho, r⟩, hne⟩ := st; ⟨⟨old, k e (by simp) _ he⟩, ⟨o, k it (by simp) o ho, r⟩, hne⟩
  item := by
    intro X hP hw hK hc i pins s σ H E I hf st hg
    subst hP hw hK
    obtain ⟨⟨old, he⟩, hit, hne, hin⟩ := st
    have hlt : i < x.cps.size := hg
    have hel : e < s.heap.objs.size := Heap.lt_size he
    have hil : it < s.heap.objs.size := by obtain ⟨_, q, _⟩ := hit; exact Heap.lt_size q
    have D := Draws.text (prog := X.prog) (w := X.w) (A := X.A.in1) (I.ok.hd hc) it x t
    refine wpAny_pyNext_enum_itemD D he hit hlt hne (by simp [hne]) fun y h' tk hP ho hst hT hsz' hk => ?_
    obtain ⟨c, u, hcx, rfl⟩ := hP
    refine ⟨_, rfl, wpAny_letOwnedTupleGo_enum (s := { s with heap := h', toks := tk + 1 }) ho fun h'' he' sb => ?_⟩
    have hT2 : h''.get? s.heap.objs.size = some { cls := .type "tuple", data := .seq #[.int i tk, .str ⟨#[c]⟩ u] } := (sb.2 _ (Nat.ne_of_gt hel)).trans hT
    have new : ObjOk X.prog X.w (upd H s.heap.objs.size (.tup [.int (i : Nat), .str ⟨#[c]⟩])) h'' s.heap.objs.size (.tup [.int (i : Nat), .str ⟨#[c]⟩]) :=
      ⟨by show 2 ≤ sizeLine; decide, [.int i tk, .str ⟨#[c]⟩ u], .cons ⟨_, rfl⟩ (.cons ⟨_, rfl⟩ .nil), ⟨_, hT2, rfl, _, rfl⟩⟩
    have I1 : Inv X pins σ (upd H s.heap.objs.size (.tup [.int (i : Nat), .str ⟨#[c]⟩])) { s with heap := h'', toks := tk + 1 } :=
      I.turnedNew (ch := [e, it]) (fun b ob hb q => (sb.2 b (fun z => hb (by simp [z]))).trans (hk b ob (fun z => hb (by simp [z])) (fun z => hb (by simp [z])) q)) hf (Nat.le_refl _) new
    have hit' : h''.IsStrIter it (strIterType x) x t (i + 1) := by
      obtain ⟨o, q, r⟩ := hst
      exact ⟨o, (sb.2 it (Ne.symm hne)).trans q, r⟩
    refine ⟨.ref s.heap.objs.size, _, I1, rfl, ⟨_, c, rfl, I.hok.fresh (Nat.le_refl _), rfl, hcx⟩, ⟨⟨.str ⟨#[c]⟩ u, ?_⟩, hit', hne, hlt⟩, fun b hb => ?_⟩
    · have e1 : ((i + 1 : Nat) : Int) = (i : Int) + 1 := by omega
      rw [e1]; exact he'
    · have hb' : b < s.heap.objs.size := by
        have e' : b = e ∨ b = it := by simpa using hb
        rcases e' with z | z
        · rw [z]; exact hel
        · rw [z]; exact hil
      rw [upd_ne (Nat.ne_of_lt hb')]
      exact (hf b hb).1
  done := by
    intro X hP hw hK hc i pins s σ H E I hf st hg
    subst hP hw hK
    obtain ⟨⟨old, he⟩, hit, hne, hin⟩ := st
    have hle : x.cps.size ≤ i := hg
    obtain ⟨f0, f1, f2, f3, f4, f5⟩ := hf it (by simp)
    have D := Draws.text (prog := X.prog) (w := X.w) (A := X.A.in1) (I.ok.hd hc) it x t
    have hi : i = x.cps.size := by omega
    subst hi
    exact wpAny_pyNext_enum_endD D he hit fun h' eb => ⟨rfl, I.turned (t' := s.toks) (fun b o hb q => eb b o hb q) f0 f1 f3 f4 f5⟩
  self := fun A i s Q E st h => let ⟨⟨_, he⟩, _⟩ := st; wpAny_pyIter_enum he h
theorem meets_enumerate_newT (t : Addr) (items : Array Value) (n : Nat) (dct : Option Addr) (sl : Array (Option Value)) :
    Meets (Builtin.«enumerate.__new__» ⟨[.type "enumerate", .ref t], []⟩) (fun _ R s => s.heap.get? t = some { cls := .type "tuple", dict := dct, data := .seq items n, slots := sl } ∧
      R (.ok (.ret (.ref (s.heap.push { cls := .type "tuple_iterator", data := .fields #[.ref t, .int 0 0] }).objs.size)))
        { s with heap := (s.heap.push { cls := .type "tuple_iterator", data := .fields #[.ref t, .int 0 0] }).push { cls := .type "enumerate", data := .fields #[.none, .bool false, .ref s.heap.objs.size, rawInt 0, .none, .none] } }) :=
  .of_wp fun prog w A R s h => by
    obtain ⟨hp, g, d, tk, os⟩ := s; obtain ⟨hl, h⟩ := h
    have hsub := sub_enumerate
    have hL : Heap.IsTuple (Shared.heap ⟨hp, g, d, tk, os⟩) t items := ⟨_, hl, rfl, n, rfl⟩
    wp_walk using wpAny_pyIter_tuple hL
    refine wpAny_stack_any fun st => wpAny_pure ?_
    split
    · rename_i c _ _ _ _ _
      cases (c == Value.type "enumerate")
      · wp_walk using wpAny_pyIter_tuple hL
        exact ⟨_, rfl, h⟩
      · wp_walk using wpAny_pyIter_tuple hL
        exact ⟨_, rfl, h⟩
    · wp_walk using wpAny_pyIter_tuple hL
      exact ⟨_, rfl, h⟩
section
variable {prog : Program} {w : World} {A : Around} {E : Value → Shared → Prop} {s : Shared}
theorem call_enumerate_tuple {l : Addr} {items : Array Value} {Q : Value → Shared → Prop} (hL : s.heap.IsTuple l items)
    (h : ∀ h', IsEnum h' (s.heap.objs.size + 1) s.heap.objs.size 0 .none → h'.IsTupleIter s.heap.objs.size l 0 → h'.objs.size = s.heap.objs.size + 2 →
      (∀ b o, s.heap.get? b = some o → h'.get? b = some o) → Q (.ref (s.heap.objs.size + 1)) { s with heap := h' }) :
    wpAny (model prog w) A (call (.type "enumerate") [.ref l]) Q E s := by
  obtain ⟨⟨c, dct, dt, sl⟩, hl, hc, n, hd⟩ := hL
  replace hc : c = .type "tuple" := hc
  replace hd : dt = .seq items n := hd
  subst hc hd
  refine callType_new F.called_enumerate (by decide) (F.typeCall_enumerate_1 _) (F.newCall_enumerate_1 _) (fun obj => F.args_object_init_2 obj _) F.entry_enumerate_new
    (meets_enumerate_newT l items n dct sl) ⟨hl, ?_⟩
  have hz : (s.heap.push { cls := .type "tuple_iterator", data := .fields #[.ref l, .int 0 0] }).objs.size = s.heap.objs.size + 1 := Heap.size_push ..
  show _ ∧ _
  rw [hz]
  have he : IsEnum ((s.heap.push { cls := .type "tuple_iterator", data := .fields #[.ref l, .int 0 0] }).push
      { cls := .type "enumerate", data := .fields #[.none, .bool false, .ref s.heap.objs.size, rawInt 0, .none, .none] }) (s.heap.objs.size + 1) s.heap.objs.size 0 .none := by
    have := Heap.get?_push_size (s.heap.push { cls := .type "tuple_iterator", data := .fields #[.ref l, .int 0 0] })
      (o := { cls := .type "enumerate", data := .fields #[.none, .bool false, .ref s.heap.objs.size, rawInt 0, .none, .none] }) rfl
    rw [hz] at this; exact this
  refine ⟨⟨_, he, rfl⟩, h _ he ⟨_, Heap.get?_push_of_some _ (Heap.get?_push_size _ rfl), rfl, rfl⟩ (by rw [Heap.size_push, hz]) fun b o x => Heap.get?_push_of_some _ (Heap.get?_push_of_some _ x)⟩
end
/-- enumerate of a list, a tuple or a text -/
def iEnumA (K : PySem.W.Frag) (ta : TA) : TI := fun σ H R => ta σ H fun vs H1 => (∃ a xs, vs = [.ref a] ∧ SqL K H1 a xs ∧ R (Ite K a) H1) ∨ (∃ a xs, vs = [.ref a] ∧ SqT K H1 a xs ∧ R (IteT K a xs.length) H1) ∨ ∃ x, vs = [.str x] ∧ R (IteS x) H1
theorem pi_enumA {X : Cx} {e : Expr} {ta : TA} {p pos tpos : Pos} {elts : List Expr} {kk : Nat} (hg : Gl X "enumerate") (hm : X.mg "enumerate" = none) (ha : PA X [e] ta) (hs : starEach [e] X.env = [(false, eval e X.env)] := by rfl) :
    PI X (.Tuple elts kk tpos) (.Call (.Name "enumerate" p) [e] [] pos) (iEnumA X.K ta) := by
  refine ⟨fun pins s σ H R I h => ?_⟩
  refine Call_ (ld_blt I hg hm boot_enumerate (PyProof.Rows.callWith_type1 (thn (ha.run pos pins s σ H _ I h) fun us s1 ⟨vs, H1, I1, r1, q1⟩ => ?_) hs rfl))
  have fresh2 : ∀ b ∈ [s1.heap.objs.size + 1, s1.heap.objs.size], FpOk X pins H1 b := fun b hb => by
    have e' : b = s1.heap.objs.size + 1 ∨ b = s1.heap.objs.size := by simpa using hb
    have hle : s1.heap.objs.size ≤ b := by
      rcases e' with z | z
      · rw [z]; exact Nat.le_add_right _ _
      · rw [z]; exact Nat.le_refl _
    exact I1.fpOk hle (I1.hok.fresh hle)
  rcases q1 with ⟨a, xs, ex, hq, q⟩ | ⟨a, xs, ex, hq, q⟩ | ⟨x, ex, q⟩
  · subst ex
    cases r1 with
    | cons r rr =>
      cases rr
      cases r
      obtain ⟨its, rv, p', hz⟩ := I1.list hq
      refine call_enumerate_list p'.isList fun h' he hit hsz hk => wpAny_pyIter_enum he ?_
      have I2 : Inv X pins σ H1 { s1 with heap := h' } := I1.kept (t' := s1.toks) hk
      exact ⟨s1.heap.objs.size + 1, [s1.heap.objs.size + 1, s1.heap.objs.size], _, _, H1, rfl, I2, turn_enum a (s1.heap.objs.size + 1) s1.heap.objs.size, ⟨⟨.none, he⟩, hit, Nat.succ_ne_self _⟩, fresh2, q⟩
  · subst ex
    cases r1 with
    | cons r rr =>
      cases rr
      cases r
      obtain ⟨its, rv, p', hz⟩ := I1.tuple hq
      refine call_enumerate_tuple (show s1.heap.IsTuple a its.toArray from p') fun h' he hit hsz hk => wpAny_pyIter_enum he ?_
      have I2 : Inv X pins σ H1 { s1 with heap := h' } := I1.kept (t' := s1.toks) hk
      exact ⟨s1.heap.objs.size + 1, [s1.heap.objs.size + 1, s1.heap.objs.size], _, _, H1, rfl, I2, turn_enumT a (s1.heap.objs.size + 1) s1.heap.objs.size xs.length, ⟨⟨.none, he⟩, hit, Nat.succ_ne_self _, Nat.zero_le _⟩, fresh2, q⟩
  · subst ex
    cases r1 with
    | cons r rr =>
      cases rr
      obtain ⟨t, rfl⟩ := r
      refine call_enumerate_str fun h' he hit hsz hk => wpAny_pyIter_enum he ?_
      have I2 : Inv X pins σ H1 { s1 with heap := h' } := I1.kept (t' := s1.toks) hk
      exact ⟨s1.heap.objs.size + 1, [s1.heap.objs.size + 1, s1.heap.objs.size], _, _, H1, rfl, I2, turn_enumS x t (s1.heap.objs.size + 1) s1.heap.objs.size, ⟨⟨.none, he⟩, hit, Nat.succ_ne_self _, Nat.zero_le _⟩, fresh2, q⟩
end RE
end
section
set_option Elab.async false
set_option linter.all false
set_option autoImplicit false
set_option maxRecDepth 100000
set_option maxHeartbeats 4000000
/-! SoundS: sorted of a list of tuples of ints. -/
namespace RS
open PySem PySem.Spec PyProof.Rows

/-- v is a tuple of the ints ns -/
def IsTI (h : Heap) (v : Value) (ns : List Int) : Prop := ∃ a o xs n, v = .ref a ∧ h.get? a = some o ∧ o.cls = .type "tuple" ∧ o.data = .seq xs n ∧ IntsAre xs.toList ns
theorem IsTI.keeps {h h' : Heap} {v : Value} {ns : List Int} (p : IsTI h v ns) (k : ∀ b o, h.get? b = some o → o.cls = .type "tuple" → h'.get? b = some o) : IsTI h' v ns := by
  obtain ⟨a, o, xs, n, e, ho, hc, hd, hi⟩ := p
  exact ⟨a, o, xs, n, e, k _ _ ho hc, hc, hd, hi⟩
section
variable {prog : Program} {w : World} {A : Around} {E : Value → Shared → Prop} {s : Shared}
theorem lex_go {b : Bool} {Q : Bool → Shared → Prop} : ∀ (i : Nat) (vs ws : List Value) (ns ms : List Int) (k k2 : Nat), IntsAre vs ns → IntsAre ws ms → ns.length + k2 = ms.length + k → Q (HT.lexLt ns ms) s →
    PySem.W.KatLex prog w A b (decide (k < k2)) Q (vs.zip ws) i s := by
  intro i vs
  induction vs generalizing i with
  | nil =>
    intro ws ns ms k k2 hx hy hl h
    cases hx
    rw [List.zip_nil_left]
    refine PySem.W.kat_nil ?_
    cases hy with
    | nil =>
      rw [HT.lexLt_nil_nil] at h
      simp only [List.length_nil] at hl
      rw [decide_eq_false (by omega)]
      exact h
    | cons c u hy =>
      rw [HT.lexLt_nil_cons] at h
      simp only [List.length_nil, List.length_cons] at hl
      rw [decide_eq_true (by omega)]
      exact h
  | cons v vs ih =>
    intro ws ns ms k k2 hx hy hl h
    cases hx with
    | cons p t hx =>
      rename_i ns
      cases hy with
      | nil =>
        rw [List.zip_nil_right]
        refine PySem.W.kat_nil ?_
        rw [HT.lexLt_cons_nil] at h
        simp only [List.length_nil, List.length_cons] at hl
        rw [decide_eq_false (by omega)]
        exact h
      | cons q u hy =>
        rename_i ws ms
        rw [List.zip_cons_cons]
        rw [HT.lexLt_cons] at h
        simp only [List.length_cons] at hl
        refine PySem.W.kat_cons (SeqAt.EqAt.int_int p t q u prog w _ _ ?_)
        refine PySem.W.kat_go (fun e1 => ?_) (fun e1 => ?_)
        · have ex : p = q := by simpa using e1
          rw [if_pos ex] at h
          exact PySem.W.kat_yes (ih (i + 1) ws ns ms k k2 hx hy (by omega) h)
        · have ex : ¬ p = q := by simpa using e1
          rw [if_neg ex] at h
          exact PySem.W.kat_no (TS.oneLt_ints _ h)
/-- a tuple of ints before another one, as a list's sort asks -/
theorem oneLt_tup {f : Bool} {v u : Value} {ns ms : List Int} {Q : Bool → Shared → Prop} (hu : A.units < cLine) (h1 : IsTI s.heap v ns) (h2 : IsTI s.heap u ms) (h : Q (HT.lexLt ns ms) s) : wpAny (model prog w) A (oneLt' f v u) Q E s := by
  obtain ⟨a, o, xs, n, rfl, ho, hc, hd, hi⟩ := h1
  obtain ⟨a', o', xs', n', rfl, ho', hc', hd', hi'⟩ := h2
  cases f with
  | false =>
    exact PySem.W.kat_one _ _ (HT.lt_tupInts (Q := PySem.W.BoolBack Q) ⟨o, ho, hc, n, hd⟩ ⟨o', ho', hc', n', hd'⟩ hi hi' hu h)
  | true =>
    obtain ⟨cls, dd, data, sl⟩ := o
    obtain ⟨cls', dd', data', sl'⟩ := o'
    simp only at hc hd hc' hd'
    subst hc hd hc' hd'
    rw [oneLt'_eq]
    simp only [if_true]
    refine wpAny_bind (wpAny_cRoomFor hu ?_)
    refine wpAny_bind (wpAny_callSpecialIfBound?_slot ⟨_, ho, rfl⟩ PySem.F.slot_tuple_lt (call_meets PySem.F.slot_tuple_lt ⟨_, ho, rfl⟩ PySem.F.entry_tuple_lt (PySem.F.args_tuple_lt_2 _ _) (HT.tuple_lt_ints a a' xs xs' n n' dd dd' sl sl' ns ms hi hi') ⟨ho, ho', ?_⟩))
    exact wpAny_truthy_bool h
theorem cmp_gen {vs : List Value} {k : Value → List Int} (hu : A.units < cLine) (hp : ∀ v ∈ vs, IsTI s.heap v (k v)) : SrtO.Cmp prog w A s general' (fun p => p.1 ∈ vs) (SrtO.lt2 fun v u => HT.lexLt (k v) (k u)) := by
  intro p q hm hm'
  exact oneLt_tup (f := false) hu (hp _ hm) (hp _ hm') ⟨rfl, rfl⟩
theorem cmp_one {vs : List Value} {k : Value → List Int} (hu : A.units < cLine) (hp : ∀ v ∈ vs, IsTI s.heap v (k v)) : SrtO.Cmp prog w A s oneType' (fun p => p.1 ∈ vs) (SrtO.lt2 fun v u => HT.lexLt (k v) (k u)) := by
  intro p q hm hm'
  rw [keyLt'_oneType]
  exact oneLt_tup (f := true) hu (hp _ hm) (hp _ hm') ⟨rfl, rfl⟩
theorem cmp_tups {vs : List Value} {k : Value → List Int} (hp : ∀ v ∈ vs, IsTI s.heap v (k v)) : SrtO.Cmp prog w A s (tuples' true) (fun p => p.1 ∈ vs) (SrtO.lt2 fun v u => HT.lexLt (k v) (k u)) := by
  intro p q hm hm'
  obtain ⟨a, o, xs, n, e, ho, hc, hd, hi⟩ := hp _ hm
  obtain ⟨a', o', xs', n', e', ho', hc', hd', hi'⟩ := hp _ hm'
  rw [e, e']
  refine PySem.W.kat_lt ho hd ho' hd' ?_
  have l1 := hi.length
  have l2 := hi'.length
  exact lex_go 0 xs.toList xs'.toList _ _ xs.size xs'.size hi hi' (by rw [← l1, ← l2]; simp; omega) ⟨rfl, rfl⟩
/-- the first items of the keys -/
def KF (h : Heap) : List Value → List (Option Value) → Prop
  | [], [] => True
  | v :: vs, f :: fs => (∃ a o xs n, v = .ref a ∧ h.get? a = some o ∧ o.cls = .type "tuple" ∧ o.data = .seq xs n ∧ xs[0]? = f) ∧ KF h vs fs
  | _, _ => False
theorem kf_firsts : ∀ (vs : List Value) (fs : List (Option Value)) {Q : List (Option Value) → Shared → Prop}, KF s.heap vs fs → Q fs s → wpAny (model prog w) A (vs.mapM firstOfTuple') Q E s
  | [], [], _, _, h => by rw [List.mapM_nil]; exact wpAny_pure h
  | [], _ :: _, _, t, _ => t.elim
  | _ :: _, [], _, t, _ => t.elim
  | v :: vs, f :: fs, Q, t, h => by
    obtain ⟨⟨a, o, xs, n, rfl, ho, hc, hd, hf⟩, t⟩ := t
    rw [List.mapM_cons]
    refine wpAny_bind ?_
    rw [PySem.W.kas_first_eq]
    refine wpAny_bind (PySem.W.Looks.here (show PySem.W.Looks (model prog w) s.heap (typeOf (.ref a)) o.cls from (PySem.W.Looks.ld ho).andThen .now) ?_)
    rw [hc, if_neg (by first | decide | simp)]
    refine wpAny_bind (listItems_at ho hd (wpAny_pure ?_))
    rw [hf]
    exact wpAny_bind (kf_firsts vs fs (Q := fun bs s' => wpAny (model prog w) A (pure (f :: bs)) Q E s') t (wpAny_pure h))
theorem kf_of {h : Heap} {k : Value → List Int} : ∀ vs : List Value, (∀ v ∈ vs, IsTI h v (k v)) → ∃ fs, KF h vs fs ∧ fs.length = vs.length ∧ (∀ f ∈ fs, ∀ v, f = some v → ∃ x t, v = Value.int x t)
  | [], _ => ⟨[], trivial, rfl, fun _ hf => by simp at hf⟩
  | v :: vs, hp => by
    obtain ⟨fs, h1, h2, h3⟩ := kf_of vs fun u hu => hp u (List.mem_cons_of_mem _ hu)
    obtain ⟨a, o, xs, n, e, ho, hc, hd, hi⟩ := hp v List.mem_cons_self
    refine ⟨xs[0]? :: fs, ⟨⟨a, o, xs, n, e, ho, hc, hd, rfl⟩, h1⟩, by rw [List.length_cons, List.length_cons, h2], fun f hf v' hv => ?_⟩
    rcases List.mem_cons.mp hf with rfl | hf
    · rw [← Array.getElem?_toList] at hv
      generalize xs.toList = l at hi hv
      generalize k v = q at hi
      cases hi with
      | nil => simp at hv
      | cons p t hi =>
        have : Value.int p t = v' := by simpa using hv
        exact ⟨p, t, this.symm⟩
    · exact h3 f hf v' hv
theorem kf_type {vs : List Value} {k : Value → List Int} (hp : ∀ v ∈ vs, IsTI s.heap v (k v)) : ∀ v ∈ vs, PySem.W.Looks (model prog w) s.heap (typeOf v) (.type "tuple") := by
  intro v hv
  obtain ⟨a, o, xs, n, rfl, ho, hc, hd, hi⟩ := hp v hv
  rw [← hc]
  exact (PySem.W.Looks.ld ho).andThen .now
theorem ti_sortable {a : Addr} {vs : List Value} {k : Value → List Int} (hu : A.units < cLine) (h0 : 0 < vs.length) (hp : ∀ v ∈ vs, IsTI s.heap v (k v)) (ha : ∀ o, s.heap.get? a = some o → o.cls ≠ .type "tuple") : SrtO.SortableO prog w A s a vs fun v u => HT.lexLt (k v) (k u) := by
  intro h' keep
  have hp' : ∀ v ∈ vs, IsTI h' v (k v) := fun v hm => (hp v hm).keeps fun b o e c => keep b o (fun z => by subst z; exact ha o e c) e
  obtain ⟨fs, h1, h2, h3⟩ := kf_of vs hp'
  have tt : (Value.type "tuple" == Value.type "tuple") = true := by first | decide +kernel | rfl | decide
  have it : (Value.type "int" != Value.type "tuple") = true := by first | decide +kernel | rfl | decide
  have ii : (Value.type "int" == Value.type "int") = true := by first | decide +kernel | rfl | decide
  by_cases hall : (fs.toArray.all fun x => x.isSome) = true
  · refine ⟨tuples' true, fun Q E hq => ?_, cmp_tups (s := { s with heap := h' }) hp'⟩
    rw [kat_kind_eq, List.mapM_toArray, map_eq_pure_bind]
    refine wpAny_bind (wpAny_bind (kf_firsts (s := { s with heap := h' }) vs fs h1 (wpAny_pure ?_)))
    rw [if_pos hall]
    refine wpAny_bind (wpAny_rule ?_)
    have hsome : ∀ f ∈ fs, ∃ v, f = some v := fun f hf => by
      have := List.all_eq_true.mp (by simpa using hall) f hf
      exact Option.isSome_iff_exists.mp this
    obtain ⟨gs, hg⟩ : ∃ gs : List Value, fs = gs.map some := by
      clear h1 h2 h3 hall
      induction fs with
      | nil => exact ⟨[], rfl⟩
      | cons f fs ih =>
        obtain ⟨v, rfl⟩ := hsome f List.mem_cons_self
        obtain ⟨gs, rfl⟩ := ih fun f hf => hsome f (List.mem_cons_of_mem _ hf)
        exact ⟨v :: gs, rfl⟩
    have hfm : (fs.toArray.filterMap id) = gs.toArray := by rw [hg]; simp
    rw [hfm, oneTypeOnly'_eq, List.mapM_toArray, map_eq_pure_bind]
    have hgi : ∀ v ∈ gs, ∃ x t, v = Value.int x t := fun v hv => h3 (some v) (by rw [hg]; exact List.mem_map.mpr ⟨v, hv, rfl⟩) v rfl
    refine wpAny_bind (wpAny_bind (wpAny_bind (PySem.W.kas_mapM (r := .type "int") _ (fun v hv Q' hq => ?_) (wpAny_pure ?_))))
    · obtain ⟨x, t, rfl⟩ := hgi v hv
      exact (PySem.W.Looks.now (h := h')).here hq
    · have hall2 : ((List.map (fun _ => Value.type "int") gs).toArray.all fun x => x == Value.type "int") = true := by
        simp only [List.all_toArray, List.all_map, List.all_eq_true]
        intro _ _
        exact ii
      obtain ⟨g, gr, hgc⟩ : ∃ g gr, gs = g :: gr := by
        cases gs with
        | nil => rw [hg] at h2; simp at h2; omega
        | cons g gr => exact ⟨g, gr, rfl⟩
      have hz : (List.map (fun _ => Value.type "int") gs).toArray[0]? = some (Value.type "int") := by rw [hgc]; simp
      rw [hz]
      simp only [hall2, if_true]
      refine wpAny_pure (wpAny_pure ?_)
      simp only [Option.any_some, it]
      exact hq
  · by_cases hf : ((fs.toArray[0]?).bind id).isSome = true
    · refine ⟨general', fun Q E hq => ?_, cmp_gen (s := { s with heap := h' }) hu hp'⟩
      rw [kat_kind_eq, List.mapM_toArray, map_eq_pure_bind]
      refine wpAny_bind (wpAny_bind (kf_firsts (s := { s with heap := h' }) vs fs h1 (wpAny_pure ?_)))
      rw [if_neg hall, if_pos hf]
      exact wpAny_pure hq
    · refine ⟨oneType', fun Q E hq => ?_, cmp_one (s := { s with heap := h' }) hu hp'⟩
      rw [kat_kind_eq, List.mapM_toArray, map_eq_pure_bind]
      refine wpAny_bind (wpAny_bind (kf_firsts (s := { s with heap := h' }) vs fs h1 (wpAny_pure ?_)))
      rw [if_neg hall, if_neg hf]
      rw [oneTypeOnly'_eq, List.mapM_toArray, map_eq_pure_bind]
      refine wpAny_bind (wpAny_bind (wpAny_bind (PySem.W.kas_mapM (r := .type "tuple") _ (fun v hv Q' hq => (kf_type (s := { s with heap := h' }) hp' v hv).here hq) (wpAny_pure ?_))))
      have hall2 : ((List.map (fun _ => Value.type "tuple") vs).toArray.all fun x => x == Value.type "tuple") = true := by
        simp only [List.all_toArray, List.all_map, List.all_eq_true]
        intro _ _
        exact tt
      have hz : (List.map (fun _ => Value.type "tuple") vs).toArray[0]? = some (Value.type "tuple") := by
        cases vs with
        | nil => simp at h0
        | cons v vs => simp
      rw [hz]
      simp only [hall2, if_true]
      exact wpAny_pure (wpAny_pure hq)
theorem lexLt_irr : ∀ a : List Int, HT.lexLt a a = false
  | [] => rfl
  | x :: xs => by rw [HT.lexLt_cons, if_pos rfl, lexLt_irr xs]
theorem lexLt_asym : ∀ a b : List Int, HT.lexLt a b = true → HT.lexLt b a = false
  | [], [], h => by cases h
  | [], _ :: _, _ => rfl
  | _ :: _, [], h => by cases h
  | x :: xs, y :: ys, h => by
    rw [HT.lexLt_cons] at h ⊢
    by_cases e : x = y
    · rw [if_pos e] at h
      rw [if_pos e.symm]
      exact lexLt_asym xs ys h
    · rw [if_neg e] at h
      rw [if_neg fun z => e z.symm]
      have := of_decide_eq_true h
      exact decide_eq_false (by omega)
theorem lexLt_ge : ∀ a b c : List Int, HT.lexLt b a = false → HT.lexLt c b = false → HT.lexLt c a = false
  | [], b, [], _, _ => rfl
  | _ :: _, [], [], h, _ => by cases h
  | _ :: _, _ :: _, [], _, h => by cases h
  | [], b, _ :: _, _, _ => rfl
  | x :: xs, [], z :: zs, h, _ => by cases h
  | x :: xs, y :: ys, z :: zs, h1, h2 => by
    rw [HT.lexLt_cons] at h1 h2 ⊢
    by_cases e1 : y = x
    · rw [if_pos e1] at h1
      by_cases e2 : z = y
      · rw [if_pos e2] at h2
        rw [if_pos (e2.trans e1)]
        exact lexLt_ge xs ys zs h1 h2
      · rw [if_neg e2] at h2
        have := of_decide_eq_false h2
        rw [if_neg (by omega)]
        exact decide_eq_false (by omega)
    · rw [if_neg e1] at h1
      have h1 := of_decide_eq_false h1
      by_cases e2 : z = y
      · rw [if_pos e2] at h2
        rw [if_neg (by omega)]
        exact decide_eq_false (by omega)
      · rw [if_neg e2] at h2
        have h2 := of_decide_eq_false h2
        rw [if_neg (by omega)]
        exact decide_eq_false (by omega)
theorem lexLt_tot : ∀ a b : List Int, HT.lexLt a b = false → HT.lexLt b a = false → a = b
  | [], [], _, _ => rfl
  | [], _ :: _, h, _ => by cases h
  | _ :: _, [], _, h => by cases h
  | x :: xs, y :: ys, h1, h2 => by
    rw [HT.lexLt_cons] at h1 h2
    by_cases e : x = y
    · rw [if_pos e] at h1
      rw [if_pos e.symm] at h2
      rw [e, lexLt_tot xs ys h1 h2]
    · rw [if_neg e] at h1
      rw [if_neg fun z => e z.symm] at h2
      have h1 := of_decide_eq_false h1
      have h2 := of_decide_eq_false h2
      exact absurd (by omega) e
theorem lex_swo {α : Type} (k : α → List Int) : SrtO.Swo fun v u => HT.lexLt (k v) (k u) :=
  ⟨fun x y h => lexLt_asym _ _ h, fun x y z h1 h2 => lexLt_ge _ _ _ h1 h2⟩
theorem sorted_ti {l : Addr} {vs : List Value} {k : Value → List Int} {Q : Value → Shared → Prop} (hu : A.units + 2 < cLine) (hl : s.heap.IsList l vs.toArray) (hz : vs.length ≤ sizeLine) (hp : ∀ v ∈ vs, IsTI s.heap v (k v))
    (h : ∀ (h' : Heap) (d : Addr) (out : List Value), SrtO.Srtd (fun v u => HT.lexLt (k v) (k u)) out → SrtO.Stb (fun v u => HT.lexLt (k v) (k u)) out vs → (∀ b o, s.heap.get? b = some o → h'.get? b = some o) → s.heap.objs.size ≤ d → (∃ n, h'.get? d = some (seqObj "list" out.toArray n)) → Q (.ref d) { s with heap := h' }) :
    wpAny (model prog w) A (call (.builtin "sorted") [.ref l]) Q E s := by
  refine SrtO.sorted_ord (lex_swo k) hl hz (fun h2 h₁ a ha kk => ?_) fun out hs hb => ?_
  · refine ti_sortable (s := { s with heap := h₁ }) (A := A.in1.in1) hu (by omega) (fun v hm => (hp v hm).keeps fun b o e _ => (kk b o e).2) fun o e => ?_
    have e' : some o = some (seqObj "list" vs.toArray 0) := e.symm.trans ha
    cases e'
    intro c
    exact absurd (Value.type.inj c) (by decide)
  · exact h _ _ out hs hb (fun b o e => PyProof.Rows.sortedAll_old e) (Nat.le_succ _) (PyProof.Rows.sortedAll_at s.heap vs out.toArray)
end
open L2
abbrev ltT (k : V → List Int) (x y : V) : Bool := HT.lexLt (k x) (k y)
/-- sorted(xs), xs a list of tuples of ints (k says which): a new list, sorted -/
def rSortedTI (K : PySem.W.Frag) : List V → Hp → VK → Prop := fun vs H Q => ∃ (a : Addr) (xs : List V) (k : V → List Int), vs = [V.ref a] ∧ SqL K H a xs ∧ (∀ x ∈ xs, ∃ t, x = V.ref t ∧ H t = some (.tup ((k x).map V.int))) ∧
  ∀ ys p, SrtO.Srtd (ltT k) ys → SrtO.Stb (ltT k) ys xs → H p = none → Q (.ref p) (upd H p (.lst ys))
theorem ints_vals {ns : List Int} {its : List Value} (r : Vals (ns.map V.int) its) : IntsAre its ns := by
  induction ns generalizing its with
  | nil => cases r; exact .nil
  | cons n ns ih =>
    cases r with
    | cons r rr =>
      obtain ⟨t, rfl⟩ := r
      exact .cons n t (ih rr)
theorem cr_sortedTI {X : Cx} (hu : X.A.units + 2 < cLine) : CallR X (.builtin "sorted") (rSortedTI X.K) := by
  intro pins s σ H vs us Q I r h
  obtain ⟨a, xs, k, rfl, hs, hx, q⟩ := h
  obtain ⟨its, rv, hl, hz⟩ := I.list hs
  obtain ⟨u, rfl, ru⟩ := vals1 r
  obtain rfl : u = Value.ref a := ru
  obtain ⟨e1, e2⟩ := refs_back rv fun x m => by
    obtain ⟨t, e, _⟩ := hx x m
    exact ⟨t, e⟩
  refine sorted_ti (k := fun u => k (backV u)) hu hl.isList (by rw [← rv.length]; exact hz) (fun v hv => ?_) fun h' d out h1 h2 kp hd hn => ?_
  · obtain ⟨t, rfl⟩ := e2 v hv
    have hm : V.ref t ∈ xs := by rw [e1]; exact List.mem_map.mpr ⟨_, hv, rfl⟩
    obtain ⟨t', e, ht⟩ := hx _ hm
    cases e
    obtain ⟨_, its2, r2, o, ho, hc, n, hd⟩ := I.hok _ _ ht
    exact ⟨t, o, _, n, rfl, ho, hc, hd, ints_vals r2⟩
  · have h3 : ∀ u ∈ out, ∃ a, u = Value.ref a := fun u hu => e2 u (h2.perm.mem_iff.mp hu)
    obtain ⟨n, hn⟩ := hn
    have hb : SrtO.Stb (ltT k) (out.map backV) xs := by
      rw [e1]
      exact SrtO.Stb.map (lex_swo k) backV h2
    refine ⟨.ref d, upd H d (.lst (out.map backV)), I.laid (t' := s.toks) kp hd ⟨?_, out, n, vals_back h3, hn⟩, rfl, q _ d (SrtO.srtd_map h1) hb (I.hok.fresh hd)⟩
    rw [hb.len]
    exact hz
end RS

namespace Mini
open PySem PySem.Spec PyProof.Rows
open L2 (V Hp HO Key Rd SqL SqT Inv Cx RelV upd upd_same upd_ne Same WX VK TE XK OpR UnR CallR R2 EP PE Dp DpAll)
theorem lexLt_HT : ∀ a b : List Int, HT.lexLt a b = lexLt a b
  | [], [] => rfl
  | [], _ :: _ => rfl
  | _ :: _, [] => rfl
  | x :: xs, y :: ys => by
    rw [HT.lexLt_cons, lexLt, lexLt_HT xs ys]
theorem ins_lex {x : List Int} : ∀ {ys : List (List Int)}, ys.Pairwise (fun a b => lexLt b a = false) → (ins lexLt x ys).Pairwise (fun a b => lexLt b a = false)
  | [], _ => by simp [ins]
  | y :: ys, h => by
    have h1 := List.pairwise_cons.mp h
    unfold ins
    by_cases hlt : lexLt x y = true
    · rw [if_pos hlt]
      refine List.pairwise_cons.mpr ⟨fun z hz => ?_, h⟩
      have hyx : lexLt y x = false := by rw [← lexLt_HT] at hlt ⊢; exact RS.lexLt_asym _ _ hlt
      rcases List.mem_cons.mp hz with e | q
      · rw [e]; exact hyx
      · have := h1.1 z q
        rw [← lexLt_HT] at hyx this ⊢
        exact RS.lexLt_ge _ _ _ hyx this
    · rw [if_neg hlt]
      have hlt : lexLt x y = false := by simpa using hlt
      refine List.pairwise_cons.mpr ⟨fun z hz => ?_, ins_lex h1.2⟩
      rcases List.mem_cons.mp ((ins_perm lexLt x ys).mem_iff.mp hz) with e | q
      · rw [e]; exact hlt
      · exact h1.1 z q
theorem sort_lex (xs : List (List Int)) : (sortBy lexLt xs).Pairwise (fun a b => lexLt b a = false) := by
  have go : ∀ ys : List (List Int), (ys.foldr (ins lexLt) []).Pairwise (fun a b => lexLt b a = false) := by
    intro ys
    induction ys with
    | nil => exact .nil
    | cons y ys ih => exact ins_lex ih
  exact go _
theorem sortedL_eq {xs ys : List (List Int)} (p : ys.Perm xs) (h : ys.Pairwise (fun a b => lexLt b a = false)) : ys = sortBy lexLt xs :=
  List.Perm.eq_of_pairwise (fun a b _ _ h1 h2 => RS.lexLt_tot a b (by rw [lexLt_HT]; exact h2) (by rw [lexLt_HT]; exact h1)) h (sort_lex xs) (p.trans (sort_perm lexLt xs).symm)
section
variable {X : Cx} {om : Om} {io : List Addr} {H : Hp} {h : Hh} {v : V} {x : D} {Q : VK}
theorem tis_at : ∀ {xs : List D} {ts : List (List Int)} {vs : List V}, tisOf xs = some ts → Rps X.K om io H vs xs → xs = ts.map (fun t => D.tup (t.map D.int)) ∧ ∃ as : List Addr, vs = as.map V.ref ∧ as.length = ts.length ∧ ∀ i (hi : i < as.length) (hi2 : i < ts.length), H as[i] = some (.tup (ts[i].map V.int))
  | [], ts, vs, e, r => by
    cases r
    have : [] = ts := Option.some.inj e
    subst this
    exact ⟨rfl, [], rfl, rfl, fun i hi => absurd hi (by simp)⟩
  | d :: ds, ts, vs, e, r => by
    unfold tisOf optAll at e
    cases r with
    | cons rv rr =>
      rename_i v vs
      split at e
      · rename_i t ht
        split at e
        · rename_i ts' hts
          have e1 : t :: ts' = ts := Option.some.inj e
          subst e1
          obtain ⟨h1, as, h2, h3, h4⟩ := tis_at hts rr
          cases d with
          | tup us =>
            have ht : intsOf us = some t := ht
            obtain ⟨a, ws, rfl, ha, hr⟩ := tup_at rv
            have hw := ints_at ht hr
            subst hw
            have hus : us = t.map D.int := by
              have : ∀ (us : List D) (t : List Int), intsOf us = some t → us = t.map D.int := by
                intro us
                induction us with
                | nil => intro t e; have : [] = t := Option.some.inj e; subst this; rfl
                | cons u us ih =>
                  intro t e
                  unfold intsOf optAll at e
                  cases u with
                  | int i =>
                    simp only at e
                    split at e
                    · rename_i ys hy
                      have e1 : i :: ys = t := Option.some.inj e
                      subst e1
                      rw [ih ys hy]
                      rfl
                    · cases e
                  | _ => simp at e
              exact this us t ht
            subst hus
            refine ⟨by rw [h1]; rfl, a :: as, by rw [h2]; rfl, by simp [h3], fun i hi hi2 => ?_⟩
            cases i with
            | zero => exact ha
            | succ i => exact h4 i (by simpa using hi) (by simpa using hi2)
          | _ => cases ht
        · cases e
      · cases e
def vInt : V → Int
  | .int i => i
  | _ => 0
def tiOf (H : Hp) : V → List Int
  | .ref t => match H t with
    | some (.tup us) => us.map vInt
    | _ => []
  | _ => []
theorem vInt_map (ns : List Int) : (ns.map V.int).map vInt = ns := by
  rw [List.map_map]
  exact List.map_id ns
theorem tiOf_ref {t : Addr} {ns : List Int} (h : H t = some (.tup (ns.map V.int))) : tiOf H (.ref t) = ns := by
  show (match H t with
    | some (.tup us) => us.map vInt
    | _ => []) = ns
  rw [h]
  exact vInt_map ns
theorem sorted_ti_ok {xs : List D} {ts : List (List Int)} (hu : X.A.units + 65 < cLine) (h1 : rdOf h x = some xs) (h2 : tisOf xs = some ts) (rx : Rp X.K om io H v x) (R : HpRp X.K om io H h)
    (q : ∀ p vs, H p = none → Rps X.K om io H vs ((sortBy lexLt ts).map fun t => D.tup (t.map D.int)) → Q (.ref p) (upd H p (.lst vs))) : RC X (.builtin "sorted") [v] H Q := by
  obtain ⟨a, vs, rfl, ha, ra⟩ := rd_of h1 rx R
  obtain ⟨e1, as, e2, e3, e4⟩ := tis_at h2 ra
  -- what stands for a value
  obtain ⟨k, hk⟩ : ∃ k : V → List Int, ∀ v ∈ vs, ∃ t, v = V.ref t ∧ H t = some (.tup ((k v).map V.int)) := by
    refine ⟨tiOf H, fun v hv => ?_⟩
    rw [e2] at hv
    obtain ⟨t, ht, rfl⟩ := List.mem_map.mp hv
    obtain ⟨i, hi, rfl⟩ := List.mem_iff_getElem.mp ht
    have hh := e4 i hi (by omega)
    exact ⟨_, rfl, by rw [tiOf_ref hh]; exact hh⟩
  have kt : vs.map k = ts := by
    refine List.ext_getElem (by rw [e2]; simp [e3]) fun i q1 q2 => ?_
    have hi : i < as.length := by omega
    have hiv : i < vs.length := by rw [e2]; simpa using hi
    rw [List.getElem_map]
    obtain ⟨t, ht, hh⟩ := hk vs[i] (List.getElem_mem _)
    have hv : vs[i] = V.ref as[i] := by simp [e2]
    rw [hv] at ht
    cases ht
    have := e4 i hi q2
    rw [hv] at hh ⊢
    rw [this] at hh
    injection hh with hh
    injection hh with hh
    have := congrArg (List.map vInt) hh
    rw [vInt_map, vInt_map] at this
    exact this.symm
  refine rc_of (RS.cr_sortedTI (by omega)) ⟨a, vs, k, rfl, ha, hk, fun ys p hs hb hn => ?_⟩
  refine q p ys hn ?_
  have e5 : ys.map k = sortBy lexLt ts := by
    rw [← kt]
    refine sortedL_eq (hb.perm.map k) ?_
    refine List.pairwise_map.mpr (List.Pairwise.imp (fun {a b} h => ?_) hs)
    rw [← lexLt_HT]
    exact h
  rw [← e5, List.map_map]
  have all : ∀ zs : List V, (∀ z ∈ zs, z ∈ vs) → Rps X.K om io H zs (zs.map ((fun t => D.tup (t.map D.int)) ∘ k)) := by
    intro zs
    induction zs with
    | nil => intro _; exact .nil
    | cons z zs ih =>
      intro hz
      refine .cons ?_ (ih fun w hw => hz w (List.mem_cons_of_mem _ hw))
      obtain ⟨i, hi, e⟩ := List.mem_iff_getElem.mp (hz z List.mem_cons_self)
      have hx : xs[i]? = some (D.tup ((k z).map D.int)) := by
        rw [e1, ← kt, List.getElem?_map, List.getElem?_map, List.getElem?_eq_getElem hi, e]
        rfl
      obtain ⟨w, hw, rw_⟩ := ra.get hx
      rw [List.getElem?_eq_getElem hi, e] at hw
      cases hw
      exact rw_
  exact all ys fun z hz => hb.perm.mem_iff.mp hz
end
end Mini
end
section
set_option Elab.async false
set_option linter.all false
set_option autoImplicit false
set_option maxRecDepth 100000
/-! Sound7: what is shown of expressions, one by one. -/
namespace Mini
open PySem PySem.Spec PyProof.Rows
open L2 (V Hp HO Key Rd SqL SqT Inv Cx RelV upd upd_same upd_ne Same WX VK TE TT TA TO XK OpR UnR CallR R2 EP TP AP PE PT PW PA PO PS PSs PG PI Dp DpAll MtR MtM IxR SlR PSet Gl Vis Loc Ends TS)

/-! ### the widest triples -/
def WE (X : Cx) (e : Expr) : TE := fun σ H Q => ∀ (pins : List (Addr × Obj)) (s : Shared), Inv X pins σ H s → wpAny (model X.prog X.w) X.A (eval e X.env) (EP X pins σ Q) X.xe s
theorem pe_we {X : Cx} {e : Expr} : PE X e (WE X e) := ⟨fun pins s σ H Q I h => h pins s I⟩
theorem we_of {X : Cx} {e : Expr} {t : TE} (p : PE X e t) {σ : L2.St} {H : Hp} {Q : VK} (h : t σ H Q) : WE X e σ H Q := fun pins s I => p.run pins s σ H Q I h
def WT (X : Cx) (e : Expr) : TT := fun σ H Q => ∀ (whole : Sem Value) (pins : List (Addr × Obj)) (s : Shared), Inv X pins σ H s → (whole = eval e X.env) → wpAny (model X.prog X.w) X.A (isTrue e X.env whole) (TP X pins σ Q) X.xe s
theorem pt_wt {X : Cx} {e : Expr} : PT X e (WT X e) := ⟨fun pins s σ H Q I h => h _ pins s I rfl⟩
theorem wt_of {X : Cx} {e : Expr} {t : TT} (p : PT X e t) {σ : L2.St} {H : Hp} {Q : Bool → Hp → Prop} (h : t σ H Q) : WT X e σ H Q := fun whole pins s I hw => by
  subst hw
  exact p.run pins s σ H Q I h
def WA (X : Cx) (es : List Expr) : TA := fun σ H Q => ∀ (pos : Pos) (pins : List (Addr × Obj)) (s : Shared), Inv X pins σ H s → wpAny (model X.prog X.w) X.A (spliced (backTo pos (starEach es X.env))) (AP X pins σ Q) X.xe s
theorem pa_wa {X : Cx} {es : List Expr} : PA X es (WA X es) := ⟨fun pos pins s σ H Q I h => h pos pins s I⟩
theorem wa_of {X : Cx} {es : List Expr} {t : TA} (p : PA X es t) {σ : L2.St} {H : Hp} {Q : List V → Hp → Prop} (h : t σ H Q) : WA X es σ H Q := fun pos pins s I => p.run pos pins s σ H Q I h
def WO (X : Cx) (e : Option Expr) : TO := fun σ H Q => ∀ (pins : List (Addr × Obj)) (s : Shared), Inv X pins σ H s → wpAny (model X.prog X.w) X.A (evalPart e X.env) (fun u s' => ∃ o H', Inv X pins σ H' s' ∧ IsPart u o ∧ Q o H') X.xe s
theorem po_wo {X : Cx} {e : Option Expr} : PO X e (WO X e) := ⟨fun pins s σ H Q I h => h pins s I⟩
theorem wo_of {X : Cx} {e : Option Expr} {t : TO} (p : PO X e t) {σ : L2.St} {H : Hp} {Q : Option Int → Hp → Prop} (h : t σ H Q) : WO X e σ H Q := fun pins s I => p.run pins s σ H Q I h

def PostB (K : PySem.W.Frag) (om : Om) (io : List Addr) (H : Hp) (h' : Hh) (Q : Hp → Prop) : Prop := ∀ (io' : List Addr) (H' : Hp), Ext io H io' H' → HpRp K om io' H' h' → Q H'
def PostA (K : PySem.W.Frag) (om : Om) (io : List Addr) (H : Hp) (h' : Hh) (ds : List D) (Q : List V → Hp → Prop) : Prop := ∀ (io' : List Addr) (H' : Hp) (vs : List V), Ext io H io' H' → HpRp K om io' H' h' → Rps K om io' H' vs ds → Q vs H'
/-- a new list is the result -/
def PostN (K : PySem.W.Frag) (om : Om) (io : List Addr) (H : Hp) (h' : Hh) (ds : List D) (Q : VK) : Prop := ∀ (io' : List Addr) (H' : Hp) (p : Addr) (vs : List V), Ext io H io' H' → HpRp K om io' H' h' → Rps K om io' H' vs ds → H' p = none → Q (.ref p) (upd H' p (.lst vs))
theorem PostB.ext {K : PySem.W.Frag} {om : Om} {io io' : List Addr} {H H' : Hp} {h : Hh} {Q : Hp → Prop} (x : Ext io H io' H') (q : PostB K om io H h Q) : PostB K om io' H' h Q := fun i2 H2 y r => q i2 H2 (x.trans y) r
theorem PostA.ext {K : PySem.W.Frag} {om : Om} {io io' : List Addr} {H H' : Hp} {h : Hh} {ds : List D} {Q : List V → Hp → Prop} (x : Ext io H io' H') (q : PostA K om io H h ds Q) : PostA K om io' H' h ds Q := fun i2 H2 vs y r => q i2 H2 vs (x.trans y) r
theorem PostN.ext {K : PySem.W.Frag} {om : Om} {io io' : List Addr} {H H' : Hp} {h : Hh} {ds : List D} {Q : VK} (x : Ext io H io' H') (q : PostN K om io H h ds Q) : PostN K om io' H' h ds Q := fun i2 H2 p vs y r => q i2 H2 p vs (x.trans y) r

def SimE (X : Cx) (e : Expr) (ev : Sl → Hh → R D) : Prop := ∀ (om : Om) (io : List Addr) (H : Hp) (σ : L2.St) (m : Sl) (h : Hh), SlRp X.K om io H σ m → HpRp X.K om io H h → ∀ (d : D) (h' : Hh), ev m h = .ok d h' → ∀ Q : VK, Post X.K om io H h' d Q → WE X e σ H Q
def SimN (X : Cx) (e : Expr) (ev : Sl → Hh → R D) : Prop := ∀ (om : Om) (io : List Addr) (H : Hp) (σ : L2.St) (m : Sl) (h : Hh), SlRp X.K om io H σ m → HpRp X.K om io H h → ∀ (ds : List D) (h' : Hh), ev m h = .ok (.lst ds) h' → ∀ Q : VK, PostN X.K om io H h' ds Q → WE X e σ H Q
def SimT (X : Cx) (e : Expr) (ev : Sl → Hh → R Bool) : Prop := ∀ (om : Om) (io : List Addr) (H : Hp) (σ : L2.St) (m : Sl) (h : Hh), SlRp X.K om io H σ m → HpRp X.K om io H h → ∀ (b : Bool) (h' : Hh), ev m h = .ok b h' → ∀ Q : Bool → Hp → Prop, PostB X.K om io H h' (Q b) → WT X e σ H Q
def SimA (X : Cx) (es : List Expr) (ev : Sl → Hh → R (List D)) : Prop := ∀ (om : Om) (io : List Addr) (H : Hp) (σ : L2.St) (m : Sl) (h : Hh), SlRp X.K om io H σ m → HpRp X.K om io H h → ∀ (ds : List D) (h' : Hh), ev m h = .ok ds h' → ∀ Q : List V → Hp → Prop, PostA X.K om io H h' ds Q → WA X es σ H Q
def SimO (X : Cx) (e : Option Expr) (ev : Sl → Hh → R (Option Int)) : Prop := ∀ (om : Om) (io : List Addr) (H : Hp) (σ : L2.St) (m : Sl) (h : Hh), SlRp X.K om io H σ m → HpRp X.K om io H h → ∀ (o : Option Int) (h' : Hh), ev m h = .ok o h' → ∀ Q : Option Int → Hp → Prop, PostB X.K om io H h' (Q o) → WO X e σ H Q

theorem rbind {α β : Type} {r : R α} {f : α → Hh → R β} {b : β} {h : Hh} (e : r.bind f = .ok b h) : ∃ a h1, r = .ok a h1 ∧ f a h1 = .ok b h := by
  cases r with
  | ok a h1 => exact ⟨a, h1, rfl, e⟩
  | exc c fs h1 => cases e
  | bad => cases e
theorem rof {α : Type} {o : Option α} {a : α} {h h' : Hh} (e : R.of o h = .ok a h') : o = some a ∧ h = h' := by
  cases o with
  | none => cases e
  | some b =>
    injection e with e1 e2
    exact ⟨by rw [e1], e2⟩
theorem rok {α : Type} {a b : α} {h h' : Hh} (e : R.ok a h = .ok b h') : a = b ∧ h = h' := by
  injection e with e1 e2
  exact ⟨e1, e2⟩

section
variable {X : Cx} {a b c e : Expr} {eva evb evc ev : Sl → Hh → R D} {pos : Pos}
/-- one by one: two values and then what is done with them -/
theorem sim_two (ha : SimE X a eva) (hb : SimE X b evb) {om : Om} {io : List Addr} {H : Hp} {σ : L2.St} {m : Sl} {h h1 h2 : Hh} (rs : SlRp X.K om io H σ m) (rh : HpRp X.K om io H h)
    {x y : D} (ea : eva m h = .ok x h1) (eb : evb m h1 = .ok y h2) {Q : V → V → Hp → Prop}
    (q : ∀ (io' : List Addr) (H' : Hp) (v u : V), Ext io H io' H' → HpRp X.K om io' H' h2 → SlRp X.K om io' H' σ m → Rp X.K om io' H' v x → Rp X.K om io' H' u y → Q v u H') :
    WE X a σ H fun v H1 => WE X b σ H1 fun u H2 => Q v u H2 :=
  ha om io H σ m h rs rh x h1 ea _ fun io1 H1 v x1 r1 p1 => hb om io1 H1 σ m h1 (rs.ext x1) r1 y h2 eb _ fun io2 H2 u x2 r2 p2 =>
    q io2 H2 v u (x1.trans x2) r2 ((rs.ext x1).ext x2) (p1.ext x2) p2

theorem simN_E (n : SimN X e ev) (hl : ∀ m h d h', ev m h = .ok d h' → ∃ ds, d = .lst ds) : SimE X e ev := fun om io H σ m h rs rh d h' ee Q q => by
  obtain ⟨ds, rfl⟩ := hl m h d h' ee
  exact n om io H σ m h rs rh ds h' ee Q fun io' H' p vs x r p' hp => (Post.ext x q).lst r p' p hp

theorem sim_var {i : Nat} {x : Str} (hN : X.N[i]? = some x) (hv : Vis X.env.scope x) (hd : (x == ("__debug__" : Str)) = false) (hcd : (x == ("__classdict__" : Str)) = false) {C : Oracle} : SimE X (.Name x pos) (evalE C (.var i)) := by
  intro om io H σ m h rs rh d h' ee Q q
  unfold evalE at ee
  split at ee
  · rename_i z hz
    obtain ⟨rfl, rfl⟩ := rok ee
    obtain ⟨v, h1, h2⟩ := rs.2 i z hz
    exact we_of (L2.pe_var hN hv hd hcd) ⟨v, h1, q.here rh h2⟩
  · cases ee
theorem sim_int {i : Int} {j : Nat} {C : Oracle} : SimE X (.Constant (.int i) j pos) (evalE C (.cst (.int i))) := fun om io H σ m h rs rh d h' ee Q q => by
  obtain ⟨rfl, rfl⟩ := rok ee
  exact we_of L2.pe_int (q.here rh (.int i))
theorem sim_bl {i : Bool} {j : Nat} {C : Oracle} : SimE X (.Constant (.bool i) j pos) (evalE C (.cst (.bl i))) := fun om io H σ m h rs rh d h' ee Q q => by
  obtain ⟨rfl, rfl⟩ := rok ee
  exact we_of L2.pe_bl (q.here rh (.bl i))
theorem sim_non {j : Nat} {C : Oracle} : SimE X (.Constant .none j pos) (evalE C (.cst .non)) := fun om io H σ m h rs rh d h' ee Q q => by
  obtain ⟨rfl, rfl⟩ := rok ee
  exact we_of L2.pe_non (q.here rh .non)
theorem sim_str {s : List Char} {z : Str} {j : Nat} {C : Oracle} (hz : z = S s) : SimE X (.Constant (.str z) j pos) (evalE C (.cst (.str s))) := fun om io H σ m h rs rh d h' ee Q q => by
  obtain ⟨rfl, rfl⟩ := rok ee
  subst hz
  exact we_of L2.pe_str (q.here rh (.str s))
/-- a global name whose value is a number or a text -/
def GlV (mg : Str → Option Value) (x : Str) : D → Prop
  | .int i => ∃ t, mg x = some (.int i t)
  | .str s => ∃ t, mg x = some (.str (S s) t)
  | .bl b => mg x = some (.bool b)
  | _ => False
theorem sim_glb {x : Str} {n : String} {d : D} {C : Oracle} (hg : Gl X x) (hm : GlV X.mg x d) (hd : (x == ("__debug__" : Str)) = false) : SimE X (.Name x pos) (evalE C (.glb n d)) := fun om io H σ m h rs rh d' h' ee Q q => by
  obtain ⟨rfl, rfl⟩ := rok ee
  cases d with
  | int i =>
    obtain ⟨t, ht⟩ := hm
    exact we_of (L2.pe_glob hg ht (v := .int i) ⟨t, rfl⟩ hd) (q.here rh (.int i))
  | str s =>
    obtain ⟨t, ht⟩ := hm
    exact we_of (L2.pe_glob hg ht (v := .str (S s)) ⟨t, rfl⟩ hd) (q.here rh (.str s))
  | bl k => exact we_of (L2.pe_glob hg hm (v := .bl k) rfl hd) (q.here rh (.bl k))
  | _ => exact hm.elim

def opOf : Op → Operator
  | .add => .Add
  | .sub => .Sub
  | .mul => .Mult
  | .mod => .Mod
  | .fdiv => .FloorDiv
  | .pow => .Pow
  | .band => .BitAnd
  | .shl => .LShift
  | .shr => .RShift
theorem band_ok {om : Om} {io : List Addr} {H : Hp} {h : Hh} {d x y : D} {Q : VK} {v u : V} (e : binD h .band x y = some d) (rx : Rp X.K om io H v x) (ry : Rp X.K om io H u y) (R : HpRp X.K om io H h) (q : Post X.K om io H h d Q) : RB X (binaryOp .BitAnd) v u H Q := by
  cases x with
  | int i => cases y with
    | int j =>
      have e1 : (if 0 ≤ i ∧ j = 1 then some (D.int (i % 2)) else none) = some d := e
      split at e1
      · rename_i hc
        have e2 := Option.some.inj e1
        subst e2
        cases int_at rx
        cases int_at ry
        obtain ⟨h1, rfl⟩ := hc
        refine rb_of L2.op_odd ⟨i.toNat, by rw [Int.toNat_of_nonneg h1], rfl, ?_⟩
        have e3 : ((i.toNat % 2 : Nat) : Int) = i % 2 := by omega
        rw [e3]
        exact q.here R (.int _)
      · cases e1
    | _ => cases e
  | _ => cases e
theorem bin_ok (op : Op) {om : Om} {io : List Addr} {H : Hp} {h : Hh} {d x y : D} {Q : VK} {v u : V} (e : binD h op x y = some d) (rx : Rp X.K om io H v x) (ry : Rp X.K om io H u y) (R : HpRp X.K om io H h) (q : Post X.K om io H h d Q) : RB X (binaryOp (opOf op)) v u H Q := by
  cases op with
  | add => exact add_ok e rx ry R q
  | sub => exact sub_ok e rx ry R q
  | mul => exact mul_ok e rx ry R q
  | mod => exact mod_ok e rx ry R q
  | fdiv => exact fdiv_ok e rx ry R q
  | pow => exact pow_ok e rx ry R q
  | band => exact band_ok e rx ry R q
  | shl => exact shl_ok e rx ry R q
  | shr => exact shr_ok e rx ry R q
theorem sim_bin (op : Op) (ha : SimE X a eva) (hb : SimE X b evb) : SimE X (.BinOp a (opOf op) b pos) (fun m h => (eva m h).bind fun x h => (evb m h).bind fun y h => R.of (binD h op x y) h) := by
  intro om io H σ m h rs rh d h' ee Q q
  obtain ⟨x, h1, ea, ee⟩ := rbind ee
  obtain ⟨y, h2, eb, ee⟩ := rbind ee
  obtain ⟨ed, rfl⟩ := rof ee
  exact we_of (L2.pe_op rb_op pe_we pe_we) (sim_two ha hb rs rh ea eb fun io' H' v u x' r' _ rv ru => bin_ok op ed rv ru r' (q.ext x'))
theorem sim_neg (ha : SimE X a eva) : SimE X (.UnaryOp .USub a pos) (fun m h => (eva m h).bind fun x h => match x with
    | .int i => .ok (.int (-i)) h
    | _ => .bad) := by
  intro om io H σ m h rs rh d h' ee Q q
  obtain ⟨x, h1, ea, ee⟩ := rbind ee
  split at ee
  · obtain ⟨rfl, rfl⟩ := rok ee
    refine we_of (L2.pe_un L2.un_neg pe_we) (ha om io H σ m h rs rh _ _ ea _ fun io' H' v x' r' rv => ?_)
    cases int_at rv
    exact ⟨_, rfl, q io' H' _ x' r' (.int _)⟩
  · cases ee

/-! ### comparisons -/
theorem simE_bl {evb : Sl → Hh → R Bool} (h : ∀ (om : Om) (io : List Addr) (H : Hp) (σ : L2.St) (m : Sl) (h : Hh), SlRp X.K om io H σ m → HpRp X.K om io H h → ∀ (b : Bool) (h' : Hh), evb m h = .ok b h' → ∀ Q : VK, PostB X.K om io H h' (Q (.bl b)) → WE X e σ H Q) :
    SimE X e (fun m h => (evb m h).bind fun b h => .ok (.bl b) h) := by
  intro om io H σ m h0 rs rh d h' ee Q q
  obtain ⟨k, h1, ek, ee⟩ := rbind ee
  obtain ⟨rfl, rfl⟩ := rok ee
  exact h om io H σ m h0 rs rh k _ ek Q fun io' H' x' r' => q io' H' _ x' r' (.bl k)
/-- a comparison that the marks do not touch -/
def cmMark (op : Cm) (b : Expr) : Bool := !behindInMarks (cmOf op) b
theorem sim_cmp (hu : X.A.units + 65 < cLine) (op : Cm) (hm : cmMark op b = true) (ha : SimE X a eva) (hb : SimE X b evb) :
    SimE X (.Compare a [cmOf op] [b] pos) (fun m h => (eva m h).bind fun x h => (evb m h).bind fun y h => (R.of (cmpD h op x y) h).bind fun c h => .ok (.bl c) h) := by
  intro om io H σ m h rs rh d h' ee Q q
  obtain ⟨x, h1, ea, ee⟩ := rbind ee
  obtain ⟨y, h2, eb, ee⟩ := rbind ee
  obtain ⟨k, h3, ek, ee⟩ := rbind ee
  obtain ⟨ed, rfl⟩ := rof ek
  obtain ⟨rfl, rfl⟩ := rok ee
  exact we_of (L2.pe_cmpR rb_op pe_we pe_we (by simpa [cmMark] using hm)) (sim_two ha hb rs rh ea eb fun io' H' v u x' r' _ rv ru => cmp_ok hu op ed rv ru r' (q io' H' _ x' r' (.bl k)))
theorem simT_cmp (hu : X.A.units + 65 < cLine) (op : Cm) (hm : cmMark op b = true) (ha : SimE X a eva) (hb : SimE X b evb) :
    SimT X (.Compare a [cmOf op] [b] pos) (fun m h => (eva m h).bind fun x h => (evb m h).bind fun y h => R.of (cmpD h op x y) h) := by
  intro om io H σ m h rs rh k h' ee Q q
  obtain ⟨x, h1, ea, ee⟩ := rbind ee
  obtain ⟨y, h2, eb, ee⟩ := rbind ee
  obtain ⟨ed, rfl⟩ := rof ee
  exact wt_of (L2.pt_cmpR rb_op pe_we pe_we (by simpa [cmMark] using hm)) (sim_two ha hb rs rh ea eb fun io' H' v u x' r' _ rv ru => cmp_ok hu op ed rv ru r' ⟨k, rfl, q io' H' x' r'⟩)
theorem sim_chain (hu : X.A.units + 65 < cLine) (op op' : Cm) (hm : lastMarks [cmOf op, cmOf op'] [b, c] = false) (ha : SimE X a eva) (hb : SimE X b evb) (hc : SimE X c evc) :
    SimE X (.Compare a [cmOf op, cmOf op'] [b, c] pos) (fun m h => (eva m h).bind fun x h => (evb m h).bind fun y h => (R.of (cmpD h op x y) h).bind fun k h =>
      if k then (evc m h).bind fun z h => (R.of (cmpD h op' y z) h).bind fun k h => .ok (.bl k) h else .ok (.bl false) h) := by
  intro om io H σ m h rs rh d h' ee Q q
  obtain ⟨x, h1, ea, ee⟩ := rbind ee
  obtain ⟨y, h2, eb, ee⟩ := rbind ee
  obtain ⟨k, h3, ek, ee⟩ := rbind ee
  obtain ⟨ed, rfl⟩ := rof ek
  refine we_of (L2.pe_chain rb_op rb_op pe_we pe_we pe_we hm) (sim_two ha hb rs rh ea eb fun io' H' v u x' r' rs' rv ru => cmp_ok hu op ed rv ru r' ⟨k, rfl, ?_⟩)
  cases k with
  | false =>
    obtain ⟨rfl, rfl⟩ := rok ee
    rw [if_neg Bool.false_ne_true]
    exact q io' H' _ x' r' (.bl false)
  | true =>
    rw [if_pos rfl]
    obtain ⟨z, h4, ez, ee⟩ := rbind ee
    obtain ⟨k2, h5, ek, ee⟩ := rbind ee
    obtain ⟨ed2, rfl⟩ := rof ek
    obtain ⟨rfl, rfl⟩ := rok ee
    exact hc om io' H' σ m _ rs' r' z _ ez _ fun io2 H2 w x2 r2 rw' => cmp_ok hu op' ed2 (ru.ext x2) rw' r2 (q io2 H2 _ (x'.trans x2) r2 (.bl k2))

/-! ### truth -/
/-- the test of an expression is its value's truth -/
def Plain (X : Cx) (e : Expr) : Prop := ∀ whole, isTrue e X.env whole = (do let v ← whole; standAt e.pos; holding [v] (PySem.truthy v))
theorem simT_plain (hp : Plain X e) (he : SimE X e ev) : SimT X e (fun m h => truthR (ev m h)) := by
  intro om io H σ m h rs rh k h' ee Q q
  obtain ⟨x, h1, ea, ee⟩ := rbind ee
  obtain ⟨ed, rfl⟩ := rof ee
  exact wt_of (L2.pt_truth pe_we hp) (he om io H σ m h rs rh x _ ea _ fun io' H' v x' r' rv => ⟨k, tru_ok ed rv r', q io' H' x' r'⟩)
theorem sim_notE {evt : Sl → Hh → R Bool} (hev : ∀ m h, evt m h = truthR (ev m h)) (ha : SimE X e ev) : SimE X (.UnaryOp .Not e pos) (fun m h => (evt m h).bind fun b h => .ok (.bl (!b)) h) := by
  intro om io H σ m h rs rh d h' ee Q q
  obtain ⟨k, h1, ek, ee⟩ := rbind ee
  obtain ⟨rfl, rfl⟩ := rok ee
  rw [hev] at ek
  obtain ⟨x, h2, ea, ek⟩ := rbind ek
  obtain ⟨ed, rfl⟩ := rof ek
  exact we_of (L2.pe_notT pe_we) (ha om io H σ m h rs rh x _ ea _ fun io' H' v x' r' rv => ⟨k, tru_ok ed rv r', q io' H' _ x' r' (.bl _)⟩)
theorem simT_not {evt : Sl → Hh → R Bool} (ht : SimT X e evt) : SimT X (.UnaryOp .Not e pos) (fun m h => truthR ((evt m h).bind fun b h => .ok (.bl (!b)) h)) := by
  intro om io H σ m h rs rh k h' ee Q q
  obtain ⟨x, h1, ea, ee⟩ := rbind ee
  obtain ⟨j, h2, ej, ea⟩ := rbind ea
  obtain ⟨rfl, rfl⟩ := rok ea
  obtain ⟨ed, rfl⟩ := rof ee
  have e1 : (!j) = k := Option.some.inj ed
  subst e1
  exact wt_of (L2.pt_not pt_wt) (ht om io H σ m h rs rh j _ ej _ fun io' H' x' r' => q io' H' x' r')
theorem sim_ite {evt : Sl → Hh → R Bool} (hc : SimT X c evt) (ha : SimE X a eva) (hb : SimE X b evb) : SimE X (.IfExp c a b pos) (fun m h => (evt m h).bind fun k h => if k then eva m h else evb m h) := by
  intro om io H σ m h rs rh d h' ee Q q
  obtain ⟨k, h1, ek, ee⟩ := rbind ee
  refine we_of (L2.pe_ifExp pt_wt pe_we pe_we) (hc om io H σ m h rs rh k _ ek _ fun io' H' x' r' => ?_)
  cases k with
  | true => rw [if_pos rfl]; exact ha om io' H' σ m _ (rs.ext x') r' d _ ee _ (q.ext x')
  | false => rw [if_neg Bool.false_ne_true]; exact hb om io' H' σ m _ (rs.ext x') r' d _ ee _ (q.ext x')

/-! ### a and b and ..: as a value, as a test -/
variable {rest : List Expr}
theorem sim_one {op : BoolOp} (ha : SimE X a eva) : SimE X (.BoolOp op [a] pos) eva := fun om io H σ m h rs rh d h' ee Q q => we_of (L2.pe_one pe_we) (ha om io H σ m h rs rh d h' ee Q q)
theorem sim_and (ha : SimE X a eva) (hb : SimE X (.BoolOp .And (b :: rest) pos) evb) : SimE X (.BoolOp .And (a :: b :: rest) pos) (fun m h => (eva m h).bind fun x h => (R.of (truthy h x) h).bind fun k h => if k then evb m h else .ok x h) := by
  intro om io H σ m h rs rh d h' ee Q q
  obtain ⟨x, h1, ea, ee⟩ := rbind ee
  obtain ⟨k, h2, ek, ee⟩ := rbind ee
  obtain ⟨ed, rfl⟩ := rof ek
  refine we_of (L2.pe_andT pe_we pe_we) (ha om io H σ m h rs rh x _ ea _ fun io' H' v x' r' rv => ⟨k, tru_ok ed rv r', ?_⟩)
  cases k with
  | true => rw [if_pos rfl]; exact hb om io' H' σ m _ (rs.ext x') r' d _ ee _ (q.ext x')
  | false =>
    rw [if_neg Bool.false_ne_true]
    obtain ⟨rfl, rfl⟩ := rok ee
    exact q io' H' v x' r' rv
theorem sim_or (ha : SimE X a eva) (hb : SimE X (.BoolOp .Or (b :: rest) pos) evb) : SimE X (.BoolOp .Or (a :: b :: rest) pos) (fun m h => (eva m h).bind fun x h => (R.of (truthy h x) h).bind fun k h => if k then .ok x h else evb m h) := by
  intro om io H σ m h rs rh d h' ee Q q
  obtain ⟨x, h1, ea, ee⟩ := rbind ee
  obtain ⟨k, h2, ek, ee⟩ := rbind ee
  obtain ⟨ed, rfl⟩ := rof ek
  refine we_of (L2.pe_orT pe_we pe_we) (ha om io H σ m h rs rh x _ ea _ fun io' H' v x' r' rv => ⟨k, tru_ok ed rv r', ?_⟩)
  cases k with
  | false => rw [if_neg Bool.false_ne_true]; exact hb om io' H' σ m _ (rs.ext x') r' d _ ee _ (q.ext x')
  | true =>
    rw [if_pos rfl]
    obtain ⟨rfl, rfl⟩ := rok ee
    exact q io' H' v x' r' rv
/-- as tests: whatever the whole is -/
def SimW (X : Cx) (e : Expr) (ev : Sl → Hh → R Bool) : Prop := ∀ (om : Om) (io : List Addr) (H : Hp) (σ : L2.St) (m : Sl) (h : Hh), SlRp X.K om io H σ m → HpRp X.K om io H h → ∀ (b : Bool) (h' : Hh), ev m h = .ok b h' → ∀ Q : Bool → Hp → Prop, PostB X.K om io H h' (Q b) →
  ∀ (whole : Sem Value) (pins : List (Addr × Obj)) (s : Shared), Inv X pins σ H s → wpAny (model X.prog X.w) X.A (isTrue e X.env whole) (TP X pins σ Q) X.xe s
def WW (X : Cx) (e : Expr) : TT := fun σ H Q => ∀ (whole : Sem Value) (pins : List (Addr × Obj)) (s : Shared), Inv X pins σ H s → wpAny (model X.prog X.w) X.A (isTrue e X.env whole) (TP X pins σ Q) X.xe s
theorem pw_ww : PW X e (WW X e) := ⟨fun whole pins s σ H Q I h => h whole pins s I⟩
theorem SimW.t {ev : Sl → Hh → R Bool} (w : SimW X e ev) : SimT X e ev := fun om io H σ m h rs rh b h' ee Q q whole pins s I _ => w om io H σ m h rs rh b h' ee Q q whole pins s I
theorem simW_and1 {evt : Sl → Hh → R Bool} (ha : SimT X a evt) : SimW X (.BoolOp .And [a] pos) evt := fun om io H σ m h rs rh b h' ee Q q whole pins s I => (L2.pw_and1 pt_wt).run whole pins s σ H Q I (ha om io H σ m h rs rh b h' ee Q q)
theorem simW_or1 {evt : Sl → Hh → R Bool} (ha : SimT X a evt) : SimW X (.BoolOp .Or [a] pos) evt := fun om io H σ m h rs rh b h' ee Q q whole pins s I => (L2.pw_or1 pt_wt).run whole pins s σ H Q I (ha om io H σ m h rs rh b h' ee Q q)
theorem simW_and {eta etb : Sl → Hh → R Bool} (ha : SimT X a eta) (hb : SimW X (.BoolOp .And (b :: rest) pos) etb) : SimW X (.BoolOp .And (a :: b :: rest) pos) (fun m h => (eta m h).bind fun k h => if k then etb m h else .ok false h) := by
  intro om io H σ m h rs rh k h' ee Q q whole pins s I
  obtain ⟨j, h1, ej, ee⟩ := rbind ee
  refine (L2.pw_and pt_wt pw_ww).run whole pins s σ H Q I (ha om io H σ m h rs rh j _ ej _ fun io' H' x' r' => ?_)
  cases j with
  | true => rw [if_pos rfl]; exact hb om io' H' σ m _ (rs.ext x') r' k _ ee _ (q.ext x')
  | false =>
    rw [if_neg Bool.false_ne_true]
    obtain ⟨rfl, rfl⟩ := rok ee
    exact q io' H' x' r'
theorem simW_or {eta etb : Sl → Hh → R Bool} (ha : SimT X a eta) (hb : SimW X (.BoolOp .Or (b :: rest) pos) etb) : SimW X (.BoolOp .Or (a :: b :: rest) pos) (fun m h => (eta m h).bind fun k h => if k then .ok true h else etb m h) := by
  intro om io H σ m h rs rh k h' ee Q q whole pins s I
  obtain ⟨j, h1, ej, ee⟩ := rbind ee
  refine (L2.pw_or pt_wt pw_ww).run whole pins s σ H Q I (ha om io H σ m h rs rh j _ ej _ fun io' H' x' r' => ?_)
  cases j with
  | false => rw [if_neg Bool.false_ne_true]; exact hb om io' H' σ m _ (rs.ext x') r' k _ ee _ (q.ext x')
  | true =>
    rw [if_pos rfl]
    obtain ⟨rfl, rfl⟩ := rok ee
    exact q io' H' x' r'

/-! ### items, slices -/
theorem sim_idx (hu : X.A.units + 65 < cLine) (hs : L2.PlainIx b) (ha : SimE X a eva) (hb : SimE X b evb) : SimE X (.Subscript a b pos) (fun m h => (eva m h).bind fun x h => (evb m h).bind fun y h => R.of (idxD h x y) h) := by
  intro om io H σ m h rs rh d h' ee Q q
  obtain ⟨x, h1, ea, ee⟩ := rbind ee
  obtain ⟨y, h2, eb, ee⟩ := rbind ee
  obtain ⟨ed, rfl⟩ := rof ee
  exact we_of (L2.pe_ix ri_ix pe_we pe_we hs) (sim_two ha hb rs rh ea eb fun io' H' v u x' r' _ rv ru => idx_ok hu ed rv ru r' (q.ext x'))
theorem simO_none : SimO X none (fun m h => .ok none h) := fun om io H σ m h rs rh o h' ee Q q => by
  obtain ⟨rfl, rfl⟩ := rok ee
  exact wo_of L2.po_none (q io H .refl rh)
theorem simO_some (ha : SimE X a eva) : SimO X (some a) (fun m h => (eva m h).bind fun x h => match x with
    | .int i => .ok (some i) h
    | _ => .bad) := by
  intro om io H σ m h rs rh o h' ee Q q
  obtain ⟨x, h1, ea, ee⟩ := rbind ee
  split at ee
  · obtain ⟨rfl, rfl⟩ := rok ee
    refine wo_of (L2.po_some pe_we) (ha om io H σ m h rs rh _ _ ea _ fun io' H' v x' r' rv => ?_)
    cases int_at rv
    exact ⟨_, rfl, q io' H' x' r'⟩
  · cases ee
theorem sim_slice {lo hi : Option Expr} {el eh : Sl → Hh → R (Option Int)} {p2 : Pos} (ha : SimE X a eva) (hl : SimO X lo el) (hh : SimO X hi eh) :
    SimE X (.Subscript a (.Slice lo hi none p2) pos) (fun m h => (eva m h).bind fun x h => (el m h).bind fun l h => (eh m h).bind fun u h => R.of (sliceD h x l u) h) := by
  intro om io H σ m h rs rh d h' ee Q q
  obtain ⟨x, h1, ea, ee⟩ := rbind ee
  obtain ⟨l, h2, eel, ee⟩ := rbind ee
  obtain ⟨u, h3, eeu, ee⟩ := rbind ee
  obtain ⟨ed, rfl⟩ := rof ee
  refine we_of (L2.pe_slice rs_sl pe_we po_wo po_wo) (ha om io H σ m h rs rh x _ ea _ fun io1 H1 v x1 r1 rv => hl om io1 H1 σ m _ (rs.ext x1) r1 l _ eel _ fun io2 H2 x2 r2 =>
    hh om io2 H2 σ m _ ((rs.ext x1).ext x2) r2 u _ eeu _ fun io3 H3 x3 r3 => slice_ok ed ((rv.ext x2).ext x3) r3 (q.ext ((x1.trans x2).trans x3)))
/-! ### displays -/
theorem simA_nil : SimA X [] (fun m h => .ok [] h) := fun om io H σ m h rs rh ds h' ee Q q => by
  obtain ⟨rfl, rfl⟩ := rok ee
  exact wa_of L2.pa_nil (q io H [] .refl rh .nil)
theorem simA_cons {es : List Expr} {evs : Sl → Hh → R (List D)} (hs : starEach (e :: es) X.env = (false, eval e X.env) :: starEach es X.env) (ha : SimE X e ev) (hr : SimA X es evs) : SimA X (e :: es) (fun m h => (ev m h).bind fun x h => (evs m h).bind fun xs h => .ok (x :: xs) h) := by
  intro om io H σ m h rs rh ds h' ee Q q
  obtain ⟨x, h1, ea, ee⟩ := rbind ee
  obtain ⟨xs, h2, eb, ee⟩ := rbind ee
  obtain ⟨rfl, rfl⟩ := rok ee
  exact wa_of (L2.pa_cons pe_we pa_wa hs) (ha om io H σ m h rs rh x _ ea _ fun io1 H1 v x1 r1 rv => hr om io1 H1 σ m _ (rs.ext x1) r1 xs _ eb _ fun io2 H2 vs x2 r2 rvs => q io2 H2 _ (x1.trans x2) r2 (.cons (rv.ext x2) rvs))

def mesLen : MEs → Nat
  | .nil => 0
  | .cons _ es => mesLen es + 1
theorem evalEs_len (C : Oracle) : ∀ (es : MEs) (m : Sl) (h : Hh) (ds : List D) (h' : Hh), evalEs C es m h = .ok ds h' → ds.length = mesLen es
  | .nil, m, h, ds, h', ee => by
    unfold evalEs at ee
    obtain ⟨rfl, rfl⟩ := rok ee
    rfl
  | .cons e es, m, h, ds, h', ee => by
    unfold evalEs at ee
    obtain ⟨x, h1, ea, ee⟩ := rbind ee
    obtain ⟨xs, h2, eb, ee⟩ := rbind ee
    obtain ⟨rfl, rfl⟩ := rok ee
    show xs.length + 1 = mesLen es + 1
    rw [evalEs_len C es m h1 xs h2 eb]
theorem sim_tup {es : List Expr} {evs : Sl → Hh → R (List D)} {x1 : Bool} (hl : ∀ m h ds h', evs m h = .ok ds h' → ds.length ≤ lim) {k : Nat} (ha : SimA X es evs) : SimE X (.Tuple es k pos) (fun m h => (evs m h).bind fun xs h => .ok (.tup xs) h) := by
  intro om io H σ m h rs rh d h' ee Q q
  obtain ⟨xs, h1, ea, ee⟩ := rbind ee
  obtain ⟨rfl, rfl⟩ := rok ee
  exact we_of (L2.pe_tup pa_wa) (ha om io H σ m h rs rh xs _ ea _ fun io1 H1 vs x1 r1 rvs => ⟨by rw [rvs.length]; exact lim_line (hl _ _ _ _ ea), (q.ext x1).tup r1 rvs⟩)
theorem sim_lstN {es : List Expr} {evs : Sl → Hh → R (List D)} (hl : ∀ m h ds h', evs m h = .ok ds h' → ds.length ≤ lim) (ha : SimA X es evs) : SimN X (.List es pos) (fun m h => (evs m h).bind fun xs h => .ok (.lst xs) h) := by
  intro om io H σ m h rs rh ds h' ee Q q
  obtain ⟨xs, h1, ea, ee⟩ := rbind ee
  obtain ⟨e1, rfl⟩ := rok ee
  have e2 : xs = ds := D.lst.inj e1
  subst e2
  exact we_of (L2.pe_lst pa_wa) (ha om io H σ m h rs rh xs _ ea _ fun io1 H1 vs x1 r1 rvs => ⟨by rw [rvs.length]; exact lim_line (hl _ _ _ _ ea), fun p hp => q io1 H1 p vs x1 r1 rvs hp⟩)
/-- a new cell of a new list -/
theorem sim_new (n : SimN X e ev) (s : SimE X e ev) : SimE X e (fun m h => (ev m h).bind fun d h => match d with
    | .lst xs => .ok (.ref h.length) (h ++ [.lst xs])
    | d => .ok d h) := by
  intro om io H σ m h rs rh d h' ee Q q
  obtain ⟨x, h1, ea, ee⟩ := rbind ee
  split at ee
  · rename_i xs
    obtain ⟨rfl, rfl⟩ := rok ee
    refine n om io H σ m h rs rh xs _ ea Q fun io' H' p vs x' r' rvs hp => ?_
    have fr := r'.fresh hp
    obtain ⟨x2, r2⟩ := r'.new (o := .lst vs) (c := .lst xs) hp ⟨vs, upd_same, rvs.ext ⟨⟨[p], rfl, fun a ha => by rw [List.mem_singleton.mp ha]; exact hp⟩, fun a u e _ => same_new hp a u e, fun a u e => ⟨u, same_new hp a u e⟩⟩⟩
    exact q _ _ _ (x'.trans x2) r2 (.ref (by rw [List.getElem?_append_right (by rw [r'.len]; exact Nat.le_refl _), r'.len, Nat.sub_self]; rfl))
  · obtain ⟨rfl, rfl⟩ := rok ee
    exact s om io H σ m h rs rh _ _ ea Q q
theorem sim_newK {C : Oracle} : SimE X (.Dict [] [] pos) (evalE C .newK) := by
  intro om io H σ m h rs rh d h' ee Q q
  obtain ⟨rfl, rfl⟩ := rok ee
  refine we_of L2.pe_dnewK fun p hp => ?_
  obtain ⟨x2, r2⟩ := rh.new (o := .dK []) (c := .dK []) hp ⟨[], upd_same, rfl, .nil⟩
  exact q _ _ _ x2 r2 (.ref (by rw [List.getElem?_append_right (by rw [rh.len]; exact Nat.le_refl _), rh.len, Nat.sub_self]; rfl))
theorem sim_dct0 {C : Oracle} : SimE X (.Dict [] [] pos) (evalE C (.cst (.dct []))) := by
  intro om io H σ m h rs rh d h' ee Q q
  obtain ⟨rfl, rfl⟩ := rok ee
  exact we_of L2.pe_dnewK fun p hp => q.at rh (same_new hp) (.dct (kvs := []) upd_same (rh.fresh hp).1 (rh.fresh hp).2)
theorem sim_dct1 {C : Oracle} {z : Str} {j1 j2 : Nat} {p1 p2 : Pos} (hz : z = S ['a']) : SimE X (.Dict [some (.Constant (.str z) j1 p1)] [.Constant (.int 1) j2 p2] pos) (evalE C (.cst (.dct [(['a'], 1)]))) := by
  intro om io H σ m h rs rh d h' ee Q q
  obtain ⟨rfl, rfl⟩ := rok ee
  subst hz
  refine we_of (L2.pe_disp (L2.pps_cons L2.pe_str L2.pe_int L2.pps_nil) rfl rfl (by simp) (by simp)) fun p hp => ?_
  refine ⟨upd_same, [(Sum.inr (S ['a']), V.int 1)], rfl, by simp, ?_⟩
  have e : upd (upd H p (.dK [])) p (.dK (L2.mergeK [] [((Sum.inr (S ['a']) : Key), V.int 1)])) = upd H p (.dK [((Sum.inr (S ['a']) : Key), V.int 1)]) := by rw [L2.upd_upd]; rfl
  rw [e]
  exact q.at rh (same_new hp) (.dct (kvs := [(['a'], 1)]) upd_same (rh.fresh hp).1 (rh.fresh hp).2)
theorem sim_newT {C : Oracle} : SimE X (.Dict [] [] pos) (evalE C .newT) := by
  intro om io H σ m h rs rh d h' ee Q q
  obtain ⟨rfl, rfl⟩ := rok ee
  refine we_of L2.pe_dnewT fun p hp => ?_
  obtain ⟨x2, r2⟩ := rh.new (o := .dT []) (c := .dT []) hp ⟨[], upd_same, rfl, .nil⟩
  exact q _ _ _ x2 r2 (.ref (by rw [List.getElem?_append_right (by rw [rh.len]; exact Nat.le_refl _), rh.len, Nat.sub_self]; rfl))
/-- a new list by xs + ys, xs * k -/
theorem add_newN {om : Om} {io : List Addr} {H : Hp} {h : Hh} {xs ys : List D} {x y : D} {v u : V} {Q : VK} (hx : lstOf h x = some xs) (hy : lstOf h y = some ys) (hl : xs.length + ys.length ≤ lim) (rx : Rp X.K om io H v x) (ry : Rp X.K om io H u y) (R : HpRp X.K om io H h)
    (q : PostN X.K om io H h (xs ++ ys) Q) : RB X (binaryOp .Add) v u H Q := by
  obtain ⟨a, vs, rfl, ha, ra⟩ := lst_of hx rx R
  obtain ⟨b, us, rfl, hb, rb⟩ := lst_of hy ry R
  exact rb_of L2.op_cat ⟨a, b, vs, us, rfl, rfl, ha, hb, by rw [ra.length, rb.length]; exact lim_line hl, fun p hp => q io H p _ .refl R (ra.append rb) hp⟩
theorem add_lst {h : Hh} {x y : D} {ds : List D} (e : binD h .add x y = some (.lst ds)) : ∃ xs ys, lstOf h x = some xs ∧ lstOf h y = some ys ∧ xs.length + ys.length ≤ lim ∧ xs ++ ys = ds := by
  have gen2 : (match lstOf h x, lstOf h y with
      | some xs, some ys => if xs.length + ys.length ≤ lim then some (D.lst (xs ++ ys)) else none
      | _, _ => none) = some (.lst ds) → ∃ xs ys, lstOf h x = some xs ∧ lstOf h y = some ys ∧ xs.length + ys.length ≤ lim ∧ xs ++ ys = ds := by
    intro he
    split at he
    · rename_i xs ys hx hy
      split at he
      · rename_i hl
        exact ⟨xs, ys, hx, hy, hl, D.lst.inj (Option.some.inj he)⟩
      · cases he
    · cases he
  cases x with
  | int i => cases y with
    | int j => cases e
    | _ => exact gen2 e
  | str s => cases y with
    | str t =>
      have e1 : (if s.length + t.length ≤ lim then some (D.str (s ++ t)) else none) = some (.lst ds) := e
      split at e1
      · cases e1
      · cases e1
    | _ => exact gen2 e
  | tup xs => cases y with
    | tup ys =>
      have e1 : (if xs.length + ys.length ≤ lim then some (D.tup (xs ++ ys)) else none) = some (.lst ds) := e
      split at e1
      · cases e1
      · cases e1
    | _ => exact gen2 e
  | bl _ => cases y with
    | int j => cases e
    | _ => exact gen2 e
  | _ => exact gen2 e
theorem mul_newN {om : Om} {io : List Addr} {H : Hp} {h : Hh} {ds : List D} {x y : D} {v u : V} {Q : VK} (e : binD h .mul x y = some (.lst ds)) (rx : Rp X.K om io H v x) (ry : Rp X.K om io H u y) (R : HpRp X.K om io H h)
    (q : PostN X.K om io H h ds Q) : RB X (binaryOp .Mult) v u H Q := by
  have gen : ∀ k : Int, y = .int k → (match lstOf h x with
      | some xs => if xs.length ≤ 1000 ∧ -1000 ≤ k ∧ k ≤ 1000 then some (D.lst (repL k.toNat xs)) else none
      | none => none) = some (.lst ds) → RB X (binaryOp .Mult) v u H Q := by
    intro k hk he
    subst hk
    split at he
    · rename_i xs hx
      split at he
      · rename_i hl
        have e2 : repL k.toNat xs = ds := D.lst.inj (Option.some.inj he)
        subst e2
        obtain ⟨a, vs, rfl, ha, ra⟩ := lst_of hx rx R
        cases int_at ry
        refine rb_of L2.op_rep ⟨a, k, vs, rfl, rfl, ha, by omega, by omega, ?_, fun p hp => q io H p _ .refl R (Rps.repL ra k.toNat) hp⟩
        rw [ra.length, sizeLine_eq]
        have h1 : xs.length * k.toNat ≤ 1000 * 1000 := Nat.mul_le_mul hl.1 (by omega)
        omega
      · cases he
    · cases he
  cases x with
  | int i => cases y with
    | int j =>
      have e1 : (if CMul i j then some (D.int (i * j)) else none) = some (.lst ds) := e
      split at e1 <;> cases e1
    | _ => cases e
  | tup xs => cases y with
    | int k =>
      have e1 : (if k = 1 then some (D.tup xs) else if xs ≠ [] ∧ 2 ≤ k ∧ xs.length ≤ 1000 ∧ k ≤ 1000 then some (D.tup (repL k.toNat xs)) else none) = some (.lst ds) := e
      split at e1
      · cases e1
      split at e1 <;> cases e1
    | _ => cases e
  | lst xs => cases y with
    | int k => exact gen k rfl e
    | _ => cases e
  | ref n => cases y with
    | int k => exact gen k rfl e
    | _ => cases e
  | non => cases y <;> cases e
  | bl b => cases y <;> cases e
  | str s => cases y with
    | int k =>
      have e1 : (if s ≠ [] ∧ 2 ≤ k ∧ s.length ≤ 1000 ∧ k ≤ 1000 then some (D.str (repL k.toNat s)) else none) = some (.lst ds) := e
      split at e1 <;> cases e1
    | _ => cases e
  | scr xs => cases y <;> cases e
  | dct xs => cases y <;> cases e
  | rep xs => cases y <;> cases e
theorem sim_addN (ha : SimE X a eva) (hb : SimE X b evb) : SimN X (.BinOp a .Add b pos) (fun m h => (eva m h).bind fun x h => (evb m h).bind fun y h => R.of (binD h .add x y) h) := by
  intro om io H σ m h rs rh ds h' ee Q q
  obtain ⟨x, h1, ea, ee⟩ := rbind ee
  obtain ⟨y, h2, eb, ee⟩ := rbind ee
  obtain ⟨ed, rfl⟩ := rof ee
  obtain ⟨xs, ys, hx, hy, hl, rfl⟩ := add_lst ed
  exact we_of (L2.pe_op rb_op pe_we pe_we) (sim_two ha hb rs rh ea eb fun io' H' v u x' r' _ rv ru => add_newN hx hy hl rv ru r' (q.ext x'))
theorem sim_mulN (ha : SimE X a eva) (hb : SimE X b evb) : SimN X (.BinOp a .Mult b pos) (fun m h => (eva m h).bind fun x h => (evb m h).bind fun y h => R.of (binD h .mul x y) h) := by
  intro om io H σ m h rs rh ds h' ee Q q
  obtain ⟨x, h1, ea, ee⟩ := rbind ee
  obtain ⟨y, h2, eb, ee⟩ := rbind ee
  obtain ⟨ed, rfl⟩ := rof ee
  exact we_of (L2.pe_op rb_op pe_we pe_we) (sim_two ha hb rs rh ea eb fun io' H' v u x' r' _ rv ru => mul_newN ed rv ru r' (q.ext x'))
theorem sim_sliceN {lo hi : Option Expr} {el eh : Sl → Hh → R (Option Int)} {p2 : Pos} (ha : SimE X a eva) (hl : SimO X lo el) (hh : SimO X hi eh) :
    SimN X (.Subscript a (.Slice lo hi none p2) pos) (fun m h => (eva m h).bind fun x h => (el m h).bind fun l h => (eh m h).bind fun u h => R.of (sliceD h x l u) h) := by
  intro om io H σ m h rs rh ds h' ee Q q
  obtain ⟨x, h1, ea, ee⟩ := rbind ee
  obtain ⟨l, h2, eel, ee⟩ := rbind ee
  obtain ⟨u, h3, eeu, ee⟩ := rbind ee
  obtain ⟨ed, rfl⟩ := rof ee
  have hx : ∃ xs, rdOf h3 x = some xs ∧ cut xs l u = ds := by
    have gen : (rdOf h3 x).map (fun xs => D.lst (cut xs l u)) = some (.lst ds) → ∃ xs, rdOf h3 x = some xs ∧ cut xs l u = ds := by
      intro e
      obtain ⟨xs, h1, h2⟩ := map_some e
      exact ⟨xs, h1, D.lst.inj h2⟩
    cases x with
    | tup xs => cases ed
    | str s =>
      have e1 : (if s.length ≤ lim then some (D.str (cut s l u)) else none) = some (.lst ds) := ed
      split at e1 <;> cases e1
    | _ => exact gen ed
  obtain ⟨xs, hx, rfl⟩ := hx
  refine we_of (L2.pe_slice rs_sl pe_we po_wo po_wo) (ha om io H σ m h rs rh x _ ea _ fun io1 H1 v x1 r1 rv => hl om io1 H1 σ m _ (rs.ext x1) r1 l _ eel _ fun io2 H2 x2 r2 =>
    hh om io2 H2 σ m _ ((rs.ext x1).ext x2) r2 u _ eeu _ fun io3 H3 x3 r3 => ?_)
  obtain ⟨a', vs, e5, h5, ra⟩ := rd_of hx ((rv.ext x2).ext x3) r3
  exact rs_of L2.sl_list ⟨a', vs, e5, h5, fun p hp => q io3 H3 p _ ((x1.trans x2).trans x3) r3 (cut_rps ra l u) hp⟩
end
end Mini
end
section
set_option Elab.async false
set_option linter.all false
set_option autoImplicit false
set_option maxRecDepth 100000
set_option maxHeartbeats 4000000
/-! SoundV: t[::-1] of a tuple. -/
namespace RV
open PySem PySem.Spec PyProof.Rows HT
section
variable {prog : Program} {w : World} {A : Around} {E : Value → Shared → Prop} {s : Shared}
theorem fm_congr {α β : Type} {f g : α → Option β} : ∀ {l : List α}, (∀ a ∈ l, f a = g a) → l.filterMap f = l.filterMap g
  | [], _ => rfl
  | a :: l, h => by rw [List.filterMap_cons, List.filterMap_cons, h a List.mem_cons_self, fm_congr fun b hb => h b (List.mem_cons_of_mem _ hb)]
theorem adjust_rev (n : Nat) : Builtin.Slice.sliceAdjust none none (-1) (n : Int) = ((n : Int) - 1, -1) := by
  unfold Builtin.Slice.sliceAdjust
  simp
theorem places_rev (n : Nat) : Builtin.Slice.slicePlaces ((n : Int) - 1) (-1) (-1) = n := by
  unfold Builtin.Slice.slicePlaces
  simp
  omega
theorem applied_rev {sl : Addr} {vl vu vs : Value} {n : Nat} {Q : Int × Int × Nat → Shared → Prop} (hs : s.heap.IsSliceOf sl vl vu vs) (pl : IsPart vl none) (pu : IsPart vu none) (ps : IsPart vs (some (-1)))
    (h : Q ((n : Int) - 1, -1, n) s) : wpAny (model prog w) A (Builtin.Slice.sliceApplied (.ref sl) (pure (n : Int))) Q E s := by
  obtain ⟨os, hos, hcs, hds⟩ := id hs
  unfold Builtin.Slice.sliceApplied Builtin.Slice.sliceFields
  refine wpAny_bind (wpAny_bind (wpAny_field hos hds (x := vl) rfl (wpAny_bind (wpAny_field hos hds (x := vu) rfl (wpAny_bind (wpAny_field hos hds (x := vs) rfl (wpAny_pure ?_)))))))
  refine wpAny_bind (slicePart_ ps ?_)
  show wpAny _ _ (if ((-1 : Int) == 0) = true then _ else _) _ _ s
  rw [if_neg (by decide)]
  refine wpAny_bind (slicePart_ pl (wpAny_bind (slicePart_ pu (wpAny_bind (wpAny_pure ?_)))))
  show wpAny _ _ (match Builtin.Slice.sliceAdjust none none (-1) (n : Int) with | (lo, hi) => pure (lo, (-1 : Int), Builtin.Slice.slicePlaces lo hi (-1))) _ _ s
  rw [adjust_rev]
  dsimp only
  rw [places_rev]
  exact wpAny_pure h
theorem pick_rev (xs : Array Value) : ((List.range xs.size).filterMap fun (m : Nat) => xs[(((xs.size : Int) - 1) + (m : Int) * (-1)).toNat]?).toArray = xs.toList.reverse.toArray := by
  have e1 : (List.range xs.size).filterMap (fun (m : Nat) => xs[(((xs.size : Int) - 1) + (m : Int) * (-1)).toNat]?) = ((List.range xs.size).map fun k => xs.size - 1 - k).filterMap (xs[·]?) := by
    rw [List.filterMap_map]
    refine fm_congr fun m hm => ?_
    have := List.mem_range.mp hm
    have e : (((xs.size : Int) - 1) + (m : Int) * (-1)).toNat = xs.size - 1 - m := by omega
    show xs[_]? = xs[_]?
    rw [e]
  rw [e1, PySem.W.krv_range, List.filterMap_reverse, PySem.W.krv_all]
theorem getItem_rev {t sl : Addr} {items : Array Value} {vl vu vs : Value} {Q : Value → Shared → Prop} (ht : IsTup s.heap t items) (hs : s.heap.IsSliceOf sl vl vu vs) (pl : IsPart vl none) (pu : IsPart vu none) (ps : IsPart vs (some (-1)))
    (h : Q (.ref s.heap.objs.size) { s with heap := s.heap.push { cls := .type "tuple", data := .seq items.toList.reverse.toArray } }) (hsz : items.size ≤ sizeLine) : wpAny (model prog w) A (getItem (.ref t) (.ref sl)) Q E s := by
  have hok : sizeOk (.seq items.toList.reverse.toArray) := by
    show items.toList.reverse.toArray.size ≤ sizeLine
    simpa using hsz
  obtain ⟨os, hos, hcs, hds⟩ := id hs
  have hTs : s.TypeIs (.ref sl) "slice" := ⟨os, hos, hcs⟩
  unfold getItem
  try with_reducible refine wpAny_holding ?_
  first | refine wpAny_bind (wpAny_pure ?_) | skip
  refine wpAny_bind (wpAny_sequenceKey ht.typeIs (by decide) ?_)
  refine wpAny_bind (wpAny_callSpecial?_slot (name := Str.ofString "__getitem__") ht.typeIs PyProof.Rows.slot_tuple_getitem
    (wpAny_call_entry PyProof.Rows.slot_tuple_getitem ht.typeIs entry_tuple_getitem ?_ (args_tuple_getitem _ _)))
  show wpAny _ _ (Builtin.Tuple.tupleItemsOf (.ref t) >>= _) _ _ s
  refine wpAny_bind (tupleItemsOf_ ht ?_)
  refine wpAny_bind (wpAny_typeOf hTs ?_)
  rw [if_pos (by decide)]
  refine wpAny_bind (applied_rev hs pl pu ps ?_)
  have hno : ¬ ((((items.size : Int) - 1) == 0 && (-1 : Int) == 1 && items.size == items.size) = true) := by simp
  show wpAny _ _ (if (((items.size : Int) - 1) == 0 && (-1 : Int) == 1 && items.size == items.size) = true then _ else _) _ _ s
  rw [if_neg hno, pick_rev]
  first
    | exact wpAny_bind (m := Builtin.Tuple.tupleExact _) (wpAny_newObj_type (wpAny_pure ⟨_, rfl, wpAny_pure h⟩) hok)
    | exact wpAny_bind (m := Builtin.Tuple.tupleExact _) (wpAny_newObj_type (wpAny_bind (wpAny_pure (wpAny_pure ⟨_, rfl, wpAny_pure h⟩))) hok)
    | exact wpAny_bind (wpAny_bind (m := Builtin.Tuple.tupleExact _) (wpAny_newObj_type (wpAny_pure (wpAny_pure ⟨_, rfl, wpAny_pure h⟩)) hok))
    | exact wpAny_bind (wpAny_bind (m := Builtin.Tuple.tupleExact _) (wpAny_newObj_type (wpAny_pure ⟨_, rfl, wpAny_pure h⟩) hok))
end
open L2 PySem.W
variable {X : Cx}
/-- x[::-1], a list or a tuple -/
def tRev (K : PySem.W.Frag) (te : TE) : TE := fun σ H Q => te σ H fun x H1 => ∃ a xs, x = .ref a ∧ ((SqL K H1 a xs ∧ ∀ p, H1 p = none → Q (.ref p) (upd H1 p (.lst xs.reverse))) ∨ (SqT K H1 a xs ∧ ∀ p, H1 p = none → Q (.ref p) (upd H1 p (.tup xs.reverse))))
theorem pe_rev {e : Expr} {te : TE} {k : Nat} {p1 p2 p3 pos : Pos} (he : PE X e te) : PE X (.Subscript e (.Slice none none (some (.UnaryOp .USub (.Constant (.int 1) k p1) p2)) p3) pos) (tRev X.K te) := by
  refine ⟨fun pins s σ H Q I h => ?_⟩
  refine Subscript_ (thn (he.run pins s σ H _ I h) fun v s1 ⟨x, H1, I1, r1, q1⟩ => ?_)
  obtain ⟨a, xs, ex, q⟩ := q1
  subst ex
  cases r1
  have hst : PO X (some (.UnaryOp .USub (.Constant (.int 1) k p1) p2)) (tPart (tUn (rU fun i => .int (-i)) (tC (.int 1)))) := po_some (pe_un un_neg pe_int)
  refine wpAny_Slice (thn (po_none.run pins s1 σ H1 (fun o H2 => o = none ∧ H2 = H1) I1 ⟨rfl, rfl⟩) fun vl s2 ⟨l, H2, I2, pl, el, e2⟩ => ?_)
  subst el e2
  refine thn (po_none.run pins s2 σ H2 (fun o H3 => o = none ∧ H3 = H2) I2 ⟨rfl, rfl⟩) fun vu s3 ⟨u, H3, I3, pu, eu, e3⟩ => ?_
  subst eu e3
  refine thn (hst.run pins s3 σ H3 (fun o H4 => o = some (-1) ∧ H4 = H3) I3 ⟨1, rfl, -1, rfl, rfl, rfl⟩) fun vs s4 ⟨o, H4, I4, ps, eo, e4⟩ => ?_
  subst eo e4
  have I5 : Inv X pins σ H4 { s4 with heap := s4.heap.push { cls := .type "slice", data := .fields #[vl, vu, vs] } } := I4.kept (t' := s4.toks) fun b ob q => Heap.get?_push_of_some _ q
  show wpAny (model X.prog X.w) X.A (subscriptTail e (.Slice none none (some (.UnaryOp .USub (.Constant (.int 1) k p1) p2)) p3) (.ref a) (.ref s4.heap.objs.size)) (EP X pins σ Q) X.xe { s4 with heap := s4.heap.push { cls := .type "slice", data := .fields #[vl, vu, vs] } }
  rcases q with ⟨hx, q⟩ | ⟨hx, q⟩
  · obtain ⟨its, r, ht, hz⟩ := I5.list hx
    have hlen := r.length
    refine tail_any (ops := [.ref a, .ref s4.heap.objs.size]) ht.isList.typeIs (PySem.slot_list_getitem.lookup) ?_ (by with_unfolding_all rfl)
    refine wpAny_getItem_list_slice ht.isList (Heap.IsSliceOf.new _ vl vu vs) pl pu ps (by decide) ?_ (by rw [List.size_toArray]; omega)
    rw [PySem.W.krv_pick]
    refine ⟨.ref _, _, I5.laid (t' := s4.toks) (o := .lst xs.reverse) (fun b ob q => Heap.get?_push_of_some _ q) (Nat.le_refl _) ?_, rfl, q _ (I5.hok.fresh (Nat.le_refl _))⟩
    exact ⟨by rw [List.length_reverse]; exact hz, _, 0, r.reverse, Heap.get?_push_size _ rfl⟩
  · obtain ⟨its, r, ht, hz⟩ := I5.tuple hx
    have hlen := r.length
    refine tail_any (ops := [.ref a, .ref s4.heap.objs.size]) ht.typeIs (PyProof.Rows.slot_tuple_getitem.lookup) ?_ (by with_unfolding_all rfl)
    refine getItem_rev ht (Heap.IsSliceOf.new _ vl vu vs) pl pu ps ?_ (by rw [List.size_toArray]; omega)
    refine ⟨.ref _, _, I5.laid (t' := s4.toks) (o := .tup xs.reverse) (fun b ob q => Heap.get?_push_of_some _ q) (Nat.le_refl _) ?_, rfl, q _ (I5.hok.fresh (Nat.le_refl _))⟩
    exact ⟨by rw [List.length_reverse]; exact hz, _, r.reverse, _, Heap.get?_push_size _ rfl, rfl, 0, by simp⟩
end RV

namespace Mini
open PySem PySem.Spec PyProof.Rows
open L2 (V Hp HO Key Rd SqL SqT Inv Cx RelV upd upd_same upd_ne Same WX VK TE TT TA TO XK OpR UnR CallR R2 EP TP AP PE PT PW PA PO PS PSs PG PI Dp DpAll MtR MtM IxR SlR PSet Gl Vis Loc Ends TS)
section
variable {X : Cx} {a : Expr} {eva : Sl → Hh → R D} {pos : Pos}
theorem sim_revN {k : Nat} {p1 p2 p3 : Pos} (ha : SimE X a eva) : SimN X (.Subscript a (.Slice none none (some (.UnaryOp .USub (.Constant (.int 1) k p1) p2)) p3) pos) (fun m h => (eva m h).bind fun x h => R.of (revX h x) h) := by
  intro om io H σ m h rs rh ds h' ee Q q
  obtain ⟨x, h1, ea, ee⟩ := rbind ee
  obtain ⟨ed, rfl⟩ := rof ee
  unfold revX at ed
  split at ed
  · cases ed
  · obtain ⟨xs, hx, e2⟩ := map_some ed
    have e3 : xs.reverse = ds := D.lst.inj e2
    subst e3
    refine we_of (RV.pe_rev pe_we) (ha om io H σ m h rs rh _ _ ea _ fun io1 H1 v x1 r1 rv => ?_)
    obtain ⟨a', vs, rfl, h2, ra⟩ := rd_of hx rv r1
    exact ⟨a', vs, rfl, .inl ⟨h2, fun p hp => q io1 H1 p _ x1 r1 ra.reverse hp⟩⟩
theorem sim_revT {k : Nat} {p1 p2 p3 : Pos} (ha : SimE X a eva) : SimE X (.Subscript a (.Slice none none (some (.UnaryOp .USub (.Constant (.int 1) k p1) p2)) p3) pos) (fun m h => (eva m h).bind fun x h => match x with
    | .tup xs => .ok (.tup xs.reverse) h
    | _ => .bad) := by
  intro om io H σ m h rs rh d h' ee Q q
  obtain ⟨x, h1, ea, ee⟩ := rbind ee
  split at ee
  · rename_i xs
    obtain ⟨rfl, rfl⟩ := rok ee
    refine we_of (RV.pe_rev pe_we) (ha om io H σ m h rs rh _ _ ea _ fun io1 H1 v x1 r1 rv => ?_)
    obtain ⟨a', vs, rfl, h2, ra⟩ := tup_of rv
    exact ⟨a', vs, rfl, .inr ⟨h2, (Post.ext x1 q).tup r1 ra.reverse⟩⟩
  · cases ee
theorem sim_rev {k : Nat} {p1 p2 p3 : Pos} (ha : SimE X a eva) : SimE X (.Subscript a (.Slice none none (some (.UnaryOp .USub (.Constant (.int 1) k p1) p2)) p3) pos) (fun m h => (eva m h).bind fun x h => R.of (revX h x) h) := by
  have n := sim_revN (k := k) (p1 := p1) (p2 := p2) (p3 := p3) (pos := pos) ha
  have l : SimE X (.Subscript a (.Slice none none (some (.UnaryOp .USub (.Constant (.int 1) k p1) p2)) p3) pos) (fun m h => match (eva m h).bind fun x h => R.of (revX h x) h with
    | .ok (.lst ds) h => .ok (.lst ds) h
    | _ => .bad) := simN_E (fun om io H σ m h rs rh ds h' ee Q q => n om io H σ m h rs rh ds h' (by
      try dsimp only at ee
      try dsimp only
      split at ee
      · rename_i e
        rw [e]
        exact ee
      · cases ee) Q q) (fun m h d h' e => by
        try dsimp only at e
        split at e
        · exact ⟨_, (rok e).1.symm⟩
        · cases e)
  intro om io H σ m h rs rh d h' ee Q q
  have ee' := ee
  obtain ⟨x, h1, ea, ee⟩ := rbind ee
  obtain ⟨ed, rfl⟩ := rof ee
  unfold revX at ed
  split at ed
  · rename_i xs
    obtain rfl := Option.some.inj ed
    exact sim_revT ha om io H σ m h rs rh _ _ (by dsimp only; rw [ea]; rfl) Q q
  · obtain ⟨xs, hx, rfl⟩ := map_some ed
    refine l om io H σ m h rs rh _ _ ?_ Q q
    have e6 : ((eva m h).bind fun x h => R.of (revX h x) h) = .ok (.lst xs.reverse) h1 := ee'
    try dsimp only
    rw [e6]
end
end Mini
end
section
set_option Elab.async false
set_option linter.all false
set_option autoImplicit false
set_option maxRecDepth 100000
set_option maxHeartbeats 4000000
/-! SoundU: sorted(xs) of a tuple of ints. -/
namespace RU
open PySem PySem.Spec PyProof.Rows PySem.W
section
variable {prog : Program} {w : World} {A : Around} {E : Value → Shared → Prop} {s : Shared}
theorem objSome {P : Program} {w : World} {H : L2.Hp} {h : Heap} {a : Addr} {o : L2.HO} (x : L2.ObjOk P w H h a o) : ∃ u, h.get? a = some u := by
  cases o with
  | lst xs => obtain ⟨_, _, _, _, e⟩ := x; exact ⟨_, e⟩
  | tup xs => obtain ⟨_, _, _, u, e, _⟩ := x; exact ⟨u, e⟩
  | dK kvs => obtain ⟨_, _, _, _, o, _, _, e, _⟩ := x; exact ⟨_, e⟩
  | dT kvs => obtain ⟨_, _, _, _, o, _, _, e, _⟩ := x; exact ⟨_, e⟩
  | set S n => obtain ⟨o, _, _, _, e, _⟩ := x; exact ⟨_, e⟩
  | ins C dx fs => obtain ⟨_, _, _, e, _⟩ := x; exact ⟨_, e⟩
  | own y => obtain ⟨_, e⟩ := x; exact ⟨_, e⟩
  | xd fs => obtain ⟨_, ⟨_, _, _, e, _⟩, _⟩ := x; exact ⟨_, e⟩
  | rng lo hi => obtain ⟨_, _, _, e⟩ := x; exact ⟨_, e⟩
  | frz ob u => obtain ⟨e, _⟩ := x; exact ⟨_, e⟩
  | tbl ps => exact ⟨_, show h.get? a = some _ from x⟩
  | met f y => exact ⟨_, show h.get? a = some _ from x⟩
  | ext φ => obtain ⟨_, ⟨_, e⟩, _⟩ := x; exact ⟨_, e⟩
theorem hokNone {P : Program} {w : World} {H : L2.Hp} {h : Heap} {a : Addr} (x : L2.HOk P w H h) (e : h.get? a = none) : H a = none := by
  cases q : H a with
  | none => rfl
  | some o =>
    obtain ⟨u, hu⟩ := objSome (x a o q)
    rw [e] at hu
    cases hu
theorem sorted_any {l : Addr} {T : String} {o : Obj} {vs : List Value} {n : Nat} {kw : List (Str × Value)} {Q : Value → Shared → Prop} (hT : T = "list" ∨ T = "tuple") (ho : s.heap.get? l = some o) (hc : o.cls = .type T) (hd : o.data = .seq vs.toArray n) (hL : vs.length ≤ sizeLine)
    (ha1 : argsOk "sorted" ⟨[.ref l], kw⟩) (ha2 : ∀ x, argsOk "list.sort" ⟨[.ref x], kw⟩)
    (body : ∀ (h1 : Heap) (d : Addr), (∀ b o, s.heap.get? b = some o → b ≠ d ∧ h1.get? b = some o) → h1.get? d = some (seqObj "list" vs.toArray 0) →
      ∀ E' : Value → Shared → Prop, wpAny (model prog w) A.in1.in1 (Builtin.«list.sort» ⟨[.ref d], kw⟩) (fun f s' => f = .done (.ret .none) ∧ Q (.ref d) s') E' { s with heap := h1 }) :
    wpAny (model prog w) A (call (.builtin "sorted") [.ref l] kw) Q E s := by
  refine call_function_entry_kw kind_sorted plain_sorted entry_sorted ha1 ?_
  unfold Builtin.«sorted»
  refine wpAny_bind (m := checkCount "sorted" 1 1 _) (wpAny_pure ?_)
  refine wpAny_bind (wpAny_collect_seq l hT ho hc hd (fun h' kp => ?_) (by rw [List.size_toArray]; exact hL))
  have e0 : vs.toArray.toList = vs := by simp
  rw [e0]
  refine wpAny_bind (wpAny_newList ?_ hL)
  have hoL : (h'.push (seqObj "list" vs.toArray 0)).get? h'.objs.size = some (seqObj "list" vs.toArray 0) := Heap.get?_push_size _ rfl
  have none' : h'.get? h'.objs.size = none := Heap.get?_none_of_le (Nat.le_refl _)
  refine wpAny_bind (wpAny_holding (wpAny_call_entry_kw slot_list_sort ⟨_, hoL, rfl⟩ entry_list_sort ?body (ha2 _)))
  case body =>
    show wpAny (model prog w) A.in1.in1 (Builtin.«list.sort» ⟨[.ref h'.objs.size], kw⟩) _ _ _
    refine wpAny_mono (body (h'.push (seqObj "list" vs.toArray 0)) h'.objs.size (fun b o e => ⟨fun q => ?_, Heap.get?_push_of_some _ (kp b o e)⟩) hoL _) (fun f s' hf => ?_) fun _ _ e => e
    · rw [q] at e
      rw [kp _ _ e] at none'
      cases none'
    · obtain ⟨rfl, hq⟩ := hf
      exact ⟨_, rfl, wpAny_pure ⟨_, rfl, hq⟩⟩

theorem sorted_tupI {l : Addr} {o : Obj} {vs : List Value} {ns : List Int} {n : Nat} {Q : Value → Shared → Prop} (ho : s.heap.get? l = some o) (hc : o.cls = .type "tuple") (hd : o.data = .seq vs.toArray n) (hL : vs.length ≤ sizeLine) (hi : IntsAre vs ns)
    (h : ∀ (h' : Heap) (d : Addr) (c : Nat) (out : List Value) (ns' : List Int), (∀ b o, s.heap.get? b = some o → h'.get? b = some o) → s.heap.get? d = none → h'.get? d = some (seqObj "list" out.toArray c) → IntsAre out ns' → ns'.Perm ns → ns'.Pairwise (· ≤ ·) → Q (.ref d) { s with heap := h' }) :
    wpAny (model prog w) A (call (.builtin "sorted") [.ref l]) Q E s := by
  refine sorted_any (kw := []) (.inr rfl) ho hc hd hL (PyProof.Rows.args_sorted1 _) (fun _ => PyProof.Rows.args_list_sort _) fun h1 d kp hD E' => ?_
  have dn : s.heap.get? d = none := by
    cases q : s.heap.get? d with
    | none => rfl
    | some o => exact absurd rfl (kp d o q).1
  refine SrtO.list_sort_ord (s := { s with heap := h1 }) SrtO.swo_int hD hL (fun h2 => SrtO.ints_sortable hi h2) fun out h1' h2 => ⟨rfl, ?_⟩
  obtain ⟨k1, k2, k3⟩ := SrtO.ints_out hi h1' h2
  obtain ⟨ep, he'⟩ := PyProof.Rows.sortedHeap_at (vs := vs) (out := out.toArray) hD
  refine h (PyProof.Rows.sortedHeap h1 d vs out.toArray) d ep out _ (fun b o e => ?_) dn he' k1 k2 k3
  obtain ⟨h3, h4⟩ := kp b o e
  rw [PyProof.Rows.sortedHeap_old h3 (Heap.lt_size h4)]
  exact h4
end
end RU
namespace Mini
open PySem PySem.Spec PyProof.Rows
open L2 (V Hp HO Key Rd SqL SqT Inv Cx RelV upd upd_same upd_ne Same WX VK TE XK OpR UnR CallR R2 EP PE Dp DpAll)
section
variable {X : Cx} {om : Om} {io : List Addr} {H : Hp} {h : Hh} {d x : D} {Q : VK} {v : V}
theorem sorted_tupI_ok {xs : List D} {ns : List Int} (h2 : intsOf xs = some ns) (rx : Rp X.K om io H v (.tup xs)) (q : ∀ p, H p = none → Q (.ref p) (upd H p (.lst ((sortBy intLt ns).map V.int)))) : RC X (.builtin "sorted") [v] H Q := by
  obtain ⟨a, vs, rfl, ha, ra⟩ := tup_of rx
  have hvs := ints_at h2 ra
  subst hvs
  intro pins s σ us I r
  obtain ⟨u, rfl, ru⟩ := L2.vals1 r
  obtain rfl : u = Value.ref a := ru
  obtain ⟨its, rv, ⟨o, ho, hc, n, hd⟩, hz⟩ := I.tuple ha
  have hlen : its.length = ns.length := by rw [← rv.length, List.length_map]
  rw [List.length_map] at hz
  refine RU.sorted_tupI ho hc hd (by omega) (by simpa using L2.ints_of_vals rv) fun h' d c out ns' kp dn hD hi hp hs => ?_
  have dN := RU.hokNone I.hok dn
  have e : sortBy intLt ns = ns' := (sorted_eq hp hs).symm
  rw [e] at q
  have hl : (ns'.map V.int).length ≤ sizeLine := by rw [List.length_map, hp.length_eq]; exact hz
  exact ⟨.ref d, upd H d (.lst (ns'.map V.int)), I.laidN (t' := s.toks) kp dn dN ⟨hl, out, c, L2.vals_of_ints hi, hD⟩, rfl, q _ dN⟩
end
theorem biD_sorted {h : Hh} {x d : D} (e : biD h .sorted x = some d) : (∃ xs ns, x = .tup xs ∧ intsOf xs = some ns ∧ D.lst ((sortBy intLt ns).map .int) = d) ∨ ((rdOf h x).bind fun xs => match intsOf xs with
      | some ns => some (D.lst ((sortBy intLt ns).map .int))
      | none => (tisOf xs).map fun ts => .lst ((sortBy lexLt ts).map fun t => .tup (t.map .int))) = some d := by
  cases x with
  | tup xs =>
    obtain ⟨ns, h1, h2⟩ := map_some (show (intsOf xs).map (fun ns => D.lst ((sortBy intLt ns).map .int)) = some d from e)
    exact .inl ⟨xs, ns, rfl, h1, h2⟩
  | _ => exact .inr e
end Mini
end
section
set_option Elab.async false
set_option linter.all false
set_option autoImplicit false
set_option maxRecDepth 100000
/-! Sound8: calls. -/
namespace Mini
open PySem PySem.Spec PyProof.Rows
open L2 (V Hp HO Key Rd SqL SqT Inv Cx RelV upd upd_same upd_ne Same WX VK TE TT TA TO XK OpR UnR CallR R2 EP TP AP PE PT PW PA PO PS PSs PG PI Dp DpAll MtR MtM IxR SlR PSet Gl Vis Loc Ends TS)

def notStar : Expr → Bool
  | .Starred .. => false
  | _ => true
def noStars : List Expr → Bool
  | [] => true
  | e :: es => notStar e && noStars es
theorem starE {e : Expr} {es : List Expr} {env : Env} (h : notStar e = true) : starEach (e :: es) env = (false, eval e env) :: starEach es env := by
  cases e <;> first | rfl | cases h
theorem star_any {pos : Pos} {env : Env} : ∀ {es : List Expr}, noStars es = true → (backTo pos (starEach es env)).any (·.1) = false
  | [], _ => rfl
  | e :: es, h => by
    simp only [noStars, Bool.and_eq_true] at h
    rw [starE h.1]
    show (false || (backTo pos (starEach es env)).any (·.1)) = false
    rw [star_any h.2]
    rfl
theorem star_one {e : Expr} {env : Env} (h : notStar e = true) : starEach [e] env = [(false, eval e env)] := starE h
theorem star_all {pos : Pos} {env : Env} : ∀ {es : List Expr}, noStars es = true → (backTo pos (starEach es env)).all (fun x => !x.1) = true
  | [], _ => rfl
  | e :: es, h => by
    simp only [noStars, Bool.and_eq_true] at h
    rw [starE h.1]
    show (!false && (backTo pos (starEach es env)).all (fun x => !x.1)) = true
    rw [star_all h.2]
    rfl
/-- no super() -/
def baseOk : Expr → Bool
  | .Call (.Name _ _) [] [] _ => false
  | _ => true
theorem base_of {o : Expr} {attr : Str} {env : Env} {w : Sem Value} (h : baseOk o = true) : attributeBase o attr env w = w := by
  unfold attributeBase
  split
  · cases h
  · rfl
def dbOk (x : Str) : Bool := !(x == ("__debug__" : Str)) && (!(x == ("__classdict__" : Str)) && !decide (x = ("__name__" : Str)))
theorem db1 {x : Str} (h : dbOk x = true) : (x == ("__debug__" : Str)) = false := by
  simp only [dbOk, Bool.and_eq_true, Bool.not_eq_true'] at h
  exact h.1
theorem db2 {x : Str} (h : dbOk x = true) : (x == ("__classdict__" : Str)) = false := by
  simp only [dbOk, Bool.and_eq_true, Bool.not_eq_true'] at h
  exact h.2.1
theorem db3 {x : Str} (h : dbOk x = true) : x ≠ ("__name__" : Str) := by
  simp only [dbOk, Bool.and_eq_true, Bool.not_eq_true', decide_eq_false_iff_not] at h
  exact h.2.2

/-- a built-in name -/
structure Blt (X : Cx) (x : Str) (v : Value) : Prop where
  gl : Gl X x
  mg : X.mg x = none
  boot : bootBuiltins x = some v
  db : dbOk x = true
section
variable {X : Cx} {a b c e : Expr} {es : List Expr} {eva evb evc ev : Sl → Hh → R D} {evs : Sl → Hh → R (List D)} {pos p apos : Pos} {x : Str}
theorem sim_callV {v : Value} {F : List D → Hh → R D} (hv : Blt X x v) (hk : (∃ id, v = .builtin id) ∨ ∃ T, v = .type T)
    (rule : ∀ (om : Om) (io : List Addr) (H : Hp) (h h' : Hh) (ds : List D) (vs : List V) (d : D) (Q : VK), F ds h = .ok d h' → Rps X.K om io H vs ds → HpRp X.K om io H h → Post X.K om io H h' d Q → RC X v vs H Q)
    (hs : noStars (e :: es) = true) (ha : SimA X (e :: es) evs) : SimE X (.Call (.Name x p) (e :: es) [] pos) (fun m h => (evs m h).bind F) := by
  intro om io H σ m h rs rh d h' ee Q q
  obtain ⟨ds, h1, ea, ee⟩ := rbind ee
  simp only [noStars, Bool.and_eq_true] at hs
  rcases hk with ⟨id, rfl⟩ | ⟨T, rfl⟩
  · exact we_of (L2.pe_callB rc_op hv.gl hv.mg hv.boot pa_wa (db3 hv.db) (db1 hv.db) (starE hs.1) (star_any hs.2)) (ha om io H σ m h rs rh ds _ ea _ fun io1 H1 vs x1 r1 rvs => rule om io1 H1 h1 h' ds vs d Q ee rvs r1 (q.ext x1))
  · exact we_of (L2.pe_callTy rc_op hv.gl hv.mg hv.boot pa_wa (db3 hv.db) (db1 hv.db) (starE hs.1) (star_any hs.2)) (ha om io H σ m h rs rh ds _ ea _ fun io1 H1 vs x1 r1 rvs => rule om io1 H1 h1 h' ds vs d Q ee rvs r1 (q.ext x1))
theorem sim_callVN {v : Value} {F : List D → Hh → R D} (hv : Blt X x v) (hk : (∃ id, v = .builtin id) ∨ ∃ T, v = .type T)
    (rule : ∀ (om : Om) (io : List Addr) (H : Hp) (h h' : Hh) (ds : List D) (vs : List V) (xs : List D) (Q : VK), F ds h = .ok (.lst xs) h' → Rps X.K om io H vs ds → HpRp X.K om io H h → PostN X.K om io H h' xs Q → RC X v vs H Q)
    (hs : noStars (e :: es) = true) (ha : SimA X (e :: es) evs) : SimN X (.Call (.Name x p) (e :: es) [] pos) (fun m h => (evs m h).bind F) := by
  intro om io H σ m h rs rh d h' ee Q q
  obtain ⟨ds, h1, ea, ee⟩ := rbind ee
  simp only [noStars, Bool.and_eq_true] at hs
  rcases hk with ⟨id, rfl⟩ | ⟨T, rfl⟩
  · exact we_of (L2.pe_callB rc_op hv.gl hv.mg hv.boot pa_wa (db3 hv.db) (db1 hv.db) (starE hs.1) (star_any hs.2)) (ha om io H σ m h rs rh ds _ ea _ fun io1 H1 vs x1 r1 rvs => rule om io1 H1 h1 h' ds vs d Q ee rvs r1 (q.ext x1))
  · exact we_of (L2.pe_callTy rc_op hv.gl hv.mg hv.boot pa_wa (db3 hv.db) (db1 hv.db) (starE hs.1) (star_any hs.2)) (ha om io H σ m h rs rh ds _ ea _ fun io1 H1 vs x1 r1 rvs => rule om io1 H1 h1 h' ds vs d Q ee rvs r1 (q.ext x1))
theorem simA_one (hs : notStar e = true) (ha : SimE X e ev) : SimA X [e] (fun m h => (ev m h).bind fun x h => .ok [x] h) := fun om io H σ m h rs rh ds h' ee Q q => by
  obtain ⟨x, h1, ea, ee⟩ := rbind ee
  obtain ⟨rfl, rfl⟩ := rok ee
  exact simA_cons (starE hs) ha simA_nil om io H σ m h rs rh [x] _ (by simp only [ea, R.bind_ok]) Q q
theorem simA_two (hs : notStar a = true) (hs2 : notStar b = true) (ha : SimE X a eva) (hb : SimE X b evb) : SimA X [a, b] (fun m h => (eva m h).bind fun x h => (evb m h).bind fun y h => .ok [x, y] h) := fun om io H σ m h rs rh ds h' ee Q q => by
  obtain ⟨x, h1, ea, ee⟩ := rbind ee
  obtain ⟨y, h2, eb, ee⟩ := rbind ee
  obtain ⟨rfl, rfl⟩ := rok ee
  refine simA_cons (starE hs) ha (simA_one hs2 hb) om io H σ m h rs rh [x, y] _ ?_ Q q
  simp only [ea, eb, R.bind_ok]
theorem SimE.congr {ev' : Sl → Hh → R D} (h : ∀ m h, ev' m h = ev m h) (s : SimE X e ev) : SimE X e ev' := fun om io H σ m hh rs rh d h' ee Q q => s om io H σ m hh rs rh d h' (by rw [← h]; exact ee) Q q
theorem SimN.congr {ev' : Sl → Hh → R D} (h : ∀ m h, ev' m h = ev m h) (s : SimN X e ev) : SimN X e ev' := fun om io H σ m hh rs rh d h' ee Q q => s om io H σ m hh rs rh d h' (by rw [← h]; exact ee) Q q
theorem SimT.congr {ev ev' : Sl → Hh → R Bool} (h : ∀ m h, ev' m h = ev m h) (s : SimT X e ev) : SimT X e ev' := fun om io H σ m hh rs rh d h' ee Q q => s om io H σ m hh rs rh d h' (by rw [← h]; exact ee) Q q
theorem SimW.congr {ev ev' : Sl → Hh → R Bool} (h : ∀ m h, ev' m h = ev m h) (s : SimW X e ev) : SimW X e ev' := fun om io H σ m hh rs rh d h' ee Q q => s om io H σ m hh rs rh d h' (by rw [← h]; exact ee) Q q
theorem SimA.congr {ev' : Sl → Hh → R (List D)} (h : ∀ m h, ev' m h = evs m h) (s : SimA X es evs) : SimA X es ev' := fun om io H σ m hh rs rh d h' ee Q q => s om io H σ m hh rs rh d h' (by rw [← h]; exact ee) Q q
/-- functions of one value -/
def plainBi : Bi → Bool
  | .len => true
  | .tuple => true
  | .all => true
  | .any => true
  | .sum => true
  | .max => true
  | .min => true
  | .abs => true
  | .int => true
  | .repr => true
  | .str => true
  | _ => false
theorem sim_bi (sk : SysK X.K) (f : Bi) (hf : plainBi f = true) {n : Str} {v : Value} (hb : biV f = some (n, v)) (hc : X.calm = true) (hu : X.A.units + 65 < cLine) (hg : X.A.guards = some []) (hv : Blt X n v) (hs : notStar e = true) (ha : SimE X e ev) :
    SimE X (.Call (.Name n p) [e] [] pos) (fun m h => (ev m h).bind fun x h => R.of (biD h f x) h) := by
  refine SimE.congr (fun m h => ?_) (sim_callV (F := fun ds h => match ds with
    | [x] => R.of (biD h f x) h
    | _ => .bad) hv ?_ ?_ (by simp [noStars, hs]) (simA_one hs ha))
  · rw [R.bind_assoc]
    rfl
  · cases f <;> cases hf <;> cases hb <;> first | exact .inl ⟨_, rfl⟩ | exact .inr ⟨_, rfl⟩
  · intro om io H h h' ds vs d Q ee rvs rh q
    split at ee
    · rename_i x
      obtain ⟨ed, rfl⟩ := rof ee
      cases rvs with
      | cons rv t =>
        cases t
        cases f <;> cases hf <;> cases hb
        · exact len_ok ed rv rh q
        · exact tuple_ok ed rv rh q
        · exact all_ok hc ed rv rh q
        · exact any_ok hc ed rv rh q
        · exact sum_ok hc ed rv rh q
        · exact max_ok hc ed rv rh q
        · exact min_ok hc ed rv rh q
        · exact abs_ok ed rv rh q
        · exact toint_ok ed rv rh q
        · exact tostr_ok ed rv rh q
        · exact repr_ok sk hu hg ed rv rh q
    · cases ee
theorem sim_biN (hu : X.A.units + 65 < cLine) (f : Bi) (hf : f = .list ∨ f = .sorted) {n : Str} {v : Value} (hb : biV f = some (n, v)) (hv : Blt X n v) (hs : notStar e = true) (ha : SimE X e ev) :
    SimN X (.Call (.Name n p) [e] [] pos) (fun m h => (ev m h).bind fun x h => R.of (biD h f x) h) := by
  refine SimN.congr (fun m h => ?_) (sim_callVN (F := fun ds h => match ds with
    | [x] => R.of (biD h f x) h
    | _ => .bad) hv ?_ ?_ (by simp [noStars, hs]) (simA_one hs ha))
  · rw [R.bind_assoc]
    rfl
  · rcases hf with rfl | rfl <;> cases hb <;> first | exact .inl ⟨_, rfl⟩ | exact .inr ⟨_, rfl⟩
  · intro om io H h h' ds vs xs Q ee rvs rh q
    split at ee
    · rename_i x
      obtain ⟨ed, rfl⟩ := rof ee
      cases rvs with
      | cons rv t =>
        cases t
        rcases hf with rfl | rfl <;> cases hb
        · obtain ⟨ys, h1, h2⟩ := map_some ed
          have h3 : ys = xs := D.lst.inj h2
          subst h3
          exact list_ok h1 rv rh fun vs p hr hp => q io H p vs .refl rh hr hp
        · rcases biD_sorted ed with ⟨ys, ns, rfl, h2, ed⟩ | ed
          · have h3 : (sortBy intLt ns).map D.int = xs := D.lst.inj ed
            subst h3
            exact sorted_tupI_ok h2 rv fun p hp => q io H p _ .refl rh (Rps.ints _) hp
          obtain ⟨ys, h1, ed⟩ := bind_some ed
          split at ed
          · rename_i ns h2
            have h3 : (sortBy intLt ns).map D.int = xs := D.lst.inj (Option.some.inj ed)
            subst h3
            exact sorted_int_ok h1 h2 rv rh fun p hp => q io H p _ .refl rh (Rps.ints _) hp
          · obtain ⟨ts, h2, ed⟩ := map_some ed
            have h3 : ((sortBy lexLt ts).map fun t => D.tup (t.map D.int)) = xs := D.lst.inj ed
            subst h3
            exact sorted_ti_ok hu h1 h2 rv rh fun p vs hp hr => q io H p vs .refl rh hr hp
    · cases ee
def bi2V : Bi2 → Str × Value
  | .max => (PySem.Str.ofString "max", .builtin "max")
  | .min => (PySem.Str.ofString "min", .builtin "min")
theorem sim_bi2 (f : Bi2) (hc : X.calm = true) (hv : Blt X (bi2V f).1 (bi2V f).2) (hs : notStar a = true) (hs2 : notStar b = true) (ha : SimE X a eva) (hb : SimE X b evb) :
    SimE X (.Call (.Name (bi2V f).1 p) [a, b] [] pos) (fun m h => (eva m h).bind fun x h => (evb m h).bind fun y h => R.of (bi2D f x y) h) := by
  refine SimE.congr (fun m h => ?_) (sim_callV (F := fun ds h => match ds with
    | [x, y] => R.of (bi2D f x y) h
    | _ => .bad) hv ?_ ?_ (by simp [noStars, hs, hs2]) (simA_two hs hs2 ha hb))
  · rw [R.bind_assoc]
    congr 1
    funext x h
    rw [R.bind_assoc]
    rfl
  · cases f <;> exact .inl ⟨_, rfl⟩
  · intro om io H h h' ds vs d Q ee rvs rh q
    split at ee
    · rename_i x y
      obtain ⟨ed, rfl⟩ := rof ee
      cases rvs with
      | cons rv t =>
        cases t with
        | cons ru t =>
          cases t
          unfold bi2D at ed
          split at ed
          · cases int_at rv
            cases int_at ru
            cases f
            · have e2 := Option.some.inj ed
              subst e2
              exact rc_of (L2.call_max2 hc) ⟨_, _, rfl, q.here rh (.int _)⟩
            · have e2 := Option.some.inj ed
              subst e2
              exact rc_of (L2.call_min2 hc) ⟨_, _, rfl, q.here rh (.int _)⟩
          · cases ed
    · cases ee

/-! ### isinstance -/
/-- a type's name as an expression -/
theorem pe_type {t : Ty} (hv : Blt X (PySem.Str.ofString (tyS t)) (.type (tyS t))) : PE X (.Name (PySem.Str.ofString (tyS t)) p) (L2.tC (.ty (tyS t))) :=
  L2.pe_bltn hv.gl hv.mg hv.boot rfl (db3 hv.db) (db1 hv.db)
theorem sim_isi1 {t : Ty} {p2 : Pos} (hv : Blt X (PySem.Str.ofString "isinstance") (.builtin "isinstance")) (ht : Blt X (PySem.Str.ofString (tyS t)) (.type (tyS t))) (hs : notStar e = true) (ha : SimE X e ev) :
    SimE X (.Call (.Name (PySem.Str.ofString "isinstance") p) [e, .Name (PySem.Str.ofString (tyS t)) p2] [] pos) (fun m h => (ev m h).bind fun x h => (R.of (isiD h x [t]) h).bind fun b h => .ok (.bl b) h) := by
  intro om io H σ m h rs rh d h' ee Q q
  obtain ⟨x, h1, ea, ee⟩ := rbind ee
  obtain ⟨k, h2, ek, ee⟩ := rbind ee
  obtain ⟨ed, rfl⟩ := rof ek
  obtain ⟨rfl, rfl⟩ := rok ee
  exact we_of (L2.pe_callB rc_op hv.gl hv.mg hv.boot (L2.pa_cons pe_we (L2.pa_cons (pe_type ht) L2.pa_nil (starE rfl)) (starE hs)) (db3 hv.db) (db1 hv.db) (starE hs) (star_any rfl))
    (ha om io H σ m h rs rh x _ ea _ fun io1 H1 v x1 r1 rv => isi_ok ed rv r1 (q io1 H1 _ x1 r1 (.bl k)))
def tyEs : List Expr → List Ty → Bool
  | [], [] => true
  | .Name x _ :: es, t :: ts => decide (x = PySem.Str.ofString (tyS t)) && tyEs es ts
  | _, _ => false
theorem tyEs_pa : ∀ {es : List Expr} {ts : List Ty}, tyEs es ts = true → (∀ t ∈ ts, Blt X (PySem.Str.ofString (tyS t)) (.type (tyS t))) →
    ∃ ta : TA, PA X es ta ∧ (∀ σ H Q, Q (ts.map fun t => V.ty (tyS t)) H → ta σ H Q) ∧ noStars es = true
  | [], [], _, _ => ⟨_, L2.pa_nil, fun _ _ _ q => q, rfl⟩
  | [], _ :: _, h, _ => by simp [tyEs] at h
  | e :: es, [], h, _ => by cases e <;> simp [tyEs] at h
  | e :: es, t :: ts, h, hb => by
    cases e with
    | Name x p =>
      simp only [tyEs, Bool.and_eq_true, decide_eq_true_eq] at h
      obtain ⟨rfl, h⟩ := h
      obtain ⟨ta, h1, h2, h3⟩ := tyEs_pa h fun t ht => hb t (List.mem_cons_of_mem _ ht)
      exact ⟨_, L2.pa_cons (pe_type (hb t List.mem_cons_self)) h1 (starE rfl), fun σ H Q q => h2 σ H _ q, by simp [noStars, notStar, h3]⟩
    | _ => simp [tyEs] at h
theorem sim_isiT {ts : List Ty} {p2 : Pos} {k : Nat} (hv : Blt X (PySem.Str.ofString "isinstance") (.builtin "isinstance")) (hts : tyEs es ts = true) (hl : ts.length ≤ 100) (ht : ∀ t ∈ ts, Blt X (PySem.Str.ofString (tyS t)) (.type (tyS t))) (hs : notStar e = true) (ha : SimE X e ev) :
    SimE X (.Call (.Name (PySem.Str.ofString "isinstance") p) [e, .Tuple es k p2] [] pos) (fun m h => (ev m h).bind fun x h => (R.of (isiD h x ts) h).bind fun b h => .ok (.bl b) h) := by
  intro om io H σ m h rs rh d h' ee Q q
  obtain ⟨x, h1, ea, ee⟩ := rbind ee
  obtain ⟨j, h2, ek, ee⟩ := rbind ee
  obtain ⟨ed, rfl⟩ := rof ek
  obtain ⟨rfl, rfl⟩ := rok ee
  obtain ⟨ta, t1, t2, t3⟩ := tyEs_pa (X := X) hts ht
  refine we_of (L2.pe_callB rc_op hv.gl hv.mg hv.boot (L2.pa_cons pe_we (L2.pa_cons (L2.pe_tup t1) L2.pa_nil (starE rfl)) (starE hs)) (db3 hv.db) (db1 hv.db) (starE hs) (star_any rfl))
    (ha om io H σ m h rs rh x _ ea _ fun io1 H1 v x1 r1 rv => t2 _ _ _ ⟨?_, fun pp hp => ?_⟩)
  · rw [List.length_map]
    have := sizeLine_eq
    omega
  · have xx : Ext io1 H1 io1 (upd H1 pp (.tup (ts.map fun t => V.ty (tyS t)))) := .same (same_new hp)
    exact isiT_ok ed (rv.ext xx) (r1.same (same_new hp)) upd_same (q io1 _ _ (x1.trans xx) (r1.same (same_new hp)) (.bl j))

/-! ### methods -/
theorem few_ok {cpos : Pos} {env : Env} (hs : noStars (e :: es) = true) (hl : (e :: es).length < 30) : ((backTo cpos (starEach (e :: es) env)).all (fun x => !x.1) && (backToKw cpos (keywordEach [] env)).all (fun x => x.1.isSome)
      && decide ((e :: es).length + ([] : List Keyword).length + (if ([] : List Keyword).isEmpty then 0 else 1) < 30)) = true := by
  rw [star_all hs, Bool.true_and]
  simp only [Bool.and_eq_true, decide_eq_true_eq]
  refine ⟨rfl, ?_⟩
  simpa using hl
theorem sim_join (hb : baseOk a = true) (hl : (apos.endLine == pos.line) = true) (hs : notStar b = true) (ha : SimE X a eva) (hbb : SimE X b evb) :
    SimE X (.Call (.Attribute a (PySem.Str.ofString "join") apos) [b] [] pos) (fun m h => (eva m h).bind fun x h => (evb m h).bind fun y h => R.of (methD h .join x [y]) h) := by
  intro om io H σ m h rs rh d h' ee Q q
  obtain ⟨x, h1, ea, ee⟩ := rbind ee
  obtain ⟨y, h2, eb, ee⟩ := rbind ee
  obtain ⟨ed, rfl⟩ := rof ee
  refine we_of (L2.pe_bm PySem.F.plainAttrs_str PySem.F.slot_str_join PySem.F.type_str_join rm_mt pe_we (L2.pa_cons pe_we L2.pa_nil (starE hs)) (base_of hb) (few_ok (by simp [noStars, hs]) (by simp)) hl (starE hs) (star_any rfl))
    (ha om io H σ m h rs rh x _ ea _ fun io1 H1 v x1 r1 rv => ⟨?_, ?_⟩)
  · cases x with
    | str s =>
      cases str_at rv
      rfl
    | _ => cases ed
  · exact hbb om io1 H1 σ m _ (rs.ext x1) r1 y _ eb _ fun io2 H2 u x2 r2 ru => (meth_join_ok ed (rv.ext x2) (.one ru) r2 (q.ext (x1.trans x2))).1
/-- a list's method that changes it -/
def muN : Mu → Str
  | .append => PySem.Str.ofString "append"
  | .extend => PySem.Str.ofString "extend"
  | .pop => PySem.Str.ofString "pop"
theorem slot_mu (m : Mu) : Slot "list" (muN m) (muV m) := by
  cases m
  · exact PySem.F.slot_list_append
  · exact PySem.F.slot_list_extend
  · exact PySem.F.slot_list_pop
theorem type_mu (m : Mu) : typeOf (.builtin (muV m)) = pure (.type "method_descriptor") := by
  cases m
  · exact PySem.F.type_list_append
  · exact PySem.F.type_list_extend
  · exact PySem.F.type_list_pop

theorem sim_mut0 (m : Mu) (hb : baseOk a = true) (hl : (apos.endLine == pos.line) = true) (ha : SimE X a eva) :
    SimE X (.Call (.Attribute a (muN m) apos) [] [] pos) (fun s h => (eva s h).bind fun x h => if (lstOf h x).isSome then (R.ok [] h).bind fun ys h => mutD h m x ys else .bad) := by
  intro om io H σ s h rs rh d h' ee Q q
  obtain ⟨x, h1, ea, ee⟩ := rbind ee
  split at ee
  · refine we_of (L2.pe_bm0 PySem.F.plainAttrs_list (slot_mu m) (type_mu m) rm_mt pe_we (base_of hb) hl) (ha om io H σ s h rs rh x _ ea _ fun io1 H1 v x1 r1 rv => ?_)
    obtain ⟨h1, h2⟩ := mut_ok ee rv .nil r1 (q.ext x1)
    exact ⟨h2, h1⟩
  · cases ee
theorem sim_mut (m : Mu) (hb : baseOk a = true) (hl : (apos.endLine == pos.line) = true) (hs : noStars (e :: es) = true) (hn : (e :: es).length < 30) (ha : SimE X a eva) (hA : SimA X (e :: es) evs) :
    SimE X (.Call (.Attribute a (muN m) apos) (e :: es) [] pos) (fun s h => (eva s h).bind fun x h => if (lstOf h x).isSome then (evs s h).bind fun ys h => mutD h m x ys else .bad) := by
  intro om io H σ s h rs rh d h' ee Q q
  obtain ⟨x, h1, ea, ee⟩ := rbind ee
  split at ee
  · rename_i hx
    obtain ⟨ys, h2, eA, ee⟩ := rbind ee
    have hs' := hs
    simp only [noStars, Bool.and_eq_true] at hs'
    refine we_of (L2.pe_bm PySem.F.plainAttrs_list (slot_mu m) (type_mu m) rm_mt pe_we pa_wa (base_of hb) (few_ok hs hn) hl (starE hs'.1) (star_any hs'.2)) (ha om io H σ s h rs rh x _ ea _ fun io1 H1 v x1 r1 rv => ⟨?_, ?_⟩)
    · cases hq : lstOf h1 x with
      | none =>
        rw [hq] at hx
        cases hx
      | some xs =>
        obtain ⟨a, vs, rfl, h3, _⟩ := lst_of hq rv r1
        exact .inl ⟨rfl, vs, .inl (.inl h3)⟩
    · exact hA om io1 H1 σ s _ (rs.ext x1) r1 ys _ eA _ fun io2 H2 us x2 r2 ru => (mut_ok ee (rv.ext x2) ru r2 (q.ext (x1.trans x2))).1
  · cases ee

/-! ### defs of the module -/
/-- the def at f answers as the oracle -/
def CallOk (X : Cx) (f : Addr) (F : List D → Hh → R D) : Prop := ∀ (om : Om) (io : List Addr) (H : Hp) (h h' : Hh) (ds : List D) (vs : List V) (d : D) (Q : VK), F ds h = .ok d h' → Rps X.K om io H vs ds → HpRp X.K om io H h → Post X.K om io H h' d Q → RC X (.ref f) vs H Q
theorem sim_def {f : Addr} {F : List D → Hh → R D} (hg : Gl X x) (hm : X.mg x = some (.ref f)) (hk : PySem.W.keepIn X.K (.ref f) = true) (hd : dbOk x = true) (hF : CallOk X f F) (hs : noStars (e :: es) = true) (hA : SimA X (e :: es) evs) :
    SimE X (.Call (.Name x p) (e :: es) [] pos) (fun m h => (evs m h).bind F) := by
  intro om io H σ m h rs rh d h' ee Q q
  obtain ⟨ds, h1, ea, ee⟩ := rbind ee
  simp only [noStars, Bool.and_eq_true] at hs
  intro pins s I
  refine wpAny_Call_Name_kw (L2.ld_glob I hg hm ?_ (db1 hd))
  refine PySem.W.callWith_K (h₀ := X.base) I.ok.mod.kin hk (L2.thn (hA om io H σ m h rs rh ds _ ea (fun vs H1 => RC X (.ref f) vs H1 Q) (fun io1 H1 vs x1 r1 rvs => hF om io1 H1 h1 h' ds vs d Q ee rvs r1 (q.ext x1)) pos pins s I) fun us s1 z => ?_) (starE hs.1) (star_any hs.2)
  obtain ⟨vs, H1, I1, r, q1⟩ := z
  exact ⟨I1.kIn, q1 pins s1 σ us I1 r⟩
theorem sim_def0 {f : Addr} {F : List D → Hh → R D} (hg : Gl X x) (hm : X.mg x = some (.ref f)) (hk : PySem.W.keepIn X.K (.ref f) = true) (hd : dbOk x = true) (hF : CallOk X f F) :
    SimE X (.Call (.Name x p) [] [] pos) (fun m h => (R.ok [] h).bind F) := by
  intro om io H σ m h rs rh d h' ee Q q pins s I
  refine wpAny_Call_Name_kw (L2.ld_glob I hg hm ?_ (db1 hd))
  exact PySem.W.callWith_K0 I.kIn hk (hF om io H h h' [] [] d Q ee .nil rh q pins s σ [] I .nil)
end
end Mini
end
section
set_option Elab.async false
set_option linter.all false
set_option autoImplicit false
set_option maxRecDepth 100000
set_option maxHeartbeats 4000000
/-! SoundL: sorted(xs, key=len) of a list or a tuple of tuples of ints. -/
namespace RL
open PySem PySem.Spec PyProof.Rows PySem.W
section
variable {prog : Program} {w : World} {A : Around} {E : Value → Shared → Prop} {s : Shared}
/-- an item: its address and its ints -/
def ItR (h : Heap) (v : Value) (b : Addr × List Int) : Prop := v = .ref b.1 ∧ RS.IsTI h v b.2
theorem objSome {P : Program} {w : World} {H : L2.Hp} {h : Heap} {a : Addr} {o : L2.HO} (x : L2.ObjOk P w H h a o) : ∃ u, h.get? a = some u := by
  cases o with
  | lst xs => obtain ⟨_, _, _, _, e⟩ := x; exact ⟨_, e⟩
  | tup xs => obtain ⟨_, _, _, u, e, _⟩ := x; exact ⟨u, e⟩
  | dK kvs => obtain ⟨_, _, _, _, o, _, _, e, _⟩ := x; exact ⟨_, e⟩
  | dT kvs => obtain ⟨_, _, _, _, o, _, _, e, _⟩ := x; exact ⟨_, e⟩
  | set S n => obtain ⟨o, _, _, _, e, _⟩ := x; exact ⟨_, e⟩
  | ins C dx fs => obtain ⟨_, _, _, e, _⟩ := x; exact ⟨_, e⟩
  | own y => obtain ⟨_, e⟩ := x; exact ⟨_, e⟩
  | xd fs => obtain ⟨_, ⟨_, _, _, e, _⟩, _⟩ := x; exact ⟨_, e⟩
  | rng lo hi => obtain ⟨_, _, _, e⟩ := x; exact ⟨_, e⟩
  | frz ob u => obtain ⟨e, _⟩ := x; exact ⟨_, e⟩
  | tbl ps => exact ⟨_, show h.get? a = some _ from x⟩
  | met f y => exact ⟨_, show h.get? a = some _ from x⟩
  | ext φ => obtain ⟨_, ⟨_, e⟩, _⟩ := x; exact ⟨_, e⟩
theorem hokNone {P : Program} {w : World} {H : L2.Hp} {h : Heap} {a : Addr} (x : L2.HOk P w H h) (e : h.get? a = none) : H a = none := by
  cases q : H a with
  | none => rfl
  | some o =>
    obtain ⟨u, hu⟩ := objSome (x a o q)
    rw [e] at hu
    cases hu
theorem sorted_any {l : Addr} {T : String} {o : Obj} {vs : List Value} {n : Nat} {kw : List (Str × Value)} {Q : Value → Shared → Prop} (hT : T = "list" ∨ T = "tuple") (ho : s.heap.get? l = some o) (hc : o.cls = .type T) (hd : o.data = .seq vs.toArray n) (hL : vs.length ≤ sizeLine)
    (ha1 : argsOk "sorted" ⟨[.ref l], kw⟩) (ha2 : ∀ x, argsOk "list.sort" ⟨[.ref x], kw⟩)
    (body : ∀ (h1 : Heap) (d : Addr), (∀ b o, s.heap.get? b = some o → b ≠ d ∧ h1.get? b = some o) → h1.get? d = some (seqObj "list" vs.toArray 0) →
      ∀ E' : Value → Shared → Prop, wpAny (model prog w) A.in1.in1 (Builtin.«list.sort» ⟨[.ref d], kw⟩) (fun f s' => f = .done (.ret .none) ∧ Q (.ref d) s') E' { s with heap := h1 }) :
    wpAny (model prog w) A (call (.builtin "sorted") [.ref l] kw) Q E s := by
  refine call_function_entry_kw kind_sorted plain_sorted entry_sorted ha1 ?_
  unfold Builtin.«sorted»
  refine wpAny_bind (m := checkCount "sorted" 1 1 _) (wpAny_pure ?_)
  refine wpAny_bind (wpAny_collect_seq l hT ho hc hd (fun h' kp => ?_) (by rw [List.size_toArray]; exact hL))
  have e0 : vs.toArray.toList = vs := by simp
  rw [e0]
  refine wpAny_bind (wpAny_newList ?_ hL)
  have hoL : (h'.push (seqObj "list" vs.toArray 0)).get? h'.objs.size = some (seqObj "list" vs.toArray 0) := Heap.get?_push_size _ rfl
  have none' : h'.get? h'.objs.size = none := Heap.get?_none_of_le (Nat.le_refl _)
  refine wpAny_bind (wpAny_holding (wpAny_call_entry_kw slot_list_sort ⟨_, hoL, rfl⟩ entry_list_sort ?body (ha2 _)))
  case body =>
    show wpAny (model prog w) A.in1.in1 (Builtin.«list.sort» ⟨[.ref h'.objs.size], kw⟩) _ _ _
    refine wpAny_mono (body (h'.push (seqObj "list" vs.toArray 0)) h'.objs.size (fun b o e => ⟨fun q => ?_, Heap.get?_push_of_some _ (kp b o e)⟩) hoL _) (fun f s' hf => ?_) fun _ _ e => e
    · rw [q] at e
      rw [kp _ _ e] at none'
      cases none'
    · obtain ⟨rfl, hq⟩ := hf
      exact ⟨_, rfl, wpAny_pure ⟨_, rfl, hq⟩⟩
theorem ItR.keeps {h h' : Heap} {v : Value} {b : Addr × List Int} (p : ItR h v b) (k : ∀ b o, h.get? b = some o → o.cls = .type "tuple" → h'.get? b = some o) : ItR h' v b := ⟨p.1, p.2.keeps k⟩
def lenLe (a b : Addr × List Int) : Bool := decide ((a.2.length : Int) ≤ (b.2.length : Int))
theorem sorted_len {l : Addr} {T : String} {o : Obj} {vs : List Value} {bs : List (Addr × List Int)} {n : Nat} {Q : Value → Shared → Prop} (hu : A.units + 10 < cLine) (hT : T = "list" ∨ T = "tuple") (ho : s.heap.get? l = some o) (hc : o.cls = .type T) (hd : o.data = .seq vs.toArray n)
    (hL : bs.length ≤ sizeLine) (e : EachIs (ItR s.heap) vs bs) (hs : ∀ b ∈ bs, b.2.length ≤ sizeLine)
    (h : ∀ (h' : Heap) (tk : Nat) (d : Addr) (c : Nat) (out : List Value), (∀ b o, s.heap.get? b = some o → h'.get? b = some o) → s.heap.get? d = none → h'.get? d = some (seqObj "list" out.toArray c) → EachIs (ItR s.heap) out (bs.mergeSort lenLe) → Q (.ref d) { s with heap := h', toks := tk }) :
    wpAny (model prog w) A (call (.builtin "sorted") [.ref l] [(Str.ofString "key", .builtin "len")]) Q E s := by
  refine sorted_any hT ho hc hd (by rw [e.length]; exact hL) (ksk_s1 _ _) (fun _ => ksk_l1 _ _) fun h1 d kp hD E' => ?_
  have hk : dataLe false (fun b : Addr × List Int => PyData.int (b.2.length : Nat)) = lenLe := dataLe_int _
  rw [ksk_t4]
  have dn : s.heap.get? d = none := by
    cases q : s.heap.get? d with
    | none => rfl
    | some o => exact absurd rfl (kp d o q).1
  have kb : ∀ {g : Heap}, KeepsBut d h1 g → ∀ b o, s.heap.get? b = some o → g.get? b = some o := fun kk b o q => kk b o (kp b o q).1 (kp b o q).2
  refine keyH_tree (kz := bs.map fun b => PyData.int (b.2.length : Nat)) (s := { s with heap := h1 }) hD (by rw [List.length_map]; exact e.length.symm) (by rw [e.length]; exact hL)
    (AllAlike.of fun _ _ => by simp [alike]) (Sortable.others fun _ => ⟨by simp, by simp⟩) (fun k hk => ?_)
    (keyH_turns (k := fun b => PyData.int (b.2.length : Nat)) (s := { s with heap := h1 }) e fun v x hR hx h tk kk => ?_) fun h' tk out c kk hD' ko => ⟨rfl, ?_⟩
  · obtain ⟨b, _, rfl⟩ := List.mem_map.mp hk
    show _ + PyData.depth (.int _) < _
    simp only [PyData.depth, Around.in1]
    omega
  · obtain ⟨v1, a, o, xs, n, e1, ho, hc, hd, hi⟩ := hR
    have hn := L2.line63
    have hz := hs x hx
    rw [e1]
    have hlen : xs.size = x.2.length := by
      have := hi.length
      simpa using this
    refine len_tuple (items := xs) ⟨o, kb kk _ _ ho, hc, n, hd⟩ (by rw [hlen]; omega) ⟨h, _, rfl, fun _ _ q => q, ?_⟩
    rw [hlen]
    exact .int _ _
  · have eo := keyedOut_each (fun b => PyData.int (b.2.length : Nat)) ko e
    rw [hk] at eo
    exact h _ _ _ _ _ (kb kk) dn hD' eo
end
end RL

namespace Mini
open PySem PySem.Spec PyProof.Rows
open L2 (V Hp HO Key Rd SqL SqT Inv Cx RelV upd upd_same upd_ne Same WX VK TE TT TA TO XK OpR UnR CallR R2 EP TP AP PE PT PW PA PO PS PSs PG PI Dp DpAll MtR MtM IxR SlR PSet Gl Vis Loc Ends TS)
def lenLe (a b : List Int) : Bool := decide (a.length ≤ b.length)
theorem lenLe_total : PySem.W.TotalLe lenLe := ⟨fun a b c h1 h2 => by simp only [lenLe, decide_eq_true_eq] at *; omega, fun a b => by simp only [lenLe, decide_eq_true_eq]; omega⟩
theorem insL_mem {x z : List Int} : ∀ {ys : List (List Int)}, z ∈ ins lenLt x ys → z = x ∨ z ∈ ys := fun {ys} h => List.mem_cons.mp ((ins_perm lenLt x ys).mem_iff.mp h)
theorem insL_sorted {x : List Int} : ∀ {ys : List (List Int)}, ys.Pairwise (fun a b => lenLe a b = true) → (ins lenLt x ys).Pairwise (fun a b => lenLe a b = true)
  | [], _ => by simp [ins]
  | y :: ys, h => by
    have h1 := List.pairwise_cons.mp h
    unfold ins
    by_cases hlt : lenLt x y = true
    · rw [if_pos hlt]
      refine List.pairwise_cons.mpr ⟨fun z hz => ?_, h⟩
      simp only [lenLt, decide_eq_true_eq] at hlt
      rcases List.mem_cons.mp hz with rfl | hz
      · simp only [lenLe, decide_eq_true_eq]; omega
      · have := h1.1 z hz
        simp only [lenLe, decide_eq_true_eq] at this ⊢
        omega
    · rw [if_neg hlt]
      refine List.pairwise_cons.mpr ⟨fun z hz => ?_, insL_sorted h1.2⟩
      simp only [lenLt, decide_eq_true_eq] at hlt
      rcases insL_mem hz with rfl | hz
      · simp only [lenLe, decide_eq_true_eq]; omega
      · exact h1.1 z hz
theorem insL_filter {x c : List Int} : ∀ {ys : List (List Int)}, ys.Pairwise (fun a b => lenLe a b = true) → (ins lenLt x ys).filter (PySem.W.sameRank lenLe c) = ys.filter (PySem.W.sameRank lenLe c) ++ [x].filter (PySem.W.sameRank lenLe c)
  | [], _ => rfl
  | y :: ys, h => by
    have h1 := List.pairwise_cons.mp h
    unfold ins
    by_cases hlt : lenLt x y = true
    · rw [if_pos hlt]
      simp only [lenLt, decide_eq_true_eq] at hlt
      by_cases hx : PySem.W.sameRank lenLe c x = true
      · have none : (y :: ys).filter (PySem.W.sameRank lenLe c) = [] := by
          refine List.filter_eq_nil_iff.mpr fun z hz => ?_
          have hy : y.length ≤ z.length := by
            rcases List.mem_cons.mp hz with rfl | hz
            · exact Nat.le_refl _
            · have := h1.1 z hz
              simpa only [lenLe, decide_eq_true_eq] using this
          simp only [PySem.W.sameRank, lenLe, Bool.and_eq_true, decide_eq_true_eq] at hx ⊢
          omega
        rw [List.filter_cons_of_pos hx, none]
        simp [hx]
      · rw [List.filter_cons_of_neg hx]
        simp [hx]
    · rw [if_neg hlt, List.filter_cons, List.filter_cons, insL_filter h1.2]
      split <;> simp
theorem sortBy_len (ts : List (List Int)) : sortBy lenLt ts = ts.mergeSort lenLe := by
  have go : ∀ ys : List (List Int), (ys.foldr (ins lenLt) []).Pairwise (fun a b => lenLe a b = true) ∧ ∀ c, (ys.foldr (ins lenLt) []).filter (PySem.W.sameRank lenLe c) = ys.reverse.filter (PySem.W.sameRank lenLe c) := by
    intro ys
    induction ys with
    | nil => exact ⟨.nil, fun _ => rfl⟩
    | cons y ys ih =>
      refine ⟨insL_sorted ih.1, fun c => ?_⟩
      rw [List.foldr_cons, insL_filter ih.1, ih.2 c, List.reverse_cons, List.filter_append]
  have z := go ts.reverse
  rw [List.reverse_reverse] at z
  exact PySem.W.sort_unique lenLe_total z.1 z.2
section
variable {X : Cx} {om : Om} {io : List Addr} {H : Hp} {h : Hh} {v : V} {x : D} {Q : VK}
open PySem.W (EachIs)
theorem each_ti {s : Shared} {σ : L2.St} {pins : List (Addr × Obj)} (I : Inv X pins σ H s) : ∀ {as : List Addr} {ts : List (List Int)} {its : List Value}, as.length = ts.length → L2.Vals (as.map V.ref) its → (∀ i (hi : i < as.length) (hi2 : i < ts.length), H as[i] = some (.tup (ts[i].map V.int))) →
    EachIs (RL.ItR s.heap) its (as.zip ts)
  | [], [], _, _, r, _ => by cases r; exact .nil
  | a :: as, t :: ts, _, hl, r, hh => by
    cases r with
    | cons r rr =>
      rename_i u us
      obtain rfl : u = Value.ref a := r
      refine .cons ⟨rfl, ?_⟩ (each_ti I (by simpa using hl) rr fun i hi hi2 => hh (i + 1) (by simpa using hi) (by simpa using hi2))
      have ht : H a = some (.tup (t.map V.int)) := hh 0 (by simp) (by simp)
      obtain ⟨_, its2, r2, o, ho, hc, n, hd⟩ := I.hok _ _ ht
      exact ⟨a, o, _, n, rfl, ho, hc, hd, RS.ints_vals r2⟩
  | [], _ :: _, _, hl, _, _ => by cases hl
  | _ :: _, [], _, hl, _, _ => by cases hl
theorem sorted_len_ok {xs : List D} {ts : List (List Int)} (hu : X.A.units + 65 < cLine) (h1 : seqOf h x = some xs) (h2 : tisOf xs = some ts) (rx : Rp X.K om io H v x) (R : HpRp X.K om io H h)
    (q : ∀ p vs, H p = none → Rps X.K om io H vs ((sortBy lenLt ts).map fun t => D.tup (t.map D.int)) → Q (.ref p) (upd H p (.lst vs)))
    (pins : List (Addr × Obj)) (s : Shared) (σ : L2.St) (us : List Value) (I : Inv X pins σ H s) (r : L2.Vals [v] us) :
    wpAny (model X.prog X.w) X.A (call (.builtin "sorted") us [(Str.ofString "key", .builtin "len")]) (EP X pins σ Q) X.xe s := by
  obtain ⟨a, vs, rfl, ha, ra⟩ := seq_of h1 rx R
  obtain ⟨e1, as, e2, e3, e4⟩ := tis_at h2 ra
  obtain ⟨u, rfl, ru⟩ := L2.vals1 r
  obtain rfl : u = Value.ref a := ru
  obtain ⟨T, o, its, n, rv, hT, ho, hc, hd, hz⟩ : ∃ (T : String) (o : Obj) (its : List Value) (n : Nat), L2.Vals vs its ∧ (T = "list" ∨ T = "tuple") ∧ s.heap.get? a = some o ∧ o.cls = .type T ∧ o.data = .seq its.toArray n ∧ vs.length ≤ sizeLine := by
    rcases ha with ha | ha
    · obtain ⟨its, rv, pl, hz⟩ := I.list ha
      obtain ⟨o, ho, hc, n, hd⟩ := pl.isList
      exact ⟨"list", o, its, n, rv, .inl rfl, ho, hc, hd, hz⟩
    · obtain ⟨its, rv, pl, hz⟩ := I.tuple ha
      obtain ⟨o, ho, hc, n, hd⟩ := pl
      exact ⟨"tuple", o, its, n, rv, .inr rfl, ho, hc, hd, hz⟩
  have zl : (as.zip ts).map Prod.snd = ts := by rw [List.map_snd_zip]; omega
  have rv' := rv
  rw [e2] at rv'
  refine RL.sorted_len (bs := as.zip ts) (by omega) hT ho hc hd (by rw [List.length_zip]; rw [e2] at hz; simp at hz; omega) (each_ti I e3 rv' e4) (fun b hb => ?_) fun h' tk d c out kp dn hD eo => ?_
  · obtain ⟨i, hi, e⟩ := List.mem_iff_getElem.mp hb
    have hi1 : i < as.length := by simp at hi; omega
    have hi2 : i < ts.length := by omega
    have ht := e4 i hi1 hi2
    obtain ⟨hz, _⟩ := I.hok _ _ ht
    rw [← e, List.getElem_zip]
    simpa using hz
  · have hv : ∀ (l : List (Addr × List Int)) (out : List Value), EachIs (RL.ItR s.heap) out l → L2.Vals (l.map fun b => V.ref b.1) out := fun l out e => by
      induction e with
      | nil => exact .nil
      | cons h _ ih => exact .cons h.1 ih
    have hl : ((as.zip ts).mergeSort RL.lenLe).length ≤ sizeLine := by
      rw [List.length_mergeSort, List.length_zip]
      rw [e2] at hz
      simp at hz
      omega
    have dN := RL.hokNone I.hok dn
    refine ⟨.ref d, upd H d (.lst (((as.zip ts).mergeSort RL.lenLe).map fun b => V.ref b.1)), I.laidN kp dn dN ⟨by rw [List.length_map]; exact hl, out, c, hv _ _ eo, hD⟩, rfl, q _ _ dN ?_⟩
    have e5 : sortBy lenLt ts = ((as.zip ts).mergeSort RL.lenLe).map Prod.snd := by
      rw [sortBy_len, PySem.W.sort_maps (s := lenLe) Prod.snd (fun a _ b _ => by simp [RL.lenLe, lenLe]), zl]
    rw [e5, List.map_map]
    have all : ∀ l : List (Addr × List Int), (∀ b ∈ l, b ∈ as.zip ts) → Rps X.K om io H (l.map fun b => V.ref b.1) (l.map ((fun t => D.tup (t.map D.int)) ∘ Prod.snd)) := by
      intro l
      induction l with
      | nil => intro _; exact .nil
      | cons b l ih =>
        intro hl
        refine .cons ?_ (ih fun w hw => hl w (List.mem_cons_of_mem _ hw))
        obtain ⟨i, hi, e⟩ := List.mem_iff_getElem.mp (hl b List.mem_cons_self)
        have hi1 : i < as.length := by simp at hi; omega
        have hi2 : i < ts.length := by omega
        rw [List.getElem_zip] at e
        have hx : xs[i]? = some (D.tup (b.2.map D.int)) := by
          rw [e1, List.getElem?_map, List.getElem?_eq_getElem hi2, ← e]
          rfl
        obtain ⟨w, hw, rw_⟩ := ra.get hx
        have hv : vs[i]? = some (V.ref b.1) := by
          rw [e2, List.getElem?_map, List.getElem?_eq_getElem hi1, ← e]
          rfl
        rw [hv] at hw
        cases hw
        exact rw_
    exact all _ fun b hb => (List.mergeSort_perm _ _).mem_iff.mp hb
end
section
variable {X : Cx} {e : Expr} {ev : Sl → Hh → R D} {pos p p2 kp : Pos}
theorem sim_sortedLen (hu : X.A.units + 65 < cLine) (hv : Blt X (PySem.Str.ofString "sorted") (.builtin "sorted")) (hv2 : Blt X (PySem.Str.ofString "len") (.builtin "len")) (hs : notStar e = true) (ha : SimE X e ev) :
    SimN X (.Call (.Name (PySem.Str.ofString "sorted") p) [e] [⟨some (PySem.Str.ofString "key"), .Name (PySem.Str.ofString "len") p2, kp⟩] pos) (fun m h => (ev m h).bind fun x h => R.of (biD h .sortedLen x) h) := by
  intro om io H σ m h rs rh ds h' ee Q q pins s I
  obtain ⟨x, h1, ea, ee⟩ := rbind ee
  obtain ⟨ed, rfl⟩ := rof ee
  refine wpAny_Call_Name_kw (L2.ld_blt I hv.gl hv.mg hv.boot ?_ (db3 hv.db) (db1 hv.db))
  have hA := simA_one hs ha om io H σ m h rs rh [x] h1 (by simp only [ea, R.bind_ok]) (fun vs H1 => ∃ (io1 : List Addr) (v : V), vs = [v] ∧ Ext io H io1 H1 ∧ HpRp X.K om io1 H1 h1 ∧ Rp X.K om io1 H1 v x) (fun io1 H1 vs x1 r1 rvs => by
    cases rvs with
    | cons rv t =>
      cases t
      exact ⟨io1, _, rfl, x1, r1, rv⟩) pos pins s I
  refine PyProof.Rows.callWith_kw (L2.thn hA fun us s1 z => ?_) (by rw [starE hs]; rfl) (by rw [starE hs]; rfl)
  obtain ⟨vs, H1, I1, r, io1, v, rfl, x1, r1, rv⟩ := z
  show wpAny _ _ (evalAll ((do let v ← eval (.Name (PySem.Str.ofString "len") p2) X.env; standAt pos; pure v) :: [])) _ _ s1
  refine wpAny_evalAll_cons (wpAny_bind (L2.ld_blt I1 hv2.gl hv2.mg hv2.boot (wpAny_bind (wpAny_standAt (wpAny_pure (wpAny_evalAll_nil ?_)))) (db3 hv2.db) (db1 hv2.db)))
  obtain ⟨ys, h2, ed⟩ := bind_some ed
  obtain ⟨ts, h3, ed⟩ := map_some ed
  have h4 : ((sortBy lenLt ts).map fun t => D.tup (t.map D.int)) = ds := D.lst.inj ed
  subst h4
  exact sorted_len_ok hu h2 h3 rv r1 (fun p vs hp hr => q io1 H1 p vs x1 r1 hr hp) pins s1 σ us I1 r
end
end Mini
end
section
set_option Elab.async false
set_option linter.all false
set_option autoImplicit false
set_option maxRecDepth 100000
set_option maxHeartbeats 4000000
/-! SoundT: sorted(set(xs)), len(set(xs)) of a list or a tuple of ints. -/
namespace RT
open PySem PySem.Spec PyProof.Rows L2
section
variable {P : Program} {w : World} {A : Around} {E : Value → Shared → Prop} {s : Shared}
/-- a set made of a list of ints -/
theorem set_of_list {l : Addr} {items : Array Value} (ns : List Int) {Q : Value → Shared → Prop} (hh : A.handled = none) (hl : s.heap.IsList l items) (hit : IntsAre items.toList ns) (hb : ns.length + 1 < scanBound)
    (h : ∀ (h' : Heap) (tk c : Nat), SetR w h' s.heap.objs.size (fun j => decide (j ∈ ns)) c → c ≤ ns.length → (∀ b o, s.heap.get? b = some o → h'.get? b = some o) → Q (.ref s.heap.objs.size) { s with heap := h', toks := tk }) :
    wpAny (model P w) A (call (.type "set") [.ref l]) Q E s := by
  have hisz : items.size = ns.length := by
    have q := IntsAre.length hit
    rw [Array.length_toList] at q
    exact q
  obtain ⟨c, tl, hmro⟩ := F.called_set.mro
  have hmade := F.called_set.made
  have hsub := F.called_set.sub
  refine wpAny_call (codeAny_of_tree ?_)
  show wpAny _ _ (callAny (.type "set") _) _ _ _
  refine wpAny_pure ⟨Code.quiet_builtin _ (by decide +kernel), codeAny_builtin F.entry_type_call ?_⟩
  rw [Around.under_plain (weight_type_call_type "set" [.ref l] []) rfl]
  have h1 := F.called_set.notType
  have h2 := F.called_set.canCreate
  have hct := F.typeCall_set_1 (.ref l)
  repeat (any_goals (first | assumption | wp_step))
  refine codeAny_mono (code_set_led1 (.ref l) (E := E) (Q₁ := fun obj s₁ => obj = .ref s.heap.objs.size ∧ s₁ = { s with heap := s.heap.push { cls := .type "set", dict := none, data := .set #[] 0 (.fresh 0 0 (!w.params.followText "set-order")) } }) ⟨rfl, rfl⟩) fun r s₁ hr => ?_
  cases r with
  | error e => exact hr
  | ok fl =>
    cases fl with
    | ret obj =>
      obtain ⟨rfl, rfl⟩ := hr
      have hS : (s.heap.push { cls := .type "set", dict := none, data := .set #[] 0 (.fresh 0 0 (!w.params.followText "set-order")) }).get? s.heap.objs.size = some { cls := .type "set", dict := none, data := .set #[] 0 (.fresh 0 0 (!w.params.followText "set-order")) } := Heap.get?_push_size _ rfl
      have hT : Shared.TypeIs { s with heap := s.heap.push { cls := .type "set", dict := none, data := .set #[] 0 (.fresh 0 0 (!w.params.followText "set-order")) } } (.ref s.heap.objs.size) "set" := ⟨_, hS, rfl⟩
      have hli := F.called_set.init.lookup
      have hbi := F.called_set.init.bind (.ref s.heap.objs.size)
      repeat (any_goals (first | assumption | wp_step))
      refine codeAny_mono (codeAny_call_builtin (R := wants (fun r s₂ => r = .none ∧ ∃ h' tk c, s₂ = { s with heap := h', toks := tk } ∧ SetR w h' s.heap.objs.size (fun j => decide (j ∈ ns)) c ∧ c ≤ ns.length ∧
          (∀ b o, s.heap.get? b = some o → h'.get? b = some o)) E) F.called_set.init.plain F.entry_set_init (check_set_init_1 hT ?_)) fun r₂ s₂ hr₂ => ?_
      · obtain ⟨ol, hol, hcl, nl, hdl⟩ := hl
        obtain ⟨ocls, odict, odata, oslots⟩ := ol
        simp only at hcl hdl
        subst hcl; subst hdl
        have hol' : (s.heap.push { cls := .type "set", dict := none, data := .set #[] 0 (.fresh 0 0 (!w.params.followText "set-order")) }).get? l = some { cls := .type "list", dict := odict, data := .seq items nl, slots := oslots } := Heap.get?_push_of_some _ hol
        have hsls := F.sub_list_set
        have hslf := F.sub_list_frozenset
        have hne : (Value.type "list" == Value.type "dict") = false := by decide
        have hl1 : (s.heap.push { cls := .type "set", dict := none, data := .set #[] 0 (.fresh 0 0 (!w.params.followText "set-order")) }).IsList l items := ⟨_, hol', rfl, nl, rfl⟩
        unfold Builtin.«set.__init__» noKeywords Builtin.Frozenset.updateFrom
        generalize hPI : pyIter = PI
        wp_walk
        subst hPI
        refine wpAny_pyIter_list hl1 ?_
        refine wpAny_bind (wpAny_runValue ?_)
        have hlS : l < s.heap.objs.size := Heap.lt_size hol
        have hh3 : A.in1.in1.in1.handled = none := by simp [hh]
        have hz1 : (s.heap.push { cls := .type "set", dict := none, data := .set #[] 0 (.fresh 0 0 (!w.params.followText "set-order")) }).objs.size = s.heap.objs.size + 1 := Heap.size_push ..
        have hneI : l ≠ (s.heap.push { cls := .type "set", dict := none, data := .set #[] 0 (.fresh 0 0 (!w.params.followText "set-order")) }).objs.size := by
          rw [Heap.size_push]; exact Nat.ne_of_lt (Nat.lt_succ_of_lt hlS)
        have hSf : s.heap.objs.size ∉ [(s.heap.push { cls := .type "set", dict := none, data := .set #[] 0 (.fresh 0 0 (!w.params.followText "set-order")) }).objs.size, l] := by
          rw [Heap.size_push]; simp only [List.mem_cons, List.mem_singleton, List.not_mem_nil, or_false, not_or]
          exact ⟨Nat.ne_of_lt (Nat.lt_succ_self _), Nat.ne_of_gt hlS⟩
        have hval : ∀ (i : Nat) (v : Value), items[i]? = some v → ∃ k t, ns[i]? = some k ∧ v = .int k t := fun i v hv => by
          have hi : i < ns.length := by rw [← hisz]; exact (Array.getElem?_eq_some_iff.mp hv).1
          obtain ⟨t, e⟩ := PyProof.Rows.IntsAre.int_at hit i v (by rw [Array.getElem?_toList]; exact hv)
          refine ⟨ns[i], t, List.getElem?_eq_getElem hi, ?_⟩
          rw [e, List.getD_eq_getElem?_getD, List.getElem?_eq_getElem hi] <;> rfl
        refine set_update_ints ((Walks.list hh3 _ l hneI items).toS) s.heap.objs.size
          hSf ns hisz hb hval (items.size - 0) 0 _ (by omega) (Nat.zero_le _)
          ⟨⟨_, Heap.get?_push_size _ rfl, rfl, rfl⟩, (hl1.push _)⟩ ?hS0 ?hR
        case hS0 =>
          have hget : ((s.heap.push { cls := .type "set", dict := none, data := .set #[] 0 (.fresh 0 0 (!w.params.followText "set-order")) }).push { cls := .type "list_iterator", data := .fields #[.ref l, .int 0 0] }).get? s.heap.objs.size
              = some { cls := .type "set", dict := none, data := .set #[] 0 (.fresh 0 0 (!w.params.followText "set-order")) } := Heap.get?_push_of_some _ hS
          exact ⟨0, Nat.le_refl 0, setR_new_at hget⟩
        case hR =>
          intro s' c' hm hc' hS'
          obtain ⟨h', g2, d', tk', os'⟩ := s'
          have eg : g2 = s.gens := hm.gens
          have ed : d' = s.drawn := hm.drawn
          have eo : os' = s.os := hm.os
          subst eg; subst ed; subst eo
          show wpAny _ _ _ _ _ _
          refine wpAny_pure ?_
          show wpAny _ _ (ret Value.none) _ _ _
          rw [hisz] at hc'
          refine wpAny_pure ⟨rfl, h', tk', c', rfl, hS', hc', fun b o e => ?_⟩
          have hb0 : b < s.heap.objs.size := Heap.lt_size e
          have hb1 : b ≠ s.heap.objs.size := Nat.ne_of_lt hb0
          have hb2 : b ≠ (s.heap.push { cls := .type "set", dict := none, data := .set #[] 0 (.fresh 0 0 (!w.params.followText "set-order")) }).objs.size := by
            rw [Heap.size_push]; exact Nat.ne_of_lt (Nat.lt_succ_of_lt hb0)
          exact hm.heap b o (by simp only [List.mem_cons, List.mem_singleton, List.not_mem_nil, or_false, not_or]; exact ⟨hb1, hb2⟩) (Heap.get?_push_of_some _ (Heap.get?_push_of_some _ e))
      · cases r₂ with
        | error e => exact hr₂
        | ok fl₂ =>
          cases fl₂ with
          | ret r =>
            obtain ⟨rfl, h', tk, c', rfl, hS', hc', hk'⟩ := hr₂
            repeat (any_goals (first | assumption | wp_step))
            exact h _ _ _ hS' hc' hk'
          | _ => exact hr₂.elim
    | _ => exact hr.elim
end
end RT
namespace Mini
open PySem PySem.Spec PyProof.Rows
open L2 (V Hp HO Key Rd SqL SqT Inv Cx RelV upd upd_same upd_ne Same WX VK TE XK OpR UnR CallR R2 EP PE Dp DpAll)
theorem dedup_nodup : ∀ ns : List Int, (dedup ns).Nodup
  | [] => List.nodup_nil
  | n :: ns => by
    have ih := dedup_nodup ns
    show (if n ∈ dedup ns then dedup ns else n :: dedup ns).Nodup
    split
    · exact ih
    · rename_i h
      exact List.nodup_cons.mpr ⟨h, ih⟩
theorem dedup_mem {k : Int} : ∀ {ns : List Int}, k ∈ dedup ns ↔ k ∈ ns
  | [] => Iff.rfl
  | n :: ns => by
    have ih := dedup_mem (k := k) (ns := ns)
    show k ∈ (if n ∈ dedup ns then dedup ns else n :: dedup ns) ↔ _
    split
    · rename_i h
      rw [ih, List.mem_cons]
      refine ⟨.inr, fun z => z.elim (fun e => ?_) id⟩
      rw [e]
      exact (dedup_mem (ns := ns)).mp h
    · rw [List.mem_cons, List.mem_cons, ih]
theorem setR_count {w : World} {h : Heap} {a : Addr} {ns : List Int} {c : Nat} (R : L2.SetR w h a (fun j => decide (j ∈ ns)) c) : c = (dedup ns).length := by
  obtain ⟨o, es, ep, t, ho, hex, hd, g, nd, hm, hb, hf, hn, hr, hl⟩ := R
  have p : (es.toList.map L2.keyOf).Perm (dedup ns) := by
    refine (List.perm_ext_iff_of_nodup nd (dedup_nodup ns)).mpr fun k => ?_
    rw [← hm k, dedup_mem]
    simp
  rw [← p.length_eq, List.length_map, Array.length_toList, hn]
section
variable {X : Cx} {e : Expr} {ev : Sl → Hh → R D} {pos pos2 p p2 : Pos}
/-- set(e): what is made -/
theorem set_made (hc : X.calm = true) (hv2 : Blt X (PySem.Str.ofString "set") (.type "set")) (hs : notStar e = true) (ha : SimE X e ev) {om : Om} {io : List Addr} {H : Hp} {σ : L2.St} {m : Sl} {h h1 : Hh} {x : D} {ns : List Int} {xs : List D}
    (rs : SlRp X.K om io H σ m) (rh : HpRp X.K om io H h) (ee : ev m h = .ok x h1) (h1' : seqOf h1 x = some xs) (h2 : intsOf xs = some ns) (hb : ns.length ≤ 4000) {pins : List (Addr × Obj)} {s : Shared} (I : Inv X pins σ H s) {Q : Value → Shared → Prop}
    (q : ∀ (io1 : List Addr) (H1 : Hp) (a : Addr) (s1 : Shared), Ext io H io1 H1 → HpRp X.K om io1 H1 h1 → Inv X pins σ H1 s1 → L2.SetR X.w s1.heap a (fun j => decide (j ∈ ns)) (dedup ns).length → Q (.ref a) s1) :
    wpAny (model X.prog X.w) X.A (eval (.Call (.Name (PySem.Str.ofString "set") p2) [e] [] pos2) X.env) Q X.xe s := by
  refine Call_ (L2.ld_blt I hv2.gl hv2.mg hv2.boot ?_ (db3 hv2.db) (db1 hv2.db))
  refine PyProof.Rows.callWith_type1 (PyProof.Rows.args_cons (L2.thn (ha om io H σ m h rs rh x h1 ee (fun v H1 => ∃ io1, Ext io H io1 H1 ∧ HpRp X.K om io1 H1 h1 ∧ Rp X.K om io1 H1 v x) (fun io1 H1 v x1 r1 rv => ⟨io1, x1, r1, rv⟩) pins s I) fun u s1 ⟨v, H1, I1, ru, io1, x1, r1, rv⟩ => PyProof.Rows.args_nil ?_) (starE hs)) (starE hs) rfl
  obtain ⟨a, vs, rfl, ha, ra⟩ := seq_of h1' rv r1
  have hvs := ints_at h2 ra
  subst hvs
  obtain rfl : u = Value.ref a := ru
  have fin : ∀ (h' : Heap) (tk c : Nat), L2.SetR X.w h' s1.heap.objs.size (fun j => decide (j ∈ ns)) c → c ≤ ns.length → (∀ b o, s1.heap.get? b = some o → h'.get? b = some o) → Q (.ref s1.heap.objs.size) { s1 with heap := h', toks := tk } := fun h' tk c hS _ hk => by
    rw [setR_count hS] at hS
    exact q io1 H1 _ _ x1 r1 (I1.kept hk) hS
  have hsc : ns.length + 1 < scanBound := by unfold scanBound; omega
  rcases ha with ha | ha
  · obtain ⟨its, rv, pl, hz⟩ := I1.list ha
    exact RT.set_of_list ns (I1.ok.hd hc) pl.isList (by simpa using L2.ints_of_vals rv) hsc fin
  · obtain ⟨its, rv, pl, hz⟩ := I1.tuple ha
    exact L2.call_set_tupI ns (I1.ok.hd hc) pl (by simpa using L2.ints_of_vals rv) hsc fin
theorem sim_sortedSet (hc : X.calm = true) (hv : Blt X (PySem.Str.ofString "sorted") (.builtin "sorted")) (hv2 : Blt X (PySem.Str.ofString "set") (.type "set")) (hs : notStar e = true) (ha : SimE X e ev) :
    SimN X (.Call (.Name (PySem.Str.ofString "sorted") p) [.Call (.Name (PySem.Str.ofString "set") p2) [e] [] pos2] [] pos) (fun m h => (ev m h).bind fun x h => R.of (biD h .sortedSet x) h) := by
  intro om io H σ m h rs rh ds h' ee Q q pins s I
  obtain ⟨x, h1, ea, ee⟩ := rbind ee
  obtain ⟨ed, rfl⟩ := rof ee
  obtain ⟨xs, h2, ed⟩ := bind_some ed
  obtain ⟨ns, h3, ed⟩ := bind_some ed
  have hl : ns.length ≤ 4000 ∧ (dedup ns).length < 64 := Classical.byContradiction fun hl => by
    rw [if_neg hl] at ed
    cases ed
  rw [if_pos hl] at ed
  have h4 : (sortBy intLt (dedup ns)).map D.int = ds := D.lst.inj (Option.some.inj ed)
  subst h4
  refine Call_ (L2.ld_blt I hv.gl hv.mg hv.boot ?_ (db3 hv.db) (db1 hv.db))
  refine PyProof.Rows.callWith_builtin1 (PyProof.Rows.args_cons (set_made hc hv2 hs ha rs rh ea h2 h3 hl.1 I fun io1 H1 a s1 x1 r1 I1 hS => PyProof.Rows.args_nil ?_) rfl) rfl rfl
  refine L2.sorted_set hS (I1.ok.hd hc) hl.2 fun s' p out c ns' k g o hp hg hi hso hm hn => ?_
  have e : s' = { s1 with heap := s'.heap, gens := s'.gens, drawn := s'.drawn, toks := s'.toks } := by
    cases s'
    cases s1
    cases o
    rfl
  have hlen : (ns'.map V.int).length ≤ sizeLine := by rw [List.length_map, hn, sizeLine_eq]; omega
  have hpn : H1 p = none := I1.hok.fresh hp
  have J : Inv X pins σ (upd H1 p (.lst (ns'.map V.int))) { s1 with heap := s'.heap, gens := s'.gens, drawn := s'.drawn, toks := s'.toks } :=
    I1.call (ch := []) (L2.Un.laid k hp hpn) (I1.hok.laid k hp ⟨hlen, out.toList, c, L2.vals_of_ints hi, hg⟩) (by rw [g]; exact I1.bare) (fun _ z => nomatch z)
  rw [e]
  have hns : sortBy intLt (dedup ns) = ns' := by
    refine (sorted_eq (?_ : ns'.Perm (dedup ns)) ?_).symm
    · refine (List.perm_ext_iff_of_nodup ?_ (dedup_nodup ns)).mpr fun k => ?_
      · exact hso.imp fun h => Int.ne_of_lt h
      · rw [hm k, dedup_mem]
        simp
    · exact hso.imp fun h => Int.le_of_lt h
  rw [hns] at q
  exact ⟨.ref p, _, J, rfl, q io1 H1 p _ x1 r1 (Rps.ints _) hpn⟩
theorem sim_setLen (hc : X.calm = true) (hv : Blt X (PySem.Str.ofString "len") (.builtin "len")) (hv2 : Blt X (PySem.Str.ofString "set") (.type "set")) (hs : notStar e = true) (ha : SimE X e ev) :
    SimE X (.Call (.Name (PySem.Str.ofString "len") p) [.Call (.Name (PySem.Str.ofString "set") p2) [e] [] pos2] [] pos) (fun m h => (ev m h).bind fun x h => R.of (biD h .setLen x) h) := by
  intro om io H σ m h rs rh d h' ee Q q pins s I
  obtain ⟨x, h1, ea, ee⟩ := rbind ee
  obtain ⟨ed, rfl⟩ := rof ee
  obtain ⟨xs, h2, ed⟩ := bind_some ed
  obtain ⟨ns, h3, ed⟩ := bind_some ed
  have hl : ns.length ≤ 4000 := Classical.byContradiction fun hl => by
    rw [if_neg hl] at ed
    cases ed
  rw [if_pos hl] at ed
  have h4 : D.int (dedup ns).length = d := Option.some.inj ed
  subst h4
  refine Call_ (L2.ld_blt I hv.gl hv.mg hv.boot ?_ (db3 hv.db) (db1 hv.db))
  refine PyProof.Rows.callWith_builtin1 (PyProof.Rows.args_cons (set_made hc hv2 hs ha rs rh ea h2 h3 hl I fun io1 H1 a s1 x1 r1 I1 hS => PyProof.Rows.args_nil ?_) rfl) rfl rfl
  obtain ⟨o, es, ep, t, ho, hex, hd, g, nd, hm, hb, hf, hn, hr, hll⟩ := hS
  have hlt : es.size < scanBound := hb
  exact call_len_set ho hex hd hf (by unfold scanBound at hlt; omega) ⟨.int (dedup ns).length, H1, I1.tok _, ⟨_, by rw [hn]⟩, q io1 H1 _ x1 r1 (.int _)⟩
/-- xs.index(k), xs.count(k), ints -/
theorem index_ok {om : Om} {io : List Addr} {H : Hp} {a : Addr} {vs : List V} {xs : List D} {ns : List Int} {k : Int} {n : Nat} {Q : VK} (ha : SqL X.K H a vs) (ra : Rps X.K om io H vs xs) (h2 : intsOf xs = some ns) (h3 : ns.findIdx? (fun n => n == k) = some n) (q : Q (.int n) H) : L2.rIndex X.K (.ref a) [.int k] H Q := by
  have hvs := ints_at h2 ra
  subst hvs
  obtain ⟨hl, hp, hno⟩ := List.findIdx?_eq_some_iff_getElem.mp h3
  refine ⟨a, ns.map V.int, .int k, n, .int ns[n], rfl, rfl, ha, rfl, ?_, ?_, ?_, fun m z hm hz => ?_, q⟩
  · rw [List.all_map]
    exact List.all_eq_true.mpr fun _ _ => rfl
  · rw [List.getElem?_map, List.getElem?_eq_getElem hl]
    rfl
  · show (ns[n] == k) = true
    exact hp
  · have hml : m < ns.length := by omega
    rw [List.getElem?_map, List.getElem?_eq_getElem hml] at hz
    cases hz
    show (ns[m] == k) = false
    have := hno m hm
    simpa using this
end
section
variable {X : Cx} {a b : Expr} {eva evb : Sl → Hh → R D} {pos apos : Pos}
theorem sim_index (hb : baseOk a = true) (hl : (apos.endLine == pos.line) = true) (hs : notStar b = true) (ha : SimE X a eva) (hbb : SimE X b evb) :
    SimE X (.Call (.Attribute a (PySem.Str.ofString "index") apos) [b] [] pos) (fun m h => (eva m h).bind fun x h => (evb m h).bind fun y h => R.of (methD h .index x [y]) h) := by
  intro om io H σ m h rs rh d h' ee Q q
  obtain ⟨x, h1, ea, ee⟩ := rbind ee
  obtain ⟨y, h2, eb, ee⟩ := rbind ee
  obtain ⟨ed, rfl⟩ := rof ee
  obtain ⟨xs, ns, n, k, hx, rfl, h3, h4, rfl⟩ : ∃ (xs : List D) (ns : List Int) (n : Nat) (k : Int), (∀ h, rdOf h x = some xs) ∧ y = .int k ∧ intsOf xs = some ns ∧ ns.findIdx? (fun n => n == k) = some n ∧ d = .int n := by
    cases x with
    | lst xs => cases y with
      | int k =>
        obtain ⟨ns, h3, ed⟩ := bind_some ed
        obtain ⟨n, h4, h5⟩ := map_some ed
        exact ⟨xs, ns, n, k, fun _ => rfl, rfl, h3, h4, h5.symm⟩
      | _ => cases ed
    | scr xs => cases y with
      | int k =>
        obtain ⟨ns, h3, ed⟩ := bind_some ed
        obtain ⟨n, h4, h5⟩ := map_some ed
        exact ⟨xs, ns, n, k, fun _ => rfl, rfl, h3, h4, h5.symm⟩
      | _ => cases ed
    | _ => cases y <;> cases ed
  refine we_of (L2.pe_bm PySem.F.plainAttrs_list PySem.F.slot_list_index PySem.F.type_list_index L2.mt_index pe_we (L2.pa_cons pe_we L2.pa_nil (starE hs)) (base_of hb) (few_ok (by simp [noStars, hs]) (by simp)) hl (starE hs) (star_any rfl))
    (ha om io H σ m h rs rh x _ ea _ fun io1 H1 v x1 r1 rv => ⟨?_, ?_⟩)
  · obtain ⟨a, vs, rfl, hq, _⟩ := rd_of (hx h1) rv r1
    exact .inl ⟨rfl, vs, hq⟩
  · refine hbb om io1 H1 σ m _ (rs.ext x1) r1 _ _ eb _ fun io2 H2 u x2 r2 ru => ?_
    obtain ⟨a, vs, rfl, hq, ra⟩ := rd_of (hx h2) (rv.ext x2) r2
    cases int_at ru
    exact index_ok hq ra h3 h4 (q io2 H2 _ (x1.trans x2) r2 (.int _))
theorem sim_count (hb : baseOk a = true) (hl : (apos.endLine == pos.line) = true) (hs : notStar b = true) (ha : SimE X a eva) (hbb : SimE X b evb) :
    SimE X (.Call (.Attribute a (PySem.Str.ofString "count") apos) [b] [] pos) (fun m h => (eva m h).bind fun x h => (evb m h).bind fun y h => R.of (methD h .count x [y]) h) := by
  intro om io H σ m h rs rh d h' ee Q q
  obtain ⟨x, h1, ea, ee⟩ := rbind ee
  obtain ⟨y, h2, eb, ee⟩ := rbind ee
  obtain ⟨ed, rfl⟩ := rof ee
  obtain ⟨xs, ns, k, hx, rfl, h3, rfl⟩ : ∃ (xs : List D) (ns : List Int) (k : Int), (∀ h, rdOf h x = some xs) ∧ y = .int k ∧ intsOf xs = some ns ∧ d = .int (ns.count k : Nat) := by
    cases x with
    | lst xs => cases y with
      | int k =>
        obtain ⟨ns, h3, h5⟩ := map_some ed
        exact ⟨xs, ns, k, fun _ => rfl, rfl, h3, h5.symm⟩
      | _ => cases ed
    | scr xs => cases y with
      | int k =>
        obtain ⟨ns, h3, h5⟩ := map_some ed
        exact ⟨xs, ns, k, fun _ => rfl, rfl, h3, h5.symm⟩
      | _ => cases ed
    | _ => cases y <;> cases ed
  refine we_of (L2.pe_bm PySem.F.plainAttrs_list PySem.F.slot_list_count PySem.F.type_list_count L2.mt_lcount pe_we (L2.pa_cons pe_we L2.pa_nil (starE hs)) (base_of hb) (few_ok (by simp [noStars, hs]) (by simp)) hl (starE hs) (star_any rfl))
    (ha om io H σ m h rs rh x _ ea _ fun io1 H1 v x1 r1 rv => ⟨?_, ?_⟩)
  · obtain ⟨a, vs, rfl, hq, _⟩ := rd_of (hx h1) rv r1
    exact .inl ⟨rfl, vs, hq⟩
  · refine hbb om io1 H1 σ m _ (rs.ext x1) r1 _ _ eb _ fun io2 H2 u x2 r2 ru => ?_
    obtain ⟨a, vs, rfl, hq, ra⟩ := rd_of (hx h2) (rv.ext x2) r2
    cases int_at ru
    have hvs := ints_at h3 ra
    subst hvs
    exact ⟨a, ns, k, rfl, rfl, hq, q io2 H2 _ (x1.trans x2) r2 (.int _)⟩
/-- d.get(k, x) -/
theorem sim_get {c : Expr} {evc : Sl → Hh → R D} (hu : X.A.units + 65 < cLine) (hb : baseOk a = true) (hl : (apos.endLine == pos.line) = true) (hs : notStar b = true) (hs2 : notStar c = true) (ha : SimE X a eva) (hbb : SimE X b evb) (hcc : SimE X c evc)
    (qb : ∀ m h y h', evb m h = .ok y h' → h' = h) (qc : ∀ m h y h', evc m h = .ok y h' → h' = h) :
    SimE X (.Call (.Attribute a (PySem.Str.ofString "get") apos) [b, c] [] pos) (fun m h => (eva m h).bind fun x h => (evb m h).bind fun y h => (evc m h).bind fun z h => R.of (methD h .get2 x [y, z]) h) := by
  intro om io H σ m h rs rh d h' ee Q q
  obtain ⟨x, h1, ea, ee⟩ := rbind ee
  obtain ⟨y, h2, eb, ee⟩ := rbind ee
  obtain ⟨z, h3, ec, ee⟩ := rbind ee
  obtain ⟨ed, rfl⟩ := rof ee
  have e2 := qb _ _ _ _ eb
  subst e2
  have e3 := qc _ _ _ _ ec
  subst e3
  obtain ⟨n, kvs, k, rfl, hn, hk, rfl⟩ : ∃ n kvs k, x = .ref n ∧ h3[n]? = some (.dK kvs) ∧ key1 y = some k ∧ d = (findK k kvs).getD z := by
    cases x with
    | ref n =>
      unfold methD at ed
      dsimp only at ed
      split at ed
      · rename_i kvs hn
        obtain ⟨k, hk, e⟩ := map_some ed
        exact ⟨n, kvs, k, rfl, hn, hk, e.symm⟩
      · cases ed
    | _ => cases ed
  have few : L2.M2 X a (PySem.Str.ofString "get") apos b c pos := ⟨base_of hb, few_ok (by simp [noStars, hs, hs2]) (by simp), hl, by rw [starE hs, starE hs2]; rfl⟩
  refine we_of (L2.pe_dget2 (by omega) pe_we pe_we pe_we few) (ha om io H σ m h rs rh _ _ ea _ fun io1 H1 v x1 r1 rv => ?_)
  obtain ⟨a1, rfl, ps, hd⟩ : ∃ a1, v = .ref a1 ∧ ∃ ps, H1 a1 = some (.dK ps) := by
    cases rv with
    | ref hn1 =>
      obtain ⟨ps, q1, _⟩ := r1.cell n _ _ hn1 hn
      exact ⟨_, rfl, ps, q1⟩
  refine ⟨a1, rfl, .inl ⟨ps, .inl hd⟩, ?_⟩
  refine hbb om io1 H1 σ m _ (rs.ext x1) r1 _ _ eb _ fun io2 H2 u x2 r2 ru => ?_
  refine hcc om io2 H2 σ m _ (rs.ext (x1.trans x2)) r2 _ _ ec _ fun io3 H3 t x3 r3 rt => ?_
  obtain ⟨a2, o, e1, g, hs1, hs2⟩ := dget_of (X := X) (rv.ext (x2.trans x3)) (ru.ext x3) r3 (.inl ⟨kvs, k, hn, hk, rfl⟩)
  cases e1
  refine ⟨o, g, ?_⟩
  cases hf : findK k kvs with
  | none =>
    rw [hf] at hs1
    cases o with
    | some _ => cases hs1
    | none => rw [hf] at q; exact q io3 H3 _ (x1.trans (x2.trans x3)) r3 rt
  | some d =>
    obtain ⟨w, rfl, rw'⟩ := hs2 d hf
    rw [hf] at q
    exact q io3 H3 _ (x1.trans (x2.trans x3)) r3 rw'
end
end Mini
end
section
set_option Elab.async false
set_option linter.all false
set_option autoImplicit false
set_option maxRecDepth 100000
/-! Sound9: what is walked; targets; comprehensions. -/
namespace Mini
open PySem PySem.Spec PyProof.Rows
open L2 (V Hp HO Key Rd SqL SqT Inv Cx RelV upd upd_same upd_ne Same WX VK TE TT TA TO TI TG TGs It XK OpR UnR CallR R2 EP TP AP PE PT PW PA PO PS PSs PG PGs PI PIE PTs Dp DpAll MtR MtM IxR SlR PSet Gl Vis Loc Ends TS)

/-! ### a list that is being made is out of reach -/
def Om.add (om : Om) (p : Addr) : Om := ⟨p :: om.o, p :: om.x⟩
theorem Om.not_add {om : Om} {p a : Addr} : a ∉ om.add p ↔ a ≠ p ∧ a ∉ om := by
  show ¬ (a ∈ p :: om.o ∨ a ∈ p :: om.x) ↔ a ≠ p ∧ ¬ (a ∈ om.o ∨ a ∈ om.x)
  simp only [List.mem_cons, not_or]
  constructor
  · rintro ⟨⟨h1, h2⟩, h3, h4⟩
    exact ⟨h1, h2, h4⟩
  · rintro ⟨h1, h2, h4⟩
    exact ⟨⟨h1, h2⟩, h1, h4⟩
def rem (H : Hp) (p : Addr) : Hp := fun a => if a = p then none else H a
theorem rem_ne {H : Hp} {p a : Addr} (h : a ≠ p) : rem H p a = H a := if_neg h
theorem rem_same {H : Hp} {p : Addr} : rem H p p = none := if_pos rfl
theorem rem_upd {H : Hp} {p : Addr} {o : HO} (h : H p = some o) : upd (rem H p) p o = H := by
  funext a
  by_cases e : a = p
  · subst e; rw [upd_same, h]
  · rw [upd_ne e, rem_ne e]
section
variable {K : PySem.W.Frag} {om : Om} {io io' : List Addr} {H H' : Hp} {p : Addr} {o : HO} {h : Hh}
mutual
theorem Rp.add (hp : H p = none) (hx : p ∉ om) : ∀ {v : V} {d : D}, Rp K om io H v d → Rp K (om.add p) io (upd H p o) v d
  | _, _, .non => .non
  | _, _, .bl b => .bl b
  | _, _, .int i => .int i
  | _, _, .str s => .str s
  | _, _, .tup e h1 h2 t => .tup (same_new hp _ _ e) (Om.not_add.mpr ⟨fun z => (by rw [z, hp] at e; cases e), h1⟩) h2 (Rps.add hp hx t)
  | _, _, .lst e h1 h2 t => .lst (same_new hp _ _ e) (Om.not_add.mpr ⟨fun z => (by rw [z, hp] at e; cases e), h1⟩) h2 (Rps.add hp hx t)
  | _, _, .scr r h g t => .scr (by
      rcases r with e | ⟨u, e⟩
      · exact .inl (same_new hp _ _ e)
      · exact .inr ⟨u, same_new hp _ _ e⟩) h (by
      rw [show (om.add p).x = p :: om.x from rfl, List.mem_cons, not_or]
      refine ⟨fun z => ?_, g⟩
      subst z
      rcases r with e | ⟨u, e⟩ <;> (rw [hp] at e; cases e)) (Rps.add hp hx t)
  | _, _, .scrK r t => .scrK r (Rps.add hp hx t)
  | _, _, .dct e h1 h2 => .dct (same_new hp _ _ e) (Om.not_add.mpr ⟨fun z => (by rw [z, hp] at e; cases e), h1⟩) h2
  | _, _, .rep d => .rep d
  | _, _, .ref h => .ref h
theorem Rps.add (hp : H p = none) (hx : p ∉ om) : ∀ {vs : List V} {ds : List D}, Rps K om io H vs ds → Rps K (om.add p) io (upd H p o) vs ds
  | _, _, .nil => .nil
  | _, _, .cons r t => .cons (Rp.add hp hx r) (Rps.add hp hx t)
end
mutual
theorem Rp.drop1 : ∀ {v : V} {d : D}, Rp K (om.add p) io H v d → Rp K om io (rem H p) v d
  | _, _, .non => .non
  | _, _, .bl b => .bl b
  | _, _, .int i => .int i
  | _, _, .str s => .str s
  | _, _, .tup e h1 h2 t => .tup (by rw [rem_ne (Om.not_add.mp h1).1]; exact e) (Om.not_add.mp h1).2 h2 (Rps.drop1 t)
  | _, _, .lst e h1 h2 t => .lst (by rw [rem_ne (Om.not_add.mp h1).1]; exact e) (Om.not_add.mp h1).2 h2 (Rps.drop1 t)
  | _, _, .scr r h g t => by
      rw [show (om.add p).x = p :: om.x from rfl, List.mem_cons, not_or] at g
      refine .scr ?_ h g.2 (Rps.drop1 t)
      rcases r with e | ⟨u, e⟩
      · exact .inl (by rw [rem_ne g.1]; exact e)
      · exact .inr ⟨u, by rw [rem_ne g.1]; exact e⟩
  | _, _, .scrK r t => .scrK r (Rps.drop1 t)
  | _, _, .dct e h1 h2 => .dct (by rw [rem_ne (Om.not_add.mp h1).1]; exact e) (Om.not_add.mp h1).2 h2
  | _, _, .rep d => .rep d
  | _, _, .ref h => .ref h
theorem Rps.drop1 : ∀ {vs : List V} {ds : List D}, Rps K (om.add p) io H vs ds → Rps K om io (rem H p) vs ds
  | _, _, .nil => .nil
  | _, _, .cons r t => .cons (Rp.drop1 r) (Rps.drop1 t)
end
theorem SlRp.add {σ : L2.St} {m : Sl} (hp : H p = none) (hx : p ∉ om) (r : SlRp K om io H σ m) : SlRp K (om.add p) io (upd H p o) σ m :=
  ⟨r.1, fun i d e => let ⟨v, h1, h2⟩ := r.2 i d e; ⟨v, h1, h2.add hp hx⟩⟩
theorem HpRp.add (hp : H p = none) (r : HpRp K om io H h) : HpRp K (om.add p) io (upd H p o) h := by
  have fr := r.fresh hp
  refine ⟨r.len, r.nd, fun n a c h1 h2 => ?_, fun a ha => ?_, fun a ha => ?_⟩
  · have z := r.cell n a c h1 h2
    obtain ⟨u, hu⟩ := z.there
    have hu' : upd H p o a = H a := upd_ne fun z => by rw [z, hp] at hu; cases hu
    cases c with
    | lst ds =>
      obtain ⟨vs, q1, q2⟩ := z
      exact ⟨vs, by rw [hu']; exact q1, q2.add hp fr.1⟩
    | dK kvs =>
      obtain ⟨vs, q1, q2, q3⟩ := z
      exact ⟨vs, by rw [hu']; exact q1, q2, q3.add hp fr.1⟩
    | dT kvs =>
      obtain ⟨vs, q1, q2, q3⟩ := z
      exact ⟨vs, by rw [hu']; exact q1, q2, q3.add hp fr.1⟩
  · exact Om.not_add.mpr ⟨fun z => fr.2 (z ▸ ha), r.out a ha⟩
  · by_cases e : a = p
    · subst e; exact ⟨o, upd_same⟩
    · have ha2 : a ∈ om := Classical.byContradiction fun q => (Om.not_add.mpr ⟨e, q⟩) ha
      obtain ⟨u, hu⟩ := r.om a ha2
      exact ⟨u, by rw [upd_ne e]; exact hu⟩
theorem HpRp.drop1 (hx : p ∉ om) (r : HpRp K (om.add p) io H h) : HpRp K om io (rem H p) h := by
  refine ⟨r.len, r.nd, fun n a c h1 h2 => ?_, fun a ha => (Om.not_add.mp (r.out a ha)).2, fun a ha => ?_⟩
  · have z := r.cell n a c h1 h2
    have hne : a ≠ p := (Om.not_add.mp (r.out a (List.mem_of_getElem? h1))).1
    cases c with
    | lst ds =>
      obtain ⟨vs, q1, q2⟩ := z
      exact ⟨vs, by rw [rem_ne hne]; exact q1, q2.drop1⟩
    | dK kvs =>
      obtain ⟨vs, q1, q2, q3⟩ := z
      exact ⟨vs, by rw [rem_ne hne]; exact q1, q2, q3.drop1⟩
    | dT kvs =>
      obtain ⟨vs, q1, q2, q3⟩ := z
      exact ⟨vs, by rw [rem_ne hne]; exact q1, q2, q3.drop1⟩
  · have hne : a ≠ p := fun e => hx (e ▸ ha)
    obtain ⟨u, hu⟩ := r.om a (by
      rcases ha with q | q
      · exact .inl (List.mem_cons_of_mem _ q)
      · exact .inr (List.mem_cons_of_mem _ q))
    exact ⟨u, by rw [rem_ne hne]; exact hu⟩
theorem upd_rem : upd (rem H p) p o = upd H p o := by
  funext a
  by_cases e : a = p
  · subst e; rw [upd_same, upd_same]
  · rw [upd_ne e, upd_ne e, rem_ne e]
/-- the list that is made grows -/
theorem Rp.grow {v : V} {d : D} (hx : p ∉ om) (r : Rp K (om.add p) io H v d) (o : HO) : Rp K (om.add p) io (upd H p o) v d := by
  rw [← upd_rem]
  exact r.drop1.add rem_same hx
theorem Rps.grow {vs : List V} {ds : List D} (hx : p ∉ om) (r : Rps K (om.add p) io H vs ds) (o : HO) : Rps K (om.add p) io (upd H p o) vs ds := by
  rw [← upd_rem]
  exact r.drop1.add rem_same hx
theorem HpRp.grow (hx : p ∉ om) (r : HpRp K (om.add p) io H h) (o : HO) : HpRp K (om.add p) io (upd H p o) h := by
  rw [← upd_rem]
  exact (r.drop1 hx).add rem_same
theorem Ext.drop1 (hp : H p = none) (x : Ext io (upd H p o) io' H') : Ext io H io' (rem H' p) := by
  obtain ⟨⟨more, e, hm⟩, ho, ht⟩ := x
  refine ⟨⟨more, e, fun a ha => ?_⟩, fun a u e hn => ?_, fun a u e => ?_⟩
  · by_cases z : a = p
    · subst z; exact hp
    · have := hm a ha
      rw [upd_ne z] at this
      exact this
  · have hne : a ≠ p := fun z => by rw [z, hp] at e; cases e
    rw [rem_ne hne]
    exact ho a u (by rw [upd_ne hne]; exact e) hn
  · have hne : a ≠ p := fun z => by rw [z, hp] at e; cases e
    rw [rem_ne hne]
    exact ht a u (by rw [upd_ne hne]; exact e)
end

theorem ext_rem {K : PySem.W.Frag} {io io' : List Addr} {H H' : Hp} {p : Addr} (x : Ext io H io' H') : Ext io (rem H p) io' (rem H' p) := by
  obtain ⟨⟨more, e, hm⟩, ho, ht⟩ := x
  have go : ∀ a u, rem H p a = some u → a ≠ p ∧ H a = some u := fun a u e => by
    by_cases z : a = p
    · rw [z, rem_same] at e; cases e
    · rw [rem_ne z] at e; exact ⟨z, e⟩
  refine ⟨⟨more, e, fun a ha => ?_⟩, fun a u e hn => ?_, fun a u e => ?_⟩
  · by_cases z : a = p
    · subst z; exact rem_same
    · rw [rem_ne z]; exact hm a ha
  · obtain ⟨h1, h2⟩ := go a u e
    rw [rem_ne h1]
    exact ho a u h2 hn
  · obtain ⟨h1, h2⟩ := go a u e
    rw [rem_ne h1]
    exact ht a u h2

/-! ### what is walked -/
/-- a list that is walked -/
inductive LB (K : PySem.W.Frag) (om : Om) (io : List Addr) (H : Hp) (a : Addr) : Its → Prop
  | lst {xs : List D} (r : Rp K om io H (.ref a) (.lst xs)) : LB K om io H a ⟨xs.map .v, []⟩
  | scr {xs : List D} (r : Rp K om io H (.ref a) (.scr xs)) : LB K om io H a ⟨xs.map .v, []⟩
  | ref {n len : Nat} (r : Rp K om io H (.ref a) (.ref n)) : LB K om io H a ⟨(List.range len).map fun i => .l n i len, [(n, len)]⟩
/-- J walks what its says -/
inductive ItRp (K : PySem.W.Frag) (om : Om) (io : List Addr) (H : Hp) : It → Its → Prop
  | lst {a : Addr} {its : Its} (r : LB K om io H a its) : ItRp K om io H (L2.Itl K a) its
  | tup {a : Addr} {xs : List D} (r : Rp K om io H (.ref a) (.tup xs)) : ItRp K om io H (L2.Itt K a) ⟨xs.map .v, []⟩
  | str (s : List Char) : ItRp K om io H (L2.Its (S s)) ⟨s.map fun c => .v (.str [c]), []⟩
  | rng (lo : Int) (n : Nat) : ItRp K om io H (L2.Itr lo n) ⟨(List.range n).map fun i => .v (.int (lo + (i : Nat))), []⟩
  | rvg (n : Nat) : ItRp K om io H (L2.Itc ((n : Int) - 1) (-1) n) ⟨((List.range n).map fun i => .v (.int (0 + (i : Nat)))).reverse, []⟩
  | enum {a : Addr} {its : Its} (r : LB K om io H a its) : ItRp K om io H (L2.Ite K a) ⟨enumIts 0 its.its, its.live⟩
  | enumT {a : Addr} {xs : List D} (r : Rp K om io H (.ref a) (.tup xs)) : ItRp K om io H (RE.IteT K a xs.length) ⟨enumIts 0 (xs.map .v), []⟩
  | enumS (s : List Char) : ItRp K om io H (RE.IteS (S s)) ⟨enumIts 0 (s.map fun c => .v (.str [c])), []⟩
  | zip {a b : Addr} {its jts : Its} (r : LB K om io H a its) (r' : LB K om io H b jts) : ItRp K om io H (L2.Itz K a b) ⟨zipIts its.its jts.its, its.live ++ jts.live⟩
  | zipT {a b : Addr} {xs ys : List D} (r : Rp K om io H (.ref a) (.tup xs)) (r' : Rp K om io H (.ref b) (.tup ys)) : ItRp K om io H (RZ.ItzT K a b) ⟨zipIts (xs.map .v) (ys.map .v), []⟩
  | revL {a : Addr} {xs : List D} (r : LB K om io H a ⟨xs.map .v, []⟩) : ItRp K om io H (L2.Itv K a xs.length) ⟨xs.reverse.map .v, []⟩
  | revT {a : Addr} {xs : List D} (r : Rp K om io H (.ref a) (.tup xs)) : ItRp K om io H (RT.ItvT K a xs.length) ⟨xs.reverse.map .v, []⟩
section
variable {K : PySem.W.Frag} {om : Om} {io io' : List Addr} {H H' : Hp} {p a : Addr} {o : HO} {h : Hh} {J : It} {its : Its}
theorem LB.map {om' : Om} (f : ∀ v d, Rp K om io H v d → Rp K om' io' H' v d) (r : LB K om io H a its) : LB K om' io' H' a its := by
  cases r with
  | lst r => exact .lst (f _ _ r)
  | scr r => exact .scr (f _ _ r)
  | ref r => exact .ref (f _ _ r)
theorem ItRp.map {om' : Om} (f : ∀ v d, Rp K om io H v d → Rp K om' io' H' v d) (r : ItRp K om io H J its) : ItRp K om' io' H' J its := by
  cases r with
  | lst r => exact .lst (r.map f)
  | tup r => exact .tup (f _ _ r)
  | str s => exact .str s
  | rng lo n => exact .rng lo n
  | rvg n => exact .rvg n
  | enum r => exact .enum (r.map f)
  | enumT r => exact .enumT (f _ _ r)
  | enumS s => exact .enumS s
  | zip r r' => exact .zip (r.map f) (r'.map f)
  | zipT r r' => exact .zipT (f _ _ r) (f _ _ r')
  | revL r => exact .revL (r.map f)
  | revT r => exact .revT (f _ _ r)
theorem LB.get (r : LB K om io H a its) (R : HpRp K om io H h) {i : Nat} {t : It1} {d : D} (hi : its.its[i]? = some t) (hg : t.get h = some d) : ∃ vs v, SqL K H a vs ∧ vs[i]? = some v ∧ Rp K om io H v d := by
  have val : ∀ xs : List D, (∃ vs, SqL K H a vs ∧ Rps K om io H vs xs) → (xs.map It1.v)[i]? = some t → ∃ vs v, SqL K H a vs ∧ vs[i]? = some v ∧ Rp K om io H v d := by
    intro xs ⟨vs, h1, h2⟩ hi
    rw [List.getElem?_map] at hi
    cases hx : xs[i]? with
    | none => rw [hx] at hi; cases hi
    | some x =>
      rw [hx] at hi
      have e := Option.some.inj hi
      subst e
      have e2 : x = d := Option.some.inj hg
      subst e2
      obtain ⟨v, h3, h4⟩ := h2.get hx
      exact ⟨vs, v, h1, h3, h4⟩
  cases r with
  | lst r =>
    cases r with
    | lst e _ _ rs => exact val _ ⟨_, .inl (.inl e), rs⟩ hi
  | scr r =>
    cases r with
    | scr e _ _ rs => exact val _ ⟨_, .inl e, rs⟩ hi
    | scrK e rs => exact val _ ⟨_, sqL_none e, rs⟩ hi
  | ref r =>
    cases r with
    | ref hn =>
      rename_i n len
      rw [List.getElem?_map] at hi
      cases hx : (List.range len)[i]? with
      | none => rw [hx] at hi; cases hi
      | some j =>
        rw [hx] at hi
        have e := Option.some.inj hi
        subst e
        have hj : j = i := by
          obtain ⟨h1, h2⟩ := List.getElem?_eq_some_iff.mp hx
          simp at h2
          exact h2.symm
        subst hj
        unfold It1.get at hg
        split at hg
        · rename_i xs hc
          split at hg
          · obtain ⟨vs, h1, h2⟩ := R.cell n _ _ hn hc
            obtain ⟨v, h3, h4⟩ := h2.get hg
            exact ⟨vs, v, .inl (.inl h1), h3, h4⟩
          · cases hg
        · cases hg
theorem LB.stop (r : LB K om io H a its) (R : HpRp K om io H h) (hl : liveOk h its.live = true) : ∃ vs, SqL K H a vs ∧ vs.length = its.its.length := by
  cases r with
  | lst r =>
    cases r with
    | lst e _ _ rs => exact ⟨_, .inl (.inl e), by simp [rs.length]⟩
  | scr r =>
    cases r with
    | scr e _ _ rs => exact ⟨_, .inl e, by simp [rs.length]⟩
    | scrK e rs => exact ⟨_, sqL_none e, by simp [rs.length]⟩
  | ref r =>
    cases r with
    | ref hn =>
      rename_i n len
      simp only [liveOk, List.all_cons, List.all_nil, Bool.and_true] at hl
      split at hl
      · rename_i xs hc
        obtain ⟨vs, h1, h2⟩ := R.cell n _ _ hn hc
        exact ⟨vs, .inl (.inl h1), by rw [h2.length]; simpa using hl⟩
      · cases hl
theorem tupB_get {xs : List D} (r : Rp K om io H (.ref a) (.tup xs)) {i : Nat} {t : It1} {d : D} (hi : (xs.map It1.v)[i]? = some t) (hg : t.get h = some d) : ∃ vs v, SqT K H a vs ∧ vs[i]? = some v ∧ Rp K om io H v d := by
  rw [List.getElem?_map] at hi
  cases hx : xs[i]? with
  | none => rw [hx] at hi; cases hi
  | some x =>
    rw [hx] at hi
    have e := Option.some.inj hi
    subst e
    have e2 : x = d := Option.some.inj hg
    subst e2
    cases r with
    | tup e _ _ rs =>
      obtain ⟨v, h3, h4⟩ := rs.get hx
      exact ⟨_, v, .inl (.inl e), h3, h4⟩
theorem tupB_get' {xs : List D} (r : Rp K om io H (.ref a) (.tup xs)) {i : Nat} {t : It1} {d : D} (hi : (xs.map It1.v)[i]? = some t) (hg : t.get h = some d) : ∃ vs v, SqT K H a vs ∧ vs[i]? = some v ∧ Rp K om io H v d ∧ vs.length = xs.length := by
  rw [List.getElem?_map] at hi
  cases hx : xs[i]? with
  | none => rw [hx] at hi; cases hi
  | some x =>
    rw [hx] at hi
    have e := Option.some.inj hi
    subst e
    have e2 : x = d := Option.some.inj hg
    subst e2
    cases r with
    | tup e _ _ rs =>
      obtain ⟨v, h3, h4⟩ := rs.get hx
      exact ⟨_, v, .inl (.inl e), h3, h4, rs.length⟩
theorem enum_get : ∀ {its : List It1} {k i : Nat} {t : It1}, (enumIts k its)[i]? = some t → ∃ u, its[i]? = some u ∧ t = .pr (.v (.int ((k + i : Nat) : Int))) u
  | [], k, i, t, e => by simp [enumIts] at e
  | x :: xs, k, 0, t, e => by
    have e1 := Option.some.inj e
    exact ⟨x, rfl, e1.symm⟩
  | x :: xs, k, i + 1, t, e => by
    unfold enumIts at e
    rw [List.getElem?_cons_succ] at e
    obtain ⟨u, h1, h2⟩ := enum_get e
    refine ⟨u, by simpa using h1, ?_⟩
    rw [h2, show k + 1 + i = k + (i + 1) by omega]
theorem enum_len : ∀ (its : List It1) (k : Nat), (enumIts k its).length = its.length
  | [], _ => rfl
  | _ :: xs, k => congrArg (· + 1) (enum_len xs (k + 1))
theorem zip_get : ∀ {its jts : List It1} {i : Nat} {t : It1}, (zipIts its jts)[i]? = some t → ∃ u w, its[i]? = some u ∧ jts[i]? = some w ∧ t = .pr u w
  | [], _, i, t, e => by simp [zipIts] at e
  | _ :: _, [], i, t, e => by simp [zipIts] at e
  | x :: xs, y :: ys, 0, t, e => by
    have e1 := Option.some.inj e
    exact ⟨x, y, rfl, rfl, e1.symm⟩
  | x :: xs, y :: ys, i + 1, t, e => by
    unfold zipIts at e
    rw [List.getElem?_cons_succ] at e
    obtain ⟨u, w, h1, h2, h3⟩ := zip_get e
    exact ⟨u, w, by simpa using h1, by simpa using h2, h3⟩
theorem zip_len : ∀ (its jts : List It1), (zipIts its jts).length = min its.length jts.length
  | [], _ => by simp [zipIts]
  | _ :: _, [] => by simp [zipIts]
  | _ :: xs, _ :: ys => by
    unfold zipIts
    rw [List.length_cons, zip_len xs ys, List.length_cons, List.length_cons]
    omega
theorem pr_get {u w : It1} {d : D} (e : (It1.pr u w).get h = some d) : ∃ x y, u.get h = some x ∧ w.get h = some y ∧ d = .tup [x, y] := by
  unfold It1.get at e
  split at e
  · rename_i x y h1 h2
    exact ⟨x, y, h1, h2, (Option.some.inj e).symm⟩
  · cases e
theorem mk_pair (R : HpRp K om io H h) {T : Addr} {v w : V} {x y : D} (hT : H T = none) (r : Rp K om io H v x) (r' : Rp K om io H w y) :
    Ext io H io (upd H T (.tup [v, w])) ∧ HpRp K om io (upd H T (.tup [v, w])) h ∧ Rp K om io (upd H T (.tup [v, w])) (.ref T) (.tup [x, y]) := by
  have xx : Ext io H io (upd H T (.tup [v, w])) := .same (same_new hT)
  exact ⟨xx, R.same (same_new hT), .tup upd_same (R.fresh hT).1 (R.fresh hT).2 (.cons (r.ext xx) (.cons (r'.ext xx) .nil))⟩
theorem rev_ix {α : Type} {xs : List α} {i : Nat} {x : α} (e : xs.reverse[i]? = some x) : i < xs.length ∧ xs[xs.length - 1 - i]? = some x := by
  obtain ⟨h1, h2⟩ := List.getElem?_eq_some_iff.mp e
  rw [List.length_reverse] at h1
  rw [List.getElem?_reverse h1] at e
  exact ⟨h1, e⟩
theorem it_step (r : ItRp K om io H J its) (R : HpRp K om io H h) {i : Nat} {t : It1} {d : D} (hi : its.its[i]? = some t) (hg : t.get h = some d) :
    J.go i H ∧ ∀ x H', J.yld i H x H' → Ext io H io H' ∧ HpRp K om io H' h ∧ Rp K om io H' x d := by
  cases r with
  | lst r =>
    obtain ⟨vs, v, h1, h2, h3⟩ := r.get R hi hg
    refine ⟨⟨vs, v, h1, h2⟩, fun x H' y => ?_⟩
    obtain ⟨rfl, y⟩ := y
    have e : v = x := Option.some.inj (h2.symm.trans (y vs h1))
    subst e
    exact ⟨.refl, R, h3⟩
  | tup r =>
    obtain ⟨vs, v, h1, h2, h3⟩ := tupB_get r hi hg
    refine ⟨⟨vs, v, h1, h2⟩, fun x H' y => ?_⟩
    obtain ⟨rfl, y⟩ := y
    have e : v = x := Option.some.inj (h2.symm.trans (y vs h1))
    subst e
    exact ⟨.refl, R, h3⟩
  | str s =>
    rw [List.getElem?_map] at hi
    cases hx : s[i]? with
    | none => rw [hx] at hi; cases hi
    | some c =>
      rw [hx] at hi
      have e := Option.some.inj hi
      subst e
      have e2 : D.str [c] = d := Option.some.inj hg
      subst e2
      have hs : (S s).cps[i]? = some c.toNat := by
        rw [← Array.getElem?_toList, S_toList, List.getElem?_map, hx]
        rfl
      refine ⟨?_, fun x H' y => ?_⟩
      · show i < (S s).cps.size
        obtain ⟨hl, _⟩ := Array.getElem?_eq_some_iff.mp hs
        exact hl
      · obtain ⟨rfl, k, y1, rfl⟩ := y
        rw [hs] at y1
        have e3 := Option.some.inj y1
        subst e3
        rw [S_one]
        exact ⟨.refl, R, .str _⟩
  | rng lo n =>
    rw [List.getElem?_map] at hi
    cases hx : (List.range n)[i]? with
    | none => rw [hx] at hi; cases hi
    | some j =>
      rw [hx] at hi
      have e := Option.some.inj hi
      subst e
      have e2 : D.int (lo + (j : Nat)) = d := Option.some.inj hg
      subst e2
      obtain ⟨h1, h2⟩ := List.getElem?_eq_some_iff.mp hx
      simp at h1 h2
      subst h2
      refine ⟨h1, fun x H' y => ?_⟩
      obtain ⟨rfl, rfl⟩ := y
      exact ⟨.refl, R, .int _⟩
  | rvg n =>
    have hl : i < n := by
      obtain ⟨q, _⟩ := List.getElem?_eq_some_iff.mp hi
      simpa using q
    rw [List.getElem?_reverse (by simpa using hl), List.length_map, List.length_range, List.getElem?_map, List.getElem?_range (by omega)] at hi
    have e := Option.some.inj hi
    subst e
    have e2 : D.int (0 + ((n - 1 - i : Nat) : Int)) = d := Option.some.inj hg
    subst e2
    refine ⟨hl, fun x H' y => ?_⟩
    obtain ⟨rfl, rfl⟩ := y
    have e3 : (n : Int) - 1 + (i : Nat) * (-1) = 0 + ((n - 1 - i : Nat) : Int) := by omega
    rw [e3]
    exact ⟨.refl, R, .int _⟩
  | enum r =>
    obtain ⟨u, h1, rfl⟩ := enum_get hi
    obtain ⟨x, y, h2, h3, rfl⟩ := pr_get hg
    have e2 : D.int ((0 + i : Nat) : Int) = x := Option.some.inj h2
    subst e2
    rw [Nat.zero_add]
    obtain ⟨vs, v, h4, h5, h6⟩ := r.get R h1 h3
    refine ⟨⟨vs, v, h4, h5⟩, fun z H' w => ?_⟩
    obtain ⟨T, z', rfl, hT, rfl, w⟩ := w
    have e : v = z' := Option.some.inj (h5.symm.trans (w vs h4))
    subst e
    exact mk_pair R hT (.int _) h6
  | enumT r =>
    obtain ⟨u, h1, rfl⟩ := enum_get hi
    obtain ⟨x, y, h2, h3, rfl⟩ := pr_get hg
    have e2 : D.int ((0 + i : Nat) : Int) = x := Option.some.inj h2
    subst e2
    rw [Nat.zero_add]
    obtain ⟨vs, v, h4, h5, h6, hl⟩ := tupB_get' r h1 h3
    refine ⟨⟨?_, vs, v, h4, hl, h5⟩, fun z H' w => ?_⟩
    · obtain ⟨q, _⟩ := List.getElem?_eq_some_iff.mp h5
      rw [← hl]
      exact q
    · obtain ⟨T, z', rfl, hT, rfl, w⟩ := w
      have e : v = z' := Option.some.inj (h5.symm.trans (w vs h4))
      subst e
      exact mk_pair R hT (.int _) h6
  | enumS s =>
    obtain ⟨u, h1, rfl⟩ := enum_get hi
    obtain ⟨x, y, h2, h3, rfl⟩ := pr_get hg
    have e2 : D.int ((0 + i : Nat) : Int) = x := Option.some.inj h2
    subst e2
    rw [Nat.zero_add]
    rw [List.getElem?_map] at h1
    cases hx : s[i]? with
    | none => rw [hx] at h1; cases h1
    | some c =>
      rw [hx] at h1
      have e := Option.some.inj h1
      subst e
      have e2 : D.str [c] = y := Option.some.inj h3
      subst e2
      have hs : (S s).cps[i]? = some c.toNat := by
        rw [← Array.getElem?_toList, S_toList, List.getElem?_map, hx]
        rfl
      refine ⟨?_, fun x H' y => ?_⟩
      · show i < (S s).cps.size
        obtain ⟨hl, _⟩ := Array.getElem?_eq_some_iff.mp hs
        exact hl
      · obtain ⟨T, k, rfl, hT, rfl, y1⟩ := y
        rw [hs] at y1
        have e3 := Option.some.inj y1
        subst e3
        rw [S_one]
        exact mk_pair R hT (.int _) (.str _)
  | zip r r' =>
    obtain ⟨u, w, h1, h2, rfl⟩ := zip_get hi
    obtain ⟨x, y, h3, h4, rfl⟩ := pr_get hg
    obtain ⟨vs, v, h5, h6, h7⟩ := r.get R h1 h3
    obtain ⟨us, v', h8, h9, h10⟩ := r'.get R h2 h4
    refine ⟨⟨vs, us, v, v', h5, h8, h6, h9⟩, fun z H' w => ?_⟩
    obtain ⟨T, z1, z2, rfl, hT, rfl, w1, w2⟩ := w
    have e : v = z1 := Option.some.inj (h6.symm.trans (w1 vs h5))
    have e' : v' = z2 := Option.some.inj (h9.symm.trans (w2 us h8))
    subst e e'
    exact mk_pair R hT h7 h10
  | zipT r r' =>
    obtain ⟨u, w, h1, h2, rfl⟩ := zip_get hi
    obtain ⟨x, y, h3, h4, rfl⟩ := pr_get hg
    obtain ⟨vs, v, h5, h6, h7⟩ := tupB_get r h1 h3
    obtain ⟨us, v', h8, h9, h10⟩ := tupB_get r' h2 h4
    refine ⟨⟨vs, us, v, v', h5, h8, h6, h9⟩, fun z H' w => ?_⟩
    obtain ⟨T, z1, z2, rfl, hT, rfl, w1, w2⟩ := w
    have e : v = z1 := Option.some.inj (h6.symm.trans (w1 vs h5))
    have e' : v' = z2 := Option.some.inj (h9.symm.trans (w2 us h8))
    subst e e'
    exact mk_pair R hT h7 h10
  | revL r =>
    rename_i a xs
    have hi' : ((xs.map It1.v).reverse)[i]? = some t := by rw [← List.map_reverse]; exact hi
    obtain ⟨h1, h2⟩ := rev_ix hi'
    rw [List.length_map] at h1 h2
    obtain ⟨vs, v, h3, h4, h5⟩ := r.get R h2 hg
    refine ⟨⟨h1, vs, v, h3, h4⟩, fun x H' y => ?_⟩
    obtain ⟨rfl, y⟩ := y
    have e : v = x := Option.some.inj (h4.symm.trans (y vs h3))
    subst e
    exact ⟨.refl, R, h5⟩
  | revT r =>
    rename_i a xs
    have hi' : ((xs.map It1.v).reverse)[i]? = some t := by rw [← List.map_reverse]; exact hi
    obtain ⟨h1, h2⟩ := rev_ix hi'
    rw [List.length_map] at h1 h2
    obtain ⟨vs, v, h3, h4, h5⟩ := tupB_get r h2 hg
    refine ⟨⟨h1, vs, v, h3, h4⟩, fun x H' y => ?_⟩
    obtain ⟨rfl, y⟩ := y
    have e : v = x := Option.some.inj (h4.symm.trans (y vs h3))
    subst e
    exact ⟨.refl, R, h5⟩
theorem live_app {l l' : List (Nat × Nat)} (hl : liveOk h (l ++ l') = true) : liveOk h l = true ∧ liveOk h l' = true := by
  unfold liveOk at hl ⊢
  rw [List.all_append, Bool.and_eq_true] at hl
  exact hl
theorem it_stop (r : ItRp K om io H J its) (R : HpRp K om io H h) (hl : liveOk h its.live = true) : J.stop its.its.length H := by
  cases r with
  | lst r =>
    obtain ⟨vs, h1, h2⟩ := r.stop R hl
    exact ⟨vs, h1, by omega⟩
  | tup r =>
    cases r with
    | tup e _ _ rs => exact ⟨_, .inl (.inl e), by simp [rs.length]⟩
  | str s =>
    show (S s).cps.size ≤ _
    simp [S]
  | rng lo n =>
    show n ≤ _
    simp
  | rvg n =>
    show n ≤ _
    simp
  | enum r =>
    obtain ⟨vs, h1, h2⟩ := r.stop R hl
    exact ⟨vs, h1, by rw [enum_len]; omega⟩
  | enumT r =>
    cases r with
    | tup e _ _ rs => exact ⟨by simp [enum_len], _, .inl (.inl e), rs.length⟩
  | enumS s =>
    show (S s).cps.size ≤ _
    simp [S, enum_len]
  | zip r r' =>
    obtain ⟨l1, l2⟩ := live_app hl
    obtain ⟨vs, h1, h2⟩ := r.stop R l1
    obtain ⟨us, h3, h4⟩ := r'.stop R l2
    refine ⟨vs, us, h1, h3, ?_⟩
    rw [zip_len]
    omega
  | zipT r r' =>
    cases r with
    | tup e _ _ rs =>
      cases r' with
      | tup e' _ _ rs' =>
        refine ⟨_, _, .inl (.inl e), .inl (.inl e'), ?_⟩
        rw [zip_len, List.length_map, List.length_map, rs.length, rs'.length]
        omega
  | revL r =>
    show _ ≤ _
    simp
  | revT r =>
    show _ ≤ _
    simp
end
end Mini
end
section
set_option Elab.async false
set_option linter.all false
set_option autoImplicit false
set_option maxRecDepth 100000
/-! Sound10: iterators of expressions, targets, comprehensions. -/
namespace Mini
open PySem PySem.Spec PyProof.Rows
open L2 (V Hp HO Key Rd SqL SqT Inv Cx RelV upd upd_same upd_ne Same WX VK TE TT TA TO TI TG TGs It XK OpR UnR CallR R2 EP TP AP PE PT PW PA PO PS PSs PG PGs PI PIE PTs Dp DpAll MtR MtM IxR SlR PSet Gl Vis Loc Ends TS)

/-- no list, no tuple is longer than the line -/
def Bd (K : PySem.W.Frag) (v : V) (H : Hp) : Prop := ∀ a xs, v = .ref a → SqL K H a xs ∨ SqT K H a xs → xs.length ≤ sizeLine
def WEb (X : Cx) (e : Expr) : TE := fun σ H Q => WE X e σ H fun v H1 => Bd X.K v H1 → Q v H1
theorem pe_web {X : Cx} {e : Expr} : PE X e (WEb X e) := ⟨fun pins s σ H Q I h => L2.thn (h pins s I) fun u s' z => by
  obtain ⟨v, H', I', r, q⟩ := z
  refine ⟨v, H', I', r, q fun a xs e h => ?_⟩
  rcases h with h | h
  · obtain ⟨_, _, _, z⟩ := I'.list h; exact z
  · obtain ⟨_, _, _, z⟩ := I'.tuple h; exact z⟩
def WI (X : Cx) (tg iter : Expr) : TI := fun σ H R => ∀ (pins : List (Addr × Obj)) (s : Shared), Inv X pins σ H s → wpAny (model X.prog X.w) X.A (eval iter X.env) (fun v s1 => wpAny (model X.prog X.w) X.A (pyIter v) (PIE X pins σ tg R) X.xe s1) X.xe s
theorem pi_wi {X : Cx} {tg iter : Expr} : PI X tg iter (WI X tg iter) := ⟨fun pins s σ H R I h => h pins s I⟩
theorem wi_of {X : Cx} {tg iter : Expr} {wi : TI} (p : PI X tg iter wi) {σ : L2.St} {H : Hp} {R : It → Hp → Prop} (h : wi σ H R) : WI X tg iter σ H R := fun pins s I => p.run pins s σ H R I h
def SimI (X : Cx) (tg iter : Expr) (ev : Sl → Hh → R Its) : Prop := ∀ (om : Om) (io : List Addr) (H : Hp) (σ : L2.St) (m : Sl) (h : Hh), SlRp X.K om io H σ m → HpRp X.K om io H h → ∀ (its : Its) (h' : Hh), ev m h = .ok its h' →
  ∀ R : It → Hp → Prop, (∀ (io' : List Addr) (H' : Hp) (J : It), Ext io H io' H' → HpRp X.K om io' H' h' → ItRp X.K om io' H' J its → its.its.length ≤ sizeLine → R J H') → WI X tg iter σ H R

section
variable {X : Cx} {tg a b e : Expr} {eva evb ev : Sl → Hh → R D} {pos p : Pos}
theorem sqL_len {K : PySem.W.Frag} {om : Om} {io : List Addr} {H : Hp} {a : Addr} {its : Its} {h : Hh} (r : LB K om io H a its) (R : HpRp K om io H h) (hl : liveOk h its.live = true) (bd : Bd K (.ref a) H) : its.its.length ≤ sizeLine := by
  obtain ⟨vs, h1, h2⟩ := r.stop R hl
  rw [← h2]
  exact bd a vs rfl (.inl h1)
theorem lb_of {K : PySem.W.Frag} {om : Om} {io : List Addr} {H : Hp} {v : V} {x : D} {its : Its} {h : Hh} {xs : List D} (hx : rdOf h x = some xs) (e : itsSeq h x = some its) (r : Rp K om io H v x) : ∃ a, v = .ref a ∧ LB K om io H a its ∧ liveOk h its.live = true := by
  cases x with
  | lst ys =>
    have e1 := Option.some.inj e
    subst e1
    obtain ⟨a, vs, rfl, _⟩ := lst_at r
    exact ⟨a, rfl, .lst r, rfl⟩
  | scr ys =>
    have e1 := Option.some.inj e
    subst e1
    cases r with
    | scr q1 q2 q3 q4 => exact ⟨_, rfl, .scr (.scr q1 q2 q3 q4), rfl⟩
    | scrK q1 q2 => exact ⟨_, rfl, .scr (.scrK q1 q2), rfl⟩
  | ref n =>
    unfold itsSeq at e
    simp only at e
    split at e
    · rename_i ys hn
      have e1 := Option.some.inj e
      subst e1
      cases r with
      | ref hio =>
        refine ⟨_, rfl, .ref (.ref hio), ?_⟩
        simp [liveOk, hn]
    · cases e
  | _ => cases hx
theorem simI_seq (ha : SimE X e ev) : SimI X tg e (fun m h => (ev m h).bind fun x h => R.of (itsSeq h x) h) := by
  intro om io H σ m h rs rh its h' ee R q
  obtain ⟨x, h1, ea, ee⟩ := rbind ee
  obtain ⟨ed, rfl⟩ := rof ee
  have gen : ∀ xs, rdOf h1 x = some xs → WI X tg e σ H R := by
    intro xs hx
    refine wi_of (L2.pi_list pe_web) (ha om io H σ m h rs rh x _ ea _ fun io1 H1 v x1 r1 rv bd => ?_)
    obtain ⟨a, rfl, hb, hl⟩ := lb_of hx ed rv
    obtain ⟨vs, hv, _⟩ := hb.stop r1 hl
    exact ⟨a, rfl, ⟨vs, hv⟩, q io1 H1 _ x1 r1 (.lst hb) (sqL_len hb r1 hl bd)⟩
  cases x with
  | tup xs =>
    have e1 := Option.some.inj ed
    subst e1
    refine wi_of (L2.pi_tup pe_web) (ha om io H σ m h rs rh _ _ ea _ fun io1 H1 v x1 r1 rv bd => ?_)
    obtain ⟨a, vs, rfl, hv, hr⟩ := tup_of rv
    refine ⟨a, rfl, ⟨vs, hv⟩, q io1 H1 _ x1 r1 (.tup rv) ?_⟩
    show (xs.map It1.v).length ≤ _
    rw [List.length_map, ← hr.length]
    exact bd a vs rfl (.inr hv)
  | str s =>
    have e2 : (if s.length ≤ lim then some (⟨s.map fun c => .v (.str [c]), []⟩ : Its) else none) = some its := ed
    split at e2
    · rename_i hl
      have e1 := Option.some.inj e2
      subst e1
      refine wi_of (L2.pi_str pe_we) (ha om io H σ m h rs rh _ _ ea _ fun io1 H1 v x1 r1 rv => ?_)
      cases str_at rv
      refine ⟨_, rfl, q io1 H1 _ x1 r1 (.str s) ?_⟩
      show (s.map _).length ≤ _
      rw [List.length_map]
      exact lim_line hl
    · cases e2
  | lst xs => exact gen xs rfl
  | scr xs => exact gen xs rfl
  | ref n =>
    unfold itsSeq at ed
    simp only at ed
    split at ed
    · rename_i xs hn
      exact gen xs (rdOf_ref hn)
    · cases ed
  | _ => cases ed
theorem range_len {i j : Int} {its : Its} (e : itsRange i j = some its) : its = ⟨(List.range (j - i).toNat).map fun k => .v (.int (i + (k : Nat))), []⟩ ∧ (j - i).toNat ≤ lim ∧ -(2 ^ 60) ≤ i ∧ i < 2 ^ 60 ∧ -(2 ^ 60) ≤ j ∧ j < 2 ^ 60 := by
  unfold itsRange at e
  split at e
  · rename_i h
    exact ⟨(Option.some.inj e).symm, h.2.2.2.2, h.1, h.2.1, h.2.2.1, h.2.2.2.1⟩
  · cases e
theorem simI_rng1 (hv : Blt X (PySem.Str.ofString "range") (.type "range")) (hs : notStar a = true) (ha : SimE X a eva) : SimI X tg (.Call (.Name (PySem.Str.ofString "range") p) [a] [] pos) (fun m h => (eva m h).bind fun x h => match x with
    | .int j => R.of (itsRange 0 j) h
    | _ => .bad) := by
  intro om io H σ m h rs rh its h' ee R q
  obtain ⟨x, h1, ea, ee⟩ := rbind ee
  split at ee
  · rename_i j
    obtain ⟨ed, rfl⟩ := rof ee
    obtain ⟨rfl, hl, b1, b2, b3, b4⟩ := range_len ed
    refine wi_of (L2.pi_range1 hv.gl hv.mg (L2.pa_cons pe_we L2.pa_nil (starE hs)) (star_one hs)) (ha om io H σ m h rs rh _ _ ea _ fun io1 H1 v x1 r1 rv => ?_)
    cases int_at rv
    refine ⟨j, rfl, by omega, by omega, ?_⟩
    rw [Int.sub_zero] at hl q
    exact q io1 H1 _ x1 r1 (.rng 0 j.toNat) (by simpa using lim_line hl)
  · cases ee
theorem simI_rng2 (hv : Blt X (PySem.Str.ofString "range") (.type "range")) (hs : notStar a = true) (hs2 : notStar b = true) (ha : SimE X a eva) (hb : SimE X b evb) : SimI X tg (.Call (.Name (PySem.Str.ofString "range") p) [a, b] [] pos) (fun m h => (eva m h).bind fun x h => (evb m h).bind fun y h => match x, y with
    | .int i, .int j => R.of (itsRange i j) h
    | _, _ => .bad) := by
  intro om io H σ m h rs rh its h' ee R q
  obtain ⟨x, h1, ea, ee⟩ := rbind ee
  obtain ⟨y, h2, eb, ee⟩ := rbind ee
  split at ee
  · rename_i i j
    obtain ⟨ed, rfl⟩ := rof ee
    obtain ⟨rfl, hl, b1, b2, b3, b4⟩ := range_len ed
    refine wi_of (L2.pi_range2 hv.gl hv.mg (L2.pa_cons pe_we (L2.pa_cons pe_we L2.pa_nil (starE hs2)) (starE hs)) (by rw [starE hs, starE hs2]; rfl) (star_one hs2)) (sim_two ha hb rs rh ea eb fun io1 H1 v u x1 r1 _ rv ru => ?_)
    cases int_at rv
    cases int_at ru
    exact ⟨_, _, rfl, ⟨by omega, by omega, by omega, by omega⟩, q io1 H1 _ x1 r1 (.rng _ _) (by simpa using lim_line hl)⟩
  · cases ee
theorem simI_enum {elts : List Expr} {kk : Nat} {tpos : Pos} (hv : Blt X (PySem.Str.ofString "enumerate") (.type "enumerate")) (hs : notStar e = true) (ha : SimE X e ev) : SimI X (.Tuple elts kk tpos) (.Call (.Name (PySem.Str.ofString "enumerate") p) [e] [] pos) (fun m h => (ev m h).bind fun x h => R.of (enumQ h x) h) := by
  intro om io H σ m h rs rh its h' ee R q
  obtain ⟨x, h1, ea, ee⟩ := rbind ee
  obtain ⟨ed, rfl⟩ := rof ee
  refine wi_of (RE.pi_enumA hv.gl hv.mg (L2.pa_cons pe_web L2.pa_nil (starE hs)) (star_one hs)) (ha om io H σ m h rs rh _ _ ea _ fun io1 H1 v x1 r1 rv bd => ?_)
  have gen : (match rdOf h1 x with
    | some _ => (itsSeq h1 x).map fun its => (⟨enumIts 0 its.its, its.live⟩ : Its)
    | none => none) = some its → ∃ a xs, [v] = [V.ref a] ∧ SqL X.K H1 a xs ∧ R (L2.Ite X.K a) H1 := by
    intro ed
    split at ed
    · rename_i xs hx
      obtain ⟨jts, ej, rfl⟩ := map_some ed
      obtain ⟨a, rfl, hb, hl⟩ := lb_of hx ej rv
      obtain ⟨vs, hv, _⟩ := hb.stop r1 hl
      exact ⟨a, vs, rfl, hv, q io1 H1 _ x1 r1 (.enum hb) (by rw [enum_len]; exact sqL_len hb r1 hl bd)⟩
    · cases ed
  cases x with
  | tup xs =>
    have e1 := Option.some.inj ed
    subst e1
    obtain ⟨a, vs, rfl, h2, h3⟩ := tup_at rv
    have hl := h3.length
    refine .inr (.inl ⟨a, vs, rfl, .inl (.inl h2), ?_⟩)
    rw [hl]
    refine q io1 H1 _ x1 r1 (.enumT rv) ?_
    rw [enum_len, List.length_map, ← hl]
    exact bd a vs rfl (.inr (.inl (.inl h2)))
  | str s =>
    have ed : (if s.length ≤ lim then some (⟨enumIts 0 (s.map fun c => .v (.str [c])), []⟩ : Its) else none) = some its := ed
    split at ed
    · rename_i hl
      have e1 := Option.some.inj ed
      subst e1
      cases str_at rv
      exact .inr (.inr ⟨_, rfl, q io1 H1 _ x1 r1 (.enumS s) (by rw [enum_len, List.length_map]; exact lim_line hl)⟩)
    · cases ed
  | _ => exact .inl (gen ed)
theorem simI_zip {elts : List Expr} {kk : Nat} {tpos : Pos} (hv : Blt X (PySem.Str.ofString "zip") (.type "zip")) (hs : notStar a = true) (hs2 : notStar b = true) (ha : SimE X a eva) (hb : SimE X b evb) :
    SimI X (.Tuple elts kk tpos) (.Call (.Name (PySem.Str.ofString "zip") p) [a, b] [] pos) (fun m h => (eva m h).bind fun x h => (evb m h).bind fun y h => R.of (zipD h x y) h) := by
  intro om io H σ m h rs rh its h' ee R q
  obtain ⟨x, h1, ea, ee⟩ := rbind ee
  obtain ⟨y, h2, eb, ee⟩ := rbind ee
  obtain ⟨ed, rfl⟩ := rof ee
  refine wi_of (RZ.pi_zipA hv.gl hv.mg (L2.pa_cons pe_we (L2.pa_cons pe_web L2.pa_nil (starE hs2)) (starE hs)) (starE hs) (star_any (by simp [noStars, hs2])))
    (ha om io H σ m h rs rh x _ ea _ fun io1 H1 v x1 r1 rv => hb om io1 H1 σ m _ (rs.ext x1) r1 y _ eb _ fun io2 H2 u x2 r2 ru bd => ?_)
  have rv := rv.ext x2
  have gen : (match rdOf h2 x, rdOf h2 y with
    | some _, some _ => match itsSeq h2 x, itsSeq h2 y with
      | some i, some j => some (⟨zipIts i.its j.its, i.live ++ j.live⟩ : Its)
      | _, _ => none
    | _, _ => none) = some its → ∃ a b xs ys, [v, u] = [V.ref a, .ref b] ∧ ((SqL X.K H2 a xs ∧ SqL X.K H2 b ys ∧ R (L2.Itz X.K a b) H2) ∨ (SqT X.K H2 a xs ∧ SqT X.K H2 b ys ∧ R (RZ.ItzT X.K a b) H2)) := by
    intro ed
    split at ed
    · rename_i xs ys hx hy
      split at ed
      · rename_i i j hi hj
        have e1 := Option.some.inj ed
        subst e1
        obtain ⟨a', rfl, hb1, hl1⟩ := lb_of hx hi rv
        obtain ⟨b', rfl, hb2, hl2⟩ := lb_of hy hj ru
        obtain ⟨vs, hv1, _⟩ := hb1.stop r2 hl1
        obtain ⟨us, hv2, _⟩ := hb2.stop r2 hl2
        refine ⟨a', b', vs, us, rfl, .inl ⟨hv1, hv2, q io2 H2 _ (x1.trans x2) r2 (.zip hb1 hb2) ?_⟩⟩
        show (zipIts i.its j.its).length ≤ _
        rw [zip_len]
        have := sqL_len hb2 r2 hl2 bd
        omega
      · cases ed
    · cases ed
  cases x with
  | tup xs => cases y with
    | tup ys =>
      have e1 := Option.some.inj ed
      subst e1
      obtain ⟨a', vs, rfl, hv1, hr1⟩ := tup_of rv
      obtain ⟨b', us, rfl, hv2, hr2⟩ := tup_of ru
      refine ⟨a', b', vs, us, rfl, .inr ⟨hv1, hv2, q io2 H2 _ (x1.trans x2) r2 (.zipT rv ru) ?_⟩⟩
      show (zipIts _ _).length ≤ _
      rw [zip_len, List.length_map, List.length_map]
      have := bd b' us rfl (.inr hv2)
      have := hr2.length
      omega
    | _ => exact gen ed
  | _ => exact gen ed
theorem simI_rev (hv : Blt X (PySem.Str.ofString "reversed") (.type "reversed")) (hs : notStar e = true) (ha : SimE X e ev) : SimI X tg (.Call (.Name (PySem.Str.ofString "reversed") p) [e] [] pos) (fun m h => (ev m h).bind fun x h => R.of (revD x) h) := by
  intro om io H σ m h rs rh its h' ee R q
  obtain ⟨x, h1, ea, ee⟩ := rbind ee
  obtain ⟨ed, rfl⟩ := rof ee
  refine wi_of (RT.pi_revA hv.gl hv.mg pe_web (starE hs)) (ha om io H σ m h rs rh _ _ ea _ fun io1 H1 v x1 r1 rv bd => ?_)
  have gen : ∀ xs, rdOf h1 x = some xs → itsSeq h1 x = some ⟨xs.map .v, []⟩ → its = ⟨xs.reverse.map .v, []⟩ → ∃ (a : Addr) (vs : List V), v = .ref a ∧ ((SqL X.K H1 a vs ∧ R (L2.Itv X.K a vs.length) H1) ∨ (SqT X.K H1 a vs ∧ R (RT.ItvT X.K a vs.length) H1)) := by
    intro xs hx hi e1
    subst e1
    obtain ⟨a', rfl, hb, hl⟩ := lb_of hx hi rv
    obtain ⟨vs, hv1, hv2⟩ := hb.stop r1 hl
    have hv3 : vs.length = xs.length := by rw [hv2]; simp
    refine ⟨a', vs, rfl, .inl ⟨hv1, ?_⟩⟩
    rw [hv3]
    refine q io1 H1 _ x1 r1 (.revL hb) ?_
    show (xs.reverse.map _).length ≤ _
    rw [List.length_map, List.length_reverse, ← hv3]
    exact bd a' vs rfl (.inl hv1)
  cases x with
  | lst xs => exact gen xs rfl rfl (Option.some.inj ed).symm
  | scr xs => exact gen xs rfl rfl (Option.some.inj ed).symm
  | tup xs =>
    have e1 := Option.some.inj ed
    subst e1
    obtain ⟨a', vs, rfl, hv1, hr1⟩ := tup_of rv
    refine ⟨a', vs, rfl, .inr ⟨hv1, ?_⟩⟩
    rw [hr1.length]
    refine q io1 H1 _ x1 r1 (.revT rv) ?_
    show (xs.reverse.map _).length ≤ _
    rw [List.length_map, List.length_reverse, ← hr1.length]
    exact bd a' vs rfl (.inr hv1)
  | _ => cases ed

theorem simI_revr {p2 pos2 : Pos} (hv : Blt X (PySem.Str.ofString "reversed") (.type "reversed")) (hv2 : Blt X (PySem.Str.ofString "range") (.type "range")) (hs : notStar a = true) (ha : SimE X a eva) :
    SimI X tg (.Call (.Name (PySem.Str.ofString "reversed") p) [.Call (.Name (PySem.Str.ofString "range") p2) [a] [] pos2] [] pos) (fun m h => (eva m h).bind fun x h => match x with
    | .int j => R.of ((itsRange 0 j).map fun its => ⟨its.its.reverse, []⟩) h
    | _ => .bad) := by
  intro om io H σ m h rs rh its h' ee R q
  obtain ⟨x, h1, ea, ee⟩ := rbind ee
  split at ee
  · rename_i j
    obtain ⟨ed, rfl⟩ := rof ee
    obtain ⟨jts, ej, rfl⟩ := map_some ed
    obtain ⟨rfl, hl, b1, b2, b3, b4⟩ := range_len ej
    refine wi_of (L2.pi_revR hv.gl hv.mg (L2.prg_1 hv2.gl hv2.mg pe_we (starE hs))) (ha om io H σ m h rs rh _ _ ea _ fun io1 H1 v x1 r1 rv => ?_)
    cases int_at rv
    refine ⟨j, rfl, by omega, by omega, by omega, by omega, ?_⟩
    rw [Int.sub_zero] at hl q ⊢
    rw [Int.zero_add]
    exact q io1 H1 _ x1 r1 (.rvg j.toNat) (by simpa using lim_line hl)
  · cases ee

/-! ### list(range(..)), tuple(range(..)) -/
theorem rg_some {x y : D} {ds : List D} (e : rgD x y = some ds) : ∃ i j, x = .int i ∧ y = .int j ∧ ds = (List.range (j - i).toNat).map (fun k => .int (i + (k : Nat))) ∧ L2.RgOk i j := by
  unfold rgD at e
  split at e
  · rename_i i j
    split at e
    · rename_i hc
      refine ⟨i, j, rfl, rfl, (Option.some.inj e).symm, by omega, by omega, by omega, by omega, ?_⟩
      have h1 : (j - i).toNat ≤ 1000000 := hc.2.2.2.2
      omega
    · cases e
  · cases e
theorem rg_rps {K : PySem.W.Frag} {om : Om} {io : List Addr} {H : Hp} (i j : Int) : Rps K om io H (L2.rgV i j) ((List.range (j - i).toNat).map fun k => .int (i + (k : Nat))) := by
  unfold L2.rgV
  generalize List.range (j - i).toNat = l
  induction l with
  | nil => exact .nil
  | cons k l ih => exact .cons (.int _) ih
theorem sim_rglN {p2 pos2 : Pos} (hc : X.calm = true) (hv : Blt X (PySem.Str.ofString "list") (.type "list")) (hr : Blt X (PySem.Str.ofString "range") (.type "range")) (hs : notStar a = true) (ha : SimE X a eva) :
    SimN X (.Call (.Name (PySem.Str.ofString "list") p) [.Call (.Name (PySem.Str.ofString "range") p2) [a] [] pos2] [] pos) (fun m h => (eva m h).bind fun x h => R.of ((rgD (.int 0) x).map .lst) h) := by
  intro om io H σ m h rs rh ds h' ee Q q
  obtain ⟨x, h1, ea, ee⟩ := rbind ee
  obtain ⟨ed, rfl⟩ := rof ee
  obtain ⟨xs, e1, e2⟩ := map_some ed
  have e2 := D.lst.inj e2
  subst e2
  obtain ⟨i, j, hi, rfl, rfl, ok⟩ := rg_some e1
  have hi := D.int.inj hi
  subst hi
  refine we_of (L2.pe_listRg hc hv.gl hv.mg (L2.prg_1 hr.gl hr.mg pe_we (starE hs)) (starE rfl)) (ha om io H σ m h rs rh _ _ ea _ fun io1 H1 v x1 r1 rv => ?_)
  cases int_at rv
  exact ⟨_, rfl, ok, fun p hp => q io1 H1 p _ x1 r1 (rg_rps _ _) hp⟩
theorem sim_rgl2N {p2 pos2 : Pos} (hc : X.calm = true) (hv : Blt X (PySem.Str.ofString "list") (.type "list")) (hr : Blt X (PySem.Str.ofString "range") (.type "range")) (hs : notStar a = true) (hs2 : notStar b = true) (ha : SimE X a eva) (hb : SimE X b evb) :
    SimN X (.Call (.Name (PySem.Str.ofString "list") p) [.Call (.Name (PySem.Str.ofString "range") p2) [a, b] [] pos2] [] pos) (fun m h => (eva m h).bind fun x h => (evb m h).bind fun y h => R.of ((rgD x y).map .lst) h) := by
  intro om io H σ m h rs rh ds h' ee Q q
  obtain ⟨x, h1, ea, ee⟩ := rbind ee
  obtain ⟨y, h2, eb, ee⟩ := rbind ee
  obtain ⟨ed, rfl⟩ := rof ee
  obtain ⟨xs, e1, e2⟩ := map_some ed
  have e2 := D.lst.inj e2
  subst e2
  obtain ⟨i, j, rfl, rfl, rfl, ok⟩ := rg_some e1
  refine we_of (L2.pe_listRg hc hv.gl hv.mg (L2.prg_2 hr.gl hr.mg pe_we pe_we (starE hs) (starE hs2) (star_any (by simp [noStars, hs2]))) (starE rfl)) (sim_two ha hb rs rh ea eb fun io1 H1 v u x1 r1 _ rv ru => ?_)
  cases int_at rv
  cases int_at ru
  exact ⟨i, j, rfl, rfl, ok, fun p hp => q io1 H1 p _ x1 r1 (rg_rps _ _) hp⟩
theorem sim_rgt {p2 pos2 : Pos} (hc : X.calm = true) (hv : Blt X (PySem.Str.ofString "tuple") (.type "tuple")) (hr : Blt X (PySem.Str.ofString "range") (.type "range")) (hs : notStar a = true) (ha : SimE X a eva) :
    SimE X (.Call (.Name (PySem.Str.ofString "tuple") p) [.Call (.Name (PySem.Str.ofString "range") p2) [a] [] pos2] [] pos) (fun m h => (eva m h).bind fun x h => R.of ((rgD (.int 0) x).map .tup) h) := by
  intro om io H σ m h rs rh d h' ee Q q
  obtain ⟨x, h1, ea, ee⟩ := rbind ee
  obtain ⟨ed, rfl⟩ := rof ee
  obtain ⟨xs, e1, e2⟩ := map_some ed
  subst e2
  obtain ⟨i, j, hi, rfl, rfl, ok⟩ := rg_some e1
  have hi := D.int.inj hi
  subst hi
  refine we_of (L2.pe_tupRg hc hv.gl hv.mg (L2.prg_1 hr.gl hr.mg pe_we (starE hs)) (starE rfl)) (ha om io H σ m h rs rh _ _ ea _ fun io1 H1 v x1 r1 rv => ?_)
  cases int_at rv
  exact ⟨_, rfl, ok, (q.ext x1).tup r1 (rg_rps _ _)⟩
theorem sim_rgt2 {p2 pos2 : Pos} (hc : X.calm = true) (hv : Blt X (PySem.Str.ofString "tuple") (.type "tuple")) (hr : Blt X (PySem.Str.ofString "range") (.type "range")) (hs : notStar a = true) (hs2 : notStar b = true) (ha : SimE X a eva) (hb : SimE X b evb) :
    SimE X (.Call (.Name (PySem.Str.ofString "tuple") p) [.Call (.Name (PySem.Str.ofString "range") p2) [a, b] [] pos2] [] pos) (fun m h => (eva m h).bind fun x h => (evb m h).bind fun y h => R.of ((rgD x y).map .tup) h) := by
  intro om io H σ m h rs rh d h' ee Q q
  obtain ⟨x, h1, ea, ee⟩ := rbind ee
  obtain ⟨y, h2, eb, ee⟩ := rbind ee
  obtain ⟨ed, rfl⟩ := rof ee
  obtain ⟨xs, e1, e2⟩ := map_some ed
  subst e2
  obtain ⟨i, j, rfl, rfl, rfl, ok⟩ := rg_some e1
  refine we_of (L2.pe_tupRg hc hv.gl hv.mg (L2.prg_2 hr.gl hr.mg pe_we pe_we (starE hs) (starE hs2) (star_any (by simp [noStars, hs2]))) (starE rfl)) (sim_two ha hb rs rh ea eb fun io1 H1 v u x1 r1 _ rv ru => ?_)
  cases int_at rv
  cases int_at ru
  exact ⟨i, j, rfl, rfl, ok, (q.ext x1).tup r1 (rg_rps _ _)⟩
end

/-! ### targets -/
def WG (X : Cx) (tg : Expr) : TG := fun v σ H Q => ∀ (pins : List (Addr × Obj)) (s : Shared) (u : Value), Inv X pins σ H s → RelV v u → wpAny (model X.prog X.w) X.A (assign tg X.env u) (fun _ s' => ∃ σ' H', Inv X pins σ' H' s' ∧ Q σ' H') X.xe s
theorem pg_wg {X : Cx} {tg : Expr} : PG X tg (WG X tg) := ⟨fun pins s σ H v u Q I r h => h pins s u I r⟩
theorem wg_of {X : Cx} {tg : Expr} {g : TG} (p : PG X tg g) {v : V} {σ : L2.St} {H : Hp} {Q : L2.St → Hp → Prop} (h : g v σ H Q) : WG X tg v σ H Q := fun pins s u I r => p.run pins s σ H v u Q I r h
def setAll (σ : L2.St) : List Nat → List V → L2.St
  | i :: is, v :: vs => setAll (σ.set i (some v)) is vs
  | _, _ => σ
def setAllM (m : Sl) : List Nat → List D → Sl
  | i :: is, v :: vs => setAllM (m.set i (some v)) is vs
  | _, _ => m
theorem foldl_set : ∀ (is : List Nat) (xs : List D) (m : Sl), (is.zip xs).foldl (fun σ p => σ.set p.1 (some p.2)) m = setAllM m is xs
  | [], _, _ => by simp [setAllM]
  | _ :: _, [], _ => by simp [setAllM]
  | i :: is, x :: xs, m => by
    rw [List.zip_cons_cons, List.foldl_cons, foldl_set is xs]
    rfl
theorem slrp_all {K : PySem.W.Frag} {om : Om} {io : List Addr} {H : Hp} : ∀ (is : List Nat) {vs : List V} {ds : List D} {σ : L2.St} {m : Sl}, SlRp K om io H σ m → Rps K om io H vs ds → SlRp K om io H (setAll σ is vs) (setAllM m is ds)
  | [], _, _, _, _, r, _ => by simpa [setAll, setAllM] using r
  | _ :: _, _, _, _, _, r, .nil => by simpa [setAll, setAllM] using r
  | i :: is, _, _, _, _, r, .cons q t => slrp_all is (r.set i q) t
def tgIxs : Tg → List Nat
  | .var i => [i]
  | .vars is => is
def SimG (X : Cx) (tg : Expr) (t : Tg) : Prop := ∀ (om : Om) (io : List Addr) (H : Hp) (σ : L2.St) (m : Sl) (h : Hh), SlRp X.K om io H σ m → HpRp X.K om io H h → ∀ (v : V) (d : D) (m' : Sl), Rp X.K om io H v d → bindTg t d m h = some m' →
  ∀ Q : L2.St → Hp → Prop, (∀ vs, SlRp X.K om io H (setAll σ (tgIxs t) vs) m' → Q (setAll σ (tgIxs t) vs) H) → WG X tg v σ H Q
/-- names of one's own that may be set -/
def TgOk (X : Cx) (x : Str) (i : Nat) : Prop := X.N[i]? = some x ∧ Loc X.env.scope x ∧ (X.fn x = true ∨ X.env.scope.names.lookup x = some .local)
def TgsOk (X : Cx) : List Expr → List Nat → Prop
  | [], [] => True
  | .Name x _ :: es, i :: is => TgOk X x i ∧ TgsOk X es is
  | _, _ => False
section
variable {X : Cx}
theorem simG_var {x : Str} {i : Nat} {p : Pos} (hN : X.N.Nodup) (ok : TgOk X x i) : SimG X (.Name x p) (.var i) := by
  intro om io H σ m h rs rh v d m' rv eb Q q
  have e1 := Option.some.inj eb
  subst e1
  exact wg_of (L2.pg_name hN ok.1 ok.2.1 ok.2.2) (q [v] (rs.set i rv))
theorem pgs_names (hN : X.N.Nodup) : ∀ {es : List Expr} {is : List Nat}, TgsOk X es is → ∃ t : TGs, PGs X es t ∧ (∀ vs σ H Q, vs.length = is.length → Q (setAll σ is vs) H → t vs σ H Q) ∧ (assignEach es X.env).length = is.length ∧ (assignEach es X.env).findIdx? (·.1) = none
  | [], [], _ => ⟨_, L2.pgs_nil, fun vs σ H Q hl q => by
      cases vs with
      | nil => exact ⟨rfl, q⟩
      | cons v vs => simp at hl, rfl, rfl⟩
  | .Name x p :: es, i :: is, ok => by
    obtain ⟨t, h1, h2, h3, h4⟩ := pgs_names hN ok.2
    refine ⟨_, L2.pgs_cons (L2.pg_name hN ok.1.1 ok.1.2.1 ok.1.2.2) h1 rfl, fun vs σ H Q hl q => ?_, ?_, ?_⟩
    · cases vs with
      | nil => simp at hl
      | cons v vs => exact ⟨v, vs, rfl, h2 vs _ H Q (by simpa using hl) q⟩
    · show (assignEach es X.env).length + 1 = is.length + 1
      rw [h3]
    · show List.findIdx? (·.1) ((false, _) :: assignEach es X.env) = none
      rw [List.findIdx?_cons]
      simp [h4]
  | [], _ :: _, ok => ok.elim
  | e :: es, [], ok => by cases e <;> exact ok.elim
  | .Constant .. :: es, _ :: _, ok => ok.elim
  | e :: es, i :: is, ok => by
    cases e with
    | Name x p =>
      obtain ⟨t, h1, h2, h3, h4⟩ := pgs_names hN ok.2
      refine ⟨_, L2.pgs_cons (L2.pg_name hN ok.1.1 ok.1.2.1 ok.1.2.2) h1 rfl, fun vs σ H Q hl q => ?_, ?_, ?_⟩
      · cases vs with
        | nil => simp at hl
        | cons v vs => exact ⟨v, vs, rfl, h2 vs _ H Q (by simpa using hl) q⟩
      · show (assignEach es X.env).length + 1 = is.length + 1
        rw [h3]
      · show List.findIdx? (·.1) ((false, _) :: assignEach es X.env) = none
        rw [List.findIdx?_cons]
        simp [h4]
    | _ => exact ok.elim
theorem PG.or {tg : Expr} {g g' : TG} (h : PG X tg g) (h' : PG X tg g') : PG X tg (fun v σ H Q => g v σ H Q ∨ g' v σ H Q) := ⟨fun pins s σ H v u Q I r q => by
  rcases q with q | q
  · exact h.run pins s σ H v u Q I r q
  · exact h'.run pins s σ H v u Q I r q⟩
theorem simG_vars {es : List Expr} {is : List Nat} {k : Nat} {p : Pos} (hc : X.calm = true) (hN : X.N.Nodup) (ok : TgsOk X es is) : SimG X (.Tuple es k p) (.vars is) := by
  intro om io H σ m h rs rh v d m' rv eb Q q
  obtain ⟨t, h1, h2, h3, h4⟩ := pgs_names hN ok
  unfold bindTg at eb
  simp only at eb
  split at eb
  · rename_i xs hx
    split at eb
    · rename_i hl
      have e1 := Option.some.inj eb
      rw [foldl_set] at e1
      subst e1
      obtain ⟨a, vs, rfl, ha, ra⟩ := seq_of hx rv rh
      have hl2 : vs.length = is.length := ra.length.trans hl
      refine wg_of (PG.or (L2.pg_tup hc h1 h3 h4) (L2.pg_lst hc h1 h3 h4)) ?_
      have qq := q vs (slrp_all is rs ra)
      rcases ha with ha | ha
      · exact .inr ⟨a, vs, rfl, ha, hl2, h2 vs σ H Q hl2 qq⟩
      · exact .inl ⟨a, vs, rfl, ha, hl2, h2 vs σ H Q hl2 qq⟩
    · cases eb
  · cases eb
end
end Mini
end
section
set_option Elab.async false
set_option linter.all false
set_option autoImplicit false
set_option maxRecDepth 100000
/-! Sound11: comprehensions. -/
namespace Mini
open PySem PySem.Spec PyProof.Rows
open L2 (V Hp HO Key Rd SqL SqT Inv Cx RelV upd upd_same upd_ne Same WX VK TE TT TA TO TI TG TGs It XK OpR UnR CallR R2 EP TP AP PE PT PW PA PO PS PSs PG PGs PI PIE PTs Dp DpAll MtR MtM IxR SlR PSet Gl Vis Loc Ends TS)

/-! ### names forgotten -/
theorem wipe_len (σ : L2.St) (l : List Nat) : (L2.wipe σ l).length = σ.length := L2.wipe_length σ l
theorem wipe_set {α : Type} : ∀ (l : List Nat) (σ : List (Option α)) (i : Nat) (x : Option α), i ∈ l → (l.foldr (fun v s => List.set s v none) (σ.set i x)) = l.foldr (fun v s => List.set s v none) σ
  | v :: vs, σ, i, x, hi => by
    simp only [List.foldr_cons]
    by_cases h : i ∈ vs
    · rw [wipe_set vs σ i x h]
    · have hv : i = v := by
        rcases List.mem_cons.mp hi with e | e
        · exact e
        · exact absurd e h
      subst hv
      have go : ∀ (ws : List Nat) (s : List (Option α)), i ∉ ws → ws.foldr (fun v s => List.set s v none) (s.set i x) = (ws.foldr (fun v s => List.set s v none) s).set i x := by
        intro ws
        induction ws with
        | nil => intro s _; rfl
        | cons w ws ih =>
          intro s hw
          simp only [List.mem_cons, not_or] at hw
          simp only [List.foldr_cons]
          rw [ih s hw.2, List.set_comm _ _ (fun e => hw.1 e)]
      rw [go vs σ h, List.set_set]
theorem wipe_fold : ∀ (l : List Nat) (σ : L2.St), L2.wipe σ l = l.foldr (fun v s => List.set s v none) σ
  | [], _ => rfl
  | v :: vs, σ => by
    show (L2.wipe σ vs).set v none = _
    rw [wipe_fold vs σ]
    rfl
theorem wipe_setAll (own : List Nat) : ∀ (is : List Nat) (vs : List V) (σ : L2.St), (∀ i ∈ is, i ∈ own) → L2.wipe (setAll σ is vs) own = L2.wipe σ own
  | [], _, _, _ => by simp [setAll]
  | _ :: _, [], _, _ => by simp [setAll]
  | i :: is, v :: vs, σ, h => by
    unfold setAll
    rw [wipe_setAll own is vs _ fun j hj => h j (List.mem_cons_of_mem _ hj), wipe_fold, wipe_fold, wipe_set own σ i _ (h i List.mem_cons_self)]
theorem wipe_wipe (own : List Nat) (σ : L2.St) : L2.wipe (L2.wipe σ own) own = L2.wipe σ own := by
  have go : ∀ l, (∀ i ∈ l, i ∈ own) → L2.wipe (L2.wipe σ l) own = L2.wipe σ own := by
    intro l
    induction l with
    | nil => intro _; rfl
    | cons v vs ih =>
      intro h
      show L2.wipe ((L2.wipe σ vs).set v none) own = _
      rw [wipe_fold, wipe_set own _ v _ (h v List.mem_cons_self), ← wipe_fold, ih fun i hi => h i (List.mem_cons_of_mem _ hi)]
  exact go own fun i hi => hi
theorem slrp_none {K : PySem.W.Frag} {om : Om} {io : List Addr} {H : Hp} {σ : L2.St} {m : Sl} (i : Nat) (r : SlRp K om io H σ m) : SlRp K om io H (σ.set i none) (m.set i none) := by
  refine ⟨by rw [List.length_set, List.length_set]; exact r.1, fun j e hj => ?_⟩
  by_cases hij : i = j
  · subst hij
    by_cases hi : i < m.length
    · rw [List.getElem?_set_self hi] at hj
      cases hj
    · rw [List.getElem?_eq_none (by rw [List.length_set]; omega)] at hj
      cases hj
  · rw [List.getElem?_set_ne hij] at hj
    obtain ⟨u, h1, h2⟩ := r.2 j e hj
    exact ⟨u, by rw [List.getElem?_set_ne hij]; exact h1, h2⟩
theorem slrp_wipe {K : PySem.W.Frag} {om : Om} {io : List Addr} {H : Hp} : ∀ (own : List Nat) {σ : L2.St} {m : Sl}, SlRp K om io H σ m → SlRp K om io H (L2.wipe σ own) (wipe m own)
  | [], _, _, r => r
  | v :: vs, _, _, r => slrp_none v (slrp_wipe vs r)

/-! ### the tests of a clause -/
def WC (X : Cx) (ifs : List Expr) : TT := fun σ H Q => ∀ (pins : List (Addr × Obj)) (s : Shared), Inv X pins σ H s →
  wpAny (model X.prog X.w) X.A (forIn ifs true fun c r => if r = true then do let ok ← isTrue c X.env (eval c X.env); pure (ForInStep.yield ok) else pure (ForInStep.yield r)) (TP X pins σ Q) X.xe s
theorem pts_wc {X : Cx} {ifs : List Expr} : PTs X ifs (WC X ifs) := ⟨fun pins s σ H Q I h => h pins s I⟩
theorem wc_of {X : Cx} {ifs : List Expr} {t : TT} (p : PTs X ifs t) {σ : L2.St} {H : Hp} {Q : Bool → Hp → Prop} (h : t σ H Q) : WC X ifs σ H Q := fun pins s I => p.run pins s σ H Q I h
def SimC (X : Cx) (ifs : List Expr) (ev : Sl → Hh → R Bool) : Prop := ∀ (om : Om) (io : List Addr) (H : Hp) (σ : L2.St) (m : Sl) (h : Hh), SlRp X.K om io H σ m → HpRp X.K om io H h → ∀ (b : Bool) (h' : Hh), ev m h = .ok b h' → ∀ Q : Bool → Hp → Prop, PostB X.K om io H h' (Q b) → WC X ifs σ H Q
theorem simC_nil {X : Cx} : SimC X [] (fun _ h => .ok true h) := fun om io H σ m h rs rh b h' ee Q q => by
  obtain ⟨rfl, rfl⟩ := rok ee
  exact wc_of L2.pts_nil (q io H .refl rh)
theorem simC_one {X : Cx} {c : Expr} {ev : Sl → Hh → R Bool} (hc : SimT X c ev) : SimC X [c] ev := fun om io H σ m h rs rh b h' ee Q q => wc_of (L2.pts_one pt_wt) (hc om io H σ m h rs rh b h' ee Q q)

/-! ### [elt for tg in iter if ..] -/
/-- the contexts of a block of X -/
def Blk (X : Cx) (scope : Scope) (P : Cx → Prop) : Prop := ∀ (s : Shared) (H : Hp) (C : Addr) (cl : List (Str × Addr)) (fp : List Addr), P (X.blk s H scope (compEnvC scope cl C X.env) fp)
def WGb (X : Cx) (scope : Scope) (tg : Expr) : TG := fun v σ H Q => Blk X scope fun Y => WG Y tg v σ H Q
def WCb (X : Cx) (scope : Scope) (ifs : List Expr) : TT := fun σ H Q => Blk X scope fun Y => WC Y ifs σ H Q
def WEB (X : Cx) (scope : Scope) (e : Expr) : TE := fun σ H Q => Blk X scope fun Y => WE Y e σ H Q
section
variable {X : Cx} {tg iter elt : Expr} {ifs : List Expr} {scope : Scope} {own : List (Str × Nat)} {t : Tg} {evI : Sl → Hh → R Its} {evc : Sl → Hh → R Bool} {eve : Sl → Hh → R D}
theorem lc_core {om : Om} {io : List Addr} {H : Hp} {σ : L2.St} {m : Sl} {h h1 h' : Hh} {its : Its} {ds : List D} {Q : VK} (hi : SimI X tg iter evI) (hg : Blk X scope fun Y => SimG Y tg t) (hc : Blk X scope fun Y => SimC Y ifs evc) (he : Blk X scope fun Y => SimE Y elt eve)
    (hsub : ∀ i ∈ tgIxs t, i ∈ own.map (·.2)) (rs : SlRp X.K om io H σ m) (rh : HpRp X.K om io H h) (ei : evI m h = .ok its h1) (ec : compL t (own.map (·.2)) its.live evc eve its.its m h1 = .ok ds h') (q : PostN X.K om io H h' ds Q) :
    L2.tLc (WI X tg iter) (WGb X scope tg) (WCb X scope ifs) (WEB X scope elt) (own.map (·.2)) σ H Q := by
  refine hi om io H σ m h rs rh its h1 ei _ fun io1 H1 J x1 r1 rJ hz dd hD => ?_
  have fr := r1.fresh hD
  let W : Nat → Nat → Hp → Prop := fun i n Hc => n = its.its.length - i ∧ i ≤ its.its.length ∧ ∃ (ioc : List Addr) (hh : Hh) (acc rest : List D) (vs : List V), Ext io1 H1 ioc (rem Hc dd) ∧ HpRp X.K (om.add dd) ioc Hc hh ∧ ItRp X.K (om.add dd) ioc Hc J its ∧
    SlRp X.K (om.add dd) ioc Hc σ m ∧ Hc dd = some (.lst vs) ∧ Rps X.K (om.add dd) ioc Hc vs acc ∧ acc.length ≤ i ∧ compL t (own.map (·.2)) its.live evc eve (its.its.drop i) m hh = .ok rest h' ∧ acc ++ rest = ds
  have remu : rem (upd H1 dd (.lst [])) dd = H1 := by
    funext a
    by_cases z : a = dd
    · rw [z, rem_same, hD]
    · rw [rem_ne z, upd_ne z]
  refine ⟨W, ⟨its.its.length, by omega, Nat.zero_le _, io1, h1, [], ds, [], by rw [remu]; exact .refl, r1.add hD, rJ.map fun v d r => r.add hD fr.1, (rs.ext x1).add hD fr.1, upd_same, .nil, Nat.le_refl _, ec, rfl⟩, fun i n Hc w => ?_⟩
  obtain ⟨hn, hil, ioc, hh, acc, rest, vs, xc, rc, jc, sc, hDc, ra, hal, ecc, hap⟩ := w
  have hDio : dd ∉ ioc := fun z => (Om.not_add.mp (rc.out dd z)).1 rfl
  by_cases hlt : i < its.its.length
  · right
    have hget : its.its[i]? = some its.its[i] := List.getElem?_eq_getElem hlt
    have hdrop : its.its.drop i = its.its[i] :: its.its.drop (i + 1) := List.drop_eq_getElem_cons hlt
    rw [hdrop] at ecc
    unfold compL at ecc
    split at ecc
    · rename_i d hd
      split at ecc
      · rename_i m' hm'
        obtain ⟨b, h2, eb, ecc⟩ := rbind ecc
        obtain ⟨hgo, hy⟩ := it_step jc rc hget hd
        refine ⟨hgo, fun H' => W (i + 1) (its.its.length - (i + 1)) H', fun H' w => ⟨_, by omega, w⟩, fun x H' yx => ?_⟩
        obtain ⟨x2, r2, p2⟩ := hy x H' yx
        have hDH : H' dd = some (.lst vs) := x2.old dd _ hDc hDio
        intro s0 H0 C cl fp
        refine hg s0 H0 C cl fp (om.add dd) ioc H' (L2.wipe σ (own.map (·.2))) (wipe m (own.map (·.2))) hh (slrp_wipe _ (sc.ext x2)) r2 x d m' p2 hm' _ ?_
        intro us rs'
        refine ⟨?_, ?_⟩
        · rw [wipe_setAll _ _ _ _ hsub, wipe_wipe]
        · intro s0 H0 C cl fp
          refine hc s0 H0 C cl fp (om.add dd) ioc H' _ m' hh rs' r2 b h2 eb _ fun io3 H3 x3 r3 => ?_
          have hDH3 : H3 dd = some (.lst vs) := x3.old dd _ hDH hDio
          have hDio3 : dd ∉ io3 := x3.not hDH hDio
          cases b with
          | false =>
            rw [if_neg Bool.false_ne_true] at ecc ⊢
            have x23 := x2.trans x3
            exact ⟨by omega, by omega, io3, h2, acc, rest, vs, xc.trans (ext_rem (K := X.K) x23), r3, jc.map fun v d r => r.ext x23, sc.ext x23, hDH3, ra.ext x23, by omega, ecc, hap⟩
          | true =>
            rw [if_pos rfl] at ecc ⊢
            obtain ⟨y, h3, ey, ecc⟩ := rbind ecc
            obtain ⟨ys, h4, eys, ecc⟩ := rbind ecc
            obtain ⟨rfl, rfl⟩ := rok ecc
            intro s0 H0 C cl fp
            refine he s0 H0 C cl fp (om.add dd) io3 H3 _ m' h2 (rs'.ext x3) r3 y h3 ey _ fun io4 H4 w x4 r4 rw' => ?_
            have hDH4 : H4 dd = some (.lst vs) := x4.old dd _ hDH3 hDio3
            have x24 := (x2.trans x3).trans x4
            refine ⟨vs, hDH4, by rw [ra.length]; omega, by omega, by omega, io4, h3, acc ++ [y], ys, vs ++ [w], ?_, r4.grow fr.1 _, jc.map fun v d r => (r.ext x24).grow fr.1 _, ⟨(sc.ext x24).1, fun j d e => ?_⟩, upd_same, ((ra.ext x24).append (.one rw')).grow fr.1 _, by simp; omega, eys, by rw [← hap]; simp⟩
            · have e1 : rem (upd H4 dd (.lst (vs ++ [w]))) dd = rem H4 dd := by
                funext a
                by_cases z : a = dd
                · rw [z, rem_same, rem_same]
                · rw [rem_ne z, rem_ne z, upd_ne z]
              rw [e1]
              exact xc.trans (ext_rem (K := X.K) x24)
            · obtain ⟨u, q1, q2⟩ := (sc.ext x24).2 j d e
              exact ⟨u, q1, q2.grow fr.1 _⟩
      · cases ecc
    · cases ecc
  · left
    have hi2 : i = its.its.length := by omega
    subst hi2
    rw [List.drop_length] at ecc
    unfold compL at ecc
    split at ecc
    · rename_i hl
      obtain ⟨rfl, rfl⟩ := rok ecc
      refine ⟨it_stop jc rc hl, ?_⟩
      rw [List.append_nil] at hap
      subst hap
      have z := q ioc (rem Hc dd) dd vs (x1.trans xc) (rc.drop1 fr.1) ra.drop1 rem_same
      rw [rem_upd hDc] at z
      exact z
    · cases ecc
theorem sim_lcN (hcalm : X.calm = true) (hN : X.N.Nodup) (ok : L2.BlkOk X.N X.env.scope scope own) (hf : ∀ x, foldedSetIterable iter X.env x = pure x) (hi : SimI X tg iter evI) (hg : Blk X scope fun Y => SimG Y tg t) (hc : Blk X scope fun Y => SimC Y ifs evc) (he : Blk X scope fun Y => SimE Y elt eve)
    (hsub : ∀ i ∈ tgIxs t, i ∈ own.map (·.2)) {pos : Pos} : SimN X (.ListComp elt [⟨tg, iter, ifs, 0⟩] scope pos) (fun m h => (evI m h).bind fun its h => (compL t (own.map (·.2)) its.live evc eve its.its m h).bind fun xs h => .ok (.lst xs) h) := by
  intro om io H σ m h rs rh ds h' ee Q q
  obtain ⟨its, h1, ei, ee⟩ := rbind ee
  obtain ⟨xs, h2, ec, ee⟩ := rbind ee
  obtain ⟨e1, rfl⟩ := rok ee
  have e2 := D.lst.inj e1
  subst e2
  exact we_of (L2.pe_lc hcalm hN pi_wi ok (fun s H C cl fp => ⟨fun pins s' σ H v u Q I r h => h s _ C cl fp pins s' u I r⟩) (fun s H C cl fp => ⟨fun pins s' σ H Q I h => h s _ C cl fp pins s' I⟩) (fun s H C cl fp => ⟨fun pins s' σ H Q I h => h s _ C cl fp pins s' I⟩) hf)
    (lc_core hi hg hc he hsub rs rh ei ec q)
end
end Mini
end
section
set_option Elab.async false
set_option linter.all false
set_option autoImplicit false
set_option maxRecDepth 100000
/-! Sound12: statements. -/
namespace Mini
open PySem PySem.Spec PyProof.Rows
open L2 (V Hp HO Key Rd SqL SqT Inv Cx RelV upd upd_same upd_ne Same WX VK TE TT TA TO TI TG TGs It XK OpR UnR CallR R2 EP TP AP SP PE PT PW PA PO PS PSs PG PGs PI PIE PTs Dp DpAll MtR MtM IxR SlR PSet PIp Gl Vis Loc Ends TS)

def WS (X : Cx) (st : Stmt) : TS := fun D σ H => ∀ (pins : List (Addr × Obj)) (s : Shared), Inv X pins σ H s → wpAny (model X.prog X.w) X.A (exec st X.env) (SP X pins D) X.xe s
theorem ps_ws {X : Cx} {st : Stmt} : PS X st (WS X st) := ⟨fun pins s σ H D I h => h pins s I⟩
theorem ws_of {X : Cx} {st : Stmt} {t : TS} (p : PS X st t) {σ : L2.St} {H : Hp} {D : Ends} (h : t D σ H) : WS X st D σ H := fun pins s I => p.run pins s σ H D I h
def WSs (X : Cx) (st : List Stmt) : TS := fun D σ H => ∀ (pins : List (Addr × Obj)) (s : Shared), Inv X pins σ H s → wpAny (model X.prog X.w) X.A (execs st X.env) (SP X pins D) X.xe s
theorem pss_wss {X : Cx} {st : List Stmt} : PSs X st (WSs X st) := ⟨fun pins s σ H D I h => h pins s I⟩
theorem wss_of {X : Cx} {st : List Stmt} {t : TS} (p : PSs X st t) {σ : L2.St} {H : Hp} {D : Ends} (h : t D σ H) : WSs X st D σ H := fun pins s I => p.run pins s σ H D I h

/-- what is wanted behind a statement -/
def PostF (K : PySem.W.Frag) (om : Om) (io : List Addr) (H : Hp) (h' : Hh) (D : Ends) : Fl → Prop
  | .nx m => ∀ (io' : List Addr) (H' : Hp) (σ : L2.St), Ext io H io' H' → HpRp K om io' H' h' → SlRp K om io' H' σ m → D.nx σ H'
  | .bk m => ∀ (io' : List Addr) (H' : Hp) (σ : L2.St), Ext io H io' H' → HpRp K om io' H' h' → SlRp K om io' H' σ m → D.bk σ H'
  | .ct m => ∀ (io' : List Addr) (H' : Hp) (σ : L2.St), Ext io H io' H' → HpRp K om io' H' h' → SlRp K om io' H' σ m → D.ct σ H'
  | .rt d => ∀ (io' : List Addr) (H' : Hp) (v : V), Ext io H io' H' → HpRp K om io' H' h' → Rp K om io' H' v d → D.rt v H'
theorem PostF.ext {K : PySem.W.Frag} {om : Om} {io io' : List Addr} {H H' : Hp} {h : Hh} {D : Ends} {f : Fl} (x : Ext io H io' H') (q : PostF K om io H h D f) : PostF K om io' H' h D f := by
  cases f with
  | nx m => exact fun i2 H2 σ y r s => q i2 H2 σ (x.trans y) r s
  | bk m => exact fun i2 H2 σ y r s => q i2 H2 σ (x.trans y) r s
  | ct m => exact fun i2 H2 σ y r s => q i2 H2 σ (x.trans y) r s
  | rt d => exact fun i2 H2 v y r s => q i2 H2 v (x.trans y) r s
def SimS (X : Cx) (st : Stmt) (ev : Sl → Hh → R Fl) : Prop := ∀ (om : Om) (io : List Addr) (H : Hp) (σ : L2.St) (m : Sl) (h : Hh), SlRp X.K om io H σ m → HpRp X.K om io H h → ∀ (f : Fl) (h' : Hh), ev m h = .ok f h' → ∀ D : Ends, PostF X.K om io H h' D f → WS X st D σ H
def SimSs (X : Cx) (st : List Stmt) (ev : Sl → Hh → R Fl) : Prop := ∀ (om : Om) (io : List Addr) (H : Hp) (σ : L2.St) (m : Sl) (h : Hh), SlRp X.K om io H σ m → HpRp X.K om io H h → ∀ (f : Fl) (h' : Hh), ev m h = .ok f h' → ∀ D : Ends, PostF X.K om io H h' D f → WSs X st D σ H
theorem simSs_nil {X : Cx} : SimSs X [] (fun σ h => .ok (.nx σ) h) := fun om io H σ m h rs rh f h' ee D q => by
  obtain ⟨rfl, rfl⟩ := rok ee
  exact wss_of L2.pss_nil (q io H σ .refl rh rs)
theorem simSs_cons {X : Cx} {st : Stmt} {rest : List Stmt} {ev evr : Sl → Hh → R Fl} (h1 : SimS X st ev) (h2 : SimSs X rest evr) : SimSs X (st :: rest) (fun σ h => (ev σ h).bind fun f h => match f with
    | .nx σ => evr σ h
    | f => .ok f h) := by
  intro om io H σ m h rs rh f h' ee D q
  obtain ⟨g, h1', eg, ee⟩ := rbind ee
  refine wss_of (L2.pss_cons ps_ws pss_wss) (h1 om io H σ m h rs rh g h1' eg _ ?_)
  cases g with
  | nx m1 => exact fun io1 H1 σ1 x1 r1 s1 => h2 om io1 H1 σ1 m1 h1' s1 r1 f h' ee D (q.ext x1)
  | bk m1 =>
    obtain ⟨rfl, rfl⟩ := rok ee
    exact q
  | ct m1 =>
    obtain ⟨rfl, rfl⟩ := rok ee
    exact q
  | rt d =>
    obtain ⟨rfl, rfl⟩ := rok ee
    exact q

section
variable {X : Cx} {e a b c o i : Expr} {ev eva evb evo evi : Sl → Hh → R D} {pos p p2 : Pos} {x : Str} {n : Nat}
theorem simS_pass : SimS X (.Pass pos) (fun σ h => .ok (.nx σ) h) := fun om io H σ m h rs rh f h' ee D q => by
  obtain ⟨rfl, rfl⟩ := rok ee
  exact ws_of L2.ps_pass (q io H σ .refl rh rs)
theorem simS_doc {z : Str} {j : Nat} : SimS X (.Expr (.Constant (.str z) j p) pos) (fun σ h => .ok (.nx σ) h) := fun om io H σ m h rs rh f h' ee D q => by
  obtain ⟨rfl, rfl⟩ := rok ee
  exact ws_of L2.ps_doc (q io H σ .refl rh rs)
theorem simS_brk : SimS X (.Break pos) (fun σ h => .ok (.bk σ) h) := fun om io H σ m h rs rh f h' ee D q => by
  obtain ⟨rfl, rfl⟩ := rok ee
  exact ws_of L2.ps_break (q io H σ .refl rh rs)
theorem simS_cont : SimS X (.Continue pos) (fun σ h => .ok (.ct σ) h) := fun om io H σ m h rs rh f h' ee D q => by
  obtain ⟨rfl, rfl⟩ := rok ee
  exact ws_of L2.ps_continue (q io H σ .refl rh rs)
theorem simS_never {st : Stmt} : SimS X st (fun _ _ => .bad) := fun om io H σ m h rs rh f h' ee D q => by cases ee
theorem simS_retN : SimS X (.Return none pos) (fun _ h => .ok (.rt .non) h) := fun om io H σ m h rs rh f h' ee D q => by
  obtain ⟨rfl, rfl⟩ := rok ee
  exact ws_of L2.ps_retN (q io H _ .refl rh .non)
theorem simS_ret (he : SimE X e ev) : SimS X (.Return (some e) pos) (fun σ h => (ev σ h).bind fun x h => .ok (.rt x) h) := by
  intro om io H σ m h rs rh f h' ee D q
  obtain ⟨d, h1, ea, ee⟩ := rbind ee
  obtain ⟨rfl, rfl⟩ := rok ee
  exact ws_of (L2.ps_ret pe_we) (he om io H σ m h rs rh d _ ea _ fun io1 H1 v x1 r1 rv => q io1 H1 v x1 r1 rv)
theorem simS_expr (hs : swapsWith e none pos.line X.env = pure false) (he : SimE X e ev) : SimS X (.Expr e pos) (fun σ h => (ev σ h).bind fun _ h => .ok (.nx σ) h) := by
  intro om io H σ m h rs rh f h' ee D q
  obtain ⟨d, h1, ea, ee⟩ := rbind ee
  obtain ⟨rfl, rfl⟩ := rok ee
  exact ws_of (L2.ps_expr pe_we hs) (he om io H σ m h rs rh d _ ea _ fun io1 H1 v x1 r1 rv => q io1 H1 σ x1 r1 (rs.ext x1))
theorem simS_set (hN : X.N.Nodup) (ok : TgOk X x n) (hs : swapsWith e (some (.Name x p)) pos.line X.env = pure false) (he : SimE X e ev) : SimS X (.Assign [.Name x p] e pos) (fun σ h => (ev σ h).bind fun x h => .ok (.nx (σ.set n (some x))) h) := by
  intro om io H σ m h rs rh f h' ee D q
  obtain ⟨d, h1, ea, ee⟩ := rbind ee
  obtain ⟨rfl, rfl⟩ := rok ee
  exact ws_of (L2.ps_set hN ok.1 ok.2.1 pe_we hs ok.2.2) (he om io H σ m h rs rh d _ ea _ fun io1 H1 v x1 r1 rv => q io1 H1 _ x1 r1 ((rs.ext x1).set n rv))
/-- x = [.. for ..], the block's list straight into the name -/
theorem simS_setLc {tg iter elt : Expr} {ifs : List Expr} {scope : Scope} {own : List (Str × Nat)} {t : Tg} {evI : Sl → Hh → R Its} {evc : Sl → Hh → R Bool} {eve : Sl → Hh → R D} {spos : Pos} (hcalm : X.calm = true) (hN : X.N.Nodup) (hx : X.N[n]? = some x) (hxl : X.env.scope.names.lookup x = some .local)
    (hsw : swapsWith (.ListComp elt [⟨tg, iter, ifs, 0⟩] scope pos) (some (.Name x p)) spos.line X.env = pure true) (ok : L2.BlkOk X.N X.env.scope scope own) (hf : ∀ x, foldedSetIterable iter X.env x = pure x)
    (hi : SimI X tg iter evI) (hg : Blk X scope fun Y => SimG Y tg t) (hc : Blk X scope fun Y => SimC Y ifs evc) (he : Blk X scope fun Y => SimE Y elt eve) (hsub : ∀ i ∈ tgIxs t, i ∈ own.map (·.2)) (nw : Bool)
    (hev : ∀ m h, ev m h = (evI m h).bind fun its h => (compL t (own.map (·.2)) its.live evc eve its.its m h).bind fun xs h => if nw then .ok (.ref h.length) (h ++ [.lst xs]) else .ok (.lst xs) h) :
    SimS X (.Assign [.Name x p] (.ListComp elt [⟨tg, iter, ifs, 0⟩] scope pos) spos) (fun σ h => (ev σ h).bind fun x h => .ok (.nx (σ.set n (some x))) h) := by
  intro om io H σ m h rs rh f h' ee D q
  obtain ⟨d, h1, ea, ee⟩ := rbind ee
  obtain ⟨rfl, rfl⟩ := rok ee
  rw [hev] at ea
  obtain ⟨its, h2, ei, ea⟩ := rbind ea
  obtain ⟨xs, h3, ec, ea⟩ := rbind ea
  refine ws_of (L2.ps_setLc hcalm hN hx hxl hsw pi_wi ok (fun s H C cl fp => ⟨fun pins s' σ H v u Q I r h => h s _ C cl fp pins s' u I r⟩) (fun s H C cl fp => ⟨fun pins s' σ H Q I h => h s _ C cl fp pins s' I⟩) (fun s H C cl fp => ⟨fun pins s' σ H Q I h => h s _ C cl fp pins s' I⟩) hf)
    (lc_core hi hg hc he hsub rs rh ei ec fun io1 H1 p vs x1 r1 rvs hp => ?_)
  cases nw with
  | false =>
    obtain ⟨rfl, rfl⟩ := rok ea
    have xx : Ext io1 H1 io1 (upd H1 p (.lst vs)) := .same (same_new hp)
    exact q io1 _ _ (x1.trans xx) (r1.same (same_new hp)) (((rs.ext x1).ext xx).set n (.lst upd_same (r1.fresh hp).1 (r1.fresh hp).2 (rvs.ext xx)))
  | true =>
    obtain ⟨rfl, rfl⟩ := rok ea
    obtain ⟨x2, r2⟩ := r1.new (o := .lst vs) (c := .lst xs) hp ⟨vs, upd_same, rvs.ext ⟨⟨[p], rfl, fun a ha => by rw [List.mem_singleton.mp ha]; exact hp⟩, fun a u e _ => same_new hp a u e, fun a u e => ⟨u, same_new hp a u e⟩⟩⟩
    exact q _ _ _ (x1.trans x2) r2 (((rs.ext x1).ext x2).set n (.ref (by rw [List.getElem?_append_right (by rw [r1.len]; exact Nat.le_refl _), r1.len, Nat.sub_self]; rfl)))
/-- o[i] = e -/
theorem simS_ix (hu : X.A.units + 65 < cLine) (hs : swapsWithSole [.Subscript o i p] e pos.line X.env = pure false) (hw : swappedStores [.Subscript o i p] e X.env = pure none)
    (hix : ∀ v, assign (.Subscript o i p) X.env v = (do
         let ov ← holding [v] (eval o X.env)
         let iv ← holding [v, ov] (eval i X.env)
         standAt p
         holding [v, ov, iv] (setItem ov iv v)
         release [v, ov, iv] []))
    (he : SimE X e ev) (ho : SimE X o evo) (hi : SimE X i evi) : SimS X (.Assign [.Subscript o i p] e pos) (fun σ h => (ev σ h).bind fun d h => (evo σ h).bind fun ov h => (evi σ h).bind fun iv h => match setD h ov iv d with
      | some h => .ok (.nx σ) h
      | none => .bad) := by
  intro om io H σ m h rs rh f h' ee D q
  obtain ⟨d, h1, ea, ee⟩ := rbind ee
  obtain ⟨ov, h2, eo, ee⟩ := rbind ee
  obtain ⟨iv, h3, ei, ee⟩ := rbind ee
  split at ee
  · rename_i h4 hset
    obtain ⟨rfl, rfl⟩ := rok ee
    refine ws_of (L2.ps_asg pe_we (L2.pg_sub pe_we pe_we rset_p hix) hs hw rfl) (he om io H σ m h rs rh d _ ea _ fun io1 H1 w x1 r1 rw' => ?_)
    exact sim_two ho hi (rs.ext x1) r1 eo ei fun io2 H2 v u x2 r2 rs2 rv ru => set_ok hu hset rv ru (rw'.ext x2) r2 fun io3 H3 x3 r3 => q io3 H3 σ ((x1.trans x2).trans x3) r3 (rs2.ext x3)
  · cases ee
/-- a, b, .. = e -/
theorem simS_unp {es : List Expr} {is : List Nat} {k : Nat} (hc : X.calm = true) (hN : X.N.Nodup) (ok : TgsOk X es is) (hs : swapsWithSole [.Tuple es k p] e pos.line X.env = pure false) (hw : swappedStores [.Tuple es k p] e X.env = pure none) (he : SimE X e ev) :
    SimS X (.Assign [.Tuple es k p] e pos) (fun σ h => (ev σ h).bind fun x h => match bindTg (.vars is) x σ h with
    | some σ => .ok (.nx σ) h
    | none => .bad) := by
  intro om io H σ m h rs rh f h' ee D q
  obtain ⟨d, h1, ea, ee⟩ := rbind ee
  split at ee
  · rename_i m' hm
    obtain ⟨rfl, rfl⟩ := rok ee
    refine ws_of (L2.ps_asg pe_we pg_wg hs hw rfl) (he om io H σ m h rs rh d _ ea _ fun io1 H1 w x1 r1 rw' => ?_)
    refine simG_vars hc hN ok om io1 H1 σ m h1 (rs.ext x1) r1 w d m' rw' hm _ ?_
    intro vs rs'
    exact q io1 H1 _ x1 r1 rs'
  · cases ee
/-- a, b = e, e' by a tuple -/
theorem simS_par0 {es vs : List Expr} {is : List Nat} {k k2 : Nat} {evs : Sl → Hh → R (List D)} (hc : X.calm = true) (hN : X.N.Nodup) (ok : TgsOk X es is) (hs : swapsWithSole [.Tuple es k p] (.Tuple vs k2 p2) pos.line X.env = pure false) (hw : swappedStores [.Tuple es k p] (.Tuple vs k2 p2) X.env = pure none)
    (hl : ∀ m h ds h', evs m h = .ok ds h' → ds.length ≤ lim) (he : SimA X vs evs) :
    SimS X (.Assign [.Tuple es k p] (.Tuple vs k2 p2) pos) (fun σ h => (evs σ h).bind fun xs h => if xs.length = is.length then .ok (.nx ((is.zip xs).foldl (fun σ p => σ.set p.1 (some p.2)) σ)) h else .bad) := by
  intro om io H σ m h rs rh f h' ee D q
  obtain ⟨xs, h1, ea, ee⟩ := rbind ee
  split at ee
  · rename_i hxl
    obtain ⟨rfl, rfl⟩ := rok ee
    refine simS_unp (is := is) hc hN ok hs hw (sim_tup hl (x1 := true) he) om io H σ m h rs rh _ h1 ?_ D q
    simp only [ea, R.bind_ok, bindTg, seqOf, if_pos hxl]
  · cases ee
theorem simS_par2 {y : Str} {j k k2 : Nat} {px py pt : Pos} {evs : Sl → Hh → R (List D)} (hc : X.calm = true) (hN : X.N.Nodup) (hx : X.N[n]? = some x) (hy : X.N[j]? = some y) (hij : n ≠ j) (hxl : X.env.scope.names.lookup x = some .local) (hyl : X.env.scope.names.lookup y = some .local)
    (hw : swappedStores [.Tuple [.Name x px, .Name y py] k pt] (.Tuple [a, b] k2 p2) X.env = pure (some [x, y])) (hs : swapsWithSole [.Tuple [.Name x px, .Name y py] k pt] (.Tuple [a, b] k2 p2) pos.line X.env = pure false) (he : SimA X [a, b] evs) :
    SimS X (.Assign [.Tuple [.Name x px, .Name y py] k pt] (.Tuple [a, b] k2 p2) pos) (fun σ h => (evs σ h).bind fun xs h => if xs.length = [n, j].length then .ok (.nx (([n, j].zip xs).foldl (fun σ p => σ.set p.1 (some p.2)) σ)) h else .bad) := by
  intro om io H σ m h rs rh f h' ee D q
  obtain ⟨xs, h1, ea, ee⟩ := rbind ee
  split at ee
  · rename_i hxs
    obtain ⟨rfl, rfl⟩ := rok ee
    refine ws_of (L2.ps_par hc hN hx hy hij hxl hyl pa_wa hw hs) (he om io H σ m h rs rh xs _ ea _ fun io1 H1 vs x1 r1 rvs => ?_)
    cases rvs with
    | nil => simp at hxs
    | cons r t =>
      cases t with
      | nil => simp at hxs
      | cons r' t =>
        cases t with
        | cons r'' t => simp at hxs
        | nil => exact ⟨_, _, rfl, q io1 H1 _ x1 r1 (((rs.ext x1).set n r).set j r')⟩
  · cases ee
theorem simS_par3 {y z : Str} {j l k k2 : Nat} {px py pz pt : Pos} {evs : Sl → Hh → R (List D)} (hc : X.calm = true) (hN : X.N.Nodup) (hx : X.N[n]? = some x) (hy : X.N[j]? = some y) (hz : X.N[l]? = some z) (hij : n ≠ j) (hil : n ≠ l) (hjl : j ≠ l)
    (hxl : X.env.scope.names.lookup x = some .local) (hyl : X.env.scope.names.lookup y = some .local) (hzl : X.env.scope.names.lookup z = some .local)
    (hw : swappedStores [.Tuple [.Name x px, .Name y py, .Name z pz] k pt] (.Tuple [a, b, c] k2 p2) X.env = pure (some [x, y, z])) (hs : swapsWithSole [.Tuple [.Name x px, .Name y py, .Name z pz] k pt] (.Tuple [a, b, c] k2 p2) pos.line X.env = pure false) (he : SimA X [a, b, c] evs) :
    SimS X (.Assign [.Tuple [.Name x px, .Name y py, .Name z pz] k pt] (.Tuple [a, b, c] k2 p2) pos) (fun σ h => (evs σ h).bind fun xs h => if xs.length = [n, j, l].length then .ok (.nx (([n, j, l].zip xs).foldl (fun σ p => σ.set p.1 (some p.2)) σ)) h else .bad) := by
  intro om io H σ m h rs rh f h' ee D q
  obtain ⟨xs, h1, ea, ee⟩ := rbind ee
  split at ee
  · rename_i hxs
    obtain ⟨rfl, rfl⟩ := rok ee
    refine ws_of (L2.ps_par3 hc hN hx hy hz hij hil hjl hxl hyl hzl pa_wa hw hs) (he om io H σ m h rs rh xs _ ea _ fun io1 H1 vs x1 r1 rvs => ?_)
    cases rvs with
    | nil => simp at hxs
    | cons r t =>
      cases t with
      | nil => simp at hxs
      | cons r' t =>
        cases t with
        | nil => simp at hxs
        | cons r'' t =>
          cases t with
          | cons r'' t => simp at hxs
          | nil => exact ⟨_, _, _, rfl, q io1 H1 _ x1 r1 ((((rs.ext x1).set n r).set j r').set l r'')⟩
  · cases ee

/-! ### a op= e -/
def augOp : Op → Option Operator
  | .add => some .Add
  | .sub => some .Sub
  | .mul => some .Mult
  | .mod => some .Mod
  | .fdiv => some .FloorDiv
  | _ => none
def RIp (X : Cx) (op : Operator) : L2.TIp := fun x y H Q => ∀ (pins : List (Addr × Obj)) (s : Shared) (σ : L2.St) (v u : Value), Inv X pins σ H s → RelV x v → RelV y u → wpAny (model X.prog X.w) X.A (inplaceOp op v u) (EP X pins σ Q) X.xe s
theorem rip_p {op : Operator} : PIp X op (RIp X op) := fun pins s σ H x y v u Q I rx ry h => h pins s σ v u I rx ry
theorem rip_of {op : Operator} {r : R2} (o : OpR X (inplaceOp op) r) {x y : V} {H : Hp} {Q : VK} (h : r x y H Q) : RIp X op x y H Q := fun pins s σ v u I rx ry => o pins s σ H x y v u Q I rx ry h
theorem aug_ok {op : Op} {oo : Operator} (ho : augOp op = some oo) {om : Om} {io : List Addr} {H : Hp} {h : Hh} {i j : Int} {d : D} {Q : VK} {v u : V} (e : binD h op (.int i) (.int j) = some d) (rx : Rp X.K om io H v (.int i)) (ry : Rp X.K om io H u (.int j)) (R : HpRp X.K om io H h) (q : Post X.K om io H h d Q) : RIp X oo v u H Q := by
  cases int_at rx
  cases int_at ry
  cases op <;> cases ho
  · have e2 := Option.some.inj e
    subst e2
    exact rip_of L2.iop_add ⟨i, j, rfl, rfl, q.here R (.int _)⟩
  · have e2 := Option.some.inj e
    subst e2
    exact rip_of L2.iop_sub ⟨i, j, rfl, rfl, q.here R (.int _)⟩
  · have e1 : (if CMul i j then some (D.int (i * j)) else none) = some d := e
    split at e1
    · rename_i hc
      have e2 := Option.some.inj e1
      subst e2
      refine rip_of L2.iop_mul ⟨i, j, rfl, rfl, ?_, q.here R (.int _)⟩
      simp only [CMul, Bool.or_eq_true, decide_eq_true_eq] at hc
      exact hc
    · cases e1
  · have e1 : (if 0 < j then some (D.int (i % j)) else none) = some d := e
    split at e1
    · rename_i hc
      have e2 := Option.some.inj e1
      subst e2
      exact rip_of L2.iop_mod ⟨i, j, rfl, rfl, hc, q.here R (.int _)⟩
    · cases e1
  · have e1 : (if 0 < j ∧ j < 1073741824 then some (D.int (i / j)) else none) = some d := e
    split at e1
    · rename_i hc
      have e2 := Option.some.inj e1
      subst e2
      exact rip_of L2.iop_fdiv ⟨i, j, rfl, rfl, hc, q.here R (.int _)⟩
    · cases e1
theorem simS_aug {op : Op} {oo : Operator} (ho : augOp op = some oo) (hN : X.N.Nodup) (ok : TgOk X x n) (he : SimE X e ev) : SimS X (.AugAssign (.Name x p) oo e pos) (fun σ h => match σ[n]? with
    | some (some x) => (ev σ h).bind fun y h => match x, y with
      | .int _, .int _ => (R.of (binD h op x y) h).bind fun z h => .ok (.nx (σ.set n (some z))) h
      | _, _ => .bad
    | _ => .bad) := by
  intro om io H σ m h rs rh f h' ee D q
  dsimp only at ee
  split at ee
  · rename_i d hd
    obtain ⟨y, h1, ea, ee⟩ := rbind ee
    split at ee
    · rename_i i j
      obtain ⟨z, h2, ez, ee⟩ := rbind ee
      obtain ⟨ed, rfl⟩ := rof ez
      obtain ⟨rfl, rfl⟩ := rok ee
      obtain ⟨v, hv1, hv2⟩ := rs.2 n _ hd
      refine ws_of (L2.ps_aug hN ok.1 ok.2.1 pe_we rip_p ok.2.2) ⟨v, hv1, he om io H σ m h rs rh _ _ ea _ fun io1 H1 u x1 r1 ru => ?_⟩
      exact aug_ok ho ed (hv2.ext x1) ru r1 fun io2 H2 w x2 r2 rw' => q io2 H2 _ (x1.trans x2) r2 (((rs.ext x1).ext x2).set n rw')
    · cases ee
  · cases ee

/-! ### branches and loops -/
theorem simS_ite {p q : List Stmt} {evt : Sl → Hh → R Bool} {ep eq : Sl → Hh → R Fl} (hc : SimT X c evt) (ha : SimSs X p ep) (hb : SimSs X q eq) : SimS X (.If c p q pos) (fun σ h => (evt σ h).bind fun k h => if k then ep σ h else eq σ h) := by
  intro om io H σ m h rs rh f h' ee D qq
  obtain ⟨k, h1, ek, ee⟩ := rbind ee
  refine ws_of (L2.ps_if pt_wt pss_wss pss_wss) (hc om io H σ m h rs rh k _ ek _ fun io1 H1 x1 r1 => ?_)
  cases k with
  | true => rw [if_pos rfl]; exact ha om io1 H1 σ m h1 (rs.ext x1) r1 f h' ee D (qq.ext x1)
  | false => rw [if_neg Bool.false_ne_true]; exact hb om io1 H1 σ m h1 (rs.ext x1) r1 f h' ee D (qq.ext x1)
theorem simS_for {tg iter : Expr} {body : List Stmt} {t : Tg} {evI : Sl → Hh → R Its} {evb : Sl → Hh → R Fl} (hp : PassesOwn (model X.prog X.w) X.A X.env X.xe) (hcalm : X.calm = true) (hf : ∀ x, foldedSetIterable iter X.env x = pure x) (hi : SimI X tg iter evI) (hg : SimG X tg t) (hb : SimSs X body evb) :
    SimS X (.For tg iter body [] pos) (fun σ h => (evI σ h).bind fun its h => forL t its.live evb its.its σ h) := by
  intro om io H σ m h rs rh f h' ee D q
  obtain ⟨its, h1, ei, ee⟩ := rbind ee
  refine ws_of (L2.ps_for hp hcalm pi_wi pg_wg pss_wss hf) (hi om io H σ m h rs rh its h1 ei _ fun io1 H1 J x1 r1 rJ hz => ?_)
  let W : Nat → Nat → L2.St → Hp → Prop := fun i n σc Hc => n = its.its.length - i ∧ i ≤ its.its.length ∧ ∃ (ioc : List Addr) (mc : Sl) (hh : Hh), Ext io H ioc Hc ∧ HpRp X.K om ioc Hc hh ∧ ItRp X.K om ioc Hc J its ∧ SlRp X.K om ioc Hc σc mc ∧
    forL t its.live evb (its.its.drop i) mc hh = .ok f h'
  refine ⟨W, ⟨its.its.length, by omega, Nat.zero_le _, io1, m, h1, x1, r1, rJ, rs.ext x1, ee⟩, fun i n σc Hc w => ?_⟩
  obtain ⟨hn, hil, ioc, mc, hh, xc, rc, jc, sc, ef⟩ := w
  by_cases hlt : i < its.its.length
  · right
    have hget : its.its[i]? = some its.its[i] := List.getElem?_eq_getElem hlt
    have hdrop : its.its.drop i = its.its[i] :: its.its.drop (i + 1) := List.drop_eq_getElem_cons hlt
    rw [hdrop] at ef
    unfold forL at ef
    split at ef
    · rename_i d hd
      split at ef
      · rename_i m' hm'
        obtain ⟨hgo, hy⟩ := it_step jc rc hget hd
        obtain ⟨g, h2, eg, ef⟩ := rbind ef
        refine ⟨hgo, fun σ' H' => W (i + 1) (its.its.length - (i + 1)) σ' H', fun σ' H' w => ⟨_, by omega, w⟩, fun v H' yx => ?_⟩
        obtain ⟨x2, r2, p2⟩ := hy v H' yx
        refine hg om ioc H' σc mc hh (sc.ext x2) r2 v d m' p2 hm' _ ?_
        intro us rs'
        refine hb om ioc H' _ m' hh rs' r2 g h2 eg _ ?_
        cases g with
        | nx m2 => exact fun io3 H3 σ3 x3 r3 s3 => ⟨by omega, by omega, io3, m2, h2, (xc.trans x2).trans x3, r3, (jc.map fun v d r => (r.ext x2).ext x3), s3, ef⟩
        | ct m2 => exact fun io3 H3 σ3 x3 r3 s3 => ⟨by omega, by omega, io3, m2, h2, (xc.trans x2).trans x3, r3, (jc.map fun v d r => (r.ext x2).ext x3), s3, ef⟩
        | bk m2 =>
          obtain ⟨rfl, rfl⟩ := rok ef
          exact fun io3 H3 σ3 x3 r3 s3 => q io3 H3 σ3 ((xc.trans x2).trans x3) r3 s3
        | rt d2 =>
          obtain ⟨rfl, rfl⟩ := rok ef
          exact fun io3 H3 v3 x3 r3 s3 => q io3 H3 v3 ((xc.trans x2).trans x3) r3 s3
      · cases ef
    · cases ef
  · left
    have hi2 : i = its.its.length := by omega
    subst hi2
    rw [List.drop_length] at ef
    unfold forL at ef
    split at ef
    · rename_i hl
      obtain ⟨rfl, rfl⟩ := rok ef
      exact ⟨it_stop jc rc hl, q ioc Hc σc xc rc sc⟩
    · cases ef
theorem simS_while {body : List Stmt} {evt : Sl → Hh → R Bool} {evb : Sl → Hh → R Fl} {N : Nat} (hp : PassesOwn (model X.prog X.w) X.A X.env X.xe) (hc : SimT X c evt) (hb : SimSs X body evb) :
    SimS X (.While c body [] pos) (fun σ h => whileL evt evb N σ h) := by
  intro om io H σ m h rs rh f h' ee D q
  let W : Nat → L2.St → Hp → Prop := fun n σc Hc => ∃ (ioc : List Addr) (mc : Sl) (hh : Hh), Ext io H ioc Hc ∧ HpRp X.K om ioc Hc hh ∧ SlRp X.K om ioc Hc σc mc ∧ whileL evt evb n mc hh = .ok f h'
  refine ws_of (L2.ps_while hp pt_wt pss_wss) ⟨W, ⟨N, io, m, h, .refl, rh, rs, ee⟩, fun n σc Hc w => ?_⟩
  obtain ⟨ioc, mc, hh, xc, rc, sc, ef⟩ := w
  cases n with
  | zero => cases ef
  | succ n =>
    unfold whileL at ef
    obtain ⟨k, h1, ek, ef⟩ := rbind ef
    refine hc om ioc Hc σc mc hh sc rc k h1 ek _ fun io1 H1 x1 r1 => ?_
    cases k with
    | false =>
      rw [if_neg Bool.false_ne_true] at ef ⊢
      obtain ⟨rfl, rfl⟩ := rok ef
      exact q io1 H1 σc (xc.trans x1) r1 (sc.ext x1)
    | true =>
      rw [if_pos rfl] at ef ⊢
      obtain ⟨g, h2, eg, ef⟩ := rbind ef
      refine ⟨W n, fun σ' H' w => ⟨n, Nat.lt_succ_self _, w⟩, hb om io1 H1 σc mc h1 (sc.ext x1) r1 g h2 eg _ ?_⟩
      cases g with
      | nx m2 => exact fun io3 H3 σ3 x3 r3 s3 => ⟨io3, m2, h2, (xc.trans x1).trans x3, r3, s3, ef⟩
      | ct m2 => exact fun io3 H3 σ3 x3 r3 s3 => ⟨io3, m2, h2, (xc.trans x1).trans x3, r3, s3, ef⟩
      | bk m2 =>
        obtain ⟨rfl, rfl⟩ := rok ef
        exact fun io3 H3 σ3 x3 r3 s3 => q io3 H3 σ3 ((xc.trans x1).trans x3) r3 s3
      | rt d2 =>
        obtain ⟨rfl, rfl⟩ := rok ef
        exact fun io3 H3 v3 x3 r3 s3 => q io3 H3 v3 ((xc.trans x1).trans x3) r3 s3
end
end Mini
end
section
set_option Elab.async false
set_option linter.all false
set_option autoImplicit false
set_option maxRecDepth 100000
/-! SoundX: exceptions without a field. -/
namespace Mini
open PySem PySem.Spec PyProof.Rows
open L2 (V Hp HO Key Rd SqL SqT Inv Cx RelV upd upd_same upd_ne Same WX VK TE TT TA TO TI TG TGs It XK OpR UnR CallR R2 EP TP AP SP PE PT PW PA PO PS PSs PG PGs PI PIE PTs Dp DpAll MtR MtM IxR SlR PSet PIp Gl Vis Loc Ends TS)

/-- cls with its dict d is the exception c with the fields fs -/
def XR (mg : Str → Option Value) (c : String) (fs : List D) (cls : Value) (d : Option Addr) : Prop := ∃ C, mg (Str.ofString c) = some (.ref C) ∧ cls = .ref C ∧ fs = [] ∧ d = none
/-- what is wanted of an exception -/
def PostX (X : Cx) (om : Om) (io : List Addr) (H : Hp) (h' : Hh) (c : String) (fs : List D) (P : Value → Option Addr → Hp → Prop) : Prop :=
  ∀ (io' : List Addr) (H' : Hp) (cls : Value) (d : Option Addr), Ext io H io' H' → HpRp X.K om io' H' h' → XR X.mg c fs cls d → P cls d H'
theorem PostX.ext {X : Cx} {om : Om} {io io' : List Addr} {H H' : Hp} {h : Hh} {c : String} {fs : List D} {P : Value → Option Addr → Hp → Prop} (x : Ext io H io' H') (q : PostX X om io H h c fs P) : PostX X om io' H' h c fs P := fun i2 H2 cls d y r z => q i2 H2 cls d (x.trans y) r z
theorem PostX.imp {X : Cx} {om : Om} {io : List Addr} {H : Hp} {h : Hh} {c : String} {fs : List D} {P P' : Value → Option Addr → Hp → Prop} (q : PostX X om io H h c fs P) (w : ∀ cls d H', P cls d H' → P' cls d H') : PostX X om io H h c fs P' := fun i2 H2 cls d y r z => w _ _ _ (q i2 H2 cls d y r z)
/-- the def at f lets out what the oracle says -/
def CallXOk (X : Cx) (f : Addr) (F : List D → Hh → R D) : Prop := ∀ (om : Om) (io : List Addr) (H : Hp) (h h' : Hh) (ds : List D) (vs : List V) (c : String) (fs : List D) (W : WX) (σ : L2.St), F ds h = .exc c fs h' → Rps X.K om io H vs ds → HpRp X.K om io H h →
  L2N.Takes X W → PostX X om io H h' c fs (fun cls d H' => W cls d σ H') → ∀ (Q : Value → Shared → Prop) (pins : List (Addr × Obj)) (s : Shared) (us : List Value), Inv X pins σ H s → L2.Vals vs us → wpAny (model X.prog X.w) X.A (call (.ref f) us) Q X.xe s
def SimX (X : Cx) (e : Expr) (ev : Sl → Hh → Option (String × List D × Hh)) : Prop := ∀ (om : Om) (io : List Addr) (H : Hp) (σ : L2.St) (m : Sl) (h : Hh), SlRp X.K om io H σ m → HpRp X.K om io H h → ∀ (c : String) (fs : List D) (h' : Hh), ev m h = some (c, fs, h') →
  ∀ W : WX, L2N.Takes X W → PostX X om io H h' c fs (fun cls d H' => W cls d σ H') → ∀ Q : VK, WE X e σ H Q
/-- .. of a statement that stores nothing before -/
def SimSX (X : Cx) (st : Stmt) (ev : Sl → Hh → Option (String × List D × Hh)) : Prop := ∀ (om : Om) (io : List Addr) (H : Hp) (σ : L2.St) (m : Sl) (h : Hh), SlRp X.K om io H σ m → HpRp X.K om io H h → ∀ (c : String) (fs : List D) (h' : Hh), ev m h = some (c, fs, h') →
  ∀ W : WX, L2N.Takes X W → PostX X om io H h' c fs (fun cls d H' => W cls d σ H') → ∀ D : Ends, WS X st D σ H
/-- .. of statements: whatever the slots -/
def SimSsX (X : Cx) (st : List Stmt) (ev : Sl → Hh → Option (String × List D × Hh)) : Prop := ∀ (om : Om) (io : List Addr) (H : Hp) (σ : L2.St) (m : Sl) (h : Hh), SlRp X.K om io H σ m → HpRp X.K om io H h → ∀ (c : String) (fs : List D) (h' : Hh), ev m h = some (c, fs, h') →
  ∀ W : WX, L2N.Takes X W → PostX X om io H h' c fs (fun cls d H' => ∀ σ', W cls d σ' H') → ∀ D : Ends, WSs X st D σ H
section
variable {X : Cx} {e a b c o i : Expr} {es : List Expr} {ev : Sl → Hh → Option (String × List D × Hh)} {evs : Sl → Hh → R (List D)} {pos p p2 : Pos} {x : Str} {n : Nat}
theorem simX_none : SimX X e (fun _ _ => none) := fun om io H σ m h rs rh c fs h' ee => by cases ee
theorem simSX_none {st : Stmt} : SimSX X st (fun _ _ => none) := fun om io H σ m h rs rh c fs h' ee => by cases ee
/-- f(..) lets an exception out -/
theorem simX_def {f : Addr} {F : List D → Hh → R D} (hg : Gl X x) (hm : X.mg x = some (.ref f)) (hk : PySem.W.keepIn X.K (.ref f) = true) (hd : dbOk x = true) (hF : CallXOk X f F) (hs : noStars (e :: es) = true) (hA : SimA X (e :: es) evs) :
    SimX X (.Call (.Name x p) (e :: es) [] pos) (fun m h => match evs m h with
      | .ok ds h => (match F ds h with
        | .exc c fs h => some (c, fs, h)
        | _ => none)
      | _ => none) := by
  intro om io H σ m h rs rh c fs h' ee W tk q Q
  dsimp only at ee
  split at ee
  · rename_i ds h1 ea
    split at ee
    · rename_i c1 fs1 h2 ef
      injection ee with ee
      injection ee with e1 ee
      injection ee with e2 e3
      subst e1 e2 e3
      simp only [noStars, Bool.and_eq_true] at hs
      intro pins s I
      refine wpAny_Call_Name_kw (L2.ld_glob I hg hm ?_ (db1 hd))
      refine PySem.W.callWith_K (h₀ := X.base) I.ok.mod.kin hk (L2.thn (hA om io H σ m h rs rh ds _ ea (fun vs H1 => ∀ (Q : Value → Shared → Prop) (pins : List (Addr × Obj)) (s : Shared) (us : List Value), Inv X pins σ H1 s → L2.Vals vs us → wpAny (model X.prog X.w) X.A (call (.ref f) us) Q X.xe s)
        (fun io1 H1 vs x1 r1 rvs => hF om io1 H1 h1 h2 ds vs c1 fs1 W σ ef rvs r1 tk (q.ext x1)) pos pins s I) fun us s1 z => ?_) (starE hs.1) (star_any hs.2)
      obtain ⟨vs, H1, I1, r, q1⟩ := z
      exact ⟨I1.kIn, q1 _ pins s1 us I1 r⟩
    · cases ee
  · cases ee
theorem simX_def0 {f : Addr} {F : List D → Hh → R D} (hg : Gl X x) (hm : X.mg x = some (.ref f)) (hk : PySem.W.keepIn X.K (.ref f) = true) (hd : dbOk x = true) (hF : CallXOk X f F) :
    SimX X (.Call (.Name x p) [] [] pos) (fun m h => match (R.ok [] h : R (List D)) with
      | .ok ds h => (match F ds h with
        | .exc c fs h => some (c, fs, h)
        | _ => none)
      | _ => none) := by
  intro om io H σ m h rs rh c fs h' ee W tk q Q pins s I
  dsimp only at ee
  split at ee
  · rename_i c1 fs1 h2 ef
    injection ee with ee
    injection ee with e1 ee
    injection ee with e2 e3
    subst e1 e2 e3
    refine wpAny_Call_Name_kw (L2.ld_glob I hg hm ?_ (db1 hd))
    exact PySem.W.callWith_K0 I.kIn hk (hF om io H h h2 [] [] c1 fs1 W σ ef .nil rh tk q _ pins s [] I .nil)
  · cases ee
/-! ### statements -/
theorem simSX_expr (hs : swapsWith e none pos.line X.env = pure false) (he : SimX X e ev) : SimSX X (.Expr e pos) ev := fun om io H σ m h rs rh c fs h' ee W tk q D => ws_of (L2.ps_expr pe_we hs) (he om io H σ m h rs rh c fs h' ee W tk q _)
theorem simSX_set (hN : X.N.Nodup) (ok : TgOk X x n) (hs : swapsWith e (some (.Name x p)) pos.line X.env = pure false) (he : SimX X e ev) : SimSX X (.Assign [.Name x p] e pos) ev := by
  intro om io H σ m h rs rh c fs h' ee W tk q D
  exact ws_of (L2.ps_set hN ok.1 ok.2.1 pe_we hs ok.2.2) (he om io H σ m h rs rh c fs h' ee W tk q _)
theorem simSX_ret (he : SimX X e ev) : SimSX X (.Return (some e) pos) ev := fun om io H σ m h rs rh c fs h' ee W tk q D => ws_of (L2.ps_ret pe_we) (he om io H σ m h rs rh c fs h' ee W tk q _)
/-! ### raise C() -/
/-- what an own class of errors without a field must have -/
structure XcOk (K : PySem.W.Frag) (C : Addr) : Prop where
  q : PySem.W.excIn K C He.veBase "ValueError.__new__" = true
  kC : PySem.W.keepIn K (.ref C) = true
  ex : PySem.W.subIn K (.ref C) (.type "BaseException") = some true
  ty : PySem.W.typeIn K (.ref C) = some (.type "type")
theorem pmk_own0 {C : Addr} (T : XcOk X.K C) (gC : X.mg x = some (.ref C)) (hg : Gl X x) (hd : dbOk x = true) : L2N.PMk X (.Call (.Name x p) [] [] pos) (fun _ H Q => Q (.ref C) none H) := by
  intro pins s σ H Q I h
  refine wpAny_Call_Name_kw (L2.ld_glob I hg gC ?_ (db1 hd))
  refine PySem.W.callWith_K0 I.kIn T.kC ?_
  show wpAny _ _ (call (.ref C) []) _ _ _
  obtain ⟨bm, N, nm, qn, bs, hdct, sn, sub, ab, col, dd, k0, k1, k2, k3, k5, mN, hC, hN, hni, TT⟩ := L2.exc_obj I.kIn T.q
  refine wpAny_call_exc_subT PySem.F.excBase_ValueError TT hC hN hni (fun h' e hm => ?_) (Nat.zero_le _)
  exact L2N.mk_of I hm (L2.raises_own T.ex T.ty) h (I.hok.gone hm.new)
theorem simSX_raise0 {C : Addr} {c0 : String} (hc : X.calm = true) (T : XcOk X.K C) (gC : X.mg (Str.ofString c0) = some (.ref C)) (hg : Gl X (Str.ofString c0)) (hd : dbOk (Str.ofString c0) = true) :
    SimSX X (.Raise (some (.Call (.Name (Str.ofString c0) p) [] [] p2)) none pos) (fun _ h => some (c0, [], h)) := by
  intro om io H σ m h rs rh c fs h' ee W tk q D
  injection ee with ee
  injection ee with e1 ee
  injection ee with e2 e3
  subst e1 e2 e3
  exact ws_of (L2N.ps_raise hc tk (pmk_own0 T gC hg hd)) (q io H _ _ .refl rh ⟨C, gC, rfl, rfl, rfl⟩)
/-! ### statements one after another -/
theorem simSsX_nil : SimSsX X [] (fun _ _ => none) := fun om io H σ m h rs rh c fs h' ee => by cases ee
/-- .. of a statement: whatever the slots -/
def SimSXA (X : Cx) (st : Stmt) (ev : Sl → Hh → Option (String × List D × Hh)) : Prop := ∀ (om : Om) (io : List Addr) (H : Hp) (σ : L2.St) (m : Sl) (h : Hh), SlRp X.K om io H σ m → HpRp X.K om io H h → ∀ (c : String) (fs : List D) (h' : Hh), ev m h = some (c, fs, h') →
  ∀ W : WX, L2N.Takes X W → PostX X om io H h' c fs (fun cls d H' => ∀ σ', W cls d σ' H') → ∀ D : Ends, WS X st D σ H
theorem SimSX.all {st : Stmt} (s : SimSX X st ev) : SimSXA X st ev := fun om io H σ m h rs rh c fs h' ee W tk q D => s om io H σ m h rs rh c fs h' ee W tk (q.imp fun _ _ _ z => z σ) D
theorem simSXA_ite {p q : List Stmt} {evt : Sl → Hh → R Bool} {ea eb : Sl → Hh → Option (String × List D × Hh)} (hc : SimT X c evt) (ha : SimSsX X p ea) (hb : SimSsX X q eb) : SimSXA X (.If c p q pos) (fun σ h => match evt σ h with
    | .ok k h => if k then ea σ h else eb σ h
    | _ => none) := by
  intro om io H σ m h rs rh c fs h' ee W tk qq D
  dsimp only at ee
  split at ee
  · rename_i k h1 ek
    refine ws_of (L2.ps_if pt_wt pss_wss pss_wss) (hc om io H σ m h rs rh k _ ek _ fun io1 H1 x1 r1 => ?_)
    cases k with
    | true => exact ha om io1 H1 σ m h1 (rs.ext x1) r1 c fs h' ee W tk (qq.ext x1) D
    | false => exact hb om io1 H1 σ m h1 (rs.ext x1) r1 c fs h' ee W tk (qq.ext x1) D
  · cases ee
theorem simSsX_cons {st : Stmt} {rest : List Stmt} {ev1 : Sl → Hh → R Fl} {evr xs : Sl → Hh → Option (String × List D × Hh)} (h1 : SimS X st ev1) (h2 : SimSsX X rest evr) (h3 : SimSXA X st xs) : SimSsX X (st :: rest) (fun σ h => match ev1 σ h with
    | .ok (.nx σ) h => evr σ h
    | .exc _ _ _ => xs σ h
    | _ => none) := by
  intro om io H σ m h rs rh c fs h' ee W tk q D
  dsimp only at ee
  split at ee
  · rename_i m1 h1' eg
    refine wss_of (L2.pss_cons ps_ws pss_wss) (h1 om io H σ m h rs rh (.nx m1) h1' eg _ ?_)
    exact fun io1 H1 σ1 x1 r1 s1 => h2 om io1 H1 σ1 m1 h1' s1 r1 c fs h' ee W tk (q.ext x1) D
  · exact wss_of (L2.pss_cons ps_ws pss_wss) (h3 om io H σ m h rs rh c fs h' ee W tk q _)
  · cases ee
end
end Mini
end
section
set_option Elab.async false
set_option linter.all false
set_option autoImplicit false
set_option maxRecDepth 100000
/-! SoundX2: the suites of except. -/
namespace Mini
open PySem PySem.Spec PyProof.Rows
open L2 (V Hp HO Key Rd SqL SqT Inv Cx RelV upd upd_same upd_ne Same WX VK TE TT TA TO TI TG TGs It XK OpR UnR CallR R2 EP TP AP SP PE PT PW PA PO PS PSs PG PGs PI PIE PTs Dp DpAll MtR MtM IxR SlR PSet PIp Gl Vis Loc Ends TS)
section
variable {X : Cx} {a D : Addr} {oe : Obj} {pn : List (Addr × Obj)}
/-- isinstance(e, (c1, c2, ..)), e the exception that the suite holds -/
def rIsET (K : PySem.W.Frag) (D a : Addr) : List V → Hp → VK → Prop := fun xs H Q => ∃ (tp : Addr) (cs : List V) (us : List Value) (b : Bool), xs = [.ref a, .ref tp] ∧ H tp = some (.tup cs) ∧ PySem.Paired L2.ClsV cs us ∧ PySem.W.kitAny K (.ref D) us = some b ∧ Q (.bl b) H
theorem call_isET (C : L2.ExcC X.K D) (hz : L2.Zc (.ref D) none oe) (hf : ∃ vs, oe.data = .fields vs) : CallR (X.suite a ((a, oe) :: pn)) (.builtin "isinstance") (rIsET X.K D a) := by
  intro pins s σ H xs us Q I r h
  obtain ⟨tp, cs, ws, b, rfl, hT, k, e, q⟩ := h
  cases r with
  | cons rx rr =>
    cases rr with
    | cons rt rr =>
      cases rr
      cases rx
      rename_i u2
      cases (show u2 = Value.ref tp from rt)
      obtain ⟨hget, _⟩ := I.pin (a, oe) (List.mem_append.mpr (.inl List.mem_cons_self))
      obtain ⟨vs, hv⟩ := hf
      have J : PySem.W.InstAt s.heap a oe D none := by
        obtain ⟨oc, od, oda, osl⟩ := oe
        obtain ⟨h1, h2⟩ := hz
        dsimp only at h1 h2 hv
        subst h1 h2 hv
        exact ⟨hget, rfl, rfl, trivial⟩
      obtain ⟨_, its, rv, o, h1, h2, n, h3⟩ := (show L2.ObjOk X.prog X.w H s.heap tp (.tup cs) from I.hok tp _ hT)
      have e3 := L2.ClsV.all k rv
      subst e3
      obtain ⟨oc, od, dt, sl⟩ := o
      simp only at h2 h3
      subst h2 h3
      exact PySem.W.kia_tup (PySem.W.handS_kitx_exc C.hg C.hk C.hs C.hd C.ha C.hn C.ht C.hm) I.kIn J h1 e (fun z => nomatch z) fun tk => ⟨.bl b, H, I.tok tk, rfl, q⟩
end
/-- a condition of the suite, slot i holding the exception -/
def CuE (Y : Cx) (i : Nat) (a : Addr) (e : Expr) (b : Bool) : Prop := ∀ (om : Om) (io : List Addr) (H : Hp) (σ : L2.St) (h : Hh), HpRp Y.K om io H h → σ[i]? = some (some (.ref a)) → ∀ Q : VK, (∀ (io' : List Addr) (H' : Hp), Ext io H io' H' → HpRp Y.K om io' H' h → Q (.bl b) H') → WE Y e σ H Q
def CuT (Y : Cx) (i : Nat) (a : Addr) (e : Expr) (b : Bool) : Prop := ∀ (om : Om) (io : List Addr) (H : Hp) (σ : L2.St) (h : Hh), HpRp Y.K om io H h → σ[i]? = some (some (.ref a)) → ∀ Q : Bool → Hp → Prop, (∀ (io' : List Addr) (H' : Hp), Ext io H io' H' → HpRp Y.K om io' H' h → Q b H') → WT Y e σ H Q
section
variable {X Y : Cx} {a CC : Addr} {oe : Obj} {pn : List (Addr × Obj)} {i : Nat} {e e2 : Expr} {b b2 : Bool} {x : Str} {pos p p2 p3 : Pos}
theorem cuT_not (h : CuT Y i a e b) : CuT Y i a (.UnaryOp .Not e pos) (!b) := fun om io H σ h' rh hs Q q => wt_of (L2.pt_not pt_wt) (h om io H σ h' rh hs _ q)
theorem CuE.t (hp : Plain Y e) (h : CuE Y i a e b) : CuT Y i a e b := fun om io H σ h' rh hs Q q =>
  wt_of (L2.pt_truth pe_we hp) (h om io H σ h' rh hs _ fun io1 H1 x1 r1 => ⟨b, tru_ok (h := h') (x := .bl b) rfl (.bl b) r1, q io1 H1 x1 r1⟩)
theorem cuT_and2 (h1 : CuT Y i a e b) (h2 : CuT Y i a e2 b2) : CuT Y i a (.BoolOp .And [e, e2] pos) (b && b2) := fun om io H σ h' rh hs Q q whole pins s I _ => by
  refine (L2.pw_and pt_wt (L2.pw_and1 pt_wt)).run whole pins s σ H Q I (h1 om io H σ h' rh hs _ fun io1 H1 x1 r1 => ?_)
  cases b with
  | true => exact h2 om io1 H1 σ h' r1 hs Q fun io2 H2 x2 r2 => q io2 H2 (x1.trans x2) r2
  | false => exact q io1 H1 x1 r1
/-- isinstance(e, C) in the suite -/
theorem cuE_isi {n cn : Str} {cV : V} {cv : Value} (C : L2.ExcC X.K CC) (hz : L2.Zc (.ref CC) none oe) (hf : ∃ vs, oe.data = .fields vs) (hN : X.N[i]? = some n) (hvis : Vis X.env.scope n) (hd : (n == ("__debug__" : Str)) = false) (hcd : (n == ("__classdict__" : Str)) = false)
    (hv : Blt X (PySem.Str.ofString "isinstance") (.builtin "isinstance")) (hc : PE (X.suite a ((a, oe) :: pn)) (.Name cn p3) (L2.tC cV)) (hcv : ∀ u, RelV cV u → u = cv) (hk : PySem.W.kitOne X.K (.ref CC) cv = some b) :
    CuE (X.suite a ((a, oe) :: pn)) i a (.Call (.Name (PySem.Str.ofString "isinstance") p) [.Name n p2, .Name cn p3] [] pos) b := fun om io H σ h' rh hs Q q =>
  we_of (L2.pe_callB (X := X.suite a ((a, oe) :: pn)) (L2.call_isE C hz hf) hv.gl hv.mg hv.boot (L2.pa_cons (L2.pe_var hN hvis hd hcd) (L2.pa_cons hc L2.pa_nil (starE rfl)) (starE rfl)) (db3 hv.db) (db1 hv.db) (starE rfl) (star_any rfl))
    ⟨_, hs, _, cv, b, rfl, hcv, hk, q io H .refl rh⟩
/-- isinstance(e, (C1, C2, ..)) in the suite -/
theorem cuE_isiT {n : Str} {cs : List Expr} {cVs : List V} {cvs : List Value} {k : Nat} {ta : TA} (C : L2.ExcC X.K CC) (hz : L2.Zc (.ref CC) none oe) (hf : ∃ vs, oe.data = .fields vs) (hN : X.N[i]? = some n) (hvis : Vis X.env.scope n) (hd : (n == ("__debug__" : Str)) = false) (hcd : (n == ("__classdict__" : Str)) = false)
    (hv : Blt X (PySem.Str.ofString "isinstance") (.builtin "isinstance")) (hc : PA (X.suite a ((a, oe) :: pn)) cs ta) (ht : ∀ σ H Q, Q cVs H → ta σ H Q) (hl : cVs.length ≤ 100) (hp : PySem.Paired L2.ClsV cVs cvs) (hk : PySem.W.kitAny X.K (.ref CC) cvs = some b) :
    CuE (X.suite a ((a, oe) :: pn)) i a (.Call (.Name (PySem.Str.ofString "isinstance") p) [.Name n p2, .Tuple cs k p3] [] pos) b := fun om io H σ h' rh hs Q q =>
  we_of (L2.pe_callB (X := X.suite a ((a, oe) :: pn)) (call_isET C hz hf) hv.gl hv.mg hv.boot (L2.pa_cons (L2.pe_var hN hvis hd hcd) (L2.pa_cons (L2.pe_tup hc) L2.pa_nil (starE rfl)) (starE rfl)) (db3 hv.db) (db1 hv.db) (starE rfl) (star_any rfl))
    ⟨_, hs, ht _ _ _ ⟨by have := sizeLine_eq; omega, fun pp hpp => ⟨pp, cVs, cvs, b, rfl, upd_same, hp, hk, q io _ (.same (same_new hpp)) (rh.same (same_new hpp))⟩⟩⟩
/-! ### the suite's statements -/
/-- statements of the suite, slot i holding the exception -/
def SuS (Y : Cx) (i : Nat) (a : Addr) (st : List Stmt) (ev : Sl → Option Fl) : Prop := ∀ (om : Om) (io : List Addr) (H : Hp) (σ : L2.St) (m : Sl) (h : Hh), SlRp Y.K om io H σ m → HpRp Y.K om io H h → σ[i]? = some (some (.ref a)) → ∀ f, ev m = some f → ∀ D : Ends,
  (∀ m', f = .nx m' → ∀ (io' : List Addr) (H' : Hp) (σ' : L2.St), Ext io H io' H' → HpRp Y.K om io' H' h → SlRp Y.K om io' H' σ' m' → σ'[i]? = some (some (.ref a)) → D.nx σ' H') → (∀ d, f = .rt d → PostF Y.K om io H h D (.rt d)) → WSs Y st D σ H
theorem suS_nil : SuS Y i a [] (fun m => some (.nx m)) := fun om io H σ m h rs rh hs f ee D q _ => by
  cases ee
  exact wss_of L2.pss_nil (q m rfl io H σ .refl rh rs hs)
/-- x = constant -/
theorem suS_set {v : Expr} {d : D} {n : Nat} {rest : List Stmt} {evr : Sl → Option Fl} (hN : Y.N.Nodup) (ok : TgOk Y x n) (hw : swapsWith v (some (.Name x p)) pos.line Y.env = pure false) (he : SimE Y v (fun _ h => .ok d h)) (hni : n ≠ i) (hr : SuS Y i a rest evr) :
    SuS Y i a (.Assign [.Name x p] v pos :: rest) (fun m => evr (m.set n (some d))) := by
  intro om io H σ m h rs rh hs f ee D q q2
  refine wss_of (L2.pss_cons (L2.ps_set hN ok.1 ok.2.1 pe_we hw ok.2.2) pss_wss) (he om io H σ m h rs rh d h rfl _ fun io1 H1 v x1 r1 rv => ?_)
  refine hr om io1 H1 _ _ h ((rs.ext x1).set n rv) r1 (by rw [List.getElem?_set_ne hni]; exact hs) f ee D (fun m' e io2 H2 σ2 x2 r2 s2 h2 => q m' e io2 H2 σ2 (x1.trans x2) r2 s2 h2) fun d e => (q2 d e).ext x1
theorem suS_ite {c : Expr} {cb : Bool} {th rest : List Stmt} {eva evr : Sl → Option Fl} (hc : CuT Y i a c cb) (ha : SuS Y i a th eva) (hr : SuS Y i a rest evr) :
    SuS Y i a (.If c th [] pos :: rest) (fun m => match (if cb then eva m else some (.nx m)) with
      | some (.nx m) => evr m
      | r => r) := by
  intro om io H σ m h rs rh hs f ee D q q2
  refine wss_of (L2.pss_cons (L2.ps_if pt_wt pss_wss L2.pss_nil) pss_wss) (hc om io H σ h rh hs _ fun io1 H1 x1 r1 => ?_)
  have go : ∀ (m1 : Sl), evr m1 = some f → ∀ (io2 : List Addr) (H2 : Hp) (σ2 : L2.St), Ext io1 H1 io2 H2 → HpRp Y.K om io2 H2 h → SlRp Y.K om io2 H2 σ2 m1 → σ2[i]? = some (some (.ref a)) → WSs Y rest D σ2 H2 := fun m1 e1 io2 H2 σ2 x2 r2 s2 h2 =>
    hr om io2 H2 σ2 m1 h s2 r2 h2 f e1 D (fun m' e io3 H3 σ3 x3 r3 s3 h3 => q m' e io3 H3 σ3 ((x1.trans x2).trans x3) r3 s3 h3) fun d e => (q2 d e).ext (x1.trans x2)
  cases cb with
  | true =>
    have ee : (match eva m with
      | some (.nx m) => evr m
      | r => r) = some f := ee
    cases h1 : eva m with
    | none => rw [h1] at ee; cases ee
    | some f1 =>
      rw [h1] at ee
      refine ha om io1 H1 σ m h (rs.ext x1) r1 hs f1 h1 _ (fun m' e io2 H2 σ2 x2 r2 s2 h2 => ?_) fun d e => ?_
      · subst e
        exact go m' ee io2 H2 σ2 x2 r2 s2 h2
      · subst e
        have ef : some (Fl.rt d) = some f := ee
        exact (q2 d (Option.some.inj ef).symm).ext x1
  | false => exact go m ee io1 H1 σ .refl r1 (rs.ext x1) hs
end
section
variable {X : Cx} {st b₀ : Stmt} {suite : List Stmt} {ev : Sl → Hh → R Fl} {xs : Sl → Hh → Option (String × List D × Hh)} {cx n : Str} {cv : Value} {slot : Nat} {np pos' pos : Pos} {takes : List String} {evS : String → List D → Sl → Option Fl}
theorem takes_no : L2N.Takes X (fun _ _ _ _ => False) := fun u s' ⟨_, _, _, _, _, _, _, _, _, _, _, _, _, _, _, _, w⟩ => w.elim
theorem slrp_hold {K : PySem.W.Frag} {om : Om} {io : List Addr} {H : Hp} {σ : L2.St} {m : Sl} (i : Nat) (v : V) (r : SlRp K om io H σ m) : SlRp K om io H (σ.set i (some v)) (m.set i none) := by
  refine ⟨by rw [List.length_set, List.length_set]; exact r.1, fun j e hj => ?_⟩
  by_cases hij : i = j
  · subst hij
    by_cases hi : i < m.length
    · rw [List.getElem?_set_self hi] at hj
      cases hj
    · rw [List.getElem?_eq_none (by rw [List.length_set]; omega)] at hj
      cases hj
  · rw [List.getElem?_set_ne hij] at hj
    obtain ⟨u, h1, h2⟩ := r.2 j e hj
    exact ⟨u, by rw [List.getElem?_set_ne hij]; exact h1, h2⟩
theorem simS_try (hst : X.stack = X.env :: X.outer) (hf : X.env.frame = some X.env.locals) (hN : X.N.Nodup) (hi : X.N[slot]? = some n) (hln : X.env.kindOf n = some .local) (hc : L2.Names X cx cv)
    (hb : ∀ (pn : List (Addr × Obj)) (xe : Value → Shared → Prop), PassesOwn (model X.prog X.w) X.A X.env xe → SimS (X.tr pn xe) st ev ∧ SimSX (X.tr pn xe) st xs)
    (hx : ∀ c ∈ takes, ∀ C, X.mg (Str.ofString c) = some (.ref C) → PySem.W.exmOne X.K (.ref C) cv = some true)
    (hsu : ∀ c ∈ takes, ∀ C, X.mg (Str.ofString c) = some (.ref C) → ∀ (a : Addr) (oe : Obj) (pn : List (Addr × Obj)), L2.Zc (.ref C) none oe → (∃ vs, oe.data = .fields vs) → SuS (X.suite a ((a, oe) :: pn)) slot a (b₀ :: suite) (evS c [])) :
    SimS X (.Try [st] [.ExceptHandler (some (.Name cx np)) (some n) (b₀ :: suite) pos'] [] [] pos) (fun σ h => match ev σ h with
      | .ok f h => .ok f h
      | .exc _ _ _ => (match xs σ h with
        | some (c, fs, h) => if c ∈ takes then R.of ((evS c fs (σ.set slot none)).map (unsetF slot)) h else .exc c fs h
        | none => .bad)
      | .bad => .bad) := by
  intro om io H σ m h rs rh f h' ee D q
  refine ws_of (L2N.ps_try_as (tb := fun W D σ H => ∀ (pn : List (Addr × Obj)) (xe : Value → Shared → Prop), L2N.Takes (X.tr pn xe) W → PassesOwn (model X.prog X.w) X.A X.env xe → WSs (X.tr pn xe) [st] D σ H)
    (ts := fun a cls d D σ H => ∀ (oe : Obj) (pn : List (Addr × Obj)), L2N.Zn cls d oe → (∃ vs, oe.data = .fields vs) → WSs (X.suite a ((a, oe) :: pn)) (b₀ :: suite) D σ H)
    (Wout := fun _ _ _ _ => False) hst hf hN hi hln hc takes_no (fun W pn xe tk po => ⟨fun pins s σ H D I h => h pn xe tk po pins s I⟩) (fun a oe cls d pn hz hv => ⟨fun pins s σ H D I h => h oe pn hz hv pins s I⟩)) ?_
  intro pn xe tk po
  obtain ⟨g1, g2⟩ := hb pn xe po
  refine wss_of (L2.pss_cons ps_ws L2.pss_nil) ?_
  dsimp only at ee
  split at ee
  · rename_i f1 h1 e1
    obtain ⟨rfl, rfl⟩ := rok ee
    exact g1 om io H σ m h rs rh f1 h1 e1 _ (by cases f1 <;> exact q)
  · split at ee
    · rename_i c fs h1 e2
      split at ee
      · rename_i hin
        obtain ⟨ed, rfl⟩ := rof ee
        obtain ⟨f1, hf1, rfl⟩ := map_some ed
        refine g2 om io H σ m h rs rh c fs h1 e2 _ tk (fun io1 H1 cls d x1 r1 xr => ?_) _
        obtain ⟨C, hC, rfl, rfl, rfl⟩ := xr
        refine ⟨true, hx c hin C hC, fun _ a ha oe pn hz hv pins s I => ?_, fun z => by cases z⟩
        have hl : slot < σ.length := by
          have z : (σ.set slot (some (V.ref a))).length = X.N.length := I.len
          rw [List.length_set] at z
          obtain ⟨w, _⟩ := List.getElem?_eq_some_iff.mp hi
          omega
        refine hsu c hin C hC a oe pn hz.zc hv om io1 H1 _ _ h1 (slrp_hold slot (.ref a) (rs.ext x1)) r1 (List.getElem?_set_self hl) f1 hf1 _ (fun m' e io2 H2 σ2 x2 r2 s2 h2 => ?_) (fun d e => ?_) pins s I
        · subst e
          exact q io2 H2 (σ2.set slot none) (x1.trans x2) r2 (slrp_none slot s2)
        · subst e
          exact fun io2 H2 v x2 r2 rv => q io2 H2 v (x1.trans x2) r2 rv
      · cases ee
    · cases ee
  · cases ee
end
end Mini
end
section
set_option Elab.async false
set_option linter.all false
set_option autoImplicit false
set_option maxRecDepth 100000
/-! Sound13: the checker of expressions and what it is good for. -/
namespace Mini
open PySem PySem.Spec PyProof.Rows
open L2 (V Hp HO Key Rd SqL SqT Inv Cx RelV upd upd_same upd_ne Same WX VK TE TT TA TO TI TG TGs It XK OpR UnR CallR R2 EP TP AP SP PE PT PW PA PO PS PSs PG PGs PI PIE PTs Dp DpAll MtR MtM IxR SlR PSet PIp Gl Vis Loc Ends TS)

/-- own classes of errors: those that are raised; each class that is asked for with those of them that are of it -/
structure XInfo where
  cs : List String
  ts : List (String × List String)
structure XFacts (K : PySem.W.Frag) (mg : Str → Option Value) (xs : XInfo) : Prop where
  ok : ∀ c ∈ xs.cs, ∃ C, mg (Str.ofString c) = some (.ref C) ∧ XcOk K C ∧ L2.ExcC K C
  sub : ∀ p ∈ xs.ts, ∃ T, mg (Str.ofString p.1) = some (.ref T) ∧ ∀ c ∈ xs.cs, ∀ C, mg (Str.ofString c) = some (.ref C) → PySem.W.exmOne K (.ref C) (.ref T) = some (decide (c ∈ p.2)) ∧ PySem.W.kitOne K (.ref C) (.ref T) = some (decide (c ∈ p.2))
theorem xfacts_none {K : PySem.W.Frag} {mg : Str → Option Value} : XFacts K mg ⟨[], []⟩ := ⟨(fun _ h => by cases h), (fun _ h => by cases h)⟩
/-- what the checker knows: the slots' names, the scope, names that may be set though they are cells, the defs, built-in names, constants of the module -/
structure Ck where
  N : List Str
  sc : Scope
  fB : Str → Bool
  fns : List String
  blts : List Str
  gvs : List (Str × D)
  xs : XInfo
def Ck.blk (ck : Ck) (scope : Scope) : Ck := { ck with sc := L2.relS scope ck.sc, fB := fun x => scope.names.lookup x == some .cell }

structure Site (C : Oracle) (ck : Ck) (X : Cx) : Prop where
  N : X.N = ck.N
  nd : X.N.Nodup
  sc : X.env.scope = ck.sc
  fB : ∀ x, ck.fB x = true → X.fn x = true
  calm : X.calm = true
  units : X.A.units + 65 < cLine
  guards : X.A.guards = some []
  fns : ∀ f ∈ ck.fns, ∃ a, X.mg (Str.ofString f) = some (.ref a) ∧ PySem.W.keepIn X.K (.ref a) = true ∧
    ∀ Y : Cx, Y.prog = X.prog → Y.w = X.w → Y.K = X.K → Y.mg = X.mg → Y.base = X.base → Y.A = X.A → Y.stack = X.stack → Y.calm = true → CallOk Y a (C f) ∧ CallXOk Y a (C f)
  blts : ∀ x ∈ ck.blts, X.mg x = none
  gvs : ∀ p ∈ ck.gvs, GlV X.mg p.1 p.2
  sys : SysK X.K
  xf : XFacts X.K X.mg ck.xs

theorem Site.blk {C : Oracle} {ck : Ck} {X : Cx} (S : Site C ck X) (scope : Scope) : Blk X scope fun Y => Site C (ck.blk scope) Y := fun s H D cl fp =>
  ⟨S.N, S.nd, by show L2.relS scope X.env.scope = _; rw [S.sc]; rfl, fun x h => h, S.calm, S.units, S.guards, fun f hf => by
    obtain ⟨a, h1, h2, h3⟩ := S.fns f hf
    exact ⟨a, h1, h2, fun Y e1 e2 e3 e4 e5 e6 e7 e8 => h3 Y e1 e2 e3 e4 e5 e6 e7 e8⟩, S.blts, S.gvs, S.sys, S.xf⟩
theorem Site.tr {C : Oracle} {ck : Ck} {X : Cx} (S : Site C ck X) (pn : List (Addr × Obj)) (xe : Value → Shared → Prop) : Site C ck (X.tr pn xe) := ⟨S.N, S.nd, S.sc, S.fB, S.calm, S.units, S.guards, S.fns, S.blts, S.gvs, S.sys, S.xf⟩

def visB (sc : Scope) (x : Str) : Bool := match sc.names.lookup x with
  | some .local => true
  | some .cell => true
  | some .free => true
  | _ => false
def glB (sc : Scope) (x : Str) : Bool := match sc.names.lookup x with
  | some .globalImplicit => true
  | _ => false
def setB (ck : Ck) (x : Str) : Bool := match ck.sc.names.lookup x with
  | some .local => true
  | some .cell => ck.fB x
  | _ => false
theorem vis_of {C : Oracle} {ck : Ck} {X : Cx} (S : Site C ck X) {x : Str} (h : visB ck.sc x = true) : Vis X.env.scope x := by
  unfold visB at h
  rw [S.sc]
  split at h
  · rename_i q; exact .inl q
  · rename_i q; exact .inr (.inl q)
  · rename_i q; exact .inr (.inr q)
  · cases h
theorem gl_of {C : Oracle} {ck : Ck} {X : Cx} (S : Site C ck X) {x : Str} (h : glB ck.sc x = true) : Gl X x := by
  unfold glB at h
  show X.env.scope.names.lookup x = _
  rw [S.sc]
  split at h
  · rename_i q; exact q
  · cases h
def tgB (ck : Ck) (x : Str) (i : Nat) : Bool := decide (ck.N[i]? = some x) && setB ck x
theorem tg_of {C : Oracle} {ck : Ck} {X : Cx} (S : Site C ck X) {x : Str} {i : Nat} (h : tgB ck x i = true) : TgOk X x i := by
  simp only [tgB, Bool.and_eq_true, decide_eq_true_eq] at h
  obtain ⟨h1, h2⟩ := h
  unfold setB at h2
  refine ⟨by rw [S.N]; exact h1, ?_⟩
  rw [S.sc]
  split at h2
  · rename_i q; exact ⟨.inl q, .inr q⟩
  · rename_i q; exact ⟨.inr q, .inl (S.fB x h2)⟩
  · cases h2
def tgsB (ck : Ck) : List Expr → List Nat → Bool
  | [], [] => true
  | e :: es, i :: is => (match e with
    | .Name x _ => tgB ck x i
    | _ => false) && tgsB ck es is
  | _, _ => false
theorem tgs_of {C : Oracle} {ck : Ck} {X : Cx} (S : Site C ck X) : ∀ {es : List Expr} {is : List Nat}, tgsB ck es is = true → TgsOk X es is
  | [], [], _ => trivial
  | [], _ :: _, h => by simp [tgsB] at h
  | _ :: _, [], h => by simp [tgsB] at h
  | e :: es, i :: is, h => by
    simp only [tgsB, Bool.and_eq_true] at h
    obtain ⟨h1, h2⟩ := h
    cases e with
    | Name x p => exact ⟨tg_of S h1, tgs_of S h2⟩
    | _ => cases h1
/-- a built-in name that the module does not use otherwise -/
def bltB (ck : Ck) (x : Str) : Bool := glB ck.sc x && decide (x ∈ ck.blts)
theorem blt_of {C : Oracle} {ck : Ck} {X : Cx} (S : Site C ck X) {x : Str} {v : Value} (h : bltB ck x = true) (hb : bootBuiltins x = some v) (hd : dbOk x = true) : Blt X x v := by
  simp only [bltB, Bool.and_eq_true, decide_eq_true_eq] at h
  exact ⟨gl_of S h.1, S.blts x h.2, hb, hd⟩
theorem boot_bi (f : Bi) {n : Str} {v : Value} (h : biV f = some (n, v)) : bootBuiltins n = some v ∧ dbOk n = true := by
  cases f <;> cases h <;> exact ⟨by decide +kernel, by decide +kernel⟩
theorem boot_bi2 (f : Bi2) : bootBuiltins (bi2V f).1 = some (bi2V f).2 ∧ dbOk (bi2V f).1 = true := by
  cases f <;> exact ⟨by decide +kernel, by decide +kernel⟩
theorem boot_ty (t : Ty) : bootBuiltins (PySem.Str.ofString (tyS t)) = some (.type (tyS t)) ∧ dbOk (PySem.Str.ofString (tyS t)) = true := by
  cases t <;> exact ⟨by decide +kernel, by decide +kernel⟩
theorem boot_isi : bootBuiltins (PySem.Str.ofString "isinstance") = some (.builtin "isinstance") ∧ dbOk (PySem.Str.ofString "isinstance") = true := ⟨by decide +kernel, by decide +kernel⟩
theorem boot_rng : bootBuiltins (PySem.Str.ofString "range") = some (.type "range") ∧ dbOk (PySem.Str.ofString "range") = true := ⟨by decide +kernel, by decide +kernel⟩
theorem boot_enum : bootBuiltins (PySem.Str.ofString "enumerate") = some (.type "enumerate") ∧ dbOk (PySem.Str.ofString "enumerate") = true := ⟨by decide +kernel, by decide +kernel⟩
theorem boot_zip : bootBuiltins (PySem.Str.ofString "zip") = some (.type "zip") ∧ dbOk (PySem.Str.ofString "zip") = true := ⟨by decide +kernel, by decide +kernel⟩
theorem boot_rev : bootBuiltins (PySem.Str.ofString "reversed") = some (.type "reversed") ∧ dbOk (PySem.Str.ofString "reversed") = true := ⟨by decide +kernel, by decide +kernel⟩

def notSlice : Expr → Bool
  | .Slice .. => false
  | _ => true
theorem plainIx_of {b : Expr} (h : notSlice b = true) : L2.PlainIx b := by
  intro o i
  cases b <;> first | rfl | cases h
def notSet : Expr → Bool
  | .Set .. => false
  | _ => true
theorem notSet_of {e : Expr} {env : Env} (h : notSet e = true) : ∀ x, foldedSetIterable e env x = pure x := by
  intro x
  cases e <;> first | rfl | cases h
def gvB : List (Str × D) → Str → D → Bool
  | [], _, _ => false
  | p :: r, x, d => (decide (p.1 = x) && sameD p.2 d) || gvB r x d
theorem gv_of {C : Oracle} {ck : Ck} {X : Cx} (S : Site C ck X) {x : Str} {d : D} (h : gvB ck.gvs x d = true) : GlV X.mg x d := by
  have go : ∀ l : List (Str × D), (∀ p ∈ l, GlV X.mg p.1 p.2) → gvB l x d = true → GlV X.mg x d := by
    intro l
    induction l with
    | nil => intro _ h; cases h
    | cons p r ih =>
      intro hl h
      simp only [gvB, Bool.or_eq_true, Bool.and_eq_true, decide_eq_true_eq] at h
      rcases h with ⟨h1, h2⟩ | h
      · rw [← h1, ← sameD_eq _ _ h2]
        exact hl p List.mem_cons_self
      · exact ih (fun q hq => hl q (List.mem_cons_of_mem _ hq)) h
  exact go ck.gvs S.gvs h
def cmMarkB (op : Cm) (b : Expr) : Bool := cmMark op b

def ownP (ck : Ck) (own : List Nat) : List (Str × Nat) := own.map fun i => (ck.N[i]?.getD Str.empty, i)
theorem ownP_snd (ck : Ck) (own : List Nat) : (ownP ck own).map (·.2) = own := by
  unfold ownP
  rw [List.map_map]
  exact List.map_id own
def tgtB (ck : Ck) : Tg → Expr → Bool
  | .var i, e => match e with
    | .Name x _ => tgB ck x i
    | _ => false
  | .vars is, e => match e with
    | .Tuple es _ _ => tgsB ck es is
    | _ => false
theorem tgt_of {C : Oracle} {ck : Ck} {X : Cx} (S : Site C ck X) {t : Tg} {e : Expr} (h : tgtB ck t e = true) : SimG X e t := by
  cases t with
  | var i => cases e with
    | Name x p => exact simG_var S.nd (tg_of S h)
    | _ => cases h
  | vars is => cases e with
    | Tuple es k p => exact simG_vars S.calm S.nd (tgs_of S h)
    | _ => cases h

/-- a new list's expression -/
def isNew : ME → Bool
  | .lst _ => true
  | .lc .. => true
  | .rgl _ => true
  | .rgl2 _ _ => true
  | .bi .list _ => true
  | .bi .sorted _ => true
  | .bi .sortedLen _ => true
  | .bi .sortedSet _ => true
  | .bin .add _ _ => true
  | .bin .mul _ _ => true
  | .slice _ _ _ => true
  | .rev _ => true
  | _ => false
/-- {}, {'a': 1} -/
def dctB (d : D) (ks : List (Option Expr)) (vs : List Expr) : Bool := match ks, vs with
  | [], [] => (match d with
    | .dct [] => true
    | _ => false)
  | [some (.Constant (.str z) _ _)], [.Constant (.int i) _ _] => (match d with
    | .dct [(['a'], 1)] => decide (z = S ['a']) && decide (i = 1)
    | _ => false)
  | _, _ => false
def cstB : D → Const → Bool
  | .int i, c => match c with
    | .int j => decide (i = j)
    | _ => false
  | .bl i, c => match c with
    | .bool j => i == j
    | _ => false
  | .non, c => match c with
    | .none => true
    | _ => false
  | .str s, c => match c with
    | .str z => decide (z = S s)
    | _ => false
  | _, _ => false

def opB (op : Op) (o : Operator) : Bool := match op, o with
  | .add, .Add => true
  | .sub, .Sub => true
  | .mul, .Mult => true
  | .mod, .Mod => true
  | .fdiv, .FloorDiv => true
  | .pow, .Pow => true
  | .band, .BitAnd => true
  | .shl, .LShift => true
  | .shr, .RShift => true
  | _, _ => false
theorem op_of {op : Op} {o : Operator} (h : opB op o = true) : o = opOf op := by
  cases op <;> cases o <;> first | rfl | cases h
def cmB (op : Cm) (o : CmpOp) : Bool := match op, o with
  | .eq, .Eq => true
  | .ne, .NotEq => true
  | .lt, .Lt => true
  | .le, .LtE => true
  | .gt, .Gt => true
  | .ge, .GtE => true
  | .isn, .Is => true
  | .notn, .IsNot => true
  | .inn, .In => true
  | .nin, .NotIn => true
  | _, _ => false
theorem cm_of {op : Cm} {o : CmpOp} (h : cmB op o = true) : o = cmOf op := by
  cases op <;> cases o <;> first | rfl | cases h

def quietE : ME → Bool
  | .var _ => true
  | .cst _ => true
  | _ => false
def quietEs : MEs → Bool
  | .cons a (.cons b .nil) => quietE a && quietE b
  | _ => false
theorem quiet_h {C : String → List D → Hh → R D} {m : ME} (h : quietE m = true) : ∀ σ h y h', evalE C m σ h = .ok y h' → h' = h := fun σ h y h' e => by
  cases m with
  | var i =>
    rw [evalE] at e
    split at e <;> first | (cases e; rfl) | cases e
  | cst d =>
    rw [evalE] at e
    cases e
    rfl
  | _ => cases h
mutual
def chkE : ME → Ck → Expr → Bool
  | .var i, ck, e => match e with
    | .Name x _ => decide (ck.N[i]? = some x) && (visB ck.sc x && dbOk x)
    | _ => false
  | .cst d, _, e => match e with
    | .Constant c _ _ => cstB d c
    | .Dict ks vs _ => dctB d ks vs
    | _ => false
  | .glb _ d, ck, e => match e with
    | .Name x _ => glB ck.sc x && (dbOk x && gvB ck.gvs x d)
    | _ => false
  | .tup es, ck, e => match e with
    | .Tuple xs _ _ => decide (mesLen es ≤ lim) && (noStars xs && chkEs es ck xs)
    | _ => false
  | .lst es, ck, e => match e with
    | .List xs _ => decide (mesLen es ≤ lim) && (noStars xs && chkEs es ck xs)
    | _ => false
  | .new m, ck, e => isNew m && chkE m ck e
  | .newK, _, e => match e with
    | .Dict [] [] _ => true
    | _ => false
  | .newT, _, e => match e with
    | .Dict [] [] _ => true
    | _ => false
  | .bin op a b, ck, e => match e with
    | .BinOp x o y _ => opB op o && (chkE a ck x && chkE b ck y)
    | _ => false
  | .neg a, ck, e => match e with
    | .UnaryOp .USub x _ => chkE a ck x
    | _ => false
  | .cmp op a b, ck, e => match e with
    | .Compare x [o] [y] _ => cmB op o && (cmMark op y && (chkE a ck x && chkE b ck y))
    | _ => false
  | .chain op op' a b c, ck, e => match e with
    | .Compare x [o, o'] [y, z] _ => (cmB op o && cmB op' o') && (!lastMarks [cmOf op, cmOf op'] [y, z] && (chkE a ck x && (chkE b ck y && chkE c ck z)))
    | _ => false
  | .and es, ck, e => match e with
    | .BoolOp .And xs _ => chkEs es ck xs
    | _ => false
  | .or es, ck, e => match e with
    | .BoolOp .Or xs _ => chkEs es ck xs
    | _ => false
  | .not a, ck, e => match e with
    | .UnaryOp .Not x _ => chkE a ck x
    | _ => false
  | .ite c a b, ck, e => match e with
    | .IfExp z x y _ => chkE c ck z && (chkE a ck x && chkE b ck y)
    | _ => false
  | .idx a i, ck, e => match e with
    | .Subscript x y _ => notSlice y && (chkE a ck x && chkE i ck y)
    | _ => false
  | .slice a lo hi, ck, e => match e with
    | .Subscript x (.Slice l u none _) _ => chkE a ck x && (chkO lo ck l && chkO hi ck u)
    | _ => false
  | .rev a, ck, e => match e with
    | .Subscript x (.Slice none none (some (.UnaryOp .USub (.Constant (.int 1) _ _) _)) _) _ => chkE a ck x
    | _ => false
  | .lc own t it c m, ck, e => match e with
    | .ListComp y [⟨tg, iter, ifs, k⟩] scope _ => decide (k = 0) && (L2.blkC ck.N ck.sc scope (ownP ck own) && (notSet iter && ((tgIxs t).all (fun i => decide (i ∈ own)) && (tgtB (ck.blk scope) t tg && (chkI it ck tg iter && (chkC c (ck.blk scope) ifs && chkE m (ck.blk scope) y))))))
    | _ => false
  | .rgl a, ck, e => match e with
    | .Call (.Name f _) [.Call (.Name g _) [x] [] _] [] _ => decide (f = PySem.Str.ofString "list") && (decide (g = PySem.Str.ofString "range") && (bltB ck f && (bltB ck g && (notStar x && chkE a ck x))))
    | _ => false
  | .rgl2 a b, ck, e => match e with
    | .Call (.Name f _) [.Call (.Name g _) [x, y] [] _] [] _ => decide (f = PySem.Str.ofString "list") && (decide (g = PySem.Str.ofString "range") && (bltB ck f && (bltB ck g && (notStar x && (notStar y && (chkE a ck x && chkE b ck y))))))
    | _ => false
  | .rgt a, ck, e => match e with
    | .Call (.Name f _) [.Call (.Name g _) [x] [] _] [] _ => decide (f = PySem.Str.ofString "tuple") && (decide (g = PySem.Str.ofString "range") && (bltB ck f && (bltB ck g && (notStar x && chkE a ck x))))
    | _ => false
  | .rgt2 a b, ck, e => match e with
    | .Call (.Name f _) [.Call (.Name g _) [x, y] [] _] [] _ => decide (f = PySem.Str.ofString "tuple") && (decide (g = PySem.Str.ofString "range") && (bltB ck f && (bltB ck g && (notStar x && (notStar y && (chkE a ck x && chkE b ck y))))))
    | _ => false
  | .isi a ts, ck, e => match e with
    | .Call (.Name f _) [x, y] [] _ => decide (f = PySem.Str.ofString "isinstance") && (bltB ck f && (notStar x && (decide (ts.length ≤ 100) && (ts.all (fun t => bltB ck (PySem.Str.ofString (tyS t))) && (chkE a ck x && (match y with
      | .Name z _ => (match ts with
        | [t] => decide (z = PySem.Str.ofString (tyS t))
        | _ => false)
      | .Tuple zs _ _ => tyEs zs ts
      | _ => false))))))
    | _ => false
  | .bi f a, ck, e => match e with
    | .Call (.Name n _) [x] [] _ => (match biV f with
      | some (m, _) => decide (n = m) && (bltB ck n && (notStar x && ((plainBi f || (decide (f = .list) || decide (f = .sorted))) && chkE a ck x)))
      | none => (match x with
        | .Call (.Name g _) [y] [] _ => decide (g = PySem.Str.ofString "set") && (bltB ck g && (bltB ck n && (notStar y && (((decide (f = .sortedSet) && decide (n = PySem.Str.ofString "sorted")) || (decide (f = .setLen) && decide (n = PySem.Str.ofString "len"))) && chkE a ck y))))
        | _ => false))
    | .Call (.Name n _) [x] [⟨some k, .Name n2 _, _⟩] _ => decide (f = .sortedLen) && (decide (n = PySem.Str.ofString "sorted") && (decide (n2 = PySem.Str.ofString "len") && (decide (k = PySem.Str.ofString "key") && (bltB ck n && (bltB ck n2 && (notStar x && chkE a ck x))))))
    | _ => false
  | .bi2 f a b, ck, e => match e with
    | .Call (.Name n _) [x, y] [] _ => decide (n = (bi2V f).1) && (bltB ck n && (notStar x && (notStar y && (chkE a ck x && chkE b ck y))))
    | _ => false
  | .meth m o as, ck, e => match e with
    | .Call (.Attribute x n ap) [y] [] p => ((decide (m = .join) && decide (n = PySem.Str.ofString "join")) || ((decide (m = .index) && decide (n = PySem.Str.ofString "index")) || (decide (m = .count) && decide (n = PySem.Str.ofString "count")))) && ((baseOk x && ((ap.endLine == p.line) && (notStar y && (chkE o ck x && chkEs as ck [y])))))
    | .Call (.Attribute x n ap) [y, z] [] p => decide (m = .get2) && (decide (n = PySem.Str.ofString "get") && (quietEs as && (baseOk x && ((ap.endLine == p.line) && (notStar y && (notStar z && (chkE o ck x && chkEs as ck [y, z])))))))
    | _ => false
  | .mut m o as, ck, e => match e with
    | .Call (.Attribute x n ap) ys [] p => decide (n = muN m) && (baseOk x && ((ap.endLine == p.line) && (noStars ys && (decide (ys.length < 30) && (chkE o ck x && chkEs as ck ys)))))
    | _ => false
  | .call f as, ck, e => match e with
    | .Call (.Name n _) ys [] _ => decide (n = PySem.Str.ofString f) && (glB ck.sc n && (dbOk n && (decide (f ∈ ck.fns) && (noStars ys && chkEs as ck ys))))
    | _ => false
  | .bad, _, _ => true
def chkEs : MEs → Ck → List Expr → Bool
  | .nil, _, xs => match xs with
    | [] => true
    | _ => false
  | .cons m ms, ck, xs => match xs with
    | [] => false
    | x :: xs => chkE m ck x && chkEs ms ck xs
def chkO : MO → Ck → Option Expr → Bool
  | .none, _, o => match o with
    | none => true
    | _ => false
  | .some m, ck, o => match o with
    | some x => chkE m ck x
    | none => false
def chkC : MO → Ck → List Expr → Bool
  | .none, _, xs => match xs with
    | [] => true
    | _ => false
  | .some m, ck, xs => match xs with
    | [x] => chkE m ck x
    | _ => false
def chkI : MI → Ck → Expr → Expr → Bool
  | .seq m, ck, _, e => chkE m ck e
  | .rng1 a, ck, _, e => match e with
    | .Call (.Name g _) [x] [] _ => decide (g = PySem.Str.ofString "range") && (bltB ck g && (notStar x && chkE a ck x))
    | _ => false
  | .rng2 a b, ck, _, e => match e with
    | .Call (.Name g _) [x, y] [] _ => decide (g = PySem.Str.ofString "range") && (bltB ck g && (notStar x && (notStar y && (chkE a ck x && chkE b ck y))))
    | _ => false
  | .enum a, ck, tg, e => match e with
    | .Call (.Name g _) [x] [] _ => (match tg with
      | .Tuple .. => decide (g = PySem.Str.ofString "enumerate") && (bltB ck g && (notStar x && chkE a ck x))
      | _ => false)
    | _ => false
  | .zip a b, ck, tg, e => match e with
    | .Call (.Name g _) [x, y] [] _ => (match tg with
      | .Tuple .. => decide (g = PySem.Str.ofString "zip") && (bltB ck g && (notStar x && (notStar y && (chkE a ck x && chkE b ck y))))
      | _ => false)
    | _ => false
  | .rev a, ck, _, e => match e with
    | .Call (.Name g _) [x] [] _ => decide (g = PySem.Str.ofString "reversed") && (bltB ck g && (notStar x && chkE a ck x))
    | _ => false
  | .revr a, ck, _, e => match e with
    | .Call (.Name g _) [.Call (.Name g2 _) [x] [] _] [] _ => decide (g = PySem.Str.ofString "reversed") && (decide (g2 = PySem.Str.ofString "range") && (bltB ck g && (bltB ck g2 && (notStar x && chkE a ck x))))
    | _ => false
end
end Mini
end
section
set_option Elab.async false
set_option linter.all false
set_option autoImplicit false
set_option maxRecDepth 100000
/-! SoundK2: the walk over the top, own classes of errors looked at too. -/
namespace Mini
open PySem PySem.Spec PyProof.Rows He
def gcA (K : PySem.W.Frag) (c : String) : Addr := ga K (Str.ofString c)
def xcB (K : PySem.W.Frag) (c : String) : Bool :=
  (Fa.glo (Str.ofString c)).ok K && ((Fa.exc (Str.ofString c)).ok K &&
  (decide (PySem.W.findIn K (.ref (gcA K c)) "__getattribute__" = some (some (.builtin "BaseException.__getattribute__"))) &&
  (decide (PySem.W.findIn K (.ref (gcA K c)) "__getattr__" = some none) &&
  (PySem.W.hasDictIn K (gcA K c) &&
  (decide (PySem.W.findIn K (.ref (gcA K c)) "__class__" = some (some (.builtin "object.__class__"))) &&
  (decide (PySem.W.specialIn K (.builtin "object.__class__") "__get__" = some (some (.builtin "getset_descriptor.__get__"))) &&
  (decide (PySem.W.takesIn K (.builtin "object.__class__") = some true) &&
  decide (PySem.W.mroIn K (gcA K c) (.type "object") = some true))))))))
def xtB (K : PySem.W.Frag) (cs : List String) (p : String × List String) : Bool :=
  (Fa.glo (Str.ofString p.1)).ok K && cs.all fun c => decide (PySem.W.exmOne K (.ref (gcA K c)) (.ref (gcA K p.1)) = some (decide (c ∈ p.2))) && decide (PySem.W.kitOne K (.ref (gcA K c)) (.ref (gcA K p.1)) = some (decide (c ∈ p.2)))
def xinfB (K : PySem.W.Frag) (xs : XInfo) : Bool := xs.cs.all (xcB K) && xs.ts.all (xtB K xs.cs)
theorem xfacts_of {K : PySem.W.Frag} {h : Heap} {mg : Str → Option Value} {xs : XInfo} (X : K.In h) (G : h.Ns mainGlobals mg) (q : xinfB K xs = true) : XFacts K mg xs := by
  unfold xinfB at q
  obtain ⟨q1, q2⟩ := Bool.and_eq_true_iff.mp q
  have glo : ∀ {c : String}, (Fa.glo (Str.ofString c)).ok K = true → mg (Str.ofString c) = some (.ref (gcA K c)) := fun h => glo_ok X G h
  refine ⟨fun c hc => ?_, fun p hp => ?_⟩
  · have z := List.all_eq_true.mp q1 c hc
    unfold xcB at z
    simp only [Bool.and_eq_true, decide_eq_true_eq] at z
    obtain ⟨z1, z2, z3, z4, z5, z6, z7, z8, z9⟩ := z
    have e : (PySem.W.excIn K (gcA K c) veBase "ValueError.__new__" && (PySem.W.keepIn K (.ref (gcA K c)) && (decide (PySem.W.subIn K (.ref (gcA K c)) (.type "BaseException") = some true) && decide (PySem.W.typeIn K (.ref (gcA K c)) = some (.type "type"))))) = true := z2
    simp only [Bool.and_eq_true, decide_eq_true_eq] at e
    obtain ⟨y1, y2, y3, y4⟩ := e
    exact ⟨gcA K c, glo z1, ⟨y1, y2, y3, y4⟩, ⟨z3, z4, y3, z5, z6, z7, z8, z9⟩⟩
  · have z := List.all_eq_true.mp q2 p hp
    unfold xtB at z
    simp only [Bool.and_eq_true, List.all_eq_true, decide_eq_true_eq] at z
    refine ⟨gcA K p.1, glo z.1, fun c hc C hC => ?_⟩
    have z1 := List.all_eq_true.mp q1 c hc
    unfold xcB at z1
    have e := (glo (Bool.and_eq_true_iff.mp z1).1).symm.trans hC
    injection e with e
    injection e with e
    subst e
    exact z.2 c hc
def obsX (n : Nat) (fa : List Fa) (fn : List DefD) (xs : XInfo) (g : Addr → Option Obj) : AlD × Bool := (obsD fa fn (frG g (sysModules :: asD g n)), sysB (frG g (sysModules :: asD g n)) && xinfB (frG g (sysModules :: asD g n)) xs)
def hookX (n : Nat) (fa : List Fa) (fn : List DefD) (xs : XInfo) : PySem.W.Hook where
  α := AlD × Bool
  obs := fun s => obsX n fa fn xs s.heap.get?
  val := fun _ => (valD fn, true)
  says := fun _ h => ∃ K : PySem.W.Frag, K.In h ∧ SaysD fa fn K ∧ SysK K ∧ xinfB K xs = true
  of := fun _ _ e => by
    have z := Bool.and_eq_true_iff.mp (congrArg (fun z : AlD × Bool => z.2) e)
    exact ⟨_, frG_in, congrArg (fun z : AlD × Bool => z.1) e, sysK_of z.1, z.2⟩
  keeps := fun _ _ _ ⟨K, hK, c⟩ k => ⟨K, PySem.W.Frag.In.keeps hK k, c⟩
theorem obsX_eq {n : Nat} {fa : List Fa} {fn : List DefD} {xs : XInfo} {g : Addr → Option Obj} {s : Shared} (h : ∀ a, g a = s.heap.get? a) : obsX n fa fn xs g = (hookX n fa fn xs).obs s := by
  have e : g = s.heap.get? := funext h
  rw [e] <;> rfl
end Mini
end
section
set_option Elab.async false
set_option linter.all false
set_option autoImplicit false
set_option maxRecDepth 100000
/-! Sound14: what the checker lets through is sound: expressions. -/
namespace Mini
open PySem PySem.Spec PyProof.Rows
open L2 (V Hp HO Key Rd SqL SqT Inv Cx RelV upd upd_same upd_ne Same WX VK TE TT TA TO TI TG TGs It XK OpR UnR CallR R2 EP TP AP SP PE PT PW PA PO PS PSs PG PGs PI PIE PTs Dp DpAll MtR MtM IxR SlR PSet PIp Gl Vis Loc Ends TS)

theorem truthR_bl {r : R Bool} : truthR (r.bind fun c h => .ok (.bl c) h) = r := by
  cases r <;> rfl
section
variable {X : Cx} {a b c : Expr} {eva evb evc : Sl → Hh → R D} {pos : Pos}
theorem simT_chain (hu : X.A.units + 65 < cLine) (op op' : Cm) (hm : lastMarks [cmOf op, cmOf op'] [b, c] = false) (ha : SimE X a eva) (hb : SimE X b evb) (hc : SimE X c evc) :
    SimT X (.Compare a [cmOf op, cmOf op'] [b, c] pos) (fun m h => truthR ((eva m h).bind fun x h => (evb m h).bind fun y h => (R.of (cmpD h op x y) h).bind fun k h =>
      if k then (evc m h).bind fun z h => (R.of (cmpD h op' y z) h).bind fun k h => .ok (.bl k) h else .ok (.bl false) h)) := by
  intro om io H σ m h rs rh bb h' ee Q q
  obtain ⟨d, h0, e0, et⟩ := rbind ee
  obtain ⟨et2, rfl⟩ := rof et
  clear ee
  obtain ⟨x, h1, ea, ee⟩ := rbind e0
  obtain ⟨y, h2, eb, ee⟩ := rbind ee
  obtain ⟨k, h3, ek, ee⟩ := rbind ee
  obtain ⟨ed, rfl⟩ := rof ek
  refine wt_of (L2.pt_chain rb_op rb_op pe_we pe_we pe_we hm) (sim_two ha hb rs rh ea eb fun io' H' v u x' r' rs' rv ru => cmp_ok hu op ed rv ru r' ⟨k, rfl, ?_⟩)
  cases k with
  | false =>
    obtain ⟨rfl, rfl⟩ := rok ee
    have e1 : false = bb := Option.some.inj et2
    subst e1
    rw [if_neg Bool.false_ne_true]
    exact ⟨false, rfl, q io' H' x' r'⟩
  | true =>
    rw [if_pos rfl]
    obtain ⟨z, h4, ez, ee⟩ := rbind ee
    obtain ⟨k2, h5, ek, ee⟩ := rbind ee
    obtain ⟨ed2, rfl⟩ := rof ek
    obtain ⟨rfl, rfl⟩ := rok ee
    have e1 : k2 = bb := Option.some.inj et2
    subst e1
    exact hc om io' H' σ m _ rs' r' z _ ez _ fun io2 H2 w x2 r2 rw' => cmp_ok hu op' ed2 (ru.ext x2) rw' r2 ⟨k2, rfl, q io2 H2 (x'.trans x2) r2⟩
theorem simT_ite {evt ta tb : Sl → Hh → R Bool} (hc : SimT X c evt) (ha : SimT X a ta) (hb : SimT X b tb) : SimT X (.IfExp c a b pos) (fun m h => (evt m h).bind fun k h => if k then ta m h else tb m h) := by
  intro om io H σ m h rs rh bb h' ee Q q
  obtain ⟨k, h1, ek, ee⟩ := rbind ee
  intro whole pins s I hw
  refine isTrue_IfExp (L2.thn (hc om io H σ m h rs rh k _ ek (fun j H1 => j = k ∧ (if k then WT X a else WT X b) σ H1 Q) (fun io' H' x' r' => ⟨rfl, ?_⟩) _ pins s I rfl) fun j s1 z => ?_)
  · cases k with
    | true => exact ha om io' H' σ m _ (rs.ext x') r' bb _ ee _ (q.ext x')
    | false => exact hb om io' H' σ m _ (rs.ext x') r' bb _ ee _ (q.ext x')
  · obtain ⟨H1, I1, rfl, z⟩ := z
    cases j with
    | true => exact z _ pins s1 I1 rfl
    | false => exact z _ pins s1 I1 rfl
end

/-- all that is shown of one expression -/
structure Good (X : Cx) (C : Oracle) (m : ME) (e : Expr) : Prop where
  E : SimE X e (evalE C m)
  T : SimT X e (fun σ h => truthR (evalE C m σ h))
  N : isNew m = true → SimN X e (evalE C m)
theorem Good.plain {X : Cx} {C : Oracle} {m : ME} {e : Expr} (hp : Plain X e) (h : SimE X e (evalE C m)) (n : isNew m = true → SimN X e (evalE C m)) : Good X C m e := ⟨h, simT_plain hp h, n⟩
structure Goods (X : Cx) (C : Oracle) (ms : MEs) (es : List Expr) : Prop where
  A : noStars es = true → SimA X es (evalEs C ms)
  and : ∀ pos, SimE X (.BoolOp .And es pos) (evalAnd C ms) ∧ SimW X (.BoolOp .And es pos) (fun σ h => truthR (evalAnd C ms σ h))
  or : ∀ pos, SimE X (.BoolOp .Or es pos) (evalOr C ms) ∧ SimW X (.BoolOp .Or es pos) (fun σ h => truthR (evalOr C ms σ h))

theorem lst_of_N {X : Cx} {e : Expr} {ev : Sl → Hh → R D} (n : SimN X e ev) (hl : ∀ m h d h', ev m h = .ok d h' → ∃ ds, d = .lst ds) : SimE X e ev := simN_E n hl
theorem newGood {X : Cx} {C : Oracle} {m : ME} {e : Expr} (hp : Plain X e) (n : SimN X e (evalE C m)) (hl : ∀ σ h d h', evalE C m σ h = .ok d h' → ∃ ds, d = .lst ds) : Good X C m e := .plain hp (lst_of_N n hl) fun _ => n
theorem ok_lst {α : Type} {r : R α} {f : α → Hh → R D} {d : D} {h : Hh} (e : r.bind f = .ok d h) (hf : ∀ a h d h', f a h = .ok d h' → ∃ ds, d = .lst ds) : ∃ ds, d = .lst ds := by
  obtain ⟨a, h1, _, e⟩ := rbind e
  exact hf a h1 d h e
theorem biD_lst {h : Hh} {f : Bi} (hf : f = .list ∨ f = .sorted) {x d : D} (e : biD h f x = some d) : ∃ ds, d = .lst ds := by
  rcases hf with rfl | rfl
  · obtain ⟨xs, _, rfl⟩ := map_some e
    exact ⟨xs, rfl⟩
  · rcases biD_sorted e with ⟨_, _, _, _, rfl⟩ | e
    · exact ⟨_, rfl⟩
    obtain ⟨xs, _, e⟩ := bind_some e
    split at e
    · exact ⟨_, (Option.some.inj e).symm⟩
    · obtain ⟨ns, _, rfl⟩ := map_some e
      exact ⟨_, rfl⟩
theorem goodAnd_cons {X : Cx} {C : Oracle} {m m' : ME} {ms : MEs} {x y : Expr} {xs : List Expr} {pos : Pos} (g : Good X C m x)
    (t : SimE X (.BoolOp .And (y :: xs) pos) (evalAnd C (.cons m' ms)) ∧ SimW X (.BoolOp .And (y :: xs) pos) (fun σ h => truthR (evalAnd C (.cons m' ms) σ h))) :
    SimE X (.BoolOp .And (x :: y :: xs) pos) (evalAnd C (.cons m (.cons m' ms))) ∧ SimW X (.BoolOp .And (x :: y :: xs) pos) (fun σ h => truthR (evalAnd C (.cons m (.cons m' ms)) σ h)) := by
  refine ⟨SimE.congr (fun σ h => by rw [evalAnd]) (sim_and g.E t.1), SimW.congr (fun σ h => ?_) (simW_and g.T t.2)⟩
  rw [evalAnd]
  cases evalE C m σ h with
  | ok x h1 =>
    show truthR ((R.of (truthy h1 x) h1).bind _) = (R.of (truthy h1 x) h1).bind _
    cases e : truthy h1 x with
    | none => rfl
    | some b =>
      cases b with
      | true => rfl
      | false =>
        show R.of (truthy h1 x) h1 = R.ok false h1
        rw [e]
        rfl
  | exc c fs h1 => rfl
  | bad => rfl
theorem goodOr_cons {X : Cx} {C : Oracle} {m m' : ME} {ms : MEs} {x y : Expr} {xs : List Expr} {pos : Pos} (g : Good X C m x)
    (t : SimE X (.BoolOp .Or (y :: xs) pos) (evalOr C (.cons m' ms)) ∧ SimW X (.BoolOp .Or (y :: xs) pos) (fun σ h => truthR (evalOr C (.cons m' ms) σ h))) :
    SimE X (.BoolOp .Or (x :: y :: xs) pos) (evalOr C (.cons m (.cons m' ms))) ∧ SimW X (.BoolOp .Or (x :: y :: xs) pos) (fun σ h => truthR (evalOr C (.cons m (.cons m' ms)) σ h)) := by
  refine ⟨SimE.congr (fun σ h => by rw [evalOr]) (sim_or g.E t.1), SimW.congr (fun σ h => ?_) (simW_or g.T t.2)⟩
  rw [evalOr]
  cases evalE C m σ h with
  | ok x h1 =>
    show truthR ((R.of (truthy h1 x) h1).bind _) = (R.of (truthy h1 x) h1).bind _
    cases e : truthy h1 x with
    | none => rfl
    | some b =>
      cases b with
      | false => rfl
      | true =>
        show R.of (truthy h1 x) h1 = R.ok true h1
        rw [e]
        rfl
  | exc c fs h1 => rfl
  | bad => rfl

mutual
theorem goodE {C : Oracle} : ∀ (m : ME) (ck : Ck) (X : Cx) (e : Expr), Site C ck X → chkE m ck e = true → Good X C m e
  | .var i, ck, X, e, S, h => by
    unfold chkE at h
    split at h
    · simp only [Bool.and_eq_true, decide_eq_true_eq] at h
      exact .plain (fun _ => rfl) (sim_var (by rw [S.N]; exact h.1) (vis_of S h.2.1) (db1 h.2.2) (db2 h.2.2)) (fun z => by cases z)
    · cases h
  | .cst d, ck, X, e, S, h => by
    unfold chkE at h
    split at h
    · rename_i c k p
      refine .plain (fun _ => rfl) ?_ (fun z => by cases z)
      unfold cstB at h
      split at h
      all_goals first | (cases h; done) | (split at h <;> first | (cases h; done) | skip)
      · simp only [decide_eq_true_eq] at h; subst h; exact sim_int
      · simp only [beq_iff_eq] at h; subst h; exact sim_bl
      · exact sim_non
      · simp only [decide_eq_true_eq] at h; exact sim_str h
    · refine .plain (fun _ => rfl) ?_ (fun z => by cases z)
      unfold dctB at h
      split at h
      · split at h
        · exact sim_dct0
        · cases h
      · split at h
        · simp only [Bool.and_eq_true, decide_eq_true_eq] at h
          obtain ⟨h1, h2⟩ := h
          subst h2
          exact sim_dct1 h1
        · cases h
      · cases h
    · cases h
  | .glb n d, ck, X, e, S, h => by
    unfold chkE at h
    split at h
    · simp only [Bool.and_eq_true] at h
      exact .plain (fun _ => rfl) (sim_glb (gl_of S h.1) (gv_of S h.2.2) (db1 h.2.1)) (fun z => by cases z)
    · cases h
  | .tup es, ck, X, e, S, h => by
    unfold chkE at h
    split at h
    · rename_i xs k p
      simp only [Bool.and_eq_true, decide_eq_true_eq] at h
      have g := goodEs es ck X xs S h.2.2
      refine .plain (fun _ => rfl) (SimE.congr (fun σ h => by rw [evalE] <;> rfl) (sim_tup (x1 := true) (fun m hh ds h' ee => by rw [evalEs_len C es m hh ds h' ee]; exact h.1) (g.A h.2.1))) (fun z => by cases z)
    · cases h
  | .lst es, ck, X, e, S, h => by
    unfold chkE at h
    split at h
    · rename_i xs p
      simp only [Bool.and_eq_true, decide_eq_true_eq] at h
      have g := goodEs es ck X xs S h.2.2
      have n : SimN X (.List xs p) (evalE C (.lst es)) := SimN.congr (fun σ h => by rw [evalE] <;> rfl) (sim_lstN (fun m hh ds h' ee => by rw [evalEs_len C es m hh ds h' ee]; exact h.1) (g.A h.2.1))
      exact .plain (fun _ => rfl) (lst_of_N n fun m hh d h' ee => by rw [evalE] at ee; exact ok_lst ee fun a h d h' q => ⟨a, (rok q).1.symm⟩) (fun _ => n)
    · cases h
  | .new m, ck, X, e, S, h => by
    unfold chkE at h
    simp only [Bool.and_eq_true] at h
    have g := goodE m ck X e S h.2
    have n := g.N h.1
    have se : SimE X e (evalE C (.new m)) := SimE.congr (fun σ h => by rw [evalE] <;> rfl) (sim_new n g.E)
    refine .plain ?_ se (fun z => by cases z)
    have hm := h.1
    have hc := h.2
    cases m <;> first | (exact absurd hm Bool.false_ne_true) | skip
    all_goals unfold chkE at hc
    all_goals first
      | (split at hc <;> first | (exact absurd hc Bool.false_ne_true) | (exact fun _ => rfl))
  | .newK, ck, X, e, S, h => by
    unfold chkE at h
    split at h
    · exact .plain (fun _ => rfl) sim_newK (fun z => by cases z)
    · cases h
  | .newT, ck, X, e, S, h => by
    unfold chkE at h
    split at h
    · exact .plain (fun _ => rfl) sim_newT (fun z => by cases z)
    · cases h
  | .bin op a b, ck, X, e, S, h => by
    unfold chkE at h
    split at h
    · rename_i x o y p
      simp only [Bool.and_eq_true] at h
      have ga := goodE a ck X x S h.2.1
      have gb := goodE b ck X y S h.2.2
      have ho := op_of h.1
      subst ho
      refine .plain (fun _ => rfl) (SimE.congr (fun σ h => by rw [evalE] <;> rfl) (sim_bin op ga.E gb.E)) (fun z => ?_)
      cases op <;> first | (exact absurd z Bool.false_ne_true) | skip
      · exact SimN.congr (fun σ h => by rw [evalE] <;> rfl) (sim_addN ga.E gb.E)
      · exact SimN.congr (fun σ h => by rw [evalE] <;> rfl) (sim_mulN ga.E gb.E)
    · cases h
  | .neg a, ck, X, e, S, h => by
    unfold chkE at h
    split at h
    · rename_i x p
      have ga := goodE a ck X x S h
      exact .plain (fun _ => rfl) (SimE.congr (fun σ h => by rw [evalE] <;> rfl) (sim_neg ga.E)) (fun z => by cases z)
    · cases h
  | .cmp op a b, ck, X, e, S, h => by
    unfold chkE at h
    split at h
    · rename_i x o y p
      simp only [Bool.and_eq_true] at h
      have ga := goodE a ck X x S h.2.2.1
      have gb := goodE b ck X y S h.2.2.2
      have ho := cm_of h.1
      subst ho
      refine ⟨SimE.congr (fun σ h => by rw [evalE] <;> rfl) (sim_cmp S.units op h.2.1 ga.E gb.E), SimT.congr (fun σ h => ?_) (simT_cmp S.units op h.2.1 ga.E gb.E), fun z => by cases z⟩
      rw [evalE]
      cases evalE C a σ h with
      | ok x h1 =>
        show truthR ((evalE C b σ h1).bind _) = (evalE C b σ h1).bind _
        cases evalE C b σ h1 with
        | ok y h2 => exact truthR_bl
        | exc c fs h2 => rfl
        | bad => rfl
      | exc c fs h1 => rfl
      | bad => rfl
    · cases h
  | .chain op op' a b c, ck, X, e, S, h => by
    unfold chkE at h
    split at h
    · rename_i x o o' y z p
      simp only [Bool.and_eq_true, Bool.not_eq_true'] at h
      have ga := goodE a ck X x S h.2.2.1
      have gb := goodE b ck X y S h.2.2.2.1
      have gc := goodE c ck X z S h.2.2.2.2
      have ho := cm_of h.1.1
      have ho' := cm_of h.1.2
      subst ho ho'
      exact ⟨SimE.congr (fun σ h => by rw [evalE] <;> rfl) (sim_chain S.units op op' h.2.1 ga.E gb.E gc.E), SimT.congr (fun σ h => by rw [evalE] <;> rfl) (simT_chain S.units op op' h.2.1 ga.E gb.E gc.E), fun z => by cases z⟩
    · cases h
  | .and es, ck, X, e, S, h => by
    unfold chkE at h
    split at h
    · rename_i xs p
      have g := goodEs es ck X xs S h
      exact ⟨SimE.congr (fun σ h => by rw [evalE] <;> rfl) (g.and p).1, SimT.congr (fun σ h => by rw [evalE] <;> rfl) (g.and p).2.t, fun z => by cases z⟩
    · cases h
  | .or es, ck, X, e, S, h => by
    unfold chkE at h
    split at h
    · rename_i xs p
      have g := goodEs es ck X xs S h
      exact ⟨SimE.congr (fun σ h => by rw [evalE] <;> rfl) (g.or p).1, SimT.congr (fun σ h => by rw [evalE] <;> rfl) (g.or p).2.t, fun z => by cases z⟩
    · cases h
  | .not a, ck, X, e, S, h => by
    unfold chkE at h
    split at h
    · rename_i x p
      have ga := goodE a ck X x S h
      exact ⟨SimE.congr (fun σ h => by rw [evalE] <;> rfl) (sim_notE (fun m h => rfl) ga.E), SimT.congr (fun σ h => by rw [evalE] <;> rfl) (simT_not ga.T), fun z => by cases z⟩
    · cases h
  | .ite c a b, ck, X, e, S, h => by
    unfold chkE at h
    split at h
    · rename_i z x y p
      simp only [Bool.and_eq_true] at h
      have gc := goodE c ck X z S h.1
      have ga := goodE a ck X x S h.2.1
      have gb := goodE b ck X y S h.2.2
      refine ⟨SimE.congr (fun σ h => by rw [evalE] <;> rfl) (sim_ite gc.T ga.E gb.E), SimT.congr (fun σ h => ?_) (simT_ite gc.T ga.T gb.T), fun z => by cases z⟩
      rw [evalE]
      cases truthR (evalE C c σ h) with
      | ok k h1 => cases k <;> rfl
      | exc c fs h1 => rfl
      | bad => rfl
    · cases h
  | .idx a i, ck, X, e, S, h => by
    unfold chkE at h
    split at h
    · rename_i x y p
      simp only [Bool.and_eq_true] at h
      have ga := goodE a ck X x S h.2.1
      have gi := goodE i ck X y S h.2.2
      exact .plain (fun _ => rfl) (SimE.congr (fun σ h => by rw [evalE] <;> rfl) (sim_idx S.units (plainIx_of h.1) ga.E gi.E)) (fun z => by cases z)
    · cases h
  | .slice a lo hi, ck, X, e, S, h => by
    unfold chkE at h
    split at h
    · rename_i x l u p2 p
      simp only [Bool.and_eq_true] at h
      have ga := goodE a ck X x S h.1
      have gl := goodO lo ck X l S h.2.1
      have gu := goodO hi ck X u S h.2.2
      exact .plain (fun _ => rfl) (SimE.congr (fun σ h => by rw [evalE] <;> rfl) (sim_slice ga.E gl gu)) (fun z => SimN.congr (fun σ h => by rw [evalE] <;> rfl) (sim_sliceN ga.E gl gu))
    · cases h
  | .rev a, ck, X, e, S, h => by
    unfold chkE at h
    split at h
    · have ga := goodE a ck X _ S h
      exact .plain (fun _ => rfl) (SimE.congr (fun σ h => by rw [evalE] <;> rfl) (sim_rev ga.E)) (fun _ => SimN.congr (fun σ h => by rw [evalE] <;> rfl) (sim_revN ga.E))
    · cases h
  | .lc own t it c m, ck, X, e, S, h => by
    unfold chkE at h
    split at h
    · rename_i y tg iter ifs k scope p
      simp only [Bool.and_eq_true, decide_eq_true_eq, List.all_eq_true] at h
      obtain ⟨rfl, h1, h2, h3, h4, h5, h6, h7⟩ := h
      have ok : L2.BlkOk X.N X.env.scope scope (ownP ck own) := by
        rw [S.N, S.sc]
        exact L2.blkOk_by h1
      have gi := goodI it ck X tg iter S h5
      have n0 := sim_lcN (own := ownP ck own) (t := t) (evI := evalI C it) (evc := evalC C c) (eve := evalE C m) (pos := p) S.calm S.nd ok (notSet_of h2) gi (fun s H D cl fp => tgt_of (S.blk scope s H D cl fp) h4) (fun s H D cl fp => goodC c _ _ _ (S.blk scope s H D cl fp) h6)
        (fun s H D cl fp => (goodE m _ _ _ (S.blk scope s H D cl fp) h7).E) (fun i hi => by rw [ownP_snd]; exact h3 i hi)
      rw [ownP_snd] at n0
      have n : SimN X (.ListComp y [⟨tg, iter, ifs, 0⟩] scope p) (evalE C (.lc own t it c m)) := SimN.congr (fun σ h => by rw [evalE] <;> rfl) n0
      exact .plain (fun _ => rfl) (lst_of_N n fun m hh d h' ee => by
        rw [evalE] at ee
        exact ok_lst ee fun a h d h' q => ok_lst q fun a h d h' q => ⟨a, (rok q).1.symm⟩) (fun _ => n)
    · cases h
  | .rgl a, ck, X, e, S, h => by
    unfold chkE at h
    split at h
    · simp only [Bool.and_eq_true, decide_eq_true_eq] at h
      obtain ⟨rfl, rfl, h1, h2, h3, h4⟩ := h
      have ga := goodE a ck X _ S h4
      exact newGood (fun _ => rfl) (SimN.congr (fun σ h => by rw [evalE] <;> rfl) (sim_rglN S.calm (blt_of S h1 (boot_bi .list rfl).1 (boot_bi .list rfl).2) (blt_of S h2 boot_rng.1 boot_rng.2) h3 ga.E)) (fun m hh d h' ee => by
        rw [evalE] at ee
        refine ok_lst ee fun a h d h' q => ?_
        obtain ⟨q, _⟩ := rof q
        obtain ⟨xs, _, rfl⟩ := map_some q
        exact ⟨_, rfl⟩)
    · cases h
  | .rgl2 a b, ck, X, e, S, h => by
    unfold chkE at h
    split at h
    · simp only [Bool.and_eq_true, decide_eq_true_eq] at h
      obtain ⟨rfl, rfl, h1, h2, h3, h4, h5, h6⟩ := h
      have ga := goodE a ck X _ S h5
      have gb := goodE b ck X _ S h6
      exact newGood (fun _ => rfl) (SimN.congr (fun σ h => by rw [evalE] <;> rfl) (sim_rgl2N S.calm (blt_of S h1 (boot_bi .list rfl).1 (boot_bi .list rfl).2) (blt_of S h2 boot_rng.1 boot_rng.2) h3 h4 ga.E gb.E)) (fun m hh d h' ee => by
        rw [evalE] at ee
        refine ok_lst ee fun a h d h' q => ok_lst q fun a h d h' q => ?_
        obtain ⟨q, _⟩ := rof q
        obtain ⟨xs, _, rfl⟩ := map_some q
        exact ⟨_, rfl⟩)
    · cases h
  | .rgt a, ck, X, e, S, h => by
    unfold chkE at h
    split at h
    · simp only [Bool.and_eq_true, decide_eq_true_eq] at h
      obtain ⟨rfl, rfl, h1, h2, h3, h4⟩ := h
      have ga := goodE a ck X _ S h4
      exact .plain (fun _ => rfl) (SimE.congr (fun σ h => by rw [evalE] <;> rfl) (sim_rgt S.calm (blt_of S h1 (boot_bi .tuple rfl).1 (boot_bi .tuple rfl).2) (blt_of S h2 boot_rng.1 boot_rng.2) h3 ga.E)) (fun z => by cases z)
    · cases h
  | .rgt2 a b, ck, X, e, S, h => by
    unfold chkE at h
    split at h
    · simp only [Bool.and_eq_true, decide_eq_true_eq] at h
      obtain ⟨rfl, rfl, h1, h2, h3, h4, h5, h6⟩ := h
      have ga := goodE a ck X _ S h5
      have gb := goodE b ck X _ S h6
      exact .plain (fun _ => rfl) (SimE.congr (fun σ h => by rw [evalE] <;> rfl) (sim_rgt2 S.calm (blt_of S h1 (boot_bi .tuple rfl).1 (boot_bi .tuple rfl).2) (blt_of S h2 boot_rng.1 boot_rng.2) h3 h4 ga.E gb.E)) (fun z => by cases z)
    · cases h
  | .isi a ts, ck, X, e, S, h => by
    unfold chkE at h
    split at h
    · rename_i f p x y p2
      simp only [Bool.and_eq_true, decide_eq_true_eq, List.all_eq_true] at h
      obtain ⟨rfl, h1, h2, h3, h4, h5, h6⟩ := h
      have ga := goodE a ck X x S h5
      have ht : ∀ t ∈ ts, Blt X (PySem.Str.ofString (tyS t)) (.type (tyS t)) := fun t ht => blt_of S (h4 t ht) (boot_ty t).1 (boot_ty t).2
      have hi := blt_of S h1 boot_isi.1 boot_isi.2
      refine .plain (fun _ => rfl) (SimE.congr (fun σ h => by rw [evalE] <;> rfl) ?_) (fun z => by cases z)
      split at h6
      · split at h6
        · rename_i t
          simp only [decide_eq_true_eq] at h6
          subst h6
          exact sim_isi1 hi (ht t (List.mem_singleton.mpr rfl)) h2 ga.E
        · cases h6
      · exact sim_isiT hi h6 h3 ht h2 ga.E
      · cases h6
    · cases h
  | .bi f a, ck, X, e, S, h => by
    unfold chkE at h
    split at h
    · rename_i n p x p2
      split at h
      · rename_i m v hb
        simp only [Bool.and_eq_true, decide_eq_true_eq, Bool.or_eq_true] at h
        obtain ⟨rfl, h1, h2, h3, h4⟩ := h
        have ga := goodE a ck X x S h4
        have hv := blt_of S h1 (boot_bi f hb).1 (boot_bi f hb).2
        have nn : (f = .list ∨ f = .sorted) → SimN X (.Call (.Name n p) [x] [] p2) (evalE C (.bi f a)) := fun z => SimN.congr (fun σ h => by rw [evalE] <;> rfl) (sim_biN S.units f z hb hv h2 ga.E)
        rcases h3 with h3 | h3
        · exact .plain (fun _ => rfl) (SimE.congr (fun σ h => by rw [evalE] <;> rfl) (sim_bi S.sys f h3 hb S.calm S.units S.guards hv h2 ga.E)) (fun z => by cases f <;> first | (cases z; done) | (cases h3; done))
        · exact .plain (fun _ => rfl) (lst_of_N (nn h3) fun m hh d h' ee => by
            rw [evalE] at ee
            exact ok_lst ee fun a h d h' q => biD_lst h3 (rof q).1) (fun _ => nn h3)
      · split at h
        · rename_i g p3 y p4
          simp only [Bool.and_eq_true, decide_eq_true_eq, Bool.or_eq_true] at h
          obtain ⟨rfl, h1, h2, h3, h4, h5⟩ := h
          have ga := goodE a ck X y S h5
          have hv2 := blt_of S h1 (v := .type "set") (by decide +kernel) (by decide +kernel)
          rcases h4 with ⟨rfl, rfl⟩ | ⟨rfl, rfl⟩
          · have nn : SimN X (.Call (.Name (PySem.Str.ofString "sorted") p) [.Call (.Name (PySem.Str.ofString "set") p3) [y] [] p4] [] p2) (evalE C (.bi .sortedSet a)) := SimN.congr (fun σ h => by rw [evalE] <;> rfl) (sim_sortedSet S.calm (blt_of S h2 (boot_bi .sorted rfl).1 (boot_bi .sorted rfl).2) hv2 h3 ga.E)
            refine .plain (fun _ => rfl) (lst_of_N nn fun m hh d h' ee => ?_) (fun _ => nn)
            rw [evalE] at ee
            refine ok_lst ee fun a h d h' q => ?_
            obtain ⟨_, _, e⟩ := bind_some (rof q).1
            obtain ⟨_, _, e⟩ := bind_some e
            split at e
            · exact ⟨_, (Option.some.inj e).symm⟩
            · cases e
          · exact .plain (fun _ => rfl) (SimE.congr (fun σ h => by rw [evalE] <;> rfl) (sim_setLen S.calm (blt_of S h2 (boot_bi .len rfl).1 (boot_bi .len rfl).2) hv2 h3 ga.E)) (fun z => by cases z)
        · cases h
    · rename_i n p x k n2 p3 p4 p2
      simp only [Bool.and_eq_true, decide_eq_true_eq] at h
      obtain ⟨rfl, rfl, rfl, rfl, h1, h2, h3, h4⟩ := h
      have ga := goodE a ck X x S h4
      have nn : SimN X (.Call (.Name (PySem.Str.ofString "sorted") p) [x] [⟨some (PySem.Str.ofString "key"), .Name (PySem.Str.ofString "len") p3, p4⟩] p2) (evalE C (.bi .sortedLen a)) := SimN.congr (fun σ h => by rw [evalE] <;> rfl) (sim_sortedLen S.units (blt_of S h1 (boot_bi .sorted rfl).1 (boot_bi .sorted rfl).2) (blt_of S h2 (boot_bi .len rfl).1 (boot_bi .len rfl).2) h3 ga.E)
      refine .plain (fun _ => rfl) (lst_of_N nn fun m hh d h' ee => ?_) (fun _ => nn)
      rw [evalE] at ee
      refine ok_lst ee fun a h d h' q => ?_
      obtain ⟨_, _, e⟩ := bind_some (rof q).1
      obtain ⟨_, _, rfl⟩ := map_some e
      exact ⟨_, rfl⟩
    · cases h
  | .bi2 f a b, ck, X, e, S, h => by
    unfold chkE at h
    split at h
    · simp only [Bool.and_eq_true, decide_eq_true_eq] at h
      obtain ⟨rfl, h1, h2, h3, h4, h5⟩ := h
      have ga := goodE a ck X _ S h4
      have gb := goodE b ck X _ S h5
      exact .plain (fun _ => rfl) (SimE.congr (fun σ h => by rw [evalE] <;> rfl) (sim_bi2 f S.calm (blt_of S h1 (boot_bi2 f).1 (boot_bi2 f).2) h2 h3 ga.E gb.E)) (fun z => by cases z)
    · cases h
  | .meth m o as, ck, X, e, S, h => by
    unfold chkE at h
    split at h
    · simp only [Bool.and_eq_true, decide_eq_true_eq, Bool.or_eq_true] at h
      obtain ⟨hm, h1, h2, h3, h4, h5⟩ := h
      have go := goodE o ck X _ S h4
      refine .plain (fun _ => rfl) ?_ (fun z => by cases z)
      cases as with
      | nil => unfold chkEs at h5; cases h5
      | cons a as =>
        unfold chkEs at h5
        simp only [Bool.and_eq_true] at h5
        have ga := goodE a ck X _ S h5.1
        cases as with
        | cons _ _ => have h6 := h5.2; unfold chkEs at h6; cases h6
        | nil =>
          rcases hm with ⟨rfl, rfl⟩ | ⟨rfl, rfl⟩ | ⟨rfl, rfl⟩
          · refine SimE.congr (fun σ h => ?_) (sim_join h1 h2 h3 go.E ga.E)
            simp only [evalE, evalEs, R.bind_assoc, R.bind_ok]
          · refine SimE.congr (fun σ h => ?_) (sim_index h1 h2 h3 go.E ga.E)
            simp only [evalE, evalEs, R.bind_assoc, R.bind_ok]
          · refine SimE.congr (fun σ h => ?_) (sim_count h1 h2 h3 go.E ga.E)
            simp only [evalE, evalEs, R.bind_assoc, R.bind_ok]
    · simp only [Bool.and_eq_true, decide_eq_true_eq] at h
      obtain ⟨rfl, rfl, hq, h1, h2, h3, h3', h4, h5⟩ := h
      have go := goodE o ck X _ S h4
      refine .plain (fun _ => rfl) ?_ (fun z => by cases z)
      cases as with
      | nil => cases hq
      | cons a as =>
        cases as with
        | nil => cases hq
        | cons b as =>
          cases as with
          | cons _ _ => cases hq
          | nil =>
            unfold chkEs at h5
            simp only [Bool.and_eq_true] at h5
            have ga := goodE a ck X _ S h5.1
            have h6 := h5.2
            unfold chkEs at h6
            simp only [Bool.and_eq_true] at h6
            have gb := goodE b ck X _ S h6.1
            unfold quietEs at hq
            simp only [Bool.and_eq_true] at hq
            refine SimE.congr (fun σ h => ?_) (sim_get S.units h1 h2 h3 h3' go.E ga.E gb.E (quiet_h hq.1) (quiet_h hq.2))
            simp only [evalE, evalEs, R.bind_assoc, R.bind_ok]
    · cases h
  | .mut m o as, ck, X, e, S, h => by
    unfold chkE at h
    split at h
    · rename_i x n ap p0 ys p
      simp only [Bool.and_eq_true, decide_eq_true_eq] at h
      obtain ⟨rfl, h1, h2, h3, h4, h5, h6⟩ := h
      have go := goodE o ck X _ S h5
      have gs := goodEs as ck X ys S h6
      refine .plain (fun _ => rfl) ?_ (fun z => by cases z)
      cases ys with
      | nil =>
        cases as with
        | nil => exact SimE.congr (fun σ h => by rw [evalE] <;> rfl) (sim_mut0 m h1 h2 go.E)
        | cons a as => unfold chkEs at h6; cases h6
      | cons y ys => exact SimE.congr (fun σ h => by rw [evalE] <;> rfl) (sim_mut m h1 h2 h3 h4 go.E (gs.A h3))
    · cases h
  | .call f as, ck, X, e, S, h => by
    unfold chkE at h
    split at h
    · rename_i n p0 ys p
      simp only [Bool.and_eq_true, decide_eq_true_eq] at h
      obtain ⟨rfl, h1, h2, h3, h4, h5⟩ := h
      obtain ⟨a, f1, f2, f3⟩ := S.fns f h3
      have F := (f3 X rfl rfl rfl rfl rfl rfl rfl S.calm).1
      have gs := goodEs as ck X ys S h5
      refine .plain (fun _ => rfl) ?_ (fun z => by cases z)
      cases ys with
      | nil =>
        cases as with
        | nil => exact SimE.congr (fun σ h => by rw [evalE] <;> rfl) (sim_def0 (gl_of S h1) f1 f2 h2 F)
        | cons a as => unfold chkEs at h5; cases h5
      | cons y ys => exact SimE.congr (fun σ h => by rw [evalE] <;> rfl) (sim_def (gl_of S h1) f1 f2 h2 F h4 (gs.A h4))
    · cases h
  | .bad, ck, X, e, S, h => ⟨fun om io H σ m hh rs rh d h' ee => (by rw [evalE] at ee; cases ee), fun om io H σ m hh rs rh d h' ee => (by dsimp only at ee; rw [evalE] at ee; cases ee), fun _ => fun om io H σ m hh rs rh d h' ee => (by rw [evalE] at ee; cases ee)⟩
theorem goodEs {C : Oracle} : ∀ (ms : MEs) (ck : Ck) (X : Cx) (es : List Expr), Site C ck X → chkEs ms ck es = true → Goods X C ms es
  | .nil, ck, X, es, S, h => by
    unfold chkEs at h
    split at h
    · refine ⟨fun _ => SimA.congr (fun σ h => by rw [evalEs]) simA_nil, fun pos => ⟨fun om io H σ m hh rs rh d h' ee => ?_, fun om io H σ m hh rs rh d h' ee => ?_⟩, fun pos => ⟨fun om io H σ m hh rs rh d h' ee => ?_, fun om io H σ m hh rs rh d h' ee => ?_⟩⟩
      · rw [evalAnd] at ee; cases ee
      · dsimp only at ee; rw [evalAnd] at ee; cases ee
      · rw [evalOr] at ee; cases ee
      · dsimp only at ee; rw [evalOr] at ee; cases ee
    · cases h
  | .cons m ms, ck, X, es, S, h => by
    unfold chkEs at h
    split at h
    · cases h
    · rename_i x xs
      simp only [Bool.and_eq_true] at h
      have g := goodE m ck X x S h.1
      have gs := goodEs ms ck X xs S h.2
      refine ⟨fun ns => ?_, fun pos => ?_, fun pos => ?_⟩
      · simp only [noStars, Bool.and_eq_true] at ns
        exact SimA.congr (fun σ h => by rw [evalEs]) (simA_cons (starE ns.1) g.E (gs.A ns.2))
      · cases ms with
        | nil =>
          have h2 := h.2
          unfold chkEs at h2
          split at h2
          · exact ⟨SimE.congr (fun σ h => by rw [evalAnd]) (sim_one g.E), SimW.congr (fun σ h => by rw [evalAnd]) (simW_and1 g.T)⟩
          · cases h2
        | cons m' ms =>
          cases xs with
          | nil => have h2 := h.2; unfold chkEs at h2; cases h2
          | cons y ys => exact goodAnd_cons g (gs.and pos)
      · cases ms with
        | nil =>
          have h2 := h.2
          unfold chkEs at h2
          split at h2
          · exact ⟨SimE.congr (fun σ h => by rw [evalOr]) (sim_one g.E), SimW.congr (fun σ h => by rw [evalOr]) (simW_or1 g.T)⟩
          · cases h2
        | cons m' ms =>
          cases xs with
          | nil => have h2 := h.2; unfold chkEs at h2; cases h2
          | cons y ys => exact goodOr_cons g (gs.or pos)
theorem goodO {C : Oracle} : ∀ (m : MO) (ck : Ck) (X : Cx) (o : Option Expr), Site C ck X → chkO m ck o = true → SimO X o (evalO C m)
  | .none, ck, X, o, S, h => by
    unfold chkO at h
    split at h
    · exact fun om io H σ m hh rs rh d h' ee => simO_none om io H σ m hh rs rh d h' (by rw [evalO] at ee; exact ee)
    · cases h
  | .some m, ck, X, o, S, h => by
    unfold chkO at h
    split at h
    · have g := goodE m ck X _ S h
      exact fun om io H σ m hh rs rh d h' ee => simO_some g.E om io H σ m hh rs rh d h' (by rw [evalO] at ee; exact ee)
    · cases h
theorem goodC {C : Oracle} : ∀ (m : MO) (ck : Ck) (X : Cx) (ifs : List Expr), Site C ck X → chkC m ck ifs = true → SimC X ifs (evalC C m)
  | .none, ck, X, o, S, h => by
    unfold chkC at h
    split at h
    · exact fun om io H σ m hh rs rh d h' ee => simC_nil om io H σ m hh rs rh d h' (by rw [evalC] at ee; exact ee)
    · cases h
  | .some m, ck, X, o, S, h => by
    unfold chkC at h
    split at h
    · have g := goodE m ck X _ S h
      exact fun om io H σ m hh rs rh d h' ee => simC_one g.T om io H σ m hh rs rh d h' (by rw [evalC] at ee; exact ee)
    · cases h
theorem goodI {C : Oracle} : ∀ (m : MI) (ck : Ck) (X : Cx) (tg e : Expr), Site C ck X → chkI m ck tg e = true → SimI X tg e (evalI C m)
  | .seq m, ck, X, tg, e, S, h => by
    unfold chkI at h
    have g := goodE m ck X e S h
    exact fun om io H σ m hh rs rh d h' ee => simI_seq g.E om io H σ m hh rs rh d h' (by rw [evalI] at ee; exact ee)
  | .rng1 a, ck, X, tg, e, S, h => by
    unfold chkI at h
    split at h
    · simp only [Bool.and_eq_true, decide_eq_true_eq] at h
      obtain ⟨rfl, h1, h2, h3⟩ := h
      have g := goodE a ck X _ S h3
      exact fun om io H σ m hh rs rh d h' ee => simI_rng1 (blt_of S h1 boot_rng.1 boot_rng.2) h2 g.E om io H σ m hh rs rh d h' (by rw [evalI] at ee; exact ee)
    · cases h
  | .rng2 a b, ck, X, tg, e, S, h => by
    unfold chkI at h
    split at h
    · simp only [Bool.and_eq_true, decide_eq_true_eq] at h
      obtain ⟨rfl, h1, h2, h3, h4, h5⟩ := h
      have g := goodE a ck X _ S h4
      have g' := goodE b ck X _ S h5
      exact fun om io H σ m hh rs rh d h' ee => simI_rng2 (blt_of S h1 boot_rng.1 boot_rng.2) h2 h3 g.E g'.E om io H σ m hh rs rh d h' (by rw [evalI] at ee; exact ee)
    · cases h
  | .enum a, ck, X, tg, e, S, h => by
    unfold chkI at h
    split at h
    · split at h
      · simp only [Bool.and_eq_true, decide_eq_true_eq] at h
        obtain ⟨rfl, h1, h2, h3⟩ := h
        have g := goodE a ck X _ S h3
        exact fun om io H σ m hh rs rh d h' ee => simI_enum (blt_of S h1 boot_enum.1 boot_enum.2) h2 g.E om io H σ m hh rs rh d h' (by rw [evalI] at ee; exact ee)
      · cases h
    · cases h
  | .zip a b, ck, X, tg, e, S, h => by
    unfold chkI at h
    split at h
    · split at h
      · simp only [Bool.and_eq_true, decide_eq_true_eq] at h
        obtain ⟨rfl, h1, h2, h3, h4, h5⟩ := h
        have g := goodE a ck X _ S h4
        have g' := goodE b ck X _ S h5
        exact fun om io H σ m hh rs rh d h' ee => simI_zip (blt_of S h1 boot_zip.1 boot_zip.2) h2 h3 g.E g'.E om io H σ m hh rs rh d h' (by rw [evalI] at ee; exact ee)
      · cases h
    · cases h
  | .rev a, ck, X, tg, e, S, h => by
    unfold chkI at h
    split at h
    · simp only [Bool.and_eq_true, decide_eq_true_eq] at h
      obtain ⟨rfl, h1, h2, h3⟩ := h
      have g := goodE a ck X _ S h3
      exact fun om io H σ m hh rs rh d h' ee => simI_rev (blt_of S h1 boot_rev.1 boot_rev.2) h2 g.E om io H σ m hh rs rh d h' (by rw [evalI] at ee; exact ee)
    · cases h
  | .revr a, ck, X, tg, e, S, h => by
    unfold chkI at h
    split at h
    · simp only [Bool.and_eq_true, decide_eq_true_eq] at h
      obtain ⟨rfl, rfl, h1, h2, h3, h4⟩ := h
      have g := goodE a ck X _ S h4
      exact fun om io H σ m hh rs rh d h' ee => simI_revr (blt_of S h1 boot_rev.1 boot_rev.2) (blt_of S h2 boot_rng.1 boot_rng.2) h3 g.E om io H σ m hh rs rh d h' (by rw [evalI] at ee; exact ee)
    · cases h
end
theorem SimX.congr {X : Cx} {e : Expr} {f g : Sl → Hh → Option (String × List D × Hh)} (h : ∀ σ h, f σ h = g σ h) (s : SimX X e g) : SimX X e f := fun om io H σ m hh rs rh c fs h' ee => s om io H σ m hh rs rh c fs h' (by rw [← h]; exact ee)
/-- an exception out of an expression -/
theorem goodX {C : Oracle} (m : ME) (ck : Ck) (X : Cx) (e : Expr) (S : Site C ck X) (h : chkE m ck e = true) : SimX X e (excE C m) := by
  cases m with
  | call f as =>
    unfold chkE at h
    split at h
    · rename_i n p0 ys p
      simp only [Bool.and_eq_true, decide_eq_true_eq] at h
      obtain ⟨rfl, h1, h2, h3, h4, h5⟩ := h
      obtain ⟨a, f1, f2, f3⟩ := S.fns f h3
      have F := (f3 X rfl rfl rfl rfl rfl rfl rfl S.calm).2
      have gs := goodEs as ck X ys S h5
      cases ys with
      | nil =>
        cases as with
        | nil => exact SimX.congr (fun σ h => by
            have e : evalEs C MEs.nil σ h = .ok [] h := by rw [evalEs]
            unfold excE
            dsimp only
            rw [e]
            first | rfl | skip) (simX_def0 (gl_of S h1) f1 f2 h2 F)
        | cons a as => unfold chkEs at h5; cases h5
      | cons y ys => exact SimX.congr (fun σ h => by unfold excE; rfl) (simX_def (gl_of S h1) f1 f2 h2 F h4 (gs.A h4))
    · cases h
  | _ => exact fun om io H σ m hh rs rh c fs h' ee => by cases ee
end Mini
end
section
set_option Elab.async false
set_option linter.all false
set_option autoImplicit false
set_option maxRecDepth 100000
/-! Sound15: the checker of statements and what it is good for. -/
namespace Mini
open PySem PySem.Spec PyProof.Rows
open L2 (V Hp HO Key Rd SqL SqT Inv Cx RelV upd upd_same upd_ne Same WX VK TE TT TA TO TI TG TGs It XK OpR UnR CallR R2 EP TP AP SP PE PT PW PA PO PS PSs PG PGs PI PIE PTs Dp DpAll MtR MtM IxR SlR PSet PIp Gl Vis Loc Ends TS)

/-- no comprehension -/
def notComp : Expr → Bool
  | .ListComp .. => false
  | .SetComp .. => false
  | .DictComp .. => false
  | _ => true
theorem notComp_of {e : Expr} {t : Option Expr} {l : Nat} {env : Env} (h : notComp e = true) : swapsWith e t l env = pure false := by
  cases e <;> first | rfl | cases h
def notTuple : Expr → Bool
  | .Tuple .. => false
  | _ => true
theorem notTuple_of {t e : Expr} {env : Env} (h : notTuple e = true) : swappedStores [t] e env = pure none := by
  cases e <;> first | (cases h; done) | (cases t <;> rfl)
theorem swap_sub {o i e : Expr} {p : Pos} {l : Nat} {env : Env} : swapsWith e (some (.Subscript o i p)) l env = pure false := by
  cases e <;> rfl
theorem swap_tup {es : List Expr} {k : Nat} {e : Expr} {p : Pos} {l : Nat} {env : Env} : swapsWith e (some (.Tuple es k p)) l env = pure false := by
  cases e <;> rfl
theorem sole_sub {o i e : Expr} {p : Pos} {l : Nat} {env : Env} : swapsWithSole [.Subscript o i p] e l env = pure false := by
  show swapsWith e (some (.Subscript o i p)) l env = pure false
  exact swap_sub
theorem sole_tup {es : List Expr} {k : Nat} {e : Expr} {p : Pos} {l : Nat} {env : Env} : swapsWithSole [.Tuple es k p] e l env = pure false := by
  show swapsWith e (some (.Tuple es k p)) l env = pure false
  exact swap_tup
theorem swapped_sub {o i e : Expr} {p : Pos} {env : Env} : swappedStores [.Subscript o i p] e env = pure none := by
  cases e <;> rfl
theorem assign_sub {o i : Expr} {p : Pos} {env : Env} (h : notSlice i = true) : ∀ v, assign (.Subscript o i p) env v = (do
         let ov ← holding [v] (eval o env)
         let iv ← holding [v, ov] (eval i env)
         standAt p
         holding [v, ov, iv] (setItem ov iv v)
         release [v, ov, iv] []) := by
  intro v
  cases i <;> first | rfl | cases h
/-- does x = [..] go the block's way? -/
def swapB (sc : Scope) (e : Expr) (x : Str) (p : Pos) : Bool := match e with
  | .ListComp _ _ s vp => decide (sc.names.lookup x = some .local) && (p.line == vp.line) && !(s.names.any fun y => y.1 == x && (y.2 == .local || y.2 == .cell))
  | _ => false
def notComp2 : Expr → Bool
  | .SetComp .. => false
  | .DictComp .. => false
  | _ => true
theorem swap_of {e : Expr} {x : Str} {p : Pos} {l : Nat} {env : Env} {sc : Scope} (hs : env.scope = sc) (hk : sc.kind = .function) (h : notComp2 e = true) : swapsWith e (some (.Name x p)) l env = pure (swapB sc e x p) := by
  cases e with
  | ListComp elt gens s vp =>
    unfold swapsWith swapB Env.blockKind Env.kindOf
    rw [hs, hk]
    show pure _ = pure _
    congr 1
    have e1 : (ScopeKind.function.isAnnotationScope) = false := rfl
    simp only [e1, Bool.false_eq_true, if_false]
    cases sc.names.lookup x with
    | none => rfl
    | some k => cases k <;> rfl
  | SetComp => cases h
  | DictComp => cases h
  | _ => rfl

def isStarred : Expr → Bool
  | .Starred .. => true
  | _ => false
theorem swapped2 {env : Env} {sc : Scope} {x y : Str} {px py pt p2 : Pos} {a b : Expr} {k k2 : Nat} (hs : env.scope = sc) (hk : sc.kind = .function) (hx : sc.names.lookup x = some .local) (hy : sc.names.lookup y = some .local) (hl : (px.line == py.line) = true) (hne : x ≠ y)
    (ha : notStar a = true) (hb : notStar b = true) (hf : [a, b].all (foldedForSure 8) = false) (hc : [a, b].all (constantsAlone 8) = false) :
    swappedStores [.Tuple [.Name x px, .Name y py] k pt] (.Tuple [a, b] k2 p2) env = pure (some [x, y]) := by
  have hl' : px.line = py.line := by simpa using hl
  have hbk : env.blockKind = .function := by unfold Env.blockKind; rw [hs, hk]; rfl
  have h1 : env.kindOf x = some .local := by unfold Env.kindOf; rw [hs]; exact hx
  have h2 : env.kindOf y = some .local := by unfold Env.kindOf; rw [hs]; exact hy
  unfold swappedStores
  simp only [pure_bind, hbk, hf, hc, Bool.false_eq_true, if_false]
  simp [h1, h2, hl', Expr.pos, List.eraseDups_cons, hne, Ne.symm hne, pure_bind]
  intro z
  exfalso
  rcases z with z | z
  · cases a <;> first | (cases z; done) | (cases ha; done)
  · cases b <;> first | (cases z; done) | (cases hb; done)
theorem swapped3 {env : Env} {sc : Scope} {x y z : Str} {px py pz pt p2 : Pos} {a b c : Expr} {k k2 : Nat} (hs : env.scope = sc) (hk : sc.kind = .function) (hx : sc.names.lookup x = some .local) (hy : sc.names.lookup y = some .local) (hz : sc.names.lookup z = some .local) (hl : (px.line == py.line) = true) (hl2 : (px.line == pz.line) = true)
    (hxy : x ≠ y) (hxz : x ≠ z) (hyz : y ≠ z)
    (ha : notStar a = true) (hb : notStar b = true) (hc' : notStar c = true) (hf : [a, b, c].all (foldedForSure 8) = false) (hc : [a, b, c].all (constantsAlone 8) = false) :
    swappedStores [.Tuple [.Name x px, .Name y py, .Name z pz] k pt] (.Tuple [a, b, c] k2 p2) env = pure (some [x, y, z]) := by
  have hl' : py.line = px.line := (by simpa using hl : px.line = py.line).symm
  have hl2' : pz.line = px.line := (by simpa using hl2 : px.line = pz.line).symm
  have hbk : env.blockKind = .function := by unfold Env.blockKind; rw [hs, hk]; rfl
  have h1 : env.kindOf x = some .local := by unfold Env.kindOf; rw [hs]; exact hx
  have h2 : env.kindOf y = some .local := by unfold Env.kindOf; rw [hs]; exact hy
  have h3 : env.kindOf z = some .local := by unfold Env.kindOf; rw [hs]; exact hz
  unfold swappedStores
  simp only [pure_bind, hbk, hf, hc, Bool.false_eq_true, if_false]
  simp [h1, h2, h3, hl', hl2', Expr.pos, List.eraseDups_cons, hxy, hxz, hyz, Ne.symm hxy, Ne.symm hxz, Ne.symm hyz, pure_bind]
  intro z
  exfalso
  rcases z with z | z | z
  · cases a <;> first | (cases z; done) | (cases ha; done)
  · cases b <;> first | (cases z; done) | (cases hb; done)
  · cases c <;> first | (cases z; done) | (cases hc'; done)
/-- all the values are constants: a tuple is unpacked -/
theorem swapped0 {env : Env} {es vs : List Expr} {k k2 : Nat} {p p2 : Pos} (h : vs.all (foldedForSure 8) = true ∨ (vs.length ≠ 2 ∧ vs.length ≠ 3) ∨ vs.length ≠ es.length) : swappedStores [.Tuple es k p] (.Tuple vs k2 p2) env = pure none := by
  unfold swappedStores
  simp only [pure_bind]
  by_cases h1 : (!(es.length == 2 || es.length == 3) || vs.length != es.length || env.blockKind != .function) = true
  · rw [if_pos h1]
  · rw [if_neg h1]
    simp only [Bool.or_eq_true, Bool.not_eq_true', not_or, Bool.not_eq_false, bne_iff_ne, ne_eq, Classical.not_not, beq_iff_eq, Bool.or_eq_false_iff, beq_eq_false_iff_ne] at h1
    have h2 : vs.all (foldedForSure 8) = true := by
      rcases h with h | h | h
      · exact h
      · omega
      · omega
    simp only [h2, if_true]
    split
    · rfl
    · split
      · rfl
      · rfl

/-- a name that is no plain local of the scope -/
def offLoc (sc : Scope) : Expr → Bool
  | .Name x _ => decide (sc.names.lookup x ≠ some .local)
  | _ => false
/-- a name among the targets is no plain local (a comprehension reads it): a tuple is unpacked -/
theorem swappedK {env : Env} {sc : Scope} {es vs : List Expr} {k k2 : Nat} {p p2 : Pos} (hs : env.scope = sc) (h : es.any (offLoc sc) = true) : swappedStores [.Tuple es k p] (.Tuple vs k2 p2) env = pure none := by
  obtain ⟨e, he, hx⟩ := List.any_eq_true.mp h
  cases e <;> first | (cases hx; done) | skip
  rename_i x px
  have hx' : ¬ sc.names.lookup x = some .local := of_decide_eq_true hx
  have hk : ¬ env.kindOf x = some .local := by unfold Env.kindOf; rw [hs]; exact hx'
  unfold swappedStores
  simp only [pure_bind]
  split
  · rfl
  · split
    · rfl
    · split
      · rfl
      · rename_i hn
        refine absurd ?_ hn
        rw [Bool.or_eq_true]
        refine .inl ?_
        rw [bne_iff_ne]
        intro hl
        have := List.filterMap_length_eq_length.mp hl _ he
        simp [hk] at this
def lcOf : ME → Bool
  | .lc .. => true
  | .new (.lc ..) => true
  | _ => false
/-! ### suites of except -/
def cstX (d : D) : Expr → Bool
  | .Constant (.int i) _ _ => (match d with
    | .int j => decide (i = j)
    | _ => false)
  | .Constant (.str z) _ _ => (match d with
    | .str s => decide (z = S s)
    | _ => false)
  | .Constant (.bool b) _ _ => (match d with
    | .bl c => decide (b = c)
    | _ => false)
  | .Constant .none _ _ => (match d with
    | .non => true
    | _ => false)
  | _ => false
def subB (ck : Ck) (x : Str) (cs : List String) : Bool := ck.xs.ts.any fun p => decide (Str.ofString p.1 = x) && decide (p.2 = cs)
/-- names of classes; those of the raised classes that are of one of them -/
def clsB (ck : Ck) : List Expr → Option (List (List String))
  | [] => some []
  | .Name x _ :: es => match ck.xs.ts.find? (fun p => decide (Str.ofString p.1 = x)), clsB ck es with
    | some p, some r => if glB ck.sc x && dbOk x then some (p.2 :: r) else none
    | _, _ => none
  | _ => none
def chkXE : XE → Ck → Str → Expr → Bool
  | .isx cs, ck, n, e => match e with
    | .Call (.Name f _) [.Name x _, t] [] _ => decide (f = Str.ofString "isinstance") && (bltB ck f && (decide (x = n) && (match t with
      | .Name c _ => subB ck c cs && (glB ck.sc c && dbOk c)
      | .Tuple ts _ _ => (match clsB ck ts with
        | some ls => ck.xs.cs.all (fun c => decide (c ∈ cs) == ls.any fun l => decide (c ∈ l)) && decide (ts.length ≤ 100)
        | none => false)
      | _ => false)))
    | _ => false
  | .not a, ck, n, e => match e with
    | .UnaryOp .Not x _ => chkXE a ck n x
    | _ => false
  | .and a b, ck, n, e => match e with
    | .BoolOp .And [x, y] _ => chkXE a ck n x && chkXE b ck n y
    | _ => false
  | _, _, _, _ => false
mutual
def chkXS : XS → Ck → Nat → Str → Stmt → Bool
  | .asg i e, ck, sl, _, s => match e, s with
    | .cst d, .Assign [.Name x p] v _ => cstX d v && (tgB ck x i && decide (i ≠ sl))
    | _, _ => false
  | .ite c a, ck, sl, n, s => match s with
    | .If e th [] _ => chkXE c ck n e && chkXSs a ck sl n th
    | _ => false
  | .ret _, _, _, _, _ => false
def chkXSs : XSs → Ck → Nat → Str → List Stmt → Bool
  | .nil, _, _, _, ss => match ss with
    | [] => true
    | _ => false
  | .cons m ms, ck, sl, n, ss => match ss with
    | [] => false
    | s :: ss => chkXS m ck sl n s && chkXSs ms ck sl n ss
end
mutual
def chkS : MS → Ck → Stmt → Bool
  | .asg t m, ck, s => (match t with
    | .var i => (match s with
      | .Assign [.Name x p] e _ => notComp2 e && (tgB ck x i && ((!swapB ck.sc e x p || lcOf m) && chkE m ck e))
      | _ => false)
    | .ix o i => (match s with
      | .Assign [.Subscript x y _] e _ => notSlice y && (chkE m ck e && (chkE o ck x && chkE i ck y))
      | _ => false))
  | .asgs _ _, _, _ => false
  | .unp is m, ck, s => match s with
    | .Assign [.Tuple es _ _] e _ => notTuple e && (tgsB ck es is && chkE m ck e)
    | _ => false
  | .par is ms, ck, s => match s with
    | .Assign [.Tuple es _ _] (.Tuple vs _ _) _ => noStars vs && (tgsB ck es is && (chkEs ms ck vs && (decide (mesLen ms ≤ lim) &&
        ((es.any (offLoc ck.sc) || (vs.all (foldedForSure 8) || (decide (vs.length ≠ 2 ∧ vs.length ≠ 3) || decide (vs.length ≠ es.length)))) ||
        (!vs.all (foldedForSure 8) && (!vs.all (constantsAlone 8) && (match es, vs, is with
          | [.Name x px, .Name y py], [_, _], [i, j] => decide (ck.sc.names.lookup x = some .local) && (decide (ck.sc.names.lookup y = some .local) && ((px.line == py.line) && (decide (x ≠ y) && decide (i ≠ j))))
          | [.Name x px, .Name y py, .Name z pz], [_, _, _], [i, j, k] => decide (ck.sc.names.lookup x = some .local) && (decide (ck.sc.names.lookup y = some .local) && (decide (ck.sc.names.lookup z = some .local) && ((px.line == py.line) && ((px.line == pz.line) &&
              (decide (x ≠ y ∧ x ≠ z ∧ y ≠ z) && decide (i ≠ j ∧ i ≠ k ∧ j ≠ k))))))
          | _, _, _ => false)))))))
    | _ => false
  | .aug i op m, ck, s => match s with
    | .AugAssign (.Name x _) o e _ => decide (augOp op = some o) && (tgB ck x i && chkE m ck e)
    | _ => false
  | .augIx _ _ _ _, _, _ => false
  | .expr m, ck, s => match s with
    | .Expr e _ => notComp e && chkE m ck e
    | _ => false
  | .ite c a b, ck, s => match s with
    | .If e p q _ => chkE c ck e && (chkSs a ck p && chkSs b ck q)
    | _ => false
  | .for_ t it b, ck, s => match s with
    | .For tg iter body [] _ => notSet iter && (tgtB ck t tg && (chkI it ck tg iter && chkSs b ck body))
    | _ => false
  | .while_ c b, ck, s => match s with
    | .While e body [] _ => chkE c ck e && chkSs b ck body
    | _ => false
  | .ret m, ck, s => match s with
    | .Return (some e) _ => chkE m ck e
    | _ => false
  | .retN, _, s => match s with
    | .Return none _ => true
    | _ => false
  | .pass, _, s => match s with
    | .Pass _ => true
    | .Expr (.Constant (.str _) _ _) _ => true
    | _ => false
  | .brk, _, s => match s with
    | .Break _ => true
    | _ => false
  | .cont, _, s => match s with
    | .Continue _ => true
    | _ => false
  | .never, _, _ => true
  | .raise0 c, ck, s => match s with
    | .Raise (some (.Call (.Name x _) [] [] _)) none _ => decide (x = Str.ofString c) && (decide (c ∈ ck.xs.cs) && (glB ck.sc x && dbOk x))
    | _ => false
  | .raise1 _ _, _, _ => false
  | .try_ b hs, ck, s => match hs, s with
    | [m], .Try [st] [.ExceptHandler (some (.Name cx _)) (some n) (b0 :: suite) _] [] [] _ => chkS b ck st && (decide (ck.N[m.slot]? = some n) && (decide (ck.sc.names.lookup n = some .local) && (dbOk n && (glB ck.sc cx && (dbOk cx && ((ck.xs.ts.any fun p => decide (Str.ofString p.1 = cx) && decide (p.2 = m.takes)) &&
        (m.takes.all (fun c => decide (c ∈ ck.xs.cs)) && chkXSs m.suite ck m.slot n (b0 :: suite))))))))
    | _, _ => false
def chkSs : MSs → Ck → List Stmt → Bool
  | .nil, _, ss => match ss with
    | [] => true
    | _ => false
  | .cons m ms, ck, ss => match ss with
    | [] => false
    | s :: ss => chkS m ck s && chkSs ms ck ss
end
theorem lcOf_good {C : Oracle} {m : ME} {ck : Ck} {X : Cx} {x : Str} {p spos : Pos} {e : Expr} {n : Nat} (S : Site C ck X) (hk : ck.sc.kind = .function) (hl : lcOf m = true) (hc : chkE m ck e = true) (hw : swapB ck.sc e x p = true) (tg : TgOk X x n) :
    SimS X (.Assign [.Name x p] e spos) (fun σ h => (evalE C m σ h).bind fun d h => .ok (.nx (σ.set n (some d))) h) := by
  have main : ∀ (own : List Nat) (t : Tg) (it : MI) (c : MO) (y : ME) (nw : Bool), (∀ σ h, evalE C m σ h = (evalI C it σ h).bind fun its h => (compL t own its.live (evalC C c) (evalE C y) its.its σ h).bind fun xs h => if nw then .ok (.ref h.length) (h ++ [.lst xs]) else .ok (.lst xs) h) →
      chkE (.lc own t it c y) ck e = true → SimS X (.Assign [.Name x p] e spos) (fun σ h => (evalE C m σ h).bind fun d h => .ok (.nx (σ.set n (some d))) h) := by
    intro own t it c y nw hev h
    unfold chkE at h
    split at h
    · rename_i z tg' iter ifs k scope p'
      simp only [Bool.and_eq_true, decide_eq_true_eq, List.all_eq_true] at h
      obtain ⟨rfl, h1, h2, h3, h4, h5, h6, h7⟩ := h
      have ok : L2.BlkOk X.N X.env.scope scope (ownP ck own) := by
        rw [S.N, S.sc]
        exact L2.blkOk_by h1
      have hw2 := hw
      unfold swapB at hw2
      simp only [Bool.and_eq_true, decide_eq_true_eq] at hw2
      have sw : swapsWith (.ListComp z [⟨tg', iter, ifs, 0⟩] scope p') (some (.Name x p)) spos.line X.env = pure true := by
        rw [swap_of S.sc hk rfl, hw]
      refine simS_setLc (own := ownP ck own) (t := t) (evI := evalI C it) (evc := evalC C c) (eve := evalE C y) S.calm S.nd tg.1 (by rw [S.sc]; exact hw2.1.1) sw ok (notSet_of h2) (goodI it ck X tg' iter S h5) (fun s H D cl fp => tgt_of (S.blk scope s H D cl fp) h4) (fun s H D cl fp => goodC c _ _ _ (S.blk scope s H D cl fp) h6)
        (fun s H D cl fp => (goodE y _ _ _ (S.blk scope s H D cl fp) h7).E) (fun i hi => by rw [ownP_snd]; exact h3 i hi) nw (fun σ h => ?_)
      rw [ownP_snd]
      exact hev σ h
    · cases h
  cases m with
  | lc own t it c y => exact main own t it c y false (fun σ h => by rw [evalE] <;> rfl) hc
  | new m =>
    cases m with
    | lc own t it c y =>
      refine main own t it c y true (fun σ h => ?_) ?_
      · rw [evalE, evalE]
        simp only [R.bind_assoc, R.bind_ok]
        rfl
      · unfold chkE at hc
        simp only [Bool.and_eq_true] at hc
        exact hc.2
    | _ => cases hl
  | _ => cases hl
theorem cst_ok {Y : Cx} {d : D} {e : Expr} (h : cstX d e = true) : SimE Y e (fun _ h => .ok d h) := by
  unfold cstX at h
  split at h
  · split at h
    · have := of_decide_eq_true h
      subst this
      exact SimE.congr (fun σ h => by rw [evalE]) (sim_int (C := fun _ _ _ => .bad))
    · cases h
  · split at h
    · exact SimE.congr (fun σ h => by rw [evalE]) (sim_str (C := fun _ _ _ => .bad) (of_decide_eq_true h))
    · cases h
  · split at h
    · have := of_decide_eq_true h
      subst this
      exact SimE.congr (fun σ h => by rw [evalE]) (sim_bl (C := fun _ _ _ => .bad))
    · cases h
  · split at h
    · exact SimE.congr (fun σ h => by rw [evalE]) (sim_non (C := fun _ _ _ => .bad))
    · cases h
  · cases h
theorem cls_pa {C : Oracle} {ck : Ck} {X : Cx} (S : Site C ck X) {Y : Cx} (hg : ∀ x, Gl X x → Gl Y x) (hm : Y.mg = X.mg) {c : String} {A : Addr} (hc : c ∈ ck.xs.cs) (hA : X.mg (Str.ofString c) = some (.ref A)) : ∀ (ts : List Expr) (ls : List (List String)), clsB ck ts = some ls →
    ∃ (ta : TA) (vs : List V) (us : List Value), PA Y ts ta ∧ (∀ σ H Q, Q vs H → ta σ H Q) ∧ vs.length = ts.length ∧ Paired L2.ClsV vs us ∧ PySem.W.kitAny X.K (.ref A) us = some (ls.any fun l => decide (c ∈ l)) ∧ noStars ts = true
  | [], ls, h => by
    cases h
    exact ⟨_, [], [], L2.pa_nil, fun σ H Q q => q, rfl, .nil, rfl, rfl⟩
  | e :: es, ls, h => by
    unfold clsB at h
    cases e with
    | Name x p =>
      dsimp only at h
      split at h
      · rename_i p1 r hp hr
        split at h
        · rename_i hx
          cases h
          have hx := Bool.and_eq_true_iff.mp hx
          obtain ⟨ta, vs, us, t1, t2, t3, t4, t5, t6⟩ := cls_pa S hg hm hc hA es r hr
          have hm1 := List.mem_of_find?_eq_some hp
          have hn := List.find?_some hp
          have hn : Str.ofString p1.1 = x := of_decide_eq_true hn
          obtain ⟨T, hT, hs⟩ := S.xf.sub p1 hm1
          have hk := (hs c hc A hA).2
          rw [hn] at hT
          refine ⟨_, .ref T :: vs, .ref T :: us, L2.pa_cons (L2.pe_glob (v := .ref T) (u := .ref T) (hg x (gl_of S hx.1)) (by rw [hm]; exact hT) rfl (db1 hx.2)) t1 (starE rfl), fun σ H Q q => t2 _ _ _ q, by rw [List.length_cons, List.length_cons, t3], .cons (.own T) t4, ?_, by simp [noStars, t6, notStar]⟩
          refine L2.kitAny_cons hk (fun hb => ?_) (fun hb => ?_)
          · rw [t5, List.any_cons, hb, Bool.false_or]
          · rw [List.any_cons, hb, Bool.true_or]
        · cases h
      · cases h
    | _ => cases h
theorem goodXE {C : Oracle} {ck : Ck} {X : Cx} (S : Site C ck X) {sl : Nat} {n : Str} (hN : ck.N[sl]? = some n) (hl : ck.sc.names.lookup n = some .local) (hd : dbOk n = true) {c : String} {A : Addr} (hc : c ∈ ck.xs.cs) (hA : X.mg (Str.ofString c) = some (.ref A)) (T : L2.ExcC X.K A)
    {a : Addr} {oe : Obj} {pn : List (Addr × Obj)} (hz : L2.Zc (.ref A) none oe) (hf : ∃ vs, oe.data = .fields vs) :
    ∀ (m : XE) (e : Expr), chkXE m ck n e = true → ∃ b, (∀ σ, evalXE c [] m σ = some (.bl b)) ∧ CuT (X.suite a ((a, oe) :: pn)) sl a e b
  | .isx cs, e, h => by
    unfold chkXE at h
    split at h
    · rename_i f pf x px t p
      simp only [Bool.and_eq_true, decide_eq_true_eq] at h
      obtain ⟨rfl, h1, rfl, h2⟩ := h
      refine ⟨decide (c ∈ cs), fun σ => by rw [evalXE], ?_⟩
      have hv := blt_of S h1 boot_isi.1 boot_isi.2
      have hNX : X.N[sl]? = some x := by rw [S.N]; exact hN
      have hvis : Vis X.env.scope x := by rw [S.sc]; exact .inl hl
      have pl : ∀ {es : List Expr} {p : Pos}, Plain (X.suite a ((a, oe) :: pn)) (.Call (.Name (Str.ofString "isinstance") pf) es [] p) := fun {_ _} _ => rfl
      split at h2
      · rename_i cn pc
        simp only [Bool.and_eq_true] at h2
        obtain ⟨h3, h4, h5⟩ := h2
        unfold subB at h3
        obtain ⟨p1, hp1, h6⟩ := List.any_eq_true.mp h3
        simp only [Bool.and_eq_true, decide_eq_true_eq] at h6
        obtain ⟨rfl, rfl⟩ := h6
        obtain ⟨TT, hT, hs⟩ := S.xf.sub p1 hp1
        exact (cuE_isi (cV := .ref TT) (cv := .ref TT) T hz hf hNX hvis (db1 hd) (db2 hd) hv (L2.pe_glob (X := X.suite a ((a, oe) :: pn)) (v := .ref TT) (u := .ref TT) (gl_of S h4) hT rfl (db1 h5)) (fun u r => r) (hs c hc A hA).2).t pl
      · rename_i ts kk pt
        split at h2
        · rename_i ls hls
          simp only [Bool.and_eq_true, decide_eq_true_eq, List.all_eq_true] at h2
          obtain ⟨ta, vs, us, t1, t2, t3, t4, t5, t6⟩ := cls_pa S (Y := X.suite a ((a, oe) :: pn)) (fun x g => g) rfl hc hA ts ls hls
          have e1 : (ls.any fun l => decide (c ∈ l)) = decide (c ∈ cs) := by
            have := h2.1 c hc
            simpa using (beq_iff_eq.mp this).symm
          rw [e1] at t5
          exact (cuE_isiT T hz hf hNX hvis (db1 hd) (db2 hd) hv t1 t2 (by rw [t3]; exact h2.2) t4 t5).t pl
        · cases h2
      · cases h2
    · cases h
  | .not m, e, h => by
    unfold chkXE at h
    split at h
    · obtain ⟨b, h1, h2⟩ := goodXE (a := a) (oe := oe) (pn := pn) S hN hl hd hc hA T hz hf m _ h
      exact ⟨!b, fun σ => by rw [evalXE, h1], cuT_not h2⟩
    · cases h
  | .and m m2, e, h => by
    unfold chkXE at h
    split at h
    · simp only [Bool.and_eq_true] at h
      obtain ⟨b, h1, h2⟩ := goodXE (a := a) (oe := oe) (pn := pn) S hN hl hd hc hA T hz hf m _ h.1
      obtain ⟨b2, h3, h4⟩ := goodXE (a := a) (oe := oe) (pn := pn) S hN hl hd hc hA T hz hf m2 _ h.2
      refine ⟨b && b2, fun σ => ?_, cuT_and2 h2 h4⟩
      rw [evalXE, h1]
      cases b
      · rfl
      · exact h3 σ
    · cases h
  | .cst _, e, h => by cases h
  | .var _, e, h => by cases h
  | .val, e, h => by cases h
  | .rep, e, h => by cases h
  | .lst _, e, h => by cases h
theorem SuS.congr {Y : Cx} {i : Nat} {a : Addr} {st : List Stmt} {f g : Sl → Option Fl} (h : ∀ m, f m = g m) (s : SuS Y i a st g) : SuS Y i a st f := fun om io H σ m hh rs rh hs r ee => s om io H σ m hh rs rh hs r (by rw [← h]; exact ee)
theorem goodXSs {C : Oracle} {ck : Ck} {X : Cx} (S : Site C ck X) {sl : Nat} {n : Str} (hN : ck.N[sl]? = some n) (hl : ck.sc.names.lookup n = some .local) (hd : dbOk n = true) {c : String} {A : Addr} (hc : c ∈ ck.xs.cs) (hA : X.mg (Str.ofString c) = some (.ref A)) (T : L2.ExcC X.K A)
    {a : Addr} {oe : Obj} {pn : List (Addr × Obj)} (hz : L2.Zc (.ref A) none oe) (hf : ∃ vs, oe.data = .fields vs) :
    ∀ (m : XSs) (ss : List Stmt), chkXSs m ck sl n ss = true → SuS (X.suite a ((a, oe) :: pn)) sl a ss (evalXSs c [] m)
  | .nil, ss, h => by
    unfold chkXSs at h
    split at h
    · exact SuS.congr (fun m => by rw [evalXSs]) suS_nil
    · cases h
  | .cons s ms, ss, h => by
    unfold chkXSs at h
    split at h
    · cases h
    · rename_i st rest
      simp only [Bool.and_eq_true] at h
      have hr := goodXSs (a := a) (oe := oe) (pn := pn) S hN hl hd hc hA T hz hf ms rest h.2
      have h1 := h.1
      cases s with
      | asg i e =>
        unfold chkXS at h1
        split at h1
        · rename_i d x p v p2
          simp only [Bool.and_eq_true, decide_eq_true_eq] at h1
          obtain ⟨h3, h4, h5⟩ := h1
          have tg : TgOk X x i := tg_of S h4
          refine SuS.congr (fun m => ?_) (suS_set (Y := X.suite a ((a, oe) :: pn)) S.nd tg ?_ (cst_ok h3) h5 hr)
          · rw [evalXSs, evalXS, evalXE]
            rfl
          · cases v <;> first | rfl | (cases h3; done)
        · cases h1
      | ite e b =>
        unfold chkXS at h1
        split at h1
        · rename_i e' th p
          simp only [Bool.and_eq_true] at h1
          obtain ⟨cb, h3, h4⟩ := goodXE (a := a) (oe := oe) (pn := pn) S hN hl hd hc hA T hz hf e _ h1.1
          have hb := goodXSs (a := a) (oe := oe) (pn := pn) S hN hl hd hc hA T hz hf b th h1.2
          refine SuS.congr (fun m => ?_) (suS_ite h4 hb hr)
          rw [evalXSs, evalXS, h3]
          cases cb <;> rfl
        · cases h1
      | ret e => cases h1
/-- an exception out of one statement -/
theorem goodSX {C : Oracle} (m : MS) (ck : Ck) (X : Cx) (s : Stmt) (S : Site C ck X) (hk : ck.sc.kind = .function) (h : chkS m ck s = true) : SimSX X s (excS C m) := by
  cases m with
  | raise0 c =>
    unfold chkS at h
    split at h
    · simp only [Bool.and_eq_true, decide_eq_true_eq] at h
      obtain ⟨rfl, h1, h2, h3⟩ := h
      obtain ⟨A, hA, T, _⟩ := S.xf.ok c h1
      exact simSX_raise0 S.calm T hA (gl_of S h2) h3
    · cases h
  | asg t e =>
    cases t with
    | ix o i => exact fun om io H σ m hh rs rh c fs h' ee => by cases ee
    | var i =>
      cases e with
      | call f as =>
        unfold chkS at h
        split at h
        · rename_i z
          injection z with z
          subst z
          split at h
          · rename_i x p e spos
            simp only [Bool.and_eq_true, Bool.or_eq_true, Bool.not_eq_true'] at h
            obtain ⟨h1, h2, h3, h4⟩ := h
            have hw : swapB ck.sc e x p = false := h3.resolve_right fun z => by cases z
            exact simSX_set S.nd (tg_of S h2) (by rw [swap_of S.sc hk h1, hw]) (goodX _ ck X e S h4)
          · cases h
        · rename_i z
          cases z
      | _ => exact fun om io H σ m hh rs rh c fs h' ee => by cases ee
  | expr e =>
    unfold chkS at h
    split at h
    · simp only [Bool.and_eq_true] at h
      exact simSX_expr (notComp_of h.1) (goodX e ck X _ S h.2)
    · cases h
  | ret e =>
    unfold chkS at h
    split at h
    · exact simSX_ret (goodX e ck X _ S h)
    · cases h
  | raise1 c e => unfold chkS at h; cases h
  | _ => exact fun om io H σ m hh rs rh c fs h' ee => by cases ee
mutual
theorem goodS {C : Oracle} : ∀ (m : MS) (ck : Ck) (X : Cx) (s : Stmt), Site C ck X → ck.sc.kind = .function → PassesOwn (model X.prog X.w) X.A X.env X.xe → (X.stack = X.env :: X.outer ∧ X.env.frame = some X.env.locals) → chkS m ck s = true → SimS X s (evalS C m)
  | .asg (.var i) m, ck, X, s, S, hk, hp, hst, h => by
    unfold chkS at h
    split at h
    · rename_i z
      injection z with z
      subst z
      split at h
      · rename_i x p e spos
        simp only [Bool.and_eq_true, Bool.or_eq_true, Bool.not_eq_true'] at h
        obtain ⟨h1, h2, h3, h4⟩ := h
        have tg := tg_of S h2
        by_cases hw : swapB ck.sc e x p = true
        · rcases h3 with h3 | h3
          · rw [hw] at h3; cases h3
          · exact fun om io H σ mm hh rs rh f h' ee => lcOf_good S hk h3 h4 hw tg om io H σ mm hh rs rh f h' (by rw [evalS] at ee; exact ee)
        · have hw' : swapB ck.sc e x p = false := by simpa using hw
          have g := goodE m ck X e S h4
          exact fun om io H σ mm hh rs rh f h' ee => simS_set S.nd tg (by rw [swap_of S.sc hk h1, hw']) g.E om io H σ mm hh rs rh f h' (by rw [evalS] at ee; exact ee)
      · cases h
    · rename_i z
      cases z
  | .asg (.ix o i) m, ck, X, s, S, hk, hp, hst, h => by
    unfold chkS at h
    split at h
    · rename_i z
      cases z
    · rename_i z
      injection z with z1 z2
      subst z1 z2
      split at h
      · rename_i x y p e spos
        simp only [Bool.and_eq_true] at h
        obtain ⟨h1, h2, h3, h4⟩ := h
        have g := goodE m ck X e S h2
        have go := goodE o ck X x S h3
        have gi := goodE i ck X y S h4
        refine fun om io H σ mm hh rs rh f h' ee => simS_ix S.units sole_sub swapped_sub (assign_sub h1) g.E go.E gi.E om io H σ mm hh rs rh f h' ?_
        rw [evalS] at ee
        simp only [setT, R.bind_assoc] at ee
        rw [← ee]
        dsimp only
        congr 1
        funext d h1
        congr 1
        funext ov h2
        congr 1
        funext iv h3
        cases setD h3 ov iv d <;> rfl
      · cases h
  | .asgs _ _, ck, X, s, S, hk, hp, hst, h => by
    unfold chkS at h
    cases h
  | .unp is m, ck, X, s, S, hk, hp, hst, h => by
    unfold chkS at h
    split at h
    · rename_i es k p e spos
      simp only [Bool.and_eq_true] at h
      obtain ⟨h1, h2, h3⟩ := h
      have g := goodE m ck X e S h3
      exact fun om io H σ mm hh rs rh f h' ee => simS_unp S.calm S.nd (tgs_of S h2) sole_tup (notTuple_of h1) g.E om io H σ mm hh rs rh f h' (by rw [evalS] at ee; exact ee)
    · cases h
  | .par is ms, ck, X, s, S, hk, hp, hst, h => by
    unfold chkS at h
    split at h
    · rename_i es k p vs k2 p2 spos
      simp only [Bool.and_eq_true, Bool.or_eq_true, decide_eq_true_eq, Bool.not_eq_true'] at h
      obtain ⟨h1, h2, h3, h4, h5⟩ := h
      have g := (goodEs ms ck X vs S h3).A h1
      have hl : ∀ m hh ds h', evalEs C ms m hh = .ok ds h' → ds.length ≤ lim := fun m hh ds h' ee => by rw [evalEs_len C ms m hh ds h' ee]; exact h4
      rcases h5 with (h5 | h5) | ⟨h5, h6, h7⟩
      · exact fun om io H σ mm hh rs rh f h' ee => simS_par0 S.calm S.nd (tgs_of S h2) sole_tup (swappedK S.sc h5) hl g om io H σ mm hh rs rh f h' (by rw [evalS] at ee; exact ee)
      · exact fun om io H σ mm hh rs rh f h' ee => simS_par0 S.calm S.nd (tgs_of S h2) sole_tup (swapped0 h5) hl g om io H σ mm hh rs rh f h' (by rw [evalS] at ee; exact ee)
      · split at h7
        · rename_i x px y py a b i j
          simp only [Bool.and_eq_true, decide_eq_true_eq] at h7
          obtain ⟨c1, c2, c3, c4, c5⟩ := h7
          simp only [tgsB, Bool.and_eq_true] at h2
          simp only [noStars, Bool.and_eq_true] at h1
          have t1 := tg_of S h2.1
          have t2 := tg_of S h2.2.1
          exact fun om io H σ mm hh rs rh f h' ee => simS_par2 S.calm S.nd t1.1 t2.1 c5 (by rw [S.sc]; exact c1) (by rw [S.sc]; exact c2) (swapped2 S.sc hk c1 c2 c3 c4 h1.1 h1.2.1 h5 h6) sole_tup g om io H σ mm hh rs rh f h' (by rw [evalS] at ee; exact ee)
        · rename_i x px y py z pz a b c i j l
          simp only [Bool.and_eq_true, decide_eq_true_eq] at h7
          obtain ⟨c1, c2, c3, c4, c5, c6, c7⟩ := h7
          simp only [tgsB, Bool.and_eq_true] at h2
          simp only [noStars, Bool.and_eq_true] at h1
          have t1 := tg_of S h2.1
          have t2 := tg_of S h2.2.1
          have t3 := tg_of S h2.2.2.1
          exact fun om io H σ mm hh rs rh f h' ee => simS_par3 S.calm S.nd t1.1 t2.1 t3.1 c7.1 c7.2.1 c7.2.2 (by rw [S.sc]; exact c1) (by rw [S.sc]; exact c2) (by rw [S.sc]; exact c3) (swapped3 S.sc hk c1 c2 c3 c4 c5 c6.1 c6.2.1 c6.2.2 h1.1 h1.2.1 h1.2.2.1 h5 h6) sole_tup g om io H σ mm hh rs rh f h' (by rw [evalS] at ee; exact ee)
        · cases h7
    · cases h
  | .aug i op m, ck, X, s, S, hk, hp, hst, h => by
    unfold chkS at h
    split at h
    · simp only [Bool.and_eq_true, decide_eq_true_eq] at h
      obtain ⟨h1, h2, h3⟩ := h
      have g := goodE m ck X _ S h3
      exact fun om io H σ mm hh rs rh f h' ee => simS_aug h1 S.nd (tg_of S h2) g.E om io H σ mm hh rs rh f h' (by rw [evalS] at ee; exact ee)
    · cases h
  | .augIx _ _ _ _, ck, X, s, S, hk, hp, hst, h => by
    unfold chkS at h
    cases h
  | .expr m, ck, X, s, S, hk, hp, hst, h => by
    unfold chkS at h
    split at h
    · simp only [Bool.and_eq_true] at h
      have g := goodE m ck X _ S h.2
      exact fun om io H σ mm hh rs rh f h' ee => simS_expr (notComp_of h.1) g.E om io H σ mm hh rs rh f h' (by rw [evalS] at ee; exact ee)
    · cases h
  | .ite c a b, ck, X, s, S, hk, hp, hst, h => by
    unfold chkS at h
    split at h
    · simp only [Bool.and_eq_true] at h
      have g := goodE c ck X _ S h.1
      have ga := goodSs a ck X _ S hk hp hst h.2.1
      have gb := goodSs b ck X _ S hk hp hst h.2.2
      exact fun om io H σ mm hh rs rh f h' ee => simS_ite g.T ga gb om io H σ mm hh rs rh f h' (by rw [evalS] at ee; exact ee)
    · cases h
  | .for_ t it b, ck, X, s, S, hk, hp, hst, h => by
    unfold chkS at h
    split at h
    · simp only [Bool.and_eq_true] at h
      obtain ⟨h1, h2, h3, h4⟩ := h
      have gi := goodI it ck X _ _ S h3
      have gb := goodSs b ck X _ S hk hp hst h4
      exact fun om io H σ mm hh rs rh f h' ee => simS_for hp S.calm (notSet_of h1) gi (tgt_of S h2) gb om io H σ mm hh rs rh f h' (by rw [evalS] at ee; exact ee)
    · cases h
  | .while_ c b, ck, X, s, S, hk, hp, hst, h => by
    unfold chkS at h
    split at h
    · simp only [Bool.and_eq_true] at h
      have g := goodE c ck X _ S h.1
      have gb := goodSs b ck X _ S hk hp hst h.2
      exact fun om io H σ mm hh rs rh f h' ee => simS_while hp g.T gb om io H σ mm hh rs rh f h' (by rw [evalS] at ee; exact ee)
    · cases h
  | .ret m, ck, X, s, S, hk, hp, hst, h => by
    unfold chkS at h
    split at h
    · have g := goodE m ck X _ S h
      exact fun om io H σ mm hh rs rh f h' ee => simS_ret g.E om io H σ mm hh rs rh f h' (by rw [evalS] at ee; exact ee)
    · cases h
  | .retN, ck, X, s, S, hk, hp, hst, h => by
    unfold chkS at h
    split at h
    · exact fun om io H σ mm hh rs rh f h' ee => simS_retN om io H σ mm hh rs rh f h' (by rw [evalS] at ee; exact ee)
    · cases h
  | .pass, ck, X, s, S, hk, hp, hst, h => by
    unfold chkS at h
    split at h
    · exact fun om io H σ mm hh rs rh f h' ee => simS_pass om io H σ mm hh rs rh f h' (by rw [evalS] at ee; exact ee)
    · exact fun om io H σ mm hh rs rh f h' ee => simS_doc om io H σ mm hh rs rh f h' (by rw [evalS] at ee; exact ee)
    · cases h
  | .brk, ck, X, s, S, hk, hp, hst, h => by
    unfold chkS at h
    split at h
    · exact fun om io H σ mm hh rs rh f h' ee => simS_brk om io H σ mm hh rs rh f h' (by rw [evalS] at ee; exact ee)
    · cases h
  | .cont, ck, X, s, S, hk, hp, hst, h => by
    unfold chkS at h
    split at h
    · exact fun om io H σ mm hh rs rh f h' ee => simS_cont om io H σ mm hh rs rh f h' (by rw [evalS] at ee; exact ee)
    · cases h
  | .never, ck, X, s, S, hk, hp, hst, h => fun om io H σ mm hh rs rh f h' ee => by rw [evalS] at ee; cases ee
  | .raise0 _, ck, X, s, S, hk, hp, hst, h => fun om io H σ mm hh rs rh f h' ee => by rw [evalS] at ee; cases ee
  | .raise1 _ _, ck, X, s, S, hk, hp, hst, h => by unfold chkS at h; cases h
  | .try_ b hs, ck, X, s, S, hk, hp, hst, h => by
    unfold chkS at h
    split at h
    · rename_i m st cx np n b0 suite pos' pos
      simp only [Bool.and_eq_true, decide_eq_true_eq, List.all_eq_true] at h
      obtain ⟨h1, h2, h3, h4, h5, h6, h7, h8, h9⟩ := h
      obtain ⟨p1, hp1, e1⟩ := List.any_eq_true.mp h7
      simp only [Bool.and_eq_true, decide_eq_true_eq] at e1
      obtain ⟨TT, hT, hs⟩ := S.xf.sub p1 hp1
      rw [e1.1] at hT
      refine fun om io H σ mm hh rs rh f h' ee => simS_try (ev := evalS C b) (xs := excS C b) (n := n) (slot := m.slot) (takes := m.takes) (cv := .ref TT) (evS := fun c fs => evalXSs c fs m.suite) hst.1 hst.2 S.nd (by rw [S.N]; exact h2) (by unfold Env.kindOf; rw [S.sc]; exact h3) ⟨gl_of S h5, db1 h6, .inl hT⟩
        (fun pn xe po => ⟨goodS b ck (X.tr pn xe) st (S.tr pn xe) hk po hst h1, goodSX b ck (X.tr pn xe) st (S.tr pn xe) hk h1⟩)
        (fun c hc A hA => by rw [(hs c (h8 c hc) A hA).1, e1.2, decide_eq_true hc])
        (fun c hc A hA a oe pn hz hf => by
          obtain ⟨A', hA', _, T⟩ := S.xf.ok c (h8 c hc)
          have e : A' = A := by
            have z := hA'.symm.trans hA
            injection z with z
            injection z
          subst e
          exact goodXSs S h2 h3 h4 (h8 c hc) hA T hz hf m.suite _ h9) om io H σ mm hh rs rh f h' ?_
      rw [evalS] at ee
      rw [← ee]
      dsimp only
      cases evalS C b mm hh with
      | ok f h => rfl
      | bad => rfl
      | exc c1 f1 g1 =>
        dsimp only
        cases excS C b mm hh with
        | none => rfl
        | some x => rfl
    · cases h
theorem goodSs {C : Oracle} : ∀ (m : MSs) (ck : Ck) (X : Cx) (s : List Stmt), Site C ck X → ck.sc.kind = .function → PassesOwn (model X.prog X.w) X.A X.env X.xe → (X.stack = X.env :: X.outer ∧ X.env.frame = some X.env.locals) → chkSs m ck s = true → SimSs X s (evalSs C m)
  | .nil, ck, X, s, S, hk, hp, hst, h => by
    unfold chkSs at h
    split at h
    · exact fun om io H σ mm hh rs rh f h' ee => simSs_nil om io H σ mm hh rs rh f h' (by rw [evalSs] at ee; exact ee)
    · cases h
  | .cons m ms, ck, X, s, S, hk, hp, hst, h => by
    unfold chkSs at h
    split at h
    · cases h
    · simp only [Bool.and_eq_true] at h
      have g := goodS m ck X _ S hk hp hst h.1
      have gs := goodSs ms ck X _ S hk hp hst h.2
      exact fun om io H σ mm hh rs rh f h' ee => simSs_cons g gs om io H σ mm hh rs rh f h' (by rw [evalSs] at ee; exact ee)
end
/-- an exception out of a statement of a def's body -/
def exI (C : Oracle) (s : MS) (σ : Sl) (h : Hh) : Option (String × List D × Hh) := match s with
  | .ite c a b => (match truthR (evalE C c σ h) with
    | .ok k h => if k then excSs C a σ h else excSs C b σ h
    | _ => none)
  | s => excS C s σ h
theorem excSs_cons {C : Oracle} {s : MS} {ss : MSs} {σ : Sl} {h : Hh} : excSs C (.cons s ss) σ h = match evalS C s σ h with
    | .ok (.nx σ) h => excSs C ss σ h
    | .exc _ _ _ => exI C s σ h
    | _ => none := by
  rw [excSs.eq_def]
  dsimp only
  cases evalS C s σ h with
  | ok f h => cases f <;> rfl
  | bad => rfl
  | exc c fs h => cases s <;> rfl
theorem SimSsX.congr {X : Cx} {st : List Stmt} {f g : Sl → Hh → Option (String × List D × Hh)} (h : ∀ σ h, f σ h = g σ h) (s : SimSsX X st g) : SimSsX X st f := fun om io H σ m hh rs rh c fs h' ee => s om io H σ m hh rs rh c fs h' (by rw [← h]; exact ee)
theorem goodSsX {C : Oracle} : ∀ (m : MSs) (ck : Ck) (X : Cx) (s : List Stmt), Site C ck X → ck.sc.kind = .function → PassesOwn (model X.prog X.w) X.A X.env X.xe → (X.stack = X.env :: X.outer ∧ X.env.frame = some X.env.locals) → chkSs m ck s = true → SimSsX X s (excSs C m)
  | .nil, ck, X, s, S, hk, hp, hst, h => fun om io H σ m hh rs rh c fs h' ee => by rw [excSs] at ee; cases ee
  | .cons m ms, ck, X, s, S, hk, hp, hst, h => by
    unfold chkSs at h
    split at h
    · cases h
    · simp only [Bool.and_eq_true] at h
      have g := goodS m ck X _ S hk hp hst h.1
      have gs := goodSsX ms ck X _ S hk hp hst h.2
      refine SimSsX.congr (fun σ h => excSs_cons) (simSsX_cons g gs ?_)
      have h1 := h.1
      cases m with
      | ite c a b =>
        unfold chkS at h1
        split at h1
        · simp only [Bool.and_eq_true] at h1
          have gc := goodE c ck X _ S h1.1
          have ga := goodSsX a ck X _ S hk hp hst h1.2.1
          have gb := goodSsX b ck X _ S hk hp hst h1.2.2
          exact simSXA_ite gc.T ga gb
        · cases h1
      | _ => exact (goodSX _ ck X _ S hk h1).all
end Mini
end
section
set_option Elab.async false
set_option linter.all false
set_option autoImplicit false
set_option maxRecDepth 100000
/-! Sound16: defs. -/
namespace Mini
open PySem PySem.Spec PyProof.Rows
open L2 (V Hp HO Key Rd SqL SqT Inv Cx RelV upd upd_same upd_ne Same WX VK TE TT TA TO TI TG TGs It XK OpR UnR CallR R2 EP TP AP SP PE PT PW PA PO PS PSs PG PGs PI PIE PTs Dp DpAll MtR MtM IxR SlR PSet PIp Gl Vis Loc Ends TS Room Env0 Vals FnScope)

/-! ### what is lent, what comes back -/
mutual
/-- refs below n -/
def vld (n : Nat) : D → Bool
  | .tup xs => vldL n xs
  | .lst xs => vldL n xs
  | .scr xs => vldL n xs
  | .ref i => decide (i < n)
  | .rep _ => true
  | .non => true
  | .bl _ => true
  | .int _ => true
  | .str _ => true
  | .dct _ => true
def vldL (n : Nat) : List D → Bool
  | [] => true
  | x :: xs => vld n x && vldL n xs
end
section
variable {K : PySem.W.Frag} {om om' : Om} {io io' : List Addr} {H H' : Hp}
mutual
theorem Rp.vld : ∀ {v : V} {d : D}, Rp K om io H v d → Mini.vld io.length d = true
  | _, _, .non => rfl
  | _, _, .bl b => rfl
  | _, _, .int i => rfl
  | _, _, .str s => rfl
  | _, _, .tup _ _ _ t => by simp only [Mini.vld]; exact Rps.vld t
  | _, _, .lst _ _ _ t => by simp only [Mini.vld]; exact Rps.vld t
  | _, _, .scr _ _ _ t => by simp only [Mini.vld]; exact Rps.vld t
  | _, _, .scrK _ t => by simp only [Mini.vld]; exact Rps.vld t
  | _, _, .dct _ _ _ => rfl
  | _, _, .rep d => rfl
  | _, _, .ref h => by
    obtain ⟨hl, _⟩ := List.getElem?_eq_some_iff.mp h
    simp only [Mini.vld, decide_eq_true_eq]
    exact hl
theorem Rps.vld : ∀ {vs : List V} {ds : List D}, Rps K om io H vs ds → Mini.vldL io.length ds = true
  | _, _, .nil => rfl
  | _, _, .cons r t => by simp only [Mini.vldL, Bool.and_eq_true]; exact ⟨Rp.vld r, Rps.vld t⟩
end
mutual
/-- the cells that came later are not named -/
theorem Rp.cut {more : List Addr} : ∀ {v : V} {d : D}, Rp K om (io ++ more) H v d → Mini.vld io.length d = true → Rp K om io H v d
  | _, _, .non, _ => .non
  | _, _, .bl b, _ => .bl b
  | _, _, .int i, _ => .int i
  | _, _, .str s, _ => .str s
  | _, _, .tup e h1 h2 t, h => .tup e h1 (fun z => h2 (List.mem_append_left _ z)) (Rps.cut t (by simpa only [Mini.vld] using h))
  | _, _, .lst e h1 h2 t, h => .lst e h1 (fun z => h2 (List.mem_append_left _ z)) (Rps.cut t (by simpa only [Mini.vld] using h))
  | _, _, .scr e h1 h2 t, h => .scr e (fun z => h1 (List.mem_append_left _ z)) h2 (Rps.cut t (by simpa only [Mini.vld] using h))
  | _, _, .scrK e t, h => .scrK e (Rps.cut t (by simpa only [Mini.vld] using h))
  | _, _, .dct e h1 h2, _ => .dct e h1 (fun z => h2 (List.mem_append_left _ z))
  | _, _, .rep d, _ => .rep d
  | _, _, .ref e, h => by
    simp only [Mini.vld, decide_eq_true_eq] at h
    rw [List.getElem?_append_left h] at e
    exact .ref e
theorem Rps.cut {more : List Addr} : ∀ {vs : List V} {ds : List D}, Rps K om (io ++ more) H vs ds → Mini.vldL io.length ds = true → Rps K om io H vs ds
  | _, _, .nil, _ => .nil
  | _, _, .cons r t, h => by
    simp only [Mini.vldL, Bool.and_eq_true] at h
    exact .cons (Rp.cut r h.1) (Rps.cut t h.2)
end
mutual
theorem below_vld : ∀ (n : Nat) (d : D), below n d = true → vld n d = true
  | n, .tup xs, h => by simp only [vld]; exact belowL_vld n xs (by simpa only [below] using h)
  | n, .lst xs, h => by simp only [vld]; exact belowL_vld n xs (by simpa only [below] using h)
  | n, .scr xs, h => by simp [below] at h
  | n, .ref i, h => by simpa only [vld, below] using h
  | n, .rep _, _ => rfl
  | n, .non, _ => rfl
  | n, .bl _, _ => rfl
  | n, .int _, _ => rfl
  | n, .str _, _ => rfl
  | n, .dct _, _ => rfl
theorem belowL_vld : ∀ (n : Nat) (ds : List D), belowL n ds = true → vldL n ds = true
  | n, [], _ => rfl
  | n, x :: xs, h => by
    simp only [belowL, Bool.and_eq_true] at h
    simp only [vldL, Bool.and_eq_true]
    exact ⟨below_vld n x h.1, belowL_vld n xs h.2⟩
end
mutual
/-- no ref at all: it stands for the same whatever the cells -/
theorem Rp.free (hsub : ∀ a, a ∉ om → a ∉ io → a ∉ om' ∧ a ∉ io') (hs2 : ∀ a vs, Rd H a (.lst vs) → a ∉ io → a ∉ om.x → a ∉ io' ∧ a ∉ om'.x) : ∀ {v : V} {d : D}, Rp K om io H v d → noRef d = true → Rp K om' io' H v d
  | _, _, .non, _ => .non
  | _, _, .bl b, _ => .bl b
  | _, _, .int i, _ => .int i
  | _, _, .str s, _ => .str s
  | _, _, .tup e h1 h2 t, h => .tup e (hsub _ h1 h2).1 (hsub _ h1 h2).2 (Rps.free hsub hs2 t (by simpa only [noRef] using h))
  | _, _, .lst e h1 h2 t, h => .lst e (hsub _ h1 h2).1 (hsub _ h1 h2).2 (Rps.free hsub hs2 t (by simpa only [noRef] using h))
  | _, _, .scr e h1 h2 t, h => .scr e (hs2 _ _ e h1 h2).1 (hs2 _ _ e h1 h2).2 (Rps.free hsub hs2 t (by simpa only [noRef] using h))
  | _, _, .scrK e t, h => .scrK e (Rps.free hsub hs2 t (by simpa only [noRef] using h))
  | _, _, .dct e h1 h2, _ => .dct e (hsub _ h1 h2).1 (hsub _ h1 h2).2
  | _, _, .rep d, _ => .rep d
  | _, _, .ref e, h => by simp [noRef] at h
theorem Rps.free (hsub : ∀ a, a ∉ om → a ∉ io → a ∉ om' ∧ a ∉ io') (hs2 : ∀ a vs, Rd H a (.lst vs) → a ∉ io → a ∉ om.x → a ∉ io' ∧ a ∉ om'.x) : ∀ {vs : List V} {ds : List D}, Rps K om io H vs ds → noRefL ds = true → Rps K om' io' H vs ds
  | _, _, .nil, _ => .nil
  | _, _, .cons r t, h => by
    simp only [noRefL, Bool.and_eq_true] at h
    exact .cons (Rp.free hsub hs2 r h.1) (Rps.free hsub hs2 t h.2)
end
mutual
theorem pure_noRef : ∀ d : D, pureD d = true → noRef d = true
  | .tup xs, h => by simp only [noRef]; exact pureL_noRef xs (by simpa only [pureD] using h)
  | .lst xs, h => by simp only [noRef]; exact pureL_noRef xs (by simpa only [pureD] using h)
  | .scr _, h => by simp [pureD] at h
  | .ref _, h => by simp [pureD] at h
  | .rep _, _ => rfl
  | .non, _ => rfl
  | .bl _, _ => rfl
  | .int _, _ => rfl
  | .str _, _ => rfl
  | .dct _, _ => rfl
theorem pureL_noRef : ∀ ds : List D, pureL ds = true → noRefL ds = true
  | [], _ => rfl
  | x :: xs, h => by
    simp only [pureL, Bool.and_eq_true] at h
    simp only [noRefL, Bool.and_eq_true]
    exact ⟨pure_noRef x h.1, pureL_noRef xs h.2⟩
end
mutual
/-- data alone: nothing borrowed is asked -/
theorem Rp.pureFree (hsub : ∀ a, a ∉ om → a ∉ io → a ∉ om' ∧ a ∉ io') : ∀ {v : V} {d : D}, Rp K om io H v d → pureD d = true → Rp K om' io' H v d
  | _, _, .non, _ => .non
  | _, _, .bl b, _ => .bl b
  | _, _, .int i, _ => .int i
  | _, _, .str s, _ => .str s
  | _, _, .tup e h1 h2 t, h => .tup e (hsub _ h1 h2).1 (hsub _ h1 h2).2 (Rps.pureFree hsub t (by simpa only [pureD] using h))
  | _, _, .lst e h1 h2 t, h => .lst e (hsub _ h1 h2).1 (hsub _ h1 h2).2 (Rps.pureFree hsub t (by simpa only [pureD] using h))
  | _, _, .scr e h1 h2 t, h => by simp [pureD] at h
  | _, _, .scrK e t, h => by simp [pureD] at h
  | _, _, .dct e h1 h2, _ => .dct e (hsub _ h1 h2).1 (hsub _ h1 h2).2
  | _, _, .rep d, _ => .rep d
  | _, _, .ref e, h => by simp [pureD] at h
theorem Rps.pureFree (hsub : ∀ a, a ∉ om → a ∉ io → a ∉ om' ∧ a ∉ io') : ∀ {vs : List V} {ds : List D}, Rps K om io H vs ds → pureL ds = true → Rps K om' io' H vs ds
  | _, _, .nil, _ => .nil
  | _, _, .cons r t, h => by
    simp only [pureL, Bool.and_eq_true] at h
    exact .cons (Rp.pureFree hsub r h.1) (Rps.pureFree hsub t h.2)
end
theorem optAll_rps {f : D → Option D} (ih : ∀ x x' v, f x = some x' → Rp K om io H v x → Rp K om' io' H v x') : ∀ (xs ys : List D) (vs : List V), optAll f xs = some ys → Rps K om io H vs xs → Rps K om' io' H vs ys
  | [], ys, vs, e, r => by
    cases r
    have e1 : [] = ys := Option.some.inj e
    subst e1
    exact .nil
  | x :: xs, ys, vs, e, r => by
    cases r with
    | cons r t =>
      unfold optAll at e
      split at e
      · rename_i y hy
        split at e
        · rename_i zs hz
          have e2 := Option.some.inj e
          subst e2
          exact .cons (ih x y _ hy r) (optAll_rps ih xs zs _ hz t)
        · cases e
      · cases e
/-- what a def is lent -/
def Om.lent (om : Om) (io : List Addr) : Om := ⟨om.o ++ io, om.x⟩
theorem not_lent {a : Addr} : a ∉ om.lent io ↔ a ∉ om ∧ a ∉ io := by
  show ¬ (a ∈ om.o ++ io ∨ a ∈ om.x) ↔ ¬ (a ∈ om.o ∨ a ∈ om.x) ∧ a ∉ io
  simp only [List.mem_append, not_or]
  constructor
  · rintro ⟨⟨h1, h2⟩, h3⟩
    exact ⟨⟨h1, h3⟩, h2⟩
  · rintro ⟨⟨h1, h3⟩, h2⟩
    exact ⟨⟨h1, h2⟩, h3⟩
theorem lend_rp {h : Hh} (R : HpRp K om io H h) : ∀ (n : Nat) (x x' : D) (v : V), lend h n x = some x' → Rp K om io H v x → Rp K (om.lent io) [] H v x'
  | n, x, x', v, e, r => by
    have free : noRef x = true → Rp K (om.lent io) [] H v x := fun hp => r.free (fun a h1 h2 => ⟨not_lent.mpr ⟨h1, h2⟩, by simp⟩) (fun a vs _ h1 h2 => ⟨by simp, h2⟩) hp
    cases n with
    | zero =>
      have e1 : (if noRef x then some x else none) = some x' := e
      split at e1
      · rename_i hp
        have e2 := Option.some.inj e1
        subst e2
        exact free hp
      · cases e1
    | succ n =>
      unfold lend at e
      split at e
      · rename_i hp
        have e2 := Option.some.inj e
        subst e2
        exact free hp
      · have ih := lend_rp R n
        split at e
        · obtain ⟨ys, h1, h2⟩ := map_some e
          subst h2
          cases r with
          | tup e1 e2 e3 t => exact .tup e1 (not_lent.mpr ⟨e2, e3⟩) (by simp) (optAll_rps (fun x x' v => ih x x' v) _ _ _ h1 t)
        · obtain ⟨ys, h1, h2⟩ := map_some e
          subst h2
          cases r with
          | lst e1 e2 e3 t => exact .lst e1 (not_lent.mpr ⟨e2, e3⟩) (by simp) (optAll_rps (fun x x' v => ih x x' v) _ _ _ h1 t)
        · obtain ⟨ys, h1, h2⟩ := map_some e
          subst h2
          cases r with
          | scr e1 e2 e3 t => exact .scr e1 (by simp) e3 (optAll_rps (fun x x' v => ih x x' v) _ _ _ h1 t)
          | scrK e1 t => exact .scrK e1 (optAll_rps (fun x x' v => ih x x' v) _ _ _ h1 t)
        · split at e
          · rename_i xs hx
            obtain ⟨ys, h1, h2⟩ := map_some e
            subst h2
            obtain ⟨a, vs, rfl, hio, ha, ra⟩ := ref_at r R hx
            have ho := R.out a (List.mem_of_getElem? hio)
            exact .scr (.inl ha) (by simp) (fun z => ho (.inr z)) (optAll_rps (fun x x' v => ih x x' v) _ _ _ h1 ra)
          · cases e
        · cases e
theorem snap_rp {h : Hh} {lo : Nat} (R : HpRp K om' io' H h) (hsub : ∀ a, a ∉ om' → a ∉ io' → a ∉ om ∧ a ∉ io) (hown : ∀ (i : Nat) (a : Addr), lo ≤ i → io'[i]? = some a → a ∉ om ∧ a ∉ io) :
    ∀ (n : Nat) (x x' : D) (v : V), snap lo h n x = some x' → Rp K om' io' H v x → Rp K om io H v x'
  | n, x, x', v, e, r => by
    cases n with
    | zero =>
      have e1 : (if pureD x then some x else none) = some x' := e
      split at e1
      · rename_i hp
        have e2 := Option.some.inj e1
        subst e2
        exact r.pureFree hsub hp
      · cases e1
    | succ n =>
      unfold snap at e
      split at e
      · rename_i hp
        have e2 := Option.some.inj e
        subst e2
        exact r.pureFree hsub hp
      · have ih := snap_rp R hsub hown n
        split at e
        · obtain ⟨ys, h1, h2⟩ := map_some e
          subst h2
          cases r with
          | tup e1 e2 e3 t => exact .tup e1 (hsub _ e2 e3).1 (hsub _ e2 e3).2 (optAll_rps (fun x x' v => ih x x' v) _ _ _ h1 t)
        · obtain ⟨ys, h1, h2⟩ := map_some e
          subst h2
          cases r with
          | lst e1 e2 e3 t => exact .lst e1 (hsub _ e2 e3).1 (hsub _ e2 e3).2 (optAll_rps (fun x x' v => ih x x' v) _ _ _ h1 t)
        · split at e
          · rename_i hlo
            split at e
            · rename_i xs hx
              obtain ⟨ys, h1, h2⟩ := map_some e
              subst h2
              obtain ⟨a, vs, rfl, hio, ha, ra⟩ := ref_at r R hx
              exact .lst ha (hown _ a hlo hio).1 (hown _ a hlo hio).2 (optAll_rps (fun x x' v => ih x x' v) _ _ _ h1 ra)
            · cases e
          · cases e
        · cases e
theorem HpRp.lent {h : Hh} (R : HpRp K om io H h) : HpRp K (om.lent io) [] H [] := by
  refine ⟨rfl, List.nodup_nil, fun n a c h1 _ => by simp at h1, fun a ha => by simp at ha, fun a ha => ?_⟩
  by_cases z : a ∈ io
  · exact R.there z
  · exact R.om a (Classical.byContradiction fun q => (not_lent.mpr ⟨q, z⟩) ha)
theorem same_of_ext {io1 : List Addr} {H1 : Hp} (x : Ext [] H io1 H1) : Same H H1 := fun a o e => x.old a o e (by simp)
/-- the cells of a def are gone behind it -/
theorem HpRp.trim {h h1 : Hh} {io1 : List Addr} {H1 : Hp} (R : HpRp K om io H h) (x : Ext io H io1 H1) (R1 : HpRp K om io1 H1 h1) (ht : trimOk h h1 = true) : HpRp K om io H1 (h1.take h.length) := by
  obtain ⟨⟨more, rfl, hm⟩, ho, hth⟩ := x
  have hx : Ext io H (io ++ more) H1 := ⟨⟨more, rfl, hm⟩, ho, hth⟩
  simp only [trimOk, Bool.and_eq_true, decide_eq_true_eq, List.all_eq_true, Bool.or_eq_true] at ht
  obtain ⟨hl, hc⟩ := ht
  refine ⟨by rw [List.length_take, R.len]; omega, R.nd, fun n a c h1' h2 => ?_, R.out, fun a ha => ?_⟩
  · obtain ⟨hn, _⟩ := List.getElem?_eq_some_iff.mp h1'
    have hn2 : n < h.length := by rw [← R.len]; exact hn
    have h3 : h1[n]? = some c := by
      rw [List.getElem?_take_of_lt hn2] at h2
      exact h2
    have h4 : h[n]? = some h[n] := List.getElem?_eq_getElem hn2
    have q1 := R1.cell n a c (by rw [List.getElem?_append_left hn]; exact h1') h3
    have q0 := R.cell n a _ h1' h4
    have hz : (h[n], c) ∈ h.zip h1 := by
      refine List.mem_of_getElem? (i := n) ?_
      rw [List.getElem?_zip_eq_some]
      exact ⟨h4, h3⟩
    have hv : ∀ ds, (∃ vs, Rps K om io H vs ds) ∨ belowL h.length ds = true → vldL io.length ds = true := fun ds z => by
      rcases z with ⟨vs, z⟩ | z
      · exact z.vld
      · rw [R.len]; exact belowL_vld _ _ z
    rcases hc _ hz with hs | hb
    · have e : h[n] = c := sameC_eq hs
      rw [e] at q0
      cases c with
      | lst ds =>
        obtain ⟨us, _, q0⟩ := q0
        obtain ⟨vs, e1, q1⟩ := q1
        exact ⟨vs, e1, q1.cut (hv _ (.inl ⟨us, q0⟩))⟩
      | dK kvs =>
        obtain ⟨us, _, _, q0⟩ := q0
        obtain ⟨vs, e1, e2, q1⟩ := q1
        exact ⟨vs, e1, e2, q1.cut (hv _ (.inl ⟨_, q0⟩))⟩
      | dT kvs =>
        obtain ⟨us, _, _, q0⟩ := q0
        obtain ⟨vs, e1, e2, q1⟩ := q1
        exact ⟨vs, e1, e2, q1.cut (hv _ (.inl ⟨_, q0⟩))⟩
    · cases c with
      | lst ds =>
        obtain ⟨vs, e1, q1⟩ := q1
        exact ⟨vs, e1, q1.cut (hv _ (.inr hb))⟩
      | dK kvs =>
        obtain ⟨vs, e1, e2, q1⟩ := q1
        exact ⟨vs, e1, e2, q1.cut (hv _ (.inr hb))⟩
      | dT kvs =>
        obtain ⟨vs, e1, e2, q1⟩ := q1
        exact ⟨vs, e1, e2, q1.cut (hv _ (.inr hb))⟩
  · obtain ⟨o, e⟩ := R.om a ha
    exact hth a o e
theorem Ext.trim {io1 : List Addr} {H1 : Hp} (x : Ext io H io1 H1) : Ext io H io H1 := ⟨⟨[], by simp, by simp⟩, x.old, x.there⟩
end
end Mini
end
section
set_option Elab.async false
set_option linter.all false
set_option autoImplicit false
set_option maxRecDepth 100000
/-! Sound17: every def answers as Mini says; the law. -/
namespace Mini
open PySem PySem.Spec PyProof.Rows
open L2 (V Hp HO Key Rd SqL SqT Inv Cx RelV upd upd_same upd_ne Same WX VK TE TT TA TO TI TG TGs It XK OpR UnR CallR R2 EP TP AP SP PE PT PW PA PO PS PSs PG PGs PI PIE PTs Dp DpAll MtR MtM IxR SlR PSet PIp Gl Vis Loc Ends TS Room Env0 Vals FnScope FunD)

/-- the def at f answers as F -/
structure FnG (P : Program) (w : World) (K : PySem.W.Frag) (mg : Str → Option Value) (base : Heap) (k : Nat) (f : Addr) (F : List D → Hh → R D) : Prop where
  run : ∀ (A : Around) (outer : List Env) (s : Shared) (H : Hp) (us : List Value) (vs : List V), Room k A → A.guards = some [] → Env0 P w K mg base A outer s H → Vals vs us →
    ∀ (om : Om) (io : List Addr) (h h' : Hh) (ds : List D) (d : D) (Q : VK), F ds h = .ok d h' → Rps K om io H vs ds → HpRp K om io H h → Post K om io H h' d Q →
      codeAny (model P w) A (.call (.ref f) ⟨us, []⟩) (L2.CR L2.CX0 outer P w H s Q L2.E0) s
  out : ∀ (A : Around) (outer : List Env) (s : Shared) (H : Hp) (us : List Value) (vs : List V), Room k A → A.guards = some [] → Env0 P w K mg base A outer s H → Vals vs us →
    ∀ (om : Om) (io : List Addr) (h h' : Hh) (ds : List D) (c : String) (fs : List D) (E : XK), F ds h = .exc c fs h' → Rps K om io H vs ds → HpRp K om io H h →
      (∀ (io' : List Addr) (H' : Hp) (cls : Value) (d : Option Addr), Ext io H io' H' → HpRp K om io' H' h' → XR mg c fs cls d → E cls d H') →
      codeAny (model P w) A (.call (.ref f) ⟨us, []⟩) (L2.CR (L2N.CX P w) outer P w H s (fun _ _ => False) E) s
/-- a module's def and its Mini text -/
structure DefOk (K : PySem.W.Frag) (mg : Str → Option Value) (fns : List String) (blts : List Str) (gvs : List (Str × D)) (xs : XInfo) (name : String) (fn : Fn) : Prop where
  ex : ∃ (a : Addr) (fd : FuncData) (x qual : Str) (params : Arguments) (body : List Stmt) (scope : Scope) (N ps : List Str), FunD K x qual params body scope [] [] a fd ∧ mg (Str.ofString name) = some (.ref a) ∧
    FnScope N ps scope ∧ (∀ (kV doc pm : Value) (an : Option Addr) (cdv ct : Value) (us : List Value), us.length = ps.length → bindArgs (PySem.W.fnOf x qual params body scope .none kV doc pm an cdv ct) ⟨us, []⟩ = pure (ps.zip us)) ∧
    fn.params = ps.length ∧ fn.slots = N.length ∧ chkSs fn.body ⟨N, scope, fun _ => true, fns, blts, gvs, xs⟩ body = true

theorem start_rp {K : PySem.W.Frag} {om : Om} {io : List Addr} {H : Hp} {N : List Str} {vs : List V} {ds : List D} {fn : Fn} (hs : fn.slots = N.length) (r : Rps K om io H vs ds) : SlRp K om io H (L2.start N vs) (startOf fn ds) := by
  unfold L2.start startOf
  rw [hs]
  refine ⟨by simp [r.length], fun i d e => ?_⟩
  by_cases hi : i < ds.length
  · rw [List.getElem?_append_left (by simpa using hi)] at e
    rw [List.getElem?_append_left (by simpa [r.length] using hi)]
    rw [List.getElem?_map] at e ⊢
    cases hd : ds[i]? with
    | none => rw [hd] at e; cases e
    | some d' =>
      rw [hd] at e
      have e1 : d' = d := Option.some.inj (Option.some.inj e)
      subst e1
      obtain ⟨v, h1, h2⟩ := r.get hd
      exact ⟨v, by rw [h1]; rfl, h2⟩
  · rw [List.getElem?_append_right (by simpa using hi)] at e
    have e2 := List.mem_of_getElem? e
    rw [List.mem_replicate] at e2
    cases e2.2

section
variable {P : Program} {w : World} {K : PySem.W.Frag} {mg : Str → Option Value} {base : Heap} {Γ : Prog} {fns : List String} {blts : List Str} {gvs : List (Str × D)} {xs : XInfo} {k : Nat}
/-- what is known of all defs at a level -/
def AllG (P : Program) (w : World) (K : PySem.W.Frag) (mg : Str → Option Value) (base : Heap) (Γ : Prog) (fns : List String) (k : Nat) : Prop :=
  ∀ f ∈ fns, ∃ a, mg (Str.ofString f) = some (.ref a) ∧ PySem.W.keepIn K (.ref a) = true ∧ FnG P w K mg base k a (callN Γ k f)
/-- a call within a def -/
theorem callOk_of {Y : Cx} {a : Addr} {F : List D → Hh → R D} (G : FnG Y.prog Y.w Y.K Y.mg Y.base k a F) (hr : Room k Y.A) (hg : Y.A.guards = some []) : CallOk Y a F := by
  intro om io H h h' ds vs d Q ee rvs rh q pins s σ us I r
  refine wpAny_call (codeAny_mono (G.run Y.A Y.stack s H us vs hr hg I.env0 r om io h h' ds d Q ee rvs rh q) fun res s' z => ?_)
  match res, z with
  | .ok (.ret u), z => exact I.after z
theorem callXOk_of {Y : Cx} {a : Addr} {F : List D → Hh → R D} (G : FnG Y.prog Y.w Y.K Y.mg Y.base k a F) (hr : Room k Y.A) (hg : Y.A.guards = some []) : CallXOk Y a F := by
  intro om io H h h' ds vs c fs W σ ee rvs rh tk q Q pins s us I r
  refine wpAny_call (codeAny_mono (G.out Y.A Y.stack s H us vs hr hg I.env0 r om io h h' ds c fs (fun cls d H' => W cls d σ H') ee rvs rh (fun io' H' cls d x r z => q io' H' cls d x r z)) fun res s' z => ?_)
  match res, z with
  | .ok (.ret u), z =>
    obtain ⟨_, _, _, _, _, _, _, f⟩ := z
    exact f.elim
  | .error e, z => exact tk _ _ (L2N.XE.of_call I (fun cls d H' h => h) z)
/-- the body runs -/
theorem body_run {fn : Fn} {a : Addr} {fd : FuncData} {x qual : Str} {params : Arguments} {body : List Stmt} {scope : Scope} {N ps : List Str} (G : AllG P w K mg base Γ fns k) (hfree : ∀ x ∈ blts, mg x = none) (hgv : ∀ p ∈ gvs, GlV mg p.1 p.2) (hsy : SysK K) (hxf : XFacts K mg xs)
    (FD : FunD K x qual params body scope [] [] a fd) (S : FnScope N ps scope) (hb : ∀ (kV doc pm : Value) (an : Option Addr) (cdv ct : Value) (us : List Value), us.length = ps.length → bindArgs (PySem.W.fnOf x qual params body scope .none kV doc pm an cdv ct) ⟨us, []⟩ = pure (ps.zip us))
    (hs : fn.slots = N.length) (hc : chkSs fn.body ⟨N, scope, fun _ => true, fns, blts, gvs, xs⟩ body = true)
    {A : Around} {outer : List Env} {s : Shared} {H : Hp} {us : List Value} {vs : List V} (hr : Room (k + 1) A) (hg : A.guards = some []) (e0 : Env0 P w K mg base A outer s H) (r : Vals vs us) (hlen : vs.length = ps.length)
    {om : Om} {io : List Addr} {h hb' : Hh} {ds : List D} {d : D} {Q : VK} (ev : bodyOf (evalSs (callN Γ k) fn.body (startOf fn ds) h) = .ok d hb') (rvs : Rps K om io H vs ds) (rh : HpRp K om io H h) (q : Post K om io H hb' d Q) :
    codeAny (model P w) A (.call (.ref a) ⟨us, []⟩) (L2.CR L2.CX0 outer P w H s Q L2.E0) s := by
  obtain ⟨oc, od, dV, kV, doc, pm, an, cdv, ct, osl, rfl, lk, hcd, hdf, _⟩ := FD.ex
  have hdV : dV = .none := by
    rcases hdf with ⟨_, e⟩ | ⟨e, _⟩
    · exact e
    · exact absurd rfl e
  subst hdV
  have KX : K.In s.heap := e0.mod.kin.keeps fun b o e => (e0.bs b o e).1
  have lim : s.heap.NoLimit := e0.mod.nolimit.keeps fun b o e => (e0.bs b o e).1
  have hul : us.length = ps.length := by rw [← r.length]; exact hlen
  have hkind : ((ps.zip us).all fun y => scope.names.lookup y.1 == some .local || scope.names.lookup y.1 == some .cell) = true := by
    rw [List.all_eq_true]
    intro y hy
    rcases S.par y.1 (List.of_mem_zip (a := y.1) (b := y.2) hy).1 with z | z
    · rw [z]; rfl
    · rw [z]; rfl
  refine Att.call_fn KX lim lk hcd hr.depth (.of_eq (hb kV doc pm an cdv ct us hul)) hkind (fun s1 x1 => ?_) S.co S.gen S.kind
  have I := L2.inv_start (CX := L2.CX0) (E := L2.E0) S hr.hd e0 hlen r x1
  have hr1 := hr.deeper (envOfC qual scope s.heap.objs.size a cdv)
  have hg1 : (A.deeper (envOfC qual scope s.heap.objs.size a cdv)).guards = some [] := hg
  let X : Cx := (L2.cxOf L2.CX0 P w K mg base N qual scope a cdv A outer s H L2.E0).nox
  have ST : Site (callN Γ k) ⟨N, scope, fun _ => true, fns, blts, gvs, xs⟩ X := by
    refine ⟨rfl, S.nd, rfl, fun _ _ => rfl, rfl, ?_, hg1, fun f hf => ?_, hfree, hgv, hsy, hxf⟩
    · have := hr1.un
      show (A.deeper (envOfC qual scope s.heap.objs.size a cdv)).units + 65 < cLine
      omega
    · obtain ⟨b, h1, h2, h3⟩ := G f hf
      refine ⟨b, h1, h2, fun Y e1 e2 e3 e4 e5 e6 e7 e8 => ⟨callOk_of (k := k) ?_ ?_ ?_, callXOk_of (k := k) ?_ ?_ ?_⟩⟩
      · rw [e1, e2, e3, e4, e5]
        exact h3
      · rw [e6]
        exact hr1
      · rw [e6]
        exact hg1
      · rw [e1, e2, e3, e4, e5]
        exact h3
      · rw [e6]
        exact hr1
      · rw [e6]
        exact hg1
  have good := goodSs fn.body _ X body ST S.kind PassesOwn.never ⟨rfl, rfl⟩ hc
  obtain ⟨f, h1, ef, eb⟩ := rbind ev
  have run := good om io H (L2.start N vs) (startOf fn ds) h (start_rp hs rvs) rh f h1 ef { nx := fun _ H' => Q .non H', rt := Q } (by
    cases f with
    | nx m =>
      obtain ⟨rfl, rfl⟩ := rok eb
      exact fun io' H' σ x' r' _ => q io' H' .non x' r' .non
    | rt d2 =>
      obtain ⟨rfl, rfl⟩ := rok eb
      exact q
    | bk m => cases eb
    | ct m => cases eb) [] s1 (I.wish _)
  refine wpAny_mono run (fun fl s' z => ?_) fun e s' z => z.elim
  have fin : ∀ {σ' : L2.St} {H' : Hp} {v : V} {u : Value}, Inv X [] σ' H' s' → RelV v u → Q v H' → L2.CE outer P w H s Q u s' := fun {σ' H' v u} J rv z => ⟨v, H', J.os, J.bare, J.base, J.hok, rv, z⟩
  match fl, z with
  | .next, ⟨σ', H', J, z⟩ => exact fin (v := .non) (u := .none) J rfl z
  | .ret u, ⟨v, σ', H', J, rv, z⟩ => exact fin J rv z
  | .brk, ⟨_, _, _, z⟩ => exact z.elim
  | .cont, ⟨_, _, _, z⟩ => exact z.elim
/-- the body lets an exception out -/
theorem body_out {fn : Fn} {a : Addr} {fd : FuncData} {x qual : Str} {params : Arguments} {body : List Stmt} {scope : Scope} {N ps : List Str} (G : AllG P w K mg base Γ fns k) (hfree : ∀ x ∈ blts, mg x = none) (hgv : ∀ p ∈ gvs, GlV mg p.1 p.2) (hsy : SysK K) (hxf : XFacts K mg xs)
    (FD : FunD K x qual params body scope [] [] a fd) (S : FnScope N ps scope) (hb : ∀ (kV doc pm : Value) (an : Option Addr) (cdv ct : Value) (us : List Value), us.length = ps.length → bindArgs (PySem.W.fnOf x qual params body scope .none kV doc pm an cdv ct) ⟨us, []⟩ = pure (ps.zip us))
    (hs : fn.slots = N.length) (hc : chkSs fn.body ⟨N, scope, fun _ => true, fns, blts, gvs, xs⟩ body = true)
    {A : Around} {outer : List Env} {s : Shared} {H : Hp} {us : List Value} {vs : List V} (hr : Room (k + 1) A) (hg : A.guards = some []) (e0 : Env0 P w K mg base A outer s H) (r : Vals vs us) (hlen : vs.length = ps.length)
    {om : Om} {io : List Addr} {h hb' : Hh} {ds : List D} {c : String} {fs : List D} {E : XK} (ev : excSs (callN Γ k) fn.body (startOf fn ds) h = some (c, fs, hb')) (rvs : Rps K om io H vs ds) (rh : HpRp K om io H h)
    (q : ∀ (io' : List Addr) (H' : Hp) (cls : Value) (d : Option Addr), Ext io H io' H' → HpRp K om io' H' hb' → XR mg c fs cls d → E cls d H') :
    codeAny (model P w) A (.call (.ref a) ⟨us, []⟩) (L2.CR (L2N.CX P w) outer P w H s (fun _ _ => False) E) s := by
  obtain ⟨oc, od, dV, kV, doc, pm, an, cdv, ct, osl, rfl, lk, hcd, hdf, _⟩ := FD.ex
  have hdV : dV = .none := by
    rcases hdf with ⟨_, e⟩ | ⟨e, _⟩
    · exact e
    · exact absurd rfl e
  subst hdV
  have KX : K.In s.heap := e0.mod.kin.keeps fun b o e => (e0.bs b o e).1
  have lim : s.heap.NoLimit := e0.mod.nolimit.keeps fun b o e => (e0.bs b o e).1
  have hul : us.length = ps.length := by rw [← r.length]; exact hlen
  have hkind : ((ps.zip us).all fun y => scope.names.lookup y.1 == some .local || scope.names.lookup y.1 == some .cell) = true := by
    rw [List.all_eq_true]
    intro y hy
    rcases S.par y.1 (List.of_mem_zip (a := y.1) (b := y.2) hy).1 with z | z
    · rw [z]; rfl
    · rw [z]; rfl
  refine Att.call_fn KX lim lk hcd hr.depth (.of_eq (hb kV doc pm an cdv ct us hul)) hkind (fun s1 x1 => ?_) S.co S.gen S.kind
  have I := L2.inv_start (CX := L2N.CX P w) (E := E) S hr.hd e0 hlen r x1
  have hr1 := hr.deeper (envOfC qual scope s.heap.objs.size a cdv)
  have hg1 : (A.deeper (envOfC qual scope s.heap.objs.size a cdv)).guards = some [] := hg
  let X : Cx := L2.cxOf (L2N.CX P w) P w K mg base N qual scope a cdv A outer s H E
  have ST : Site (callN Γ k) ⟨N, scope, fun _ => true, fns, blts, gvs, xs⟩ X := by
    refine ⟨rfl, S.nd, rfl, fun _ _ => rfl, rfl, ?_, hg1, fun f hf => ?_, hfree, hgv, hsy, hxf⟩
    · have := hr1.un
      show (A.deeper (envOfC qual scope s.heap.objs.size a cdv)).units + 65 < cLine
      omega
    · obtain ⟨b, h1, h2, h3⟩ := G f hf
      refine ⟨b, h1, h2, fun Y e1 e2 e3 e4 e5 e6 e7 e8 => ⟨callOk_of (k := k) ?_ ?_ ?_, callXOk_of (k := k) ?_ ?_ ?_⟩⟩
      · rw [e1, e2, e3, e4, e5]
        exact h3
      · rw [e6]
        exact hr1
      · rw [e6]
        exact hg1
      · rw [e1, e2, e3, e4, e5]
        exact h3
      · rw [e6]
        exact hr1
      · rw [e6]
        exact hg1
  have tk : L2N.Takes X (fun cls d _ H => E cls d H) := L2N.takes_of (X := X) (E := E) rfl rfl rfl rfl
  have good := goodSsX fn.body _ X body ST S.kind (L2.passes_of (X := X) rfl) ⟨rfl, rfl⟩ hc
  have run := good om io H (L2.start N vs) (startOf fn ds) h (start_rp hs rvs) rh c fs hb' ev _ tk (fun io' H' cls d x' r' z σ' => q io' H' cls d x' r' z) { nx := fun _ _ => False, rt := fun _ _ => False } [] s1 I
  refine wpAny_mono run (fun fl s' z => ?_) fun e s' z => z
  match fl, z with
  | .next, ⟨_, _, _, z⟩ => exact z.elim
  | .ret u, ⟨_, _, _, _, _, z⟩ => exact z.elim
  | .brk, ⟨_, _, _, z⟩ => exact z.elim
  | .cont, ⟨_, _, _, z⟩ => exact z.elim
theorem exc_out {r : R D} {o : Option (String × List D × Hh)} {h h2 : Hh} {c : String} {fs : List D} {g : D → Hh → R D} (hg : ∀ d h1, g d h1 ≠ .exc c fs h2)
    (e : (match r with
      | .ok d h' => g d h'
      | .exc _ _ _ => (match o with
        | some (c, fs, _) => if pureL fs then .exc c fs h else .bad
        | none => .bad)
      | .bad => .bad) = R.exc c fs h2) : h2 = h ∧ ∃ h3, o = some (c, fs, h3) := by
  cases r with
  | ok d h' => exact absurd e (hg d h')
  | bad => cases e
  | exc c1 f1 g1 =>
    cases o with
    | none => cases e
    | some x =>
      obtain ⟨c2, f2, h3⟩ := x
      dsimp only at e
      split at e
      · injection e with e1 e2 e3
        subst e1 e2 e3
        exact ⟨rfl, h3, rfl⟩
      · cases e
theorem of_ne_exc {o : Option D} {h h2 : Hh} {c : String} {fs : List D} : R.of o h ≠ .exc c fs h2 := by cases o <;> (intro e; cases e)
theorem out_g (hΓ : ∀ f ∈ fns, ∃ fn, Γ f = some fn ∧ DefOk K mg fns blts gvs xs f fn) (hfree : ∀ x ∈ blts, mg x = none) (hgv : ∀ p ∈ gvs, GlV mg p.1 p.2) (hsy : SysK K) (hxf : XFacts K mg xs) (G : AllG P w K mg base Γ fns k) (f : String) (fn : Fn) (h1 : Γ f = some fn)
    {a : Addr} {fd : FuncData} {x qual : Str} {params : Arguments} {body : List Stmt} {scope : Scope} {N ps : List Str} (FD : FunD K x qual params body scope [] [] a fd) (S : FnScope N ps scope) (hb : ∀ (kV doc pm : Value) (an : Option Addr) (cdv ct : Value) (us : List Value), us.length = ps.length → bindArgs (PySem.W.fnOf x qual params body scope .none kV doc pm an cdv ct) ⟨us, []⟩ = pure (ps.zip us))
    (hp : fn.params = ps.length) (hs : fn.slots = N.length) (hc : chkSs fn.body ⟨N, scope, fun _ => true, fns, blts, gvs, xs⟩ body = true)
    {A : Around} {outer : List Env} {s : Shared} {H : Hp} {us : List Value} {vs : List V} (hr : Room (k + 1) A) (hg : A.guards = some []) (e0 : Env0 P w K mg base A outer s H) (r : Vals vs us)
    {om : Om} {io : List Addr} {h h' : Hh} {ds : List D} {c : String} {fs : List D} {E : XK} (ee : callN Γ (k + 1) f ds h = .exc c fs h') (rvs : Rps K om io H vs ds) (rh : HpRp K om io H h)
    (q : ∀ (io' : List Addr) (H' : Hp) (cls : Value) (d : Option Addr), Ext io H io' H' → HpRp K om io' H' h' → XR mg c fs cls d → E cls d H') :
    codeAny (model P w) A (.call (.ref a) ⟨us, []⟩) (L2.CR (L2N.CX P w) outer P w H s (fun _ _ => False) E) s := by
  unfold callN at ee
  rw [h1] at ee
  dsimp only at ee
  split at ee
  · rename_i hl
    have hlen : vs.length = ps.length := by rw [rvs.length, hl, hp]
    split at ee
    · split at ee
      · rename_i args' hargs
        obtain ⟨rfl, h3, eo⟩ := exc_out (fun d h1 => of_ne_exc) ee
        refine body_out G hfree hgv hsy hxf FD S hb hs hc hr hg e0 r hlen eo (optAll_rps (fun x x' v => lend_rp rh 8 x x' v) _ _ _ hargs rvs) rh.lent fun io1 H1 cls d x1 r1 z => ?_
        have sm := same_of_ext x1
        exact q io H1 cls d (.same sm) (rh.same sm) z
      · cases ee
    · split at ee
      · split at ee
        · split at ee
          · cases ee
          · exact absurd ee of_ne_exc
        · cases ee
      · cases ee
      · cases ee
    · split at ee
      · split at ee <;> cases ee
      · cases ee
      · cases ee
  · cases ee
theorem all_g (hΓ : ∀ f ∈ fns, ∃ fn, Γ f = some fn ∧ DefOk K mg fns blts gvs xs f fn) (hfree : ∀ x ∈ blts, mg x = none) (hgv : ∀ p ∈ gvs, GlV mg p.1 p.2) (hsy : SysK K) (hxf : XFacts K mg xs) : ∀ k, AllG P w K mg base Γ fns k
  | 0 => fun f hf => by
    obtain ⟨fn, h1, ⟨a, fd, x, qual, params, body, scope, N, ps, FD, h2, _⟩⟩ := hΓ f hf
    exact ⟨a, h2, FD.kp, ⟨(fun A outer s H us vs _ _ _ _ om io h h' ds d Q ee => by cases ee), (fun A outer s H us vs _ _ _ _ om io h h' ds c fs E ee => by cases ee)⟩⟩
  | k + 1 => fun f hf => by
    have G := all_g hΓ hfree hgv hsy hxf k
    obtain ⟨fn, h1, ⟨a, fd, x, qual, params, body, scope, N, ps, FD, h2, S, hb, hp, hs, hc⟩⟩ := hΓ f hf
    refine ⟨a, h2, FD.kp, ⟨fun A outer s H us vs hr hg e0 r om io h h' ds d Q ee rvs rh q => ?_, fun A outer s H us vs hr hg e0 r om io h h' ds c fs E ee rvs rh q => ?_⟩⟩
    rotate_left
    · exact out_g hΓ hfree hgv hsy hxf G f fn h1 FD S hb hp hs hc hr hg e0 r ee rvs rh q
    unfold callN at ee
    rw [h1] at ee
    dsimp only at ee
    split at ee
    · rename_i hl
      have hlen : vs.length = ps.length := by rw [rvs.length, hl, hp]
      split at ee
      · split at ee
        · rename_i args' hargs
          split at ee
          · rename_i d1 h1' ev
            obtain ⟨ed, rfl⟩ := rof ee
            refine body_run G hfree hgv hsy hxf FD S hb hs hc hr hg e0 r hlen ev (optAll_rps (fun x x' v => lend_rp rh 8 x x' v) _ _ _ hargs rvs) rh.lent fun io1 H1 v x1 r1 rv => ?_
            have sm := same_of_ext x1
            have xx : Ext io H io H1 := .same sm
            refine q io H1 v xx (rh.same sm) (snap_rp r1 (fun a h1 h2 => not_lent.mp h1) (fun i a _ hi => ?_) 8 d1 d v ed rv)
            exact not_lent.mp (r1.out a (List.mem_of_getElem? hi))
          · split at ee
            · split at ee <;> cases ee
            · cases ee
          · cases ee
        · cases ee
      · split at ee
        · rename_i d1 h1' ev
          split at ee
          · rename_i ht
            refine body_run G hfree hgv hsy hxf FD S hb hs hc hr hg e0 r hlen ev rvs rh fun io1 H1 v x1 r1 rv => ?_
            have tr := rh.trim x1 r1 ht
            split at ee
            · rename_i hbl
              obtain ⟨rfl, rfl⟩ := rok ee
              obtain ⟨more, hm, _⟩ := x1.pre
              subst hm
              exact q io H1 v x1.trim tr (rv.cut (by rw [rh.len]; exact below_vld _ _ hbl))
            · obtain ⟨ed, rfl⟩ := rof ee
              obtain ⟨more, hm, _⟩ := x1.pre
              subst hm
              refine q io H1 v x1.trim tr (snap_rp r1 (fun a h1 h2 => ⟨h1, fun z => h2 (List.mem_append_left _ z)⟩) (fun i a hi hia => ⟨r1.out a (List.mem_of_getElem? hia), fun z => ?_⟩) 8 d1 d v ed rv)
              obtain ⟨j, hj, e⟩ := List.mem_iff_getElem.mp z
              have hi2 : io.length ≤ i := by rw [rh.len]; exact hi
              have e2 : (io ++ more)[j]? = some a := by rw [List.getElem?_append_left hj, List.getElem?_eq_getElem hj, e]
              obtain ⟨q1, q2⟩ := List.getElem?_eq_some_iff.mp hia
              obtain ⟨q3, q4⟩ := List.getElem?_eq_some_iff.mp e2
              have := (List.getElem_inj r1.nd).mp (q2.trans q4.symm)
              omega
          · cases ee
        · cases ee
        · cases ee
      · split at ee
        · rename_i d1 h1' ev
          split at ee
          · obtain ⟨rfl, rfl⟩ := rok ee
            exact body_run G hfree hgv hsy hxf FD S hb hs hc hr hg e0 r hlen ev rvs rh q
          · cases ee
        · cases ee
        · cases ee
    · cases ee
end
end Mini
end
section
set_option Elab.async false
set_option linter.all false
set_option autoImplicit false
set_option maxRecDepth 100000
/-! Sound18: a law row's end. -/
namespace Mini
open PySem PySem.Spec PyProof.Rows
open L2 (V Hp HO Key Rd SqL SqT Inv Cx RelV upd XK VK Room Env0 Vals HOk)

theorem scr_ints {K : PySem.W.Frag} {om : Om} {io : List Addr} {H : Hp} : ∀ ns : List Int, Rps K om io H (ns.map V.int) (ns.map D.int)
  | [] => .nil
  | n :: ns => .cons (.int n) (scr_ints ns)
/-- the def runs from the claim's caller; all that is tracked is the script, if it is -/
theorem end_core {P : Program} {w : World} {K : PySem.W.Frag} {mg mb : Str → Option Value} {k : Nat} {f a : Addr} {F : List D → Hh → R D} {s : Shared} {its : List Value} {ns : List Int} {H : Hp} {h' : Hh}
    (kin : K.In s.heap) (glob : s.heap.Ns mainGlobals mg) (blt : s.heap.Ns builtinsNs mb) (boot : ∀ x : Str, x ≠ "__name__" → mb x = bootBuiltins x) (free : s.heap.NoLimit) (nog : s.gens = #[]) (room : Room k callerA)
    (at_ : s.heap.get? a = some { cls := .type "list", data := .seq its.toArray })
    (G : ∀ base : Heap, K.In base → base.Ns mainGlobals mg → FnG P w K mg base k f F) (ev : F [.scr (ns.map D.int)] [] = .ok (.bl true) h')
    (hok : HOk P w H s.heap) (only : ∀ b, H b = none ∨ (b = a ∧ ∃ o xs, H b = some (.frz o (.lst xs)))) (kno : H a ≠ none → K.lookup a = none) (rp : Rp K ⟨[], []⟩ [] H (.ref a) (.scr (ns.map D.int))) :
    codeAny (model P w) callerA (.call (.ref f) ⟨[.ref a], []⟩) (fun r s' => r = .ok (.ret (.bool true)) ∧ OldK s.heap s'.heap ∧ s'.os = s.os ∧ AllBare s'.gens) s := by
  have stay : ∀ {b : Addr} {o : Obj}, s.heap.get? b = some o → H b = none → (L2.hidT s.heap H).get? b = some o := fun e n => L2.hidT_get e n
  have notA : ∀ {b : Addr}, b ≠ a → H b = none := fun {b} hb => by
    rcases only b with z | ⟨z, _⟩
    · exact z
    · exact absurd z hb
  have dictNo : ∀ {b : Addr} {o : Obj} {es : Array DictEntry} {ep : Nat}, s.heap.get? b = some o → o.data = .dict es ep → H b = none := fun {b o es ep} e d => by
    refine notA fun z => ?_
    subst z
    have e2 : o = { cls := .type "list", data := .seq its.toArray } := Option.some.inj (e.symm.trans at_)
    subst e2
    cases (show Data.seq its.toArray _ = Data.dict es ep from d)
  have keepNs : ∀ {b : Addr} {m : Str → Option Value}, s.heap.Ns b m → (L2.hidT s.heap H).Ns b m := fun {b m} z => by
    obtain ⟨o, es, ep, e, d, r⟩ := z
    exact ⟨o, es, ep, stay e (dictNo e d), d, r⟩
  have kin2 : K.In (L2.hidT s.heap H) := fun b o e => by
    refine stay (kin b o e) ?_
    by_cases hb : b = a
    · subst hb
      cases q : H b with
      | none => rfl
      | some u =>
        have z := kno (by rw [q]; exact fun z => by cases z)
        rw [z] at e
        cases e
    · exact notA hb
  have lim2 : (L2.hidT s.heap H).NoLimit := by
    obtain ⟨mc, z1, z2⟩ := free
    exact ⟨mc, keepNs z1, z2⟩
  have mod : L2.Mod K mg (L2.hidT s.heap H) := ⟨kin2, keepNs glob, ⟨mb, keepNs blt, boot⟩, lim2⟩
  have e0 : Env0 P w K mg (L2.hidT s.heap H) callerA [] s H := by
    refine ⟨rfl, mod, fun b o e => L2.of_hidT e, Nat.le_of_eq (L2.hidT_size _ _), trivial, fun b hb => ?_, hok, .of_eq nog⟩
    cases (show b ∈ ([] : List Addr) from hb)
  have R0 : HpRp K ⟨[], []⟩ [] H [] := by
    refine ⟨rfl, List.nodup_nil, fun n b c z => by simp at z, fun b z => by simp at z, fun b z => ?_⟩
    rcases z with z | z <;> cases z
  have run := (G _ kin2 (keepNs glob)).run callerA [] s H [.ref a] [.ref a] room rfl e0 (.cons rfl .nil) ⟨[], []⟩ [] [] h' [.scr (ns.map D.int)] (.bl true) (fun v _ => v = .bl true) ev (.cons rp .nil) R0 fun io' H' v _ _ r => bl_at r
  refine codeAny_mono run fun res s' z => ?_
  match res, z with
  | .ok (.ret u), ⟨v, H', os, bare, un, hok', rv, hv⟩ =>
    subst hv
    have hu : u = Value.bool true := rv
    subst hu
    refine ⟨rfl, OldK.of_keep fun b o e => ?_, os, bare⟩
    rcases only b with z | ⟨_, ob, xs, z⟩
    · exact un.keep b o e z (by intro q; cases (show b ∈ ([] : List Addr) from q)) (by simp)
    · have z1 := (hok b _ z).1
      have z2 := (hok' b _ (un.frzs b ob _ z)).1
      rw [z2, ← z1, e]
/-- THE END: the def that the row names is FnG, and Mini says True of every script -/
theorem law_end {l : PySem.W.OpenLaw} {n k : Nat} {q : Program} {loose : List Str} {XP : (Str → Option Value) → Heap → Prop} {YP : World → Heap → Prop} {d : DefRec} {F : List D → Hh → R D}
    (hn : l.most = some n) (hn2 : n ≤ sizeLine) (hdf : d.params.defaults = []) (room : Room k callerA)
    (G : ∀ (w : World) (mg : Str → Option Value) (f : Addr) (h : Heap), YP w h → h.Ns mainGlobals mg → mg d.name = some (.ref f) → ∃ K : PySem.W.Frag, K.In h ∧ ∀ base : Heap, K.In base → base.Ns mainGlobals mg → FnG l.prog w K mg base k f F)
    (ev : ∀ ns : List Int, ns.length ≤ n → ∃ h', F [.scr (ns.map D.int)] [] = .ok (.bl true) h') :
    PySem.W.WalkO q loose XP YP l.row.toRowW d [] (fun f vs => PySem.call f vs) := by
  refine Att.attach_call hn hdf fun w s₀ s mg mb f o pm cd doc a its ns Gr Y ho hd hcd hmg hobj hints hlen nog => ?_
  obtain ⟨K, kin, FG⟩ := G w mg f _ Y Gr.T.g hmg
  obtain ⟨h', hev⟩ := ev ns hlen
  have rv := L2.vals_ints hints
  have hl2 : its.length = ns.length := hints.length
  have hl3 : ns.length ≤ sizeLine := Nat.le_trans hlen hn2
  cases hk : K.lookup a with
  | some ob =>
    have e : ob = { cls := .type "list", data := .seq its.toArray } := Option.some.inj ((kin a ob hk).symm.trans hobj)
    subst e
    refine end_core (H := fun _ => none) kin Gr.T.g Gr.T.b Gr.T.builtins Gr.T.nolimit nog room hobj FG hev (fun b u z => by cases z) (fun b => .inl rfl) (fun z => absurd rfl z) (.scrK (vs := ns.map V.int) (.inr ⟨_, its.toArray, _, hk, rfl, rfl, rfl, ?_, ?_⟩) (scr_ints ns))
    · rw [List.size_toArray, hl2]; exact hl3
    · exact rv
  | none =>
    have hH : ∀ b, (fun b => if b = a then some (HO.frz { cls := .type "list", data := .seq its.toArray } (.lst (ns.map V.int))) else none : Hp) b = none ∨ (b = a ∧ ∃ o xs, (fun b => if b = a then some (HO.frz { cls := .type "list", data := .seq its.toArray } (.lst (ns.map V.int))) else none : Hp) b = some (.frz o (.lst xs))) := fun b => by
      by_cases hb : b = a
      · exact .inr ⟨hb, _, _, if_pos hb⟩
      · exact .inl (if_neg hb)
    refine end_core (H := fun b => if b = a then some (.frz { cls := .type "list", data := .seq its.toArray } (.lst (ns.map V.int))) else none) kin Gr.T.g Gr.T.b Gr.T.builtins Gr.T.nolimit nog room hobj FG hev (fun b u z => ?_) hH (fun _ => hk)
      (.scr (vs := ns.map V.int) (.inr ⟨_, if_pos rfl⟩) (by simp) (by simp) (scr_ints ns))
    by_cases hb : b = a
    · have z' := (if_pos hb).symm.trans z
      have z2 := Option.some.inj z'
      subst z2 hb
      exact ⟨hobj, by rw [List.length_map]; exact hl3, its, _, rv, hobj⟩
    · have z' := (if_neg hb).symm.trans z
      cases z'
end Mini
end
section
set_option Elab.async false
set_option linter.all false
set_option autoImplicit false
set_option maxRecDepth 100000
set_option maxHeartbeats 0
namespace LK
open Mini
def F_is_alternative : Fn := ⟨2, 2, .pure, .cons (.ret (.and (.cons (.isi (.var 1) [.int]) (.cons (.not (.isi (.var 1) [.bool])) (.cons (.chain .le .lt (.cst (.int 0)) (.var 1) (.bi .len (.var 0))) .nil))))) .nil⟩
def F_beats_all : Fn := ⟨3, 4, .pure, .cons (.ret (.bi .all (.lc [3] (.var 3) (.seq (.var 2)) .none (.cmp .eq (.idx (.idx (.var 0) (.var 1)) (.var 3)) (.glb "WON" (.str ['+'])))))) .nil⟩
def F_is_order : Fn := ⟨2, 3, .pure, .cons (.ite (.or (.cons (.not (.isi (.var 1) [.tuple])) (.cons (.cmp .ne (.bi .len (.var 1)) (.bi .len (.var 0))) .nil))) (.cons (.ret (.cst (.bl false))) .nil) (.nil)) (.cons (.ret (.and (.cons (.bi .all (.lc [2] (.var 2) (.seq (.var 1)) .none (.call "is_alternative" (.cons (.var 0) (.cons (.var 2) .nil))))) (.cons (.cmp .eq (.bi .setLen (.var 1)) (.bi .len (.var 1))) .nil)))) .nil)⟩
def F_check_order : Fn := ⟨2, 2, .pure, .cons (.ite (.not (.call "is_order" (.cons (.var 0) (.cons (.var 1) .nil)))) (.cons (.raise0 "NoOrder") .nil) (.nil)) .nil⟩
def F_careful_winner : Fn := ⟨2, 4, .pure, .cons (.expr (.call "check_order" (.cons (.var 0) (.cons (.var 1) .nil)))) (.cons (.asg (.var 2) (.new (.lst (.nil)))) (.cons (.for_ (.var 3) (.seq (.rev (.var 1))) (.cons (.ite (.call "beats_all" (.cons (.var 0) (.cons (.var 3) (.cons (.var 2) .nil)))) (.cons (.expr (.mut .append (.var 2) (.cons (.var 3) .nil))) .nil) (.nil)) .nil)) (.cons (.ret (.idx (.var 2) (.neg (.cst (.int 1))))) .nil)))⟩
def F_law_begin : Fn := ⟨1, 4, .keep, .cons (.asg (.var 1) (.lc [2] (.var 2) (.seq (.var 0)) (.some (.cmp .ge (.bi .abs (.var 2)) (.bin .pow (.cst (.int 10)) (.cst (.int 18))))) (.bi .abs (.var 2)))) (.cons (.asg (.var 3) (.bin .add (.cst (.int 66)) (.bi .len (.var 0)))) (.cons (.for_ (.var 2) (.seq (.var 0)) (.cons (.asg (.var 3) (.bin .mod (.bin .add (.bin .add (.bin .mul (.var 3) (.cst (.int 1000033))) (.bin .mul (.cst (.int 2)) (.bi .abs (.var 2)))) (.bi .int (.cmp .lt (.var 2) (.cst (.int 0))))) (.cst (.int 2305843009213693951)))) .nil)) (.cons (.ret (.new (.lst (.cons (.new (.rev (.var 1))) (.cons (.var 3) (.cons (.cst (.int 0)) .nil)))))) .nil)))⟩
def F_law_next : Fn := ⟨2, 4, .drop, .cons (.while_ (.cmp .ne (.idx (.var 0) (.cst (.int 0))) (.lst (.nil))) (.cons (.asg (.var 2) (.mut .pop (.idx (.var 0) (.cst (.int 0))) (.nil))) (.cons (.ite (.cmp .gt (.var 2) (.cst (.int 0))) (.cons (.expr (.mut .append (.idx (.var 0) (.cst (.int 0))) (.cons (.bin .fdiv (.var 2) (.var 1)) .nil))) (.cons (.ret (.bin .mod (.var 2) (.var 1))) .nil)) (.nil)) .nil))) (.cons (.asg (.ix (.var 0) (.cst (.int 2))) (.bin .add (.idx (.var 0) (.cst (.int 2))) (.cst (.int 1)))) (.cons (.asg (.var 3) (.bin .add (.bin .mul (.idx (.var 0) (.cst (.int 1))) (.bin .add (.cst (.int 48271)) (.bin .mul (.cst (.int 69621)) (.idx (.var 0) (.cst (.int 2)))))) (.bin .mul (.cst (.int 40692)) (.idx (.var 0) (.cst (.int 2)))))) (.cons (.asg (.var 3) (.bin .mod (.var 3) (.cst (.int 2305843009213693951)))) (.cons (.asg (.var 3) (.bin .mod (.bin .mul (.var 3) (.var 3)) (.cst (.int 2305843009213693951)))) (.cons (.ret (.bin .mod (.bin .fdiv (.bin .mod (.bin .mul (.var 3) (.var 3)) (.cst (.int 4611686018427387847))) (.cst (.int 16))) (.var 1))) .nil)))))⟩
def F_law_mixed : Fn := ⟨2, 4, .drop, .cons (.par [2, 3] (.cons (.new (.bi .list (.var 1))) (.cons (.new (.lst (.nil))) .nil))) (.cons (.while_ (.cmp .ne (.var 2) (.lst (.nil))) (.cons (.expr (.mut .append (.var 3) (.cons (.mut .pop (.var 2) (.cons (.call "_law_next" (.cons (.var 0) (.cons (.bi .len (.var 2)) .nil))) .nil)) .nil))) .nil)) (.cons (.ret (.var 3)) .nil))⟩
def F_law_table : Fn := ⟨3, 13, .drop, .cons (.par [3, 4] (.cons (.bin .add (.var 1) (.call "_law_next" (.cons (.var 0) (.cons (.bin .add (.bin .sub (.var 2) (.var 1)) (.cst (.int 1))) .nil)))) (.cons (.call "_law_next" (.cons (.var 0) (.cons (.cst (.int 4)) .nil))) .nil))) (.cons (.par [5, 6] (.cons (.call "_law_mixed" (.cons (.var 0) (.cons (.rgl (.var 3)) .nil))) (.cons (.newT) .nil))) (.cons (.for_ (.var 7) (.rng1 (.var 3)) (.cons (.asg (.ix (.var 6) (.tup (.cons (.idx (.var 5) (.var 7)) (.cons (.idx (.var 5) (.var 7)) .nil)))) (.cst (.str ['.']))) (.cons (.for_ (.var 8) (.rng2 (.bin .add (.var 7) (.cst (.int 1))) (.var 3)) (.cons (.asg (.var 9) (.or (.cons (.cmp .eq (.bin .mod (.bin .sub (.var 8) (.var 7)) (.cst (.int 3))) (.cst (.int 1))) (.cons (.and (.cons (.cmp .eq (.bin .mod (.bin .sub (.var 8) (.var 7)) (.cst (.int 3))) (.cst (.int 0))) (.cons (.cmp .eq (.call "_law_next" (.cons (.var 0) (.cons (.cst (.int 2)) .nil))) (.cst (.int 0))) .nil))) .nil)))) (.cons (.asg (.var 10) (.idx (.lst (.cons (.cmp .eq (.call "_law_next" (.cons (.var 0) (.cons (.cst (.int 2)) .nil))) (.cst (.int 0))) (.cons (.cmp .gt (.call "_law_next" (.cons (.var 0) (.cons (.cst (.int 5)) .nil))) (.cst (.int 0))) (.cons (.cmp .le (.bin .mul (.cst (.int 2)) (.bin .sub (.var 8) (.var 7))) (.var 3)) (.cons (.var 9) .nil))))) (.var 4))) (.cons (.asg (.ix (.var 6) (.tup (.cons (.idx (.var 5) (.var 7)) (.cons (.idx (.var 5) (.var 8)) .nil)))) (.idx (.cst (.str ['-', '+'])) (.bi .int (.var 10)))) (.cons (.asg (.ix (.var 6) (.tup (.cons (.idx (.var 5) (.var 8)) (.cons (.idx (.var 5) (.var 7)) .nil)))) (.idx (.cst (.str ['+', '-'])) (.bi .int (.var 10)))) .nil))))) .nil))) (.cons (.ret (.bi .tuple (.lc [12] (.var 12) (.rng1 (.var 3)) .none (.meth .join (.cst (.str [])) (.cons (.lc [11] (.var 11) (.rng1 (.var 3)) .none (.idx (.var 6) (.tup (.cons (.var 12) (.cons (.var 11) .nil))))) .nil))))) .nil)))⟩
def F_law_same : Fn := ⟨2, 3, .pure, .cons (.ite (.isi (.var 1) [.tuple, .list]) (.cons (.ite (.cmp .ne (.isi (.var 0) [.tuple]) (.isi (.var 1) [.tuple])) (.cons (.ret (.cst (.bl false))) .nil) (.nil)) (.cons (.ite (.or (.cons (.cmp .ne (.isi (.var 0) [.list]) (.isi (.var 1) [.list])) (.cons (.cmp .ne (.bi .len (.var 0)) (.bi .len (.var 1))) .nil))) (.cons (.ret (.cst (.bl false))) .nil) (.nil)) (.cons (.ret (.cmp .eq (.lc [2] (.var 2) (.rng1 (.bi .len (.var 1))) (.some (.not (.call "_law_same" (.cons (.idx (.var 0) (.var 2)) (.cons (.idx (.var 1) (.var 2)) .nil))))) (.var 2)) (.lst (.nil)))) .nil))) (.nil)) (.cons (.ite (.isi (.var 1) [.dict]) (.cons (.ret (.and (.cons (.isi (.var 0) [.dict]) (.cons (.cmp .eq (.var 0) (.var 1)) .nil)))) .nil) (.nil)) (.cons (.ite (.cmp .isn (.var 1) (.cst .non)) (.cons (.ret (.cmp .isn (.var 0) (.cst .non))) .nil) (.nil)) (.cons (.ite (.isi (.var 1) [.str]) (.cons (.ret (.and (.cons (.isi (.var 0) [.str]) (.cons (.cmp .eq (.var 0) (.var 1)) .nil)))) .nil) (.nil)) (.cons (.ret (.and (.cons (.isi (.var 0) [.int]) (.cons (.cmp .eq (.isi (.var 0) [.bool]) (.isi (.var 1) [.bool])) (.cons (.cmp .eq (.var 0) (.var 1)) .nil))))) .nil))))⟩
def F_law_odd : Fn := ⟨1, 2, .drop, .cons (.asg (.var 1) (.lst (.cons (.cst .non) (.cons (.cst (.bl true)) (.cons (.cst (.bl false)) (.cons (.neg (.cst (.int 1))) (.cons (.cst (.int 0)) (.cons (.cst (.int 1)) (.cons (.cst (.int 2)) (.cons (.cst (.int 9)) (.cons (.bin .pow (.cst (.int 10)) (.cst (.int 29))) (.cons (.cst (.str [])) (.cons (.cst (.str ['0'])) (.cons (.tup (.nil)) (.cons (.lst (.nil)) (.cons (.cst (.dct [])) (.cons (.tup (.cons (.cst (.int 0)) .nil)) (.cons (.lst (.cons (.cst (.int 0)) .nil)) (.cons (.tup (.cons (.cst (.bl true)) .nil)) (.cons (.tup (.cons (.tup (.cons (.cst (.int 0)) .nil)) .nil)) (.cons (.tup (.cons (.cst (.dct [])) .nil)) .nil))))))))))))))))))))) (.cons (.ret (.idx (.var 1) (.call "_law_next" (.cons (.var 0) (.cons (.cst (.int 19)) .nil))))) .nil)⟩
def F_law_is_alternative : Fn := ⟨2, 2, .pure, .cons (.ret (.and (.cons (.isi (.var 1) [.int]) (.cons (.not (.isi (.var 1) [.bool])) (.cons (.chain .le .lt (.cst (.int 0)) (.var 1) (.bi .len (.var 0))) .nil))))) .nil⟩
def F_law_is_order : Fn := ⟨2, 3, .pure, .cons (.ite (.or (.cons (.not (.isi (.var 1) [.tuple])) (.cons (.cmp .ne (.lc [2] (.var 2) (.seq (.var 1)) (.some (.not (.call "_law_is_alternative" (.cons (.var 0) (.cons (.var 2) .nil))))) (.var 2)) (.lst (.nil))) .nil))) (.cons (.ret (.cst (.bl false))) .nil) (.nil)) (.cons (.ret (.cmp .eq (.bi .sorted (.var 1)) (.rgl (.bi .len (.var 0))))) .nil)⟩
def F_law_careful : Fn := ⟨2, 5, .pure, .cons (.asg (.var 2) (.new (.lst (.cons (.idx (.var 1) (.neg (.cst (.int 1)))) .nil)))) (.cons (.for_ (.var 3) (.rev (.slice (.var 1) .none (.some (.neg (.cst (.int 1)))))) (.cons (.ite (.cmp .eq (.lc [4] (.var 4) (.seq (.var 2)) (.some (.cmp .ne (.idx (.idx (.var 0) (.var 3)) (.var 4)) (.cst (.str ['+'])))) (.var 4)) (.lst (.nil))) (.cons (.expr (.mut .append (.var 2) (.cons (.var 3) .nil))) .nil) (.nil)) .nil)) (.cons (.ret (.idx (.var 2) (.neg (.cst (.int 1))))) .nil))⟩
def F_law_found : Fn := ⟨2, 4, .pure, .cons (.asg (.var 2) (.cst (.str ['o', 't', 'h', 'e', 'r']))) (.cons (.try_ (.asg (.var 2) (.call "careful_winner" (.cons (.var 0) (.cons (.var 1) .nil)))) [⟨["NoOrder"], 3, .cons (.ite (.and (.isx ["NoOrder"]) (.not (.isx []))) (.cons (.asg 2 (.cst (.str ['n', 'o', ' ', 'o', 'r', 'd', 'e', 'r']))) .nil)) .nil⟩]) (.cons (.ret (.var 2)) .nil))⟩
def F_law_bent : Fn := ⟨2, 5, .drop, .cons (.asg (.var 2) (.call "_law_next" (.cons (.var 0) (.cons (.bi .len (.var 1)) .nil)))) (.cons (.asg (.var 3) (.idx (.lst (.cons (.call "_law_odd" (.cons (.var 0) .nil)) (.cons (.idx (.var 1) (.cst (.int 0))) (.cons (.cmp .eq (.idx (.var 1) (.var 2)) (.cst (.int 1))) (.cons (.bi .len (.var 1)) (.cons (.neg (.cst (.int 1))) .nil)))))) (.call "_law_next" (.cons (.var 0) (.cons (.cst (.int 5)) .nil))))) (.cons (.asg (.var 4) (.lst (.cons (.bin .add (.bin .add (.slice (.var 1) .none (.some (.var 2))) (.tup (.cons (.var 3) .nil))) (.slice (.var 1) (.some (.bin .add (.var 2) (.cst (.int 1)))) .none)) (.cons (.bin .add (.slice (.var 1) .none (.some (.var 2))) (.slice (.var 1) (.some (.bin .add (.var 2) (.cst (.int 1)))) .none)) (.cons (.bin .add (.var 1) (.tup (.cons (.var 3) .nil))) .nil))))) (.cons (.ret (.idx (.bin .add (.var 4) (.lst (.cons (.bi .list (.var 1)) (.cons (.bin .add (.var 1) (.slice (.var 1) .none (.some (.cst (.int 1))))) (.cons (.call "_law_odd" (.cons (.var 0) .nil)) (.cons (.tup (.cons (.var 1) .nil)) .nil)))))) (.call "_law_next" (.cons (.var 0) (.cons (.cst (.int 7)) .nil))))) .nil)))⟩
def F_law : Fn := ⟨1, 10, .pure, .cons (.asg (.var 1) (.call "_law_begin" (.cons (.var 0) .nil))) (.cons (.for_ (.var 2) (.rng1 (.cst (.int 6))) (.cons (.asg (.var 3) (.call "_law_table" (.cons (.var 1) (.cons (.cst (.int 1)) (.cons (.cst (.int 9)) .nil))))) (.cons (.for_ (.var 4) (.rng1 (.cst (.int 8))) (.cons (.asg (.var 5) (.bi .tuple (.call "_law_mixed" (.cons (.var 1) (.cons (.rgl (.bi .len (.var 3))) .nil))))) (.cons (.for_ (.var 6) (.seq (.lst (.cons (.var 5) (.cons (.rev (.var 5)) (.cons (.call "_law_bent" (.cons (.var 1) (.cons (.var 5) .nil))) (.cons (.call "_law_bent" (.cons (.var 1) (.cons (.var 5) .nil))) .nil)))))) (.cons (.par [7, 8] (.cons (.bi .repr (.lst (.cons (.var 3) (.cons (.var 6) .nil)))) (.cons (.cst (.str ['n', 'o', ' ', 'o', 'r', 'd', 'e', 'r'])) .nil))) (.cons (.ite (.call "_law_is_order" (.cons (.var 3) (.cons (.var 6) .nil))) (.cons (.asg (.var 8) (.call "_law_careful" (.cons (.var 3) (.cons (.var 6) .nil)))) .nil) (.nil)) (.cons (.asg (.var 9) (.lst (.cons (.call "_law_found" (.cons (.var 3) (.cons (.var 6) .nil))) (.cons (.call "_law_found" (.cons (.var 3) (.cons (.var 6) .nil))) .nil)))) (.cons (.ite (.or (.cons (.not (.call "_law_same" (.cons (.var 9) (.cons (.lst (.cons (.var 8) (.cons (.var 8) .nil))) .nil)))) (.cons (.cmp .ne (.bi .repr (.lst (.cons (.var 3) (.cons (.var 6) .nil)))) (.var 7)) .nil))) (.cons (.ret (.cst (.bl false))) .nil) (.nil)) .nil))))) .nil))) .nil))) (.cons (.ret (.cst (.bl true))) .nil))⟩
def tbl : List (String × Fn) := ([("is_alternative", F_is_alternative), ("beats_all", F_beats_all), ("is_order", F_is_order), ("check_order", F_check_order), ("careful_winner", F_careful_winner), ("_law_begin", F_law_begin), ("_law_next", F_law_next), ("_law_mixed", F_law_mixed), ("_law_table", F_law_table), ("_law_same", F_law_same), ("_law_odd", F_law_odd), ("_law_is_alternative", F_law_is_alternative), ("_law_is_order", F_law_is_order), ("_law_careful", F_law_careful), ("_law_found", F_law_found), ("_law_bent", F_law_bent), ("law", F_law)] : List (String × Fn))
def Gm : Prog := fun f => tbl.lookup f
theorem Gm_is_alternative : Gm "is_alternative" = some F_is_alternative := rfl
theorem Gm_beats_all : Gm "beats_all" = some F_beats_all := rfl
theorem Gm_is_order : Gm "is_order" = some F_is_order := rfl
theorem Gm_check_order : Gm "check_order" = some F_check_order := rfl
theorem Gm_careful_winner : Gm "careful_winner" = some F_careful_winner := rfl
theorem Gm_law_begin : Gm "_law_begin" = some F_law_begin := rfl
theorem Gm_law_next : Gm "_law_next" = some F_law_next := rfl
theorem Gm_law_mixed : Gm "_law_mixed" = some F_law_mixed := rfl
theorem Gm_law_table : Gm "_law_table" = some F_law_table := rfl
theorem Gm_law_same : Gm "_law_same" = some F_law_same := rfl
theorem Gm_law_odd : Gm "_law_odd" = some F_law_odd := rfl
theorem Gm_law_is_alternative : Gm "_law_is_alternative" = some F_law_is_alternative := rfl
theorem Gm_law_is_order : Gm "_law_is_order" = some F_law_is_order := rfl
theorem Gm_law_careful : Gm "_law_careful" = some F_law_careful := rfl
theorem Gm_law_found : Gm "_law_found" = some F_law_found := rfl
theorem Gm_law_bent : Gm "_law_bent" = some F_law_bent := rfl
theorem Gm_law : Gm "law" = some F_law := rfl
end LK
end
section
set_option Elab.async false
set_option linter.all false
set_option autoImplicit false
set_option maxRecDepth 100000
set_option maxHeartbeats 0
namespace LK
open Mini PySem PySem.Spec PyProof.Rows
def top (i : Nat) : Stmt := PySem.Challenge.pw_duelsets_k32_careful_winners.main.body.getD i (.Pass ⟨0, 0, 0, 0⟩)
def mkD (i : Nat) (g x : Str) : He.DefD := ⟨(g, none), x, x, L2.defArgs (top i), L2.defBody (top i), L2.defScope (top i), [], []⟩
def fn : List He.DefD := ([mkD 6 (PySem.Str.ofString "is_alternative") (PySem.Str.ofString "is_alternative"), mkD 9 (PySem.Str.ofString "beats_all") (PySem.Str.ofString "beats_all"), mkD 11 (PySem.Str.ofString "is_order") (PySem.Str.ofString "is_order"), mkD 12 (PySem.Str.ofString "check_order") (PySem.Str.ofString "check_order"), mkD 13 (PySem.Str.ofString "careful_winner") (PySem.Str.ofString "careful_winner"), mkD 15 (PySem.Str.ofString "_law_begin") (PySem.Str.ofString "_law_begin"), mkD 16 (PySem.Str.ofString "_law_next") (PySem.Str.ofString "_law_next"), mkD 17 (PySem.Str.ofString "_law_mixed") (PySem.Str.ofString "_law_mixed"), mkD 18 (PySem.Str.ofString "_law_table") (PySem.Str.ofString "_law_table"), mkD 19 (PySem.Str.ofString "_law_same") (PySem.Str.ofString "_law_same"), mkD 20 (PySem.Str.ofString "_law_odd") (PySem.Str.ofString "_law_odd"), mkD 21 (PySem.Str.ofString "_law_is_alternative") (PySem.Str.ofString "_law_is_alternative"), mkD 22 (PySem.Str.ofString "_law_is_order") (PySem.Str.ofString "_law_is_order"), mkD 23 (PySem.Str.ofString "_law_careful") (PySem.Str.ofString "_law_careful"), mkD 24 (PySem.Str.ofString "_law_found") (PySem.Str.ofString "_law_found"), mkD 25 (PySem.Str.ofString "_law_bent") (PySem.Str.ofString "_law_bent"), mkD 26 (PySem.Str.ofString "law") (PySem.Str.ofString "law")] : List He.DefD)
def fa : List He.Fa := ([.glo (PySem.Str.ofString "is_alternative"), .glo (PySem.Str.ofString "beats_all"), .glo (PySem.Str.ofString "is_order"), .glo (PySem.Str.ofString "check_order"), .glo (PySem.Str.ofString "careful_winner"), .glo (PySem.Str.ofString "_law_begin"), .glo (PySem.Str.ofString "_law_next"), .glo (PySem.Str.ofString "_law_mixed"), .glo (PySem.Str.ofString "_law_table"), .glo (PySem.Str.ofString "_law_same"), .glo (PySem.Str.ofString "_law_odd"), .glo (PySem.Str.ofString "_law_is_alternative"), .glo (PySem.Str.ofString "_law_is_order"), .glo (PySem.Str.ofString "_law_careful"), .glo (PySem.Str.ofString "_law_found"), .glo (PySem.Str.ofString "_law_bent"), .glo (PySem.Str.ofString "law"), .free (PySem.Str.ofString "abs"), .free (PySem.Str.ofString "all"), .free (PySem.Str.ofString "bool"), .free (PySem.Str.ofString "dict"), .free (PySem.Str.ofString "int"), .free (PySem.Str.ofString "isinstance"), .free (PySem.Str.ofString "len"), .free (PySem.Str.ofString "list"), .free (PySem.Str.ofString "range"), .free (PySem.Str.ofString "repr"), .free (PySem.Str.ofString "reversed"), .free (PySem.Str.ofString "set"), .free (PySem.Str.ofString "sorted")] : List He.Fa) ++ ([.free (PySem.Str.ofString "str"), .free (PySem.Str.ofString "tuple"), .str (PySem.Str.ofString "WON") (PySem.Str.ofString "+")] : List He.Fa)
abbrev Rw : PySem.W.OpenRow := PySem.W.OpenLaw.row PySem.Challenge.rw_duelsets_k32_careful_winners
def xs : XInfo := ⟨["NoOrder"], [("DuelError", ["NoOrder"]), ("NoOrder", ["NoOrder"]), ("NoSet", []), ("NoTop", [])]⟩
abbrev hk : PySem.W.Hook := Mini.hookX 4 fa fn xs
def ob (s : PySem.W.SharedT) : He.AlD × Bool := Mini.obsX 4 fa fn xs (HandSHeadRun.getT s)
theorem ob_eq (s : PySem.W.SharedT) : ob s = hk.obs s.abs := Mini.obsX_eq (HandSHeadRun.getT_eq s)
def loose : List Str := ([(PySem.Str.ofString "DuelError"), (PySem.Str.ofString "NoSet"), (PySem.Str.ofString "NoTop"), (PySem.Str.ofString "NoOrder"), (PySem.Str.ofString "is_alternative"), (PySem.Str.ofString "WON"), (PySem.Str.ofString "beats_all"), (PySem.Str.ofString "is_order"), (PySem.Str.ofString "check_order"), (PySem.Str.ofString "careful_winner"), (PySem.Str.ofString "_law_begin"), (PySem.Str.ofString "_law_next"), (PySem.Str.ofString "_law_mixed"), (PySem.Str.ofString "_law_table"), (PySem.Str.ofString "_law_same"), (PySem.Str.ofString "_law_odd"), (PySem.Str.ofString "_law_is_alternative"), (PySem.Str.ofString "_law_is_order"), (PySem.Str.ofString "_law_careful"), (PySem.Str.ofString "_law_found"), (PySem.Str.ofString "_law_bent")] : List Str)
theorem run (w : World) : HandSHeadRun.RunEq Rw (PySem.W.view Rw.prog [26]) hk ob 4000 loose w := by
  intro os
  kernel_rfl
def fns : List String := (["is_alternative", "beats_all", "is_order", "check_order", "careful_winner", "_law_begin", "_law_next", "_law_mixed", "_law_table", "_law_same", "_law_odd", "_law_is_alternative", "_law_is_order", "_law_careful", "_law_found", "_law_bent", "law"] : List String)
def blts : List Str := ([(PySem.Str.ofString "abs"), (PySem.Str.ofString "all"), (PySem.Str.ofString "bool"), (PySem.Str.ofString "dict"), (PySem.Str.ofString "int"), (PySem.Str.ofString "isinstance"), (PySem.Str.ofString "len"), (PySem.Str.ofString "list"), (PySem.Str.ofString "range"), (PySem.Str.ofString "repr"), (PySem.Str.ofString "reversed"), (PySem.Str.ofString "set"), (PySem.Str.ofString "sorted"), (PySem.Str.ofString "str"), (PySem.Str.ofString "tuple")] : List Str)
def gvs : List (Str × D) := ([((PySem.Str.ofString "WON"), .str ['+'])] : List (Str × D))
theorem ck_is_alternative : chkSs F_is_alternative.body ⟨([(PySem.Str.ofString "table"), (PySem.Str.ofString "value")] : List Str), L2.defScope (top 6), fun _ => true, fns, blts, gvs, xs⟩ (L2.defBody (top 6)) = true := by kernel_rfl
theorem ok_is_alternative {K : PySem.W.Frag} {h : Heap} {mg : Str → Option Value} (X : K.In h) (G : h.Ns mainGlobals mg) (c : He.SaysD fa fn K) : DefOk K mg fns blts gvs xs "is_alternative" F_is_alternative := by
  obtain ⟨fd, FD⟩ := c.def_ 0 (d := mkD 6 (PySem.Str.ofString "is_alternative") (PySem.Str.ofString "is_alternative")) rfl
  exact ⟨_, fd, _, _, _, _, _, ([(PySem.Str.ofString "table"), (PySem.Str.ofString "value")] : List Str), ([(PySem.Str.ofString "table"), (PySem.Str.ofString "value")] : List Str), FD, He.glo_ok X G (c.fact 0 (f := .glo (PySem.Str.ofString "is_alternative")) rfl), C8.fnScope_by (by kernel_rfl), fun kV doc pm an cdv ct us hl => match us, hl with | [_, _], _ => rfl, rfl, rfl, ck_is_alternative⟩
theorem ck_beats_all : chkSs F_beats_all.body ⟨([(PySem.Str.ofString "table"), (PySem.Str.ofString "one"), (PySem.Str.ofString "others"), (PySem.Str.ofString "other")] : List Str), L2.defScope (top 9), fun _ => true, fns, blts, gvs, xs⟩ (L2.defBody (top 9)) = true := by kernel_rfl
theorem ok_beats_all {K : PySem.W.Frag} {h : Heap} {mg : Str → Option Value} (X : K.In h) (G : h.Ns mainGlobals mg) (c : He.SaysD fa fn K) : DefOk K mg fns blts gvs xs "beats_all" F_beats_all := by
  obtain ⟨fd, FD⟩ := c.def_ 1 (d := mkD 9 (PySem.Str.ofString "beats_all") (PySem.Str.ofString "beats_all")) rfl
  exact ⟨_, fd, _, _, _, _, _, ([(PySem.Str.ofString "table"), (PySem.Str.ofString "one"), (PySem.Str.ofString "others"), (PySem.Str.ofString "other")] : List Str), ([(PySem.Str.ofString "table"), (PySem.Str.ofString "one"), (PySem.Str.ofString "others")] : List Str), FD, He.glo_ok X G (c.fact 1 (f := .glo (PySem.Str.ofString "beats_all")) rfl), C8.fnScope_by (by kernel_rfl), fun kV doc pm an cdv ct us hl => match us, hl with | [_, _, _], _ => rfl, rfl, rfl, ck_beats_all⟩
theorem ck_is_order : chkSs F_is_order.body ⟨([(PySem.Str.ofString "table"), (PySem.Str.ofString "value"), (PySem.Str.ofString "one")] : List Str), L2.defScope (top 11), fun _ => true, fns, blts, gvs, xs⟩ (L2.defBody (top 11)) = true := by kernel_rfl
theorem ok_is_order {K : PySem.W.Frag} {h : Heap} {mg : Str → Option Value} (X : K.In h) (G : h.Ns mainGlobals mg) (c : He.SaysD fa fn K) : DefOk K mg fns blts gvs xs "is_order" F_is_order := by
  obtain ⟨fd, FD⟩ := c.def_ 2 (d := mkD 11 (PySem.Str.ofString "is_order") (PySem.Str.ofString "is_order")) rfl
  exact ⟨_, fd, _, _, _, _, _, ([(PySem.Str.ofString "table"), (PySem.Str.ofString "value"), (PySem.Str.ofString "one")] : List Str), ([(PySem.Str.ofString "table"), (PySem.Str.ofString "value")] : List Str), FD, He.glo_ok X G (c.fact 2 (f := .glo (PySem.Str.ofString "is_order")) rfl), C8.fnScope_by (by kernel_rfl), fun kV doc pm an cdv ct us hl => match us, hl with | [_, _], _ => rfl, rfl, rfl, ck_is_order⟩
theorem ck_check_order : chkSs F_check_order.body ⟨([(PySem.Str.ofString "table"), (PySem.Str.ofString "order")] : List Str), L2.defScope (top 12), fun _ => true, fns, blts, gvs, xs⟩ (L2.defBody (top 12)) = true := by kernel_rfl
theorem ok_check_order {K : PySem.W.Frag} {h : Heap} {mg : Str → Option Value} (X : K.In h) (G : h.Ns mainGlobals mg) (c : He.SaysD fa fn K) : DefOk K mg fns blts gvs xs "check_order" F_check_order := by
  obtain ⟨fd, FD⟩ := c.def_ 3 (d := mkD 12 (PySem.Str.ofString "check_order") (PySem.Str.ofString "check_order")) rfl
  exact ⟨_, fd, _, _, _, _, _, ([(PySem.Str.ofString "table"), (PySem.Str.ofString "order")] : List Str), ([(PySem.Str.ofString "table"), (PySem.Str.ofString "order")] : List Str), FD, He.glo_ok X G (c.fact 3 (f := .glo (PySem.Str.ofString "check_order")) rfl), C8.fnScope_by (by kernel_rfl), fun kV doc pm an cdv ct us hl => match us, hl with | [_, _], _ => rfl, rfl, rfl, ck_check_order⟩
theorem ck_careful_winner : chkSs F_careful_winner.body ⟨([(PySem.Str.ofString "table"), (PySem.Str.ofString "order"), (PySem.Str.ofString "taken"), (PySem.Str.ofString "one")] : List Str), L2.defScope (top 13), fun _ => true, fns, blts, gvs, xs⟩ (L2.defBody (top 13)) = true := by kernel_rfl
theorem ok_careful_winner {K : PySem.W.Frag} {h : Heap} {mg : Str → Option Value} (X : K.In h) (G : h.Ns mainGlobals mg) (c : He.SaysD fa fn K) : DefOk K mg fns blts gvs xs "careful_winner" F_careful_winner := by
  obtain ⟨fd, FD⟩ := c.def_ 4 (d := mkD 13 (PySem.Str.ofString "careful_winner") (PySem.Str.ofString "careful_winner")) rfl
  exact ⟨_, fd, _, _, _, _, _, ([(PySem.Str.ofString "table"), (PySem.Str.ofString "order"), (PySem.Str.ofString "taken"), (PySem.Str.ofString "one")] : List Str), ([(PySem.Str.ofString "table"), (PySem.Str.ofString "order")] : List Str), FD, He.glo_ok X G (c.fact 4 (f := .glo (PySem.Str.ofString "careful_winner")) rfl), C8.fnScope_by (by kernel_rfl), fun kV doc pm an cdv ct us hl => match us, hl with | [_, _], _ => rfl, rfl, rfl, ck_careful_winner⟩
theorem ck_law_begin : chkSs F_law_begin.body ⟨([(PySem.Str.ofString "_law_script"), (PySem.Str.ofString "_law_greats"), (PySem.Str.ofString "_law_cell"), (PySem.Str.ofString "_law_whole")] : List Str), L2.defScope (top 15), fun _ => true, fns, blts, gvs, xs⟩ (L2.defBody (top 15)) = true := by kernel_rfl
theorem ok_law_begin {K : PySem.W.Frag} {h : Heap} {mg : Str → Option Value} (X : K.In h) (G : h.Ns mainGlobals mg) (c : He.SaysD fa fn K) : DefOk K mg fns blts gvs xs "_law_begin" F_law_begin := by
  obtain ⟨fd, FD⟩ := c.def_ 5 (d := mkD 15 (PySem.Str.ofString "_law_begin") (PySem.Str.ofString "_law_begin")) rfl
  exact ⟨_, fd, _, _, _, _, _, ([(PySem.Str.ofString "_law_script"), (PySem.Str.ofString "_law_greats"), (PySem.Str.ofString "_law_cell"), (PySem.Str.ofString "_law_whole")] : List Str), ([(PySem.Str.ofString "_law_script")] : List Str), FD, He.glo_ok X G (c.fact 5 (f := .glo (PySem.Str.ofString "_law_begin")) rfl), C8.fnScope_by (by kernel_rfl), fun kV doc pm an cdv ct us hl => match us, hl with | [_], _ => rfl, rfl, rfl, ck_law_begin⟩
theorem ck_law_next : chkSs F_law_next.body ⟨([(PySem.Str.ofString "_law_deck"), (PySem.Str.ofString "_law_many"), (PySem.Str.ofString "_law_rest"), (PySem.Str.ofString "_law_mixed_here")] : List Str), L2.defScope (top 16), fun _ => true, fns, blts, gvs, xs⟩ (L2.defBody (top 16)) = true := by kernel_rfl
theorem ok_law_next {K : PySem.W.Frag} {h : Heap} {mg : Str → Option Value} (X : K.In h) (G : h.Ns mainGlobals mg) (c : He.SaysD fa fn K) : DefOk K mg fns blts gvs xs "_law_next" F_law_next := by
  obtain ⟨fd, FD⟩ := c.def_ 6 (d := mkD 16 (PySem.Str.ofString "_law_next") (PySem.Str.ofString "_law_next")) rfl
  exact ⟨_, fd, _, _, _, _, _, ([(PySem.Str.ofString "_law_deck"), (PySem.Str.ofString "_law_many"), (PySem.Str.ofString "_law_rest"), (PySem.Str.ofString "_law_mixed_here")] : List Str), ([(PySem.Str.ofString "_law_deck"), (PySem.Str.ofString "_law_many")] : List Str), FD, He.glo_ok X G (c.fact 6 (f := .glo (PySem.Str.ofString "_law_next")) rfl), C8.fnScope_by (by kernel_rfl), fun kV doc pm an cdv ct us hl => match us, hl with | [_, _], _ => rfl, rfl, rfl, ck_law_next⟩
theorem ck_law_mixed : chkSs F_law_mixed.body ⟨([(PySem.Str.ofString "_law_deck"), (PySem.Str.ofString "_law_items"), (PySem.Str.ofString "_law_rest"), (PySem.Str.ofString "_law_found_here")] : List Str), L2.defScope (top 17), fun _ => true, fns, blts, gvs, xs⟩ (L2.defBody (top 17)) = true := by kernel_rfl
theorem ok_law_mixed {K : PySem.W.Frag} {h : Heap} {mg : Str → Option Value} (X : K.In h) (G : h.Ns mainGlobals mg) (c : He.SaysD fa fn K) : DefOk K mg fns blts gvs xs "_law_mixed" F_law_mixed := by
  obtain ⟨fd, FD⟩ := c.def_ 7 (d := mkD 17 (PySem.Str.ofString "_law_mixed") (PySem.Str.ofString "_law_mixed")) rfl
  exact ⟨_, fd, _, _, _, _, _, ([(PySem.Str.ofString "_law_deck"), (PySem.Str.ofString "_law_items"), (PySem.Str.ofString "_law_rest"), (PySem.Str.ofString "_law_found_here")] : List Str), ([(PySem.Str.ofString "_law_deck"), (PySem.Str.ofString "_law_items")] : List Str), FD, He.glo_ok X G (c.fact 7 (f := .glo (PySem.Str.ofString "_law_mixed")) rfl), C8.fnScope_by (by kernel_rfl), fun kV doc pm an cdv ct us hl => match us, hl with | [_, _], _ => rfl, rfl, rfl, ck_law_mixed⟩
theorem ck_law_table : chkSs F_law_table.body ⟨([(PySem.Str.ofString "_law_deck"), (PySem.Str.ofString "_law_least"), (PySem.Str.ofString "_law_most"), (PySem.Str.ofString "_law_size"), (PySem.Str.ofString "_law_way"), (PySem.Str.ofString "_law_names"), (PySem.Str.ofString "_law_signs"), (PySem.Str.ofString "_law_i"), (PySem.Str.ofString "_law_j"), (PySem.Str.ofString "_law_copies"), (PySem.Str.ofString "_law_is_won"), (PySem.Str.ofString "_law_other"), (PySem.Str.ofString "_law_one")] : List Str), L2.defScope (top 18), fun _ => true, fns, blts, gvs, xs⟩ (L2.defBody (top 18)) = true := by kernel_rfl
theorem ok_law_table {K : PySem.W.Frag} {h : Heap} {mg : Str → Option Value} (X : K.In h) (G : h.Ns mainGlobals mg) (c : He.SaysD fa fn K) : DefOk K mg fns blts gvs xs "_law_table" F_law_table := by
  obtain ⟨fd, FD⟩ := c.def_ 8 (d := mkD 18 (PySem.Str.ofString "_law_table") (PySem.Str.ofString "_law_table")) rfl
  exact ⟨_, fd, _, _, _, _, _, ([(PySem.Str.ofString "_law_deck"), (PySem.Str.ofString "_law_least"), (PySem.Str.ofString "_law_most"), (PySem.Str.ofString "_law_size"), (PySem.Str.ofString "_law_way"), (PySem.Str.ofString "_law_names"), (PySem.Str.ofString "_law_signs"), (PySem.Str.ofString "_law_i"), (PySem.Str.ofString "_law_j"), (PySem.Str.ofString "_law_copies"), (PySem.Str.ofString "_law_is_won"), (PySem.Str.ofString "_law_other"), (PySem.Str.ofString "_law_one")] : List Str), ([(PySem.Str.ofString "_law_deck"), (PySem.Str.ofString "_law_least"), (PySem.Str.ofString "_law_most")] : List Str), FD, He.glo_ok X G (c.fact 8 (f := .glo (PySem.Str.ofString "_law_table")) rfl), C8.fnScope_by (by kernel_rfl), fun kV doc pm an cdv ct us hl => match us, hl with | [_, _, _], _ => rfl, rfl, rfl, ck_law_table⟩
theorem ck_law_same : chkSs F_law_same.body ⟨([(PySem.Str.ofString "_law_found_here"), (PySem.Str.ofString "_law_due"), (PySem.Str.ofString "_law_k")] : List Str), L2.defScope (top 19), fun _ => true, fns, blts, gvs, xs⟩ (L2.defBody (top 19)) = true := by kernel_rfl
theorem ok_law_same {K : PySem.W.Frag} {h : Heap} {mg : Str → Option Value} (X : K.In h) (G : h.Ns mainGlobals mg) (c : He.SaysD fa fn K) : DefOk K mg fns blts gvs xs "_law_same" F_law_same := by
  obtain ⟨fd, FD⟩ := c.def_ 9 (d := mkD 19 (PySem.Str.ofString "_law_same") (PySem.Str.ofString "_law_same")) rfl
  exact ⟨_, fd, _, _, _, _, _, ([(PySem.Str.ofString "_law_found_here"), (PySem.Str.ofString "_law_due"), (PySem.Str.ofString "_law_k")] : List Str), ([(PySem.Str.ofString "_law_found_here"), (PySem.Str.ofString "_law_due")] : List Str), FD, He.glo_ok X G (c.fact 9 (f := .glo (PySem.Str.ofString "_law_same")) rfl), C8.fnScope_by (by kernel_rfl), fun kV doc pm an cdv ct us hl => match us, hl with | [_, _], _ => rfl, rfl, rfl, ck_law_same⟩
theorem ck_law_odd : chkSs F_law_odd.body ⟨([(PySem.Str.ofString "_law_deck"), (PySem.Str.ofString "_law_some")] : List Str), L2.defScope (top 20), fun _ => true, fns, blts, gvs, xs⟩ (L2.defBody (top 20)) = true := by kernel_rfl
theorem ok_law_odd {K : PySem.W.Frag} {h : Heap} {mg : Str → Option Value} (X : K.In h) (G : h.Ns mainGlobals mg) (c : He.SaysD fa fn K) : DefOk K mg fns blts gvs xs "_law_odd" F_law_odd := by
  obtain ⟨fd, FD⟩ := c.def_ 10 (d := mkD 20 (PySem.Str.ofString "_law_odd") (PySem.Str.ofString "_law_odd")) rfl
  exact ⟨_, fd, _, _, _, _, _, ([(PySem.Str.ofString "_law_deck"), (PySem.Str.ofString "_law_some")] : List Str), ([(PySem.Str.ofString "_law_deck")] : List Str), FD, He.glo_ok X G (c.fact 10 (f := .glo (PySem.Str.ofString "_law_odd")) rfl), C8.fnScope_by (by kernel_rfl), fun kV doc pm an cdv ct us hl => match us, hl with | [_], _ => rfl, rfl, rfl, ck_law_odd⟩
theorem ck_law_is_alternative : chkSs F_law_is_alternative.body ⟨([(PySem.Str.ofString "_law_table_here"), (PySem.Str.ofString "_law_value")] : List Str), L2.defScope (top 21), fun _ => true, fns, blts, gvs, xs⟩ (L2.defBody (top 21)) = true := by kernel_rfl
theorem ok_law_is_alternative {K : PySem.W.Frag} {h : Heap} {mg : Str → Option Value} (X : K.In h) (G : h.Ns mainGlobals mg) (c : He.SaysD fa fn K) : DefOk K mg fns blts gvs xs "_law_is_alternative" F_law_is_alternative := by
  obtain ⟨fd, FD⟩ := c.def_ 11 (d := mkD 21 (PySem.Str.ofString "_law_is_alternative") (PySem.Str.ofString "_law_is_alternative")) rfl
  exact ⟨_, fd, _, _, _, _, _, ([(PySem.Str.ofString "_law_table_here"), (PySem.Str.ofString "_law_value")] : List Str), ([(PySem.Str.ofString "_law_table_here"), (PySem.Str.ofString "_law_value")] : List Str), FD, He.glo_ok X G (c.fact 11 (f := .glo (PySem.Str.ofString "_law_is_alternative")) rfl), C8.fnScope_by (by kernel_rfl), fun kV doc pm an cdv ct us hl => match us, hl with | [_, _], _ => rfl, rfl, rfl, ck_law_is_alternative⟩
theorem ck_law_is_order : chkSs F_law_is_order.body ⟨([(PySem.Str.ofString "_law_table_here"), (PySem.Str.ofString "_law_value"), (PySem.Str.ofString "_law_one")] : List Str), L2.defScope (top 22), fun _ => true, fns, blts, gvs, xs⟩ (L2.defBody (top 22)) = true := by kernel_rfl
theorem ok_law_is_order {K : PySem.W.Frag} {h : Heap} {mg : Str → Option Value} (X : K.In h) (G : h.Ns mainGlobals mg) (c : He.SaysD fa fn K) : DefOk K mg fns blts gvs xs "_law_is_order" F_law_is_order := by
  obtain ⟨fd, FD⟩ := c.def_ 12 (d := mkD 22 (PySem.Str.ofString "_law_is_order") (PySem.Str.ofString "_law_is_order")) rfl
  exact ⟨_, fd, _, _, _, _, _, ([(PySem.Str.ofString "_law_table_here"), (PySem.Str.ofString "_law_value"), (PySem.Str.ofString "_law_one")] : List Str), ([(PySem.Str.ofString "_law_table_here"), (PySem.Str.ofString "_law_value")] : List Str), FD, He.glo_ok X G (c.fact 12 (f := .glo (PySem.Str.ofString "_law_is_order")) rfl), C8.fnScope_by (by kernel_rfl), fun kV doc pm an cdv ct us hl => match us, hl with | [_, _], _ => rfl, rfl, rfl, ck_law_is_order⟩
theorem ck_law_careful : chkSs F_law_careful.body ⟨([(PySem.Str.ofString "_law_table_here"), (PySem.Str.ofString "_law_order"), (PySem.Str.ofString "_law_taken"), (PySem.Str.ofString "_law_one"), (PySem.Str.ofString "_law_other")] : List Str), L2.defScope (top 23), fun _ => true, fns, blts, gvs, xs⟩ (L2.defBody (top 23)) = true := by kernel_rfl
theorem ok_law_careful {K : PySem.W.Frag} {h : Heap} {mg : Str → Option Value} (X : K.In h) (G : h.Ns mainGlobals mg) (c : He.SaysD fa fn K) : DefOk K mg fns blts gvs xs "_law_careful" F_law_careful := by
  obtain ⟨fd, FD⟩ := c.def_ 13 (d := mkD 23 (PySem.Str.ofString "_law_careful") (PySem.Str.ofString "_law_careful")) rfl
  exact ⟨_, fd, _, _, _, _, _, ([(PySem.Str.ofString "_law_table_here"), (PySem.Str.ofString "_law_order"), (PySem.Str.ofString "_law_taken"), (PySem.Str.ofString "_law_one"), (PySem.Str.ofString "_law_other")] : List Str), ([(PySem.Str.ofString "_law_table_here"), (PySem.Str.ofString "_law_order")] : List Str), FD, He.glo_ok X G (c.fact 13 (f := .glo (PySem.Str.ofString "_law_careful")) rfl), C8.fnScope_by (by kernel_rfl), fun kV doc pm an cdv ct us hl => match us, hl with | [_, _], _ => rfl, rfl, rfl, ck_law_careful⟩
theorem ck_law_found : chkSs F_law_found.body ⟨([(PySem.Str.ofString "_law_table_here"), (PySem.Str.ofString "_law_order"), (PySem.Str.ofString "_law_found_here"), (PySem.Str.ofString "error")] : List Str), L2.defScope (top 24), fun _ => true, fns, blts, gvs, xs⟩ (L2.defBody (top 24)) = true := by kernel_rfl
theorem ok_law_found {K : PySem.W.Frag} {h : Heap} {mg : Str → Option Value} (X : K.In h) (G : h.Ns mainGlobals mg) (c : He.SaysD fa fn K) : DefOk K mg fns blts gvs xs "_law_found" F_law_found := by
  obtain ⟨fd, FD⟩ := c.def_ 14 (d := mkD 24 (PySem.Str.ofString "_law_found") (PySem.Str.ofString "_law_found")) rfl
  exact ⟨_, fd, _, _, _, _, _, ([(PySem.Str.ofString "_law_table_here"), (PySem.Str.ofString "_law_order"), (PySem.Str.ofString "_law_found_here"), (PySem.Str.ofString "error")] : List Str), ([(PySem.Str.ofString "_law_table_here"), (PySem.Str.ofString "_law_order")] : List Str), FD, He.glo_ok X G (c.fact 14 (f := .glo (PySem.Str.ofString "_law_found")) rfl), C8.fnScope_by (by kernel_rfl), fun kV doc pm an cdv ct us hl => match us, hl with | [_, _], _ => rfl, rfl, rfl, ck_law_found⟩
theorem ck_law_bent : chkSs F_law_bent.body ⟨([(PySem.Str.ofString "_law_deck"), (PySem.Str.ofString "_law_order"), (PySem.Str.ofString "_law_spot"), (PySem.Str.ofString "_law_other"), (PySem.Str.ofString "_law_some")] : List Str), L2.defScope (top 25), fun _ => true, fns, blts, gvs, xs⟩ (L2.defBody (top 25)) = true := by kernel_rfl
theorem ok_law_bent {K : PySem.W.Frag} {h : Heap} {mg : Str → Option Value} (X : K.In h) (G : h.Ns mainGlobals mg) (c : He.SaysD fa fn K) : DefOk K mg fns blts gvs xs "_law_bent" F_law_bent := by
  obtain ⟨fd, FD⟩ := c.def_ 15 (d := mkD 25 (PySem.Str.ofString "_law_bent") (PySem.Str.ofString "_law_bent")) rfl
  exact ⟨_, fd, _, _, _, _, _, ([(PySem.Str.ofString "_law_deck"), (PySem.Str.ofString "_law_order"), (PySem.Str.ofString "_law_spot"), (PySem.Str.ofString "_law_other"), (PySem.Str.ofString "_law_some")] : List Str), ([(PySem.Str.ofString "_law_deck"), (PySem.Str.ofString "_law_order")] : List Str), FD, He.glo_ok X G (c.fact 15 (f := .glo (PySem.Str.ofString "_law_bent")) rfl), C8.fnScope_by (by kernel_rfl), fun kV doc pm an cdv ct us hl => match us, hl with | [_, _], _ => rfl, rfl, rfl, ck_law_bent⟩
theorem ck_law : chkSs F_law.body ⟨([(PySem.Str.ofString "_law_script"), (PySem.Str.ofString "_law_deck"), (PySem.Str.ofString "_law_turn"), (PySem.Str.ofString "_law_table_here"), (PySem.Str.ofString "_law_again"), (PySem.Str.ofString "_law_order"), (PySem.Str.ofString "_law_value"), (PySem.Str.ofString "_law_kept"), (PySem.Str.ofString "_law_due"), (PySem.Str.ofString "_law_found_here")] : List Str), L2.defScope (top 26), fun _ => true, fns, blts, gvs, xs⟩ (L2.defBody (top 26)) = true := by kernel_rfl
theorem ok_law {K : PySem.W.Frag} {h : Heap} {mg : Str → Option Value} (X : K.In h) (G : h.Ns mainGlobals mg) (c : He.SaysD fa fn K) : DefOk K mg fns blts gvs xs "law" F_law := by
  obtain ⟨fd, FD⟩ := c.def_ 16 (d := mkD 26 (PySem.Str.ofString "law") (PySem.Str.ofString "law")) rfl
  exact ⟨_, fd, _, _, _, _, _, ([(PySem.Str.ofString "_law_script"), (PySem.Str.ofString "_law_deck"), (PySem.Str.ofString "_law_turn"), (PySem.Str.ofString "_law_table_here"), (PySem.Str.ofString "_law_again"), (PySem.Str.ofString "_law_order"), (PySem.Str.ofString "_law_value"), (PySem.Str.ofString "_law_kept"), (PySem.Str.ofString "_law_due"), (PySem.Str.ofString "_law_found_here")] : List Str), ([(PySem.Str.ofString "_law_script")] : List Str), FD, He.glo_ok X G (c.fact 16 (f := .glo (PySem.Str.ofString "law")) rfl), C8.fnScope_by (by kernel_rfl), fun kV doc pm an cdv ct us hl => match us, hl with | [_], _ => rfl, rfl, rfl, ck_law⟩
theorem all_ok {K : PySem.W.Frag} {h : Heap} {mg : Str → Option Value} (X : K.In h) (G : h.Ns mainGlobals mg) (c : He.SaysD fa fn K) : ∀ f ∈ fns, ∃ fn, Gm f = some fn ∧ DefOk K mg fns blts gvs xs f fn := by
  intro f hf
  simp only [fns, List.mem_append, List.mem_cons, List.not_mem_nil, or_false] at hf
  rcases hf with rfl | rfl | rfl | rfl | rfl | rfl | rfl | rfl | rfl | rfl | rfl | rfl | rfl | rfl | rfl | rfl | rfl
  · exact ⟨_, Gm_is_alternative, ok_is_alternative X G c⟩
  · exact ⟨_, Gm_beats_all, ok_beats_all X G c⟩
  · exact ⟨_, Gm_is_order, ok_is_order X G c⟩
  · exact ⟨_, Gm_check_order, ok_check_order X G c⟩
  · exact ⟨_, Gm_careful_winner, ok_careful_winner X G c⟩
  · exact ⟨_, Gm_law_begin, ok_law_begin X G c⟩
  · exact ⟨_, Gm_law_next, ok_law_next X G c⟩
  · exact ⟨_, Gm_law_mixed, ok_law_mixed X G c⟩
  · exact ⟨_, Gm_law_table, ok_law_table X G c⟩
  · exact ⟨_, Gm_law_same, ok_law_same X G c⟩
  · exact ⟨_, Gm_law_odd, ok_law_odd X G c⟩
  · exact ⟨_, Gm_law_is_alternative, ok_law_is_alternative X G c⟩
  · exact ⟨_, Gm_law_is_order, ok_law_is_order X G c⟩
  · exact ⟨_, Gm_law_careful, ok_law_careful X G c⟩
  · exact ⟨_, Gm_law_found, ok_law_found X G c⟩
  · exact ⟨_, Gm_law_bent, ok_law_bent X G c⟩
  · exact ⟨_, Gm_law, ok_law X G c⟩
theorem all_free {K : PySem.W.Frag} {h : Heap} {mg : Str → Option Value} (X : K.In h) (G : h.Ns mainGlobals mg) (c : He.SaysD fa fn K) : ∀ x ∈ blts, mg x = none := by
  intro x hx
  simp only [blts, List.mem_append, List.mem_cons, List.not_mem_nil, or_false] at hx
  rcases hx with rfl | rfl | rfl | rfl | rfl | rfl | rfl | rfl | rfl | rfl | rfl | rfl | rfl | rfl | rfl
  · exact He.free_ok X G (c.fact 17 (f := .free (PySem.Str.ofString "abs")) rfl)
  · exact He.free_ok X G (c.fact 18 (f := .free (PySem.Str.ofString "all")) rfl)
  · exact He.free_ok X G (c.fact 19 (f := .free (PySem.Str.ofString "bool")) rfl)
  · exact He.free_ok X G (c.fact 20 (f := .free (PySem.Str.ofString "dict")) rfl)
  · exact He.free_ok X G (c.fact 21 (f := .free (PySem.Str.ofString "int")) rfl)
  · exact He.free_ok X G (c.fact 22 (f := .free (PySem.Str.ofString "isinstance")) rfl)
  · exact He.free_ok X G (c.fact 23 (f := .free (PySem.Str.ofString "len")) rfl)
  · exact He.free_ok X G (c.fact 24 (f := .free (PySem.Str.ofString "list")) rfl)
  · exact He.free_ok X G (c.fact 25 (f := .free (PySem.Str.ofString "range")) rfl)
  · exact He.free_ok X G (c.fact 26 (f := .free (PySem.Str.ofString "repr")) rfl)
  · exact He.free_ok X G (c.fact 27 (f := .free (PySem.Str.ofString "reversed")) rfl)
  · exact He.free_ok X G (c.fact 28 (f := .free (PySem.Str.ofString "set")) rfl)
  · exact He.free_ok X G (c.fact 29 (f := .free (PySem.Str.ofString "sorted")) rfl)
  · exact He.free_ok X G (c.fact 30 (f := .free (PySem.Str.ofString "str")) rfl)
  · exact He.free_ok X G (c.fact 31 (f := .free (PySem.Str.ofString "tuple")) rfl)
theorem all_gvs {K : PySem.W.Frag} {h : Heap} {mg : Str → Option Value} (X : K.In h) (G : h.Ns mainGlobals mg) (c : He.SaysD fa fn K) : ∀ p ∈ gvs, GlV mg p.1 p.2 := by
  intro p hp
  simp only [gvs, List.mem_append, List.mem_cons, List.not_mem_nil, or_false] at hp
  rcases hp with rfl
  · obtain ⟨t, ht⟩ := He.str_ok X G (c.fact 32 (f := .str (PySem.Str.ofString "WON") (PySem.Str.ofString "+")) rfl)
    exact ⟨t, by rw [ht]; rfl⟩
def lev : Nat := 30
def most : Nat := 63
end LK
end
section
set_option Elab.async false
set_option linter.all false
set_option autoImplicit false
set_option maxRecDepth 100000
/-! MiniL: laws of Mini's loops and calls. -/
namespace Mini

@[simp] theorem liveOk_nil (h : Hh) : liveOk h [] = true := rfl
@[simp] theorem It1.get_v (h : Hh) (x : D) : (It1.v x).get h = some x := rfl
@[simp] theorem wipe_nil (σ : Sl) : wipe σ [] = σ := rfl
@[simp] theorem wipe_cons (σ : Sl) (v : Nat) (vs : List Nat) : wipe σ (v :: vs) = (wipe σ vs).set v none := rfl
/-! ### evaluation, step by step: what comes later waits -/
section
variable {α β γ : Type}
def bindE (r : R α) (e : Sl → Hh → R β) (σ : Sl) (k : α → β → Hh → R γ) : R γ := r.bind fun x h => (e σ h).bind fun y h => k x y h
def bind1 (r : R α) (k : α → Hh → R γ) : R γ := r.bind k
@[simp] theorem bindE_ok (x : α) (h : Hh) (e : Sl → Hh → R β) (σ : Sl) (k : α → β → Hh → R γ) : bindE (.ok x h) e σ k = bind1 (e σ h) (k x) := by unfold bindE bind1; rfl
@[simp] theorem bind1_ok (x : α) (h : Hh) (k : α → Hh → R γ) : bind1 (.ok x h) k = k x h := by unfold bind1; rfl
@[simp] theorem of_some' (x : α) (h : Hh) : R.of (some x) h = .ok x h := by cases h <;> rfl
def seqE (r : R D) (es : Sl → Hh → R (List D)) (σ : Sl) : R (List D) := r.bind fun x h => (es σ h).bind fun xs h => .ok (x :: xs) h
def consR (x : D) (r : R (List D)) : R (List D) := r.bind fun xs h => .ok (x :: xs) h
@[simp] theorem seqE_ok (x : D) (h : Hh) (es : Sl → Hh → R (List D)) (σ : Sl) : seqE (.ok x h) es σ = consR x (es σ h) := by unfold seqE consR; rfl
@[simp] theorem consR_ok (x : D) (xs : List D) (h : Hh) : consR x (.ok xs h) = .ok (x :: xs) h := by unfold consR; rfl
def truK (r : R D) (a b : Sl → Hh → R γ) (σ : Sl) : R γ := (truthR r).bind fun k h => if k then a σ h else b σ h
def truB (o : Option Bool) (h : Hh) (a b : Sl → Hh → R γ) (σ : Sl) : R γ := match o with
  | some true => a σ h
  | some false => b σ h
  | none => .bad
@[simp] theorem truK_ok (x : D) (h : Hh) (a b : Sl → Hh → R γ) (σ : Sl) : truK (.ok x h) a b σ = truB (truthy h x) h a b σ := by
  unfold truK truB truthR
  rw [R.bind_ok]
  cases truthy h x with
  | none => rfl
  | some k => cases k <;> rfl
@[simp] theorem truB_true (h : Hh) (a b : Sl → Hh → R γ) (σ : Sl) : truB (some true) h a b σ = a σ h := by unfold truB; rfl
@[simp] theorem truB_false (h : Hh) (a b : Sl → Hh → R γ) (σ : Sl) : truB (some false) h a b σ = b σ h := by unfold truB; rfl
def andK (r : R D) (e : Sl → Hh → R D) (σ : Sl) : R D := r.bind fun x h => (R.of (truthy h x) h).bind fun b h => if b then e σ h else .ok x h
def orK (r : R D) (e : Sl → Hh → R D) (σ : Sl) : R D := r.bind fun x h => (R.of (truthy h x) h).bind fun b h => if b then .ok x h else e σ h
def andB (o : Option Bool) (x : D) (h : Hh) (e : Sl → Hh → R D) (σ : Sl) : R D := match o with
  | some true => e σ h
  | some false => .ok x h
  | none => .bad
def orB (o : Option Bool) (x : D) (h : Hh) (e : Sl → Hh → R D) (σ : Sl) : R D := match o with
  | some true => .ok x h
  | some false => e σ h
  | none => .bad
@[simp] theorem andK_ok (x : D) (h : Hh) (e : Sl → Hh → R D) (σ : Sl) : andK (.ok x h) e σ = andB (truthy h x) x h e σ := by
  unfold andK andB
  rw [R.bind_ok]
  cases truthy h x with
  | none => rfl
  | some k => cases k <;> rfl
@[simp] theorem orK_ok (x : D) (h : Hh) (e : Sl → Hh → R D) (σ : Sl) : orK (.ok x h) e σ = orB (truthy h x) x h e σ := by
  unfold orK orB
  rw [R.bind_ok]
  cases truthy h x with
  | none => rfl
  | some k => cases k <;> rfl
@[simp] theorem andB_true (x : D) (h : Hh) (e : Sl → Hh → R D) (σ : Sl) : andB (some true) x h e σ = e σ h := by unfold andB; rfl
@[simp] theorem andB_false (x : D) (h : Hh) (e : Sl → Hh → R D) (σ : Sl) : andB (some false) x h e σ = .ok x h := by unfold andB; rfl
@[simp] theorem orB_true (x : D) (h : Hh) (e : Sl → Hh → R D) (σ : Sl) : orB (some true) x h e σ = .ok x h := by unfold orB; rfl
@[simp] theorem orB_false (x : D) (h : Hh) (e : Sl → Hh → R D) (σ : Sl) : orB (some false) x h e σ = e σ h := by unfold orB; rfl
def notK (r : R D) : R D := (truthR r).bind fun b h => .ok (.bl (!b)) h
def notB (o : Option Bool) (h : Hh) : R D := match o with
  | some b => .ok (.bl (!b)) h
  | none => .bad
@[simp] theorem notK_ok (x : D) (h : Hh) : notK (.ok x h) = notB (truthy h x) h := by
  unfold notK notB truthR
  rw [R.bind_ok]
  cases truthy h x <;> rfl
@[simp] theorem notB_some (b : Bool) (h : Hh) : notB (some b) h = .ok (.bl (!b)) h := by unfold notB; rfl
def lcK (r : R Its) (t : Tg) (own : List Nat) (c : Sl → Hh → R Bool) (e : Sl → Hh → R D) (σ : Sl) : R D := r.bind fun its h => (compL t own its.live c e its.its σ h).bind fun xs h => .ok (.lst xs) h
def lstR (r : R (List D)) : R D := r.bind fun xs h => .ok (.lst xs) h
def tupR (r : R (List D)) : R D := r.bind fun xs h => .ok (.tup xs) h
@[simp] theorem lcK_ok (its : Its) (h : Hh) (t : Tg) (own : List Nat) (c : Sl → Hh → R Bool) (e : Sl → Hh → R D) (σ : Sl) : lcK (.ok its h) t own c e σ = lstR (compL t own its.live c e its.its σ h) := by unfold lcK lstR; rfl
@[simp] theorem lstR_ok (xs : List D) (h : Hh) : lstR (.ok xs h) = .ok (.lst xs) h := by unfold lstR; rfl
@[simp] theorem tupR_ok (xs : List D) (h : Hh) : tupR (.ok xs h) = .ok (.tup xs) h := by unfold tupR; rfl
def newR (r : R D) : R D := r.bind fun d h => match d with
  | .lst xs => .ok (.ref h.length) (h ++ [.lst xs])
  | d => .ok d h
@[simp] theorem newR_lst (xs : List D) (h : Hh) : newR (.ok (.lst xs) h) = .ok (.ref h.length) (h ++ [.lst xs]) := by unfold newR; rfl
@[simp] theorem newR_int (i : Int) (h : Hh) : newR (.ok (.int i) h) = .ok (.int i) h := by unfold newR; rfl
@[simp] theorem newR_str (i : List Char) (h : Hh) : newR (.ok (.str i) h) = .ok (.str i) h := by unfold newR; rfl
@[simp] theorem newR_tup (i : List D) (h : Hh) : newR (.ok (.tup i) h) = .ok (.tup i) h := by unfold newR; rfl
def varR (o : Option (Option D)) (h : Hh) : R D := match o with
  | some (some d) => .ok d h
  | _ => .bad
@[simp] theorem varR_some (d : D) (h : Hh) : varR (some (some d)) h = .ok d h := by unfold varR; rfl
def chK (r : R D) (eb ec : Sl → Hh → R D) (σ : Sl) (op op' : Cm) : R D := r.bind fun x h => (eb σ h).bind fun y h => (R.of (cmpD h op x y) h).bind fun k h =>
      if k then (ec σ h).bind fun z h => (R.of (cmpD h op' y z) h).bind fun k h => .ok (.bl k) h else .ok (.bl false) h
def ch1 (x : D) (r : R D) (ec : Sl → Hh → R D) (σ : Sl) (op op' : Cm) : R D := r.bind fun y h => (R.of (cmpD h op x y) h).bind fun k h =>
      if k then (ec σ h).bind fun z h => (R.of (cmpD h op' y z) h).bind fun k h => .ok (.bl k) h else .ok (.bl false) h
def ch2 (o : Option Bool) (y : D) (h : Hh) (ec : Sl → Hh → R D) (σ : Sl) (op' : Cm) : R D := (R.of o h).bind fun k h => if k then (ec σ h).bind fun z h => (R.of (cmpD h op' y z) h).bind fun k h => .ok (.bl k) h else .ok (.bl false) h
def blR (r : R Bool) : R D := r.bind fun c h => .ok (.bl c) h
def cmR (o : Option Bool) (h : Hh) : R D := blR (R.of o h)
@[simp] theorem cmR_some (b : Bool) (h : Hh) : cmR (some b) h = .ok (.bl b) h := by unfold cmR blR; rfl
@[simp] theorem chK_ok (x : D) (h : Hh) (eb ec : Sl → Hh → R D) (σ : Sl) (op op' : Cm) : chK (.ok x h) eb ec σ op op' = ch1 x (eb σ h) ec σ op op' := by unfold chK ch1; rfl
@[simp] theorem ch1_ok (x y : D) (h : Hh) (ec : Sl → Hh → R D) (σ : Sl) (op op' : Cm) : ch1 x (.ok y h) ec σ op op' = ch2 (cmpD h op x y) y h ec σ op' := by unfold ch1 ch2; rfl
@[simp] theorem ch2_true (y : D) (h : Hh) (ec : Sl → Hh → R D) (σ : Sl) (op' : Cm) : ch2 (some true) y h ec σ op' = bind1 (ec σ h) fun z h => cmR (cmpD h op' y z) h := by unfold ch2 bind1 cmR blR; rfl
@[simp] theorem ch2_false (y : D) (h : Hh) (ec : Sl → Hh → R D) (σ : Sl) (op' : Cm) : ch2 (some false) y h ec σ op' = .ok (.bl false) h := by unfold ch2; rfl
def negR (d : D) (h : Hh) : R D := match d with
  | .int i => .ok (.int (-i)) h
  | _ => .bad
@[simp] theorem negR_int (i : Int) (h : Hh) : negR (.int i) h = .ok (.int (-i)) h := by unfold negR; rfl
def partR (d : D) (h : Hh) : R (Option Int) := match d with
  | .int i => .ok (some i) h
  | _ => .bad
@[simp] theorem partR_int (i : Int) (h : Hh) : partR (.int i) h = .ok (some i) h := by unfold partR; rfl
def slK (r : R D) (el eh : Sl → Hh → R (Option Int)) (σ : Sl) : R D := r.bind fun x h => (el σ h).bind fun l h => (eh σ h).bind fun u h => R.of (sliceD h x l u) h
def sl1 (x : D) (r : R (Option Int)) (eh : Sl → Hh → R (Option Int)) (σ : Sl) : R D := r.bind fun l h => (eh σ h).bind fun u h => R.of (sliceD h x l u) h
@[simp] theorem slK_ok (x : D) (h : Hh) (el eh : Sl → Hh → R (Option Int)) (σ : Sl) : slK (.ok x h) el eh σ = sl1 x (el σ h) eh σ := by unfold slK sl1; rfl
@[simp] theorem sl1_ok (x : D) (l : Option Int) (h : Hh) (eh : Sl → Hh → R (Option Int)) (σ : Sl) : sl1 x (.ok l h) eh σ = bind1 (eh σ h) fun u h => R.of (sliceD h x l u) h := by unfold sl1 bind1; rfl
def mutK (r : R D) (es : Sl → Hh → R (List D)) (σ : Sl) (m : Mu) : R D := r.bind fun x h => if (lstOf h x).isSome then (es σ h).bind fun ys h => mutD h m x ys else .bad
def mutB (o : Bool) (x : D) (r : R (List D)) (m : Mu) : R D := if o then r.bind fun ys h => mutD h m x ys else .bad
@[simp] theorem mutK_ok (x : D) (h : Hh) (es : Sl → Hh → R (List D)) (σ : Sl) (m : Mu) : mutK (.ok x h) es σ m = mutB (lstOf h x).isSome x (es σ h) m := by unfold mutK mutB; rfl
@[simp] theorem mutB_ok (x : D) (ys : List D) (h : Hh) (m : Mu) : mutB true x (.ok ys h) m = mutD h m x ys := by unfold mutB; rfl
def rngR (h : Hh) : D → D → R Its
  | .int i, .int j => R.of (itsRange i j) h
  | _, _ => .bad
@[simp] theorem rngR_int (i j : Int) (h : Hh) : rngR h (.int i) (.int j) = R.of (itsRange i j) h := by unfold rngR; rfl
def enR (h : Hh) (x : D) : R Its := R.of (enumQ h x) h
variable {C : Oracle} {σ : Sl} {h : Hh}
@[simp] theorem ev_var {i : Nat} : evalE C (.var i) σ h = varR σ[i]? h := by rw [evalE]; unfold varR; rfl
@[simp] theorem ev_cst {d : D} : evalE C (.cst d) σ h = .ok d h := by rw [evalE]
@[simp] theorem ev_glb {x : String} {d : D} : evalE C (.glb x d) σ h = .ok d h := by rw [evalE]
@[simp] theorem ev_tup {es : MEs} : evalE C (.tup es) σ h = tupR (evalEs C es σ h) := by rw [evalE]; unfold tupR; rfl
@[simp] theorem ev_lst {es : MEs} : evalE C (.lst es) σ h = lstR (evalEs C es σ h) := by rw [evalE]; unfold lstR; rfl
@[simp] theorem ev_new {e : ME} : evalE C (.new e) σ h = newR (evalE C e σ h) := by rw [evalE]; unfold newR; rfl
@[simp] theorem ev_bin {op : Op} {a b : ME} : evalE C (.bin op a b) σ h = bindE (evalE C a σ h) (evalE C b) σ fun x y h => R.of (binD h op x y) h := by rw [evalE]; unfold bindE; rfl
@[simp] theorem ev_neg {a : ME} : evalE C (.neg a) σ h = bind1 (evalE C a σ h) fun x h => negR x h := by rw [evalE]; unfold bind1 negR; rfl
@[simp] theorem ev_cmp {op : Cm} {a b : ME} : evalE C (.cmp op a b) σ h = bindE (evalE C a σ h) (evalE C b) σ fun x y h => cmR (cmpD h op x y) h := by rw [evalE]; unfold bindE cmR blR; rfl
@[simp] theorem ev_chain {op op' : Cm} {a b c : ME} : evalE C (.chain op op' a b c) σ h = chK (evalE C a σ h) (evalE C b) (evalE C c) σ op op' := by rw [evalE]; unfold chK; rfl
@[simp] theorem ev_and {es : MEs} : evalE C (.and es) σ h = evalAnd C es σ h := by rw [evalE]
@[simp] theorem ev_or {es : MEs} : evalE C (.or es) σ h = evalOr C es σ h := by rw [evalE]
@[simp] theorem ev_and1 {e : ME} : evalAnd C (.cons e .nil) σ h = evalE C e σ h := by rw [evalAnd]
@[simp] theorem ev_and2 {e e' : ME} {es : MEs} : evalAnd C (.cons e (.cons e' es)) σ h = andK (evalE C e σ h) (evalAnd C (.cons e' es)) σ := by rw [evalAnd]; unfold andK; rfl
@[simp] theorem ev_or1 {e : ME} : evalOr C (.cons e .nil) σ h = evalE C e σ h := by rw [evalOr]
@[simp] theorem ev_or2 {e e' : ME} {es : MEs} : evalOr C (.cons e (.cons e' es)) σ h = orK (evalE C e σ h) (evalOr C (.cons e' es)) σ := by rw [evalOr]; unfold orK; rfl
@[simp] theorem ev_not {a : ME} : evalE C (.not a) σ h = notK (evalE C a σ h) := by rw [evalE]; unfold notK; rfl
@[simp] theorem ev_ite {c a b : ME} : evalE C (.ite c a b) σ h = truK (evalE C c σ h) (evalE C a) (evalE C b) σ := by rw [evalE]; unfold truK; rfl
@[simp] theorem ev_idx {a i : ME} : evalE C (.idx a i) σ h = bindE (evalE C a σ h) (evalE C i) σ fun x y h => R.of (idxD h x y) h := by rw [evalE]; unfold bindE; rfl
@[simp] theorem ev_slice {a : ME} {lo hi : MO} : evalE C (.slice a lo hi) σ h = slK (evalE C a σ h) (evalO C lo) (evalO C hi) σ := by rw [evalE]; unfold slK; rfl
@[simp] theorem ev_rev {a : ME} : evalE C (.rev a) σ h = bind1 (evalE C a σ h) fun x h => R.of (revX h x) h := by rw [evalE]; unfold bind1; rfl
@[simp] theorem revX_tup {xs : List D} : revX h (.tup xs) = some (.tup xs.reverse) := rfl
@[simp] theorem revX_lst {xs : List D} : revX h (.lst xs) = some (.lst xs.reverse) := rfl
@[simp] theorem revX_scr {xs : List D} : revX h (.scr xs) = some (.lst xs.reverse) := rfl
@[simp] theorem ev_lc {own : List Nat} {t : Tg} {it : MI} {c : MO} {e : ME} : evalE C (.lc own t it c e) σ h = lcK (evalI C it σ h) t own (evalC C c) (evalE C e) σ := by rw [evalE]; unfold lcK; rfl
@[simp] theorem ev_rgl {a : ME} : evalE C (.rgl a) σ h = bind1 (evalE C a σ h) fun x h => R.of ((rgD (.int 0) x).map .lst) h := by rw [evalE]; unfold bind1; rfl
@[simp] theorem ev_rgl2 {a b : ME} : evalE C (.rgl2 a b) σ h = bindE (evalE C a σ h) (evalE C b) σ fun x y h => R.of ((rgD x y).map .lst) h := by rw [evalE]; unfold bindE; rfl
@[simp] theorem ev_rgt {a : ME} : evalE C (.rgt a) σ h = bind1 (evalE C a σ h) fun x h => R.of ((rgD (.int 0) x).map .tup) h := by rw [evalE]; unfold bind1; rfl
@[simp] theorem ev_rgt2 {a b : ME} : evalE C (.rgt2 a b) σ h = bindE (evalE C a σ h) (evalE C b) σ fun x y h => R.of ((rgD x y).map .tup) h := by rw [evalE]; unfold bindE; rfl
@[simp] theorem ev_isi {a : ME} {ts : List Ty} : evalE C (.isi a ts) σ h = bind1 (evalE C a σ h) fun x h => cmR (isiD h x ts) h := by rw [evalE]; unfold bind1 cmR blR; rfl
@[simp] theorem ev_bi {f : Bi} {a : ME} : evalE C (.bi f a) σ h = bind1 (evalE C a σ h) fun x h => R.of (biD h f x) h := by rw [evalE]; unfold bind1; rfl
@[simp] theorem ev_bi2 {f : Bi2} {a b : ME} : evalE C (.bi2 f a b) σ h = bindE (evalE C a σ h) (evalE C b) σ fun x y h => R.of (bi2D f x y) h := by rw [evalE]; unfold bindE; rfl
@[simp] theorem ev_meth {m : Me} {o : ME} {as : MEs} : evalE C (.meth m o as) σ h = bindE (evalE C o σ h) (evalEs C as) σ fun x ys h => R.of (methD h m x ys) h := by rw [evalE]; unfold bindE; rfl
@[simp] theorem ev_mut {m : Mu} {o : ME} {as : MEs} : evalE C (.mut m o as) σ h = mutK (evalE C o σ h) (evalEs C as) σ m := by rw [evalE]; unfold mutK; rfl
@[simp] theorem ev_call {f : String} {as : MEs} : evalE C (.call f as) σ h = bind1 (evalEs C as σ h) fun xs h => C f xs h := by rw [evalE]; unfold bind1; rfl
@[simp] theorem ev_nil : evalEs C .nil σ h = .ok [] h := by rw [evalEs]
@[simp] theorem ev_cons {e : ME} {es : MEs} : evalEs C (.cons e es) σ h = seqE (evalE C e σ h) (evalEs C es) σ := by rw [evalEs]; unfold seqE; rfl
@[simp] theorem ev_o0 : evalO C .none σ h = .ok none h := by rw [evalO]
@[simp] theorem ev_o1 {e : ME} : evalO C (.some e) σ h = bind1 (evalE C e σ h) fun x h => partR x h := by rw [evalO]; unfold bind1 partR; rfl
@[simp] theorem ev_c0 : evalC C .none σ h = .ok true h := by rw [evalC]
def truR (r : R D) : R Bool := truthR r
@[simp] theorem truR_ok (x : D) (h : Hh) : truR (.ok x h) = R.of (truthy h x) h := by unfold truR truthR; rfl
@[simp] theorem ev_c1 {e : ME} : evalC C (.some e) σ h = truR (evalE C e σ h) := by rw [evalC]; unfold truR; rfl
@[simp] theorem ev_iseq {e : ME} : evalI C (.seq e) σ h = bind1 (evalE C e σ h) fun x h => R.of (itsSeq h x) h := by rw [evalI]; unfold bind1; rfl
@[simp] theorem ev_rng1 {a : ME} : evalI C (.rng1 a) σ h = bind1 (evalE C a σ h) fun x h => rngR h (.int 0) x := by
  rw [evalI]
  unfold bind1
  congr 1
  funext x h
  cases x <;> rfl
@[simp] theorem ev_rng2 {a b : ME} : evalI C (.rng2 a b) σ h = bindE (evalE C a σ h) (evalE C b) σ fun x y h => rngR h x y := by
  rw [evalI]
  unfold bindE
  congr 1
@[simp] theorem ev_enum {e : ME} : evalI C (.enum e) σ h = bind1 (evalE C e σ h) fun x h => enR h x := by rw [evalI]; unfold bind1 enR; rfl
@[simp] theorem ev_zip {a b : ME} : evalI C (.zip a b) σ h = bindE (evalE C a σ h) (evalE C b) σ fun x y h => R.of (zipD h x y) h := by rw [evalI]; unfold bindE; rfl
@[simp] theorem ev_irev {e : ME} : evalI C (.rev e) σ h = bind1 (evalE C e σ h) fun x h => R.of (revD x) h := by rw [evalI]; unfold bind1; rfl
/-! statements -/
def seqS (r : R Fl) (k : Sl → Hh → R Fl) : R Fl := r.bind fun f h => match f with
    | .nx σ => k σ h
    | f => .ok f h
@[simp] theorem seqS_nx (σ : Sl) (h : Hh) (k : Sl → Hh → R Fl) : seqS (.ok (.nx σ) h) k = k σ h := by unfold seqS; rfl
@[simp] theorem seqS_rt (d : D) (h : Hh) (k : Sl → Hh → R Fl) : seqS (.ok (.rt d) h) k = .ok (.rt d) h := by unfold seqS; rfl
@[simp] theorem seqS_bk (σ : Sl) (h : Hh) (k : Sl → Hh → R Fl) : seqS (.ok (.bk σ) h) k = .ok (.bk σ) h := by unfold seqS; rfl
@[simp] theorem seqS_ct (σ : Sl) (h : Hh) (k : Sl → Hh → R Fl) : seqS (.ok (.ct σ) h) k = .ok (.ct σ) h := by unfold seqS; rfl
def forK (r : R Its) (t : Tg) (b : Sl → Hh → R Fl) (σ : Sl) : R Fl := r.bind fun its h => forL t its.live b its.its σ h
@[simp] theorem forK_ok (its : Its) (h : Hh) (t : Tg) (b : Sl → Hh → R Fl) (σ : Sl) : forK (.ok its h) t b σ = forL t its.live b its.its σ h := by unfold forK; rfl
def nxO (o : Option Sl) (h : Hh) : R Fl := match o with
  | some σ => .ok (.nx σ) h
  | none => .bad
@[simp] theorem nxO_some (σ : Sl) (h : Hh) : nxO (some σ) h = .ok (.nx σ) h := by unfold nxO; rfl
def nxH (σ : Sl) (o : Option Hh) : R Fl := match o with
  | some h => .ok (.nx σ) h
  | none => .bad
@[simp] theorem nxH_some (σ : Sl) (h : Hh) : nxH σ (some h) = .ok (.nx σ) h := by unfold nxH; rfl
def ixK (r : R D) (eo ei : Sl → Hh → R D) (σ : Sl) : R Fl := r.bind fun d h => (eo σ h).bind fun o h => (ei σ h).bind fun i h => nxH σ (setD h o i d)
@[simp] theorem ixK_ok (d : D) (h : Hh) (eo ei : Sl → Hh → R D) (σ : Sl) : ixK (.ok d h) eo ei σ = bindE (eo σ h) ei σ fun o i h => nxH σ (setD h o i d) := by unfold ixK bindE; rfl
def parR (is : List Nat) (σ : Sl) (xs : List D) (h : Hh) : R Fl := if xs.length = is.length then .ok (.nx ((is.zip xs).foldl (fun σ p => σ.set p.1 (some p.2)) σ)) h else .bad
def augR (σ : Sl) (i : Nat) (op : Op) (x y : D) (h : Hh) : R Fl := match x, y with
      | .int _, .int _ => (R.of (binD h op x y) h).bind fun z h => .ok (.nx (σ.set i (some z))) h
      | _, _ => .bad
@[simp] theorem augR_int (σ : Sl) (i : Nat) (op : Op) (a b : Int) (h : Hh) : augR σ i op (.int a) (.int b) h = bind1 (R.of (binD h op (.int a) (.int b)) h) fun z h => .ok (.nx (σ.set i (some z))) h := by unfold augR bind1; rfl
def augK (o : Option (Option D)) (e : Sl → Hh → R D) (σ : Sl) (i : Nat) (op : Op) (h : Hh) : R Fl := match o with
  | some (some x) => (e σ h).bind fun y h => augR σ i op x y h
  | _ => .bad
@[simp] theorem augK_ok (x : D) (e : Sl → Hh → R D) (σ : Sl) (i : Nat) (op : Op) (h : Hh) : augK (some (some x)) e σ i op h = bind1 (e σ h) fun y h => augR σ i op x y h := by unfold augK bind1; rfl
@[simp] theorem es_var {i : Nat} {e : ME} : evalS C (.asg (.var i) e) σ h = bind1 (evalE C e σ h) fun x h => .ok (.nx (σ.set i (some x))) h := by rw [evalS]; unfold bind1; rfl
@[simp] theorem es_ix {o i e : ME} : evalS C (.asg (.ix o i) e) σ h = ixK (evalE C e σ h) (evalE C o) (evalE C i) σ := by
  rw [evalS]
  unfold ixK setT
  simp only [R.bind_assoc]
  congr 1
  funext d h1
  congr 1
  funext ov h2
  congr 1
  funext iv h3
  unfold nxH
  cases setD h3 ov iv d <;> rfl
@[simp] theorem es_unp {is : List Nat} {e : ME} : evalS C (.unp is e) σ h = bind1 (evalE C e σ h) fun x h => nxO (bindTg (.vars is) x σ h) h := by rw [evalS]; unfold bind1 nxO; rfl
@[simp] theorem es_par {is : List Nat} {es : MEs} : evalS C (.par is es) σ h = bind1 (evalEs C es σ h) fun xs h => parR is σ xs h := by rw [evalS]; unfold bind1 parR; rfl
@[simp] theorem es_aug {i : Nat} {op : Op} {e : ME} : evalS C (.aug i op e) σ h = augK σ[i]? (evalE C e) σ i op h := by rw [evalS]; unfold augK augR; rfl
@[simp] theorem es_expr {e : ME} : evalS C (.expr e) σ h = bind1 (evalE C e σ h) fun _ h => .ok (.nx σ) h := by rw [evalS]; unfold bind1; rfl
@[simp] theorem es_ite {c : ME} {a b : MSs} : evalS C (.ite c a b) σ h = truK (evalE C c σ h) (evalSs C a) (evalSs C b) σ := by rw [evalS]; unfold truK; rfl
@[simp] theorem es_for {t : Tg} {it : MI} {b : MSs} : evalS C (.for_ t it b) σ h = forK (evalI C it σ h) t (evalSs C b) σ := by rw [evalS]; unfold forK; rfl
@[simp] theorem es_while {c : ME} {b : MSs} : evalS C (.while_ c b) σ h = whileL (evalC C (.some c)) (evalSs C b) fuel σ h := by
  rw [evalS]
  congr 1
@[simp] theorem es_ret {e : ME} : evalS C (.ret e) σ h = bind1 (evalE C e σ h) fun x h => .ok (.rt x) h := by rw [evalS]; unfold bind1; rfl
@[simp] theorem es_retN : evalS C .retN σ h = .ok (.rt .non) h := by rw [evalS]
@[simp] theorem es_pass : evalS C .pass σ h = .ok (.nx σ) h := by rw [evalS]
@[simp] theorem es_brk : evalS C .brk σ h = .ok (.bk σ) h := by rw [evalS]
@[simp] theorem es_cont : evalS C .cont σ h = .ok (.ct σ) h := by rw [evalS]
@[simp] theorem es_raise0 {c : String} : evalS C (.raise0 c) σ h = .exc c [] h := by rw [evalS]
@[simp] theorem es_raise1 {c : String} {e : ME} : evalS C (.raise1 c e) σ h = bind1 (evalE C e σ h) fun x h => .exc c [x] h := by rw [evalS]; unfold bind1; rfl
/-- how a try goes on -/
def tryK (r : R Fl) (o : Option (String × List D × Hh)) (σ : Sl) (hs : List MH) : R Fl := match r with
  | .ok f h => .ok f h
  | .exc _ _ _ => (match o with
    | some (c, fs, h) => handleX c fs σ h hs
    | none => .bad)
  | .bad => .bad
@[simp] theorem tryK_ok (f : Fl) (h : Hh) (o : Option (String × List D × Hh)) (σ : Sl) (hs : List MH) : tryK (.ok f h) o σ hs = .ok f h := rfl
@[simp] theorem tryK_exc (c c' : String) (fs fs' : List D) (h h' : Hh) (σ : Sl) (hs : List MH) : tryK (.exc c fs h) (some (c', fs', h')) σ hs = handleX c' fs' σ h' hs := rfl
@[simp] theorem es_try {b : MS} {hs : List MH} : evalS C (.try_ b hs) σ h = tryK (evalS C b σ h) (excS C b σ h) σ hs := by rw [evalS]; unfold tryK; rfl
@[simp] theorem body_exc (c : String) (fs : List D) (h : Hh) : bodyOf (.exc c fs h) = .exc c fs h := rfl
@[simp] theorem es_nil : evalSs C .nil σ h = .ok (.nx σ) h := by rw [evalSs]
@[simp] theorem es_cons {s : MS} {ss : MSs} : evalSs C (.cons s ss) σ h = seqS (evalS C s σ h) (evalSs C ss) := by rw [evalSs]; unfold seqS; rfl
@[simp] theorem body_rt (d : D) (h : Hh) : bodyOf (.ok (.rt d) h) = .ok d h := by unfold bodyOf; rfl
@[simp] theorem body_nx (σ : Sl) (h : Hh) : bodyOf (.ok (.nx σ) h) = .ok .non h := by unfold bodyOf; rfl
end
/-- a comprehension over known items, nothing changes -/
theorem compL_gen {α : Type} (g : α → D) (p : α → Bool) (f : α → D) {t : Tg} {own : List Nat} {c : Sl → Hh → R Bool} {e : Sl → Hh → R D} {σ : Sl} {h : Hh} : ∀ (xs : List α),
    (∀ x ∈ xs, ∃ σ', bindTg t (g x) (wipe σ own) h = some σ' ∧ c σ' h = .ok (p x) h ∧ (p x = true → e σ' h = .ok (f x) h)) →
    compL t own [] c e (xs.map fun x => .v (g x)) σ h = .ok ((xs.filter p).map f) h
  | [], _ => rfl
  | x :: xs, hx => by
    obtain ⟨σ', h1, h2, h3⟩ := hx x List.mem_cons_self
    have ih := compL_gen g p f xs fun y hy => hx y (List.mem_cons_of_mem _ hy)
    rw [List.map_cons]
    unfold compL
    rw [It1.get_v]
    dsimp only
    rw [h1]
    dsimp only
    rw [h2, R.bind_ok]
    cases hp : p x with
    | false =>
      rw [if_neg Bool.false_ne_true, ih, List.filter_cons_of_neg (by simp [hp])]
    | true =>
      rw [if_pos rfl, h3 hp, R.bind_ok, ih, R.bind_ok, List.filter_cons_of_pos hp]
      rfl
/-- .. each item with an end of its own -/
theorem compL_st {α : Type} (g : α → D) (I : Nat → Hh → Prop) (Y : Nat → D → Prop) {t : Tg} {own : List Nat} {c : Sl → Hh → R Bool} {e : Sl → Hh → R D} {σ : Sl} : ∀ (xs : List α) (i : Nat) (h : Hh), I i h →
    (∀ (j : Nat) (x : α) (h : Hh), xs[j]? = some x → I (i + j) h → ∃ σ', bindTg t (g x) (wipe σ own) h = some σ' ∧ c σ' h = .ok true h ∧ ∃ y h2, e σ' h = .ok y h2 ∧ I (i + j + 1) h2 ∧ Y (i + j) y) →
    ∃ ys h2, compL t own [] c e (xs.map fun x => .v (g x)) σ h = .ok ys h2 ∧ I (i + xs.length) h2 ∧ ys.length = xs.length ∧ ∀ j y, ys[j]? = some y → Y (i + j) y
  | [], i, h, hI, _ => ⟨[], h, rfl, hI, rfl, fun j y hy => by simp at hy⟩
  | x :: xs, i, h, hI, hs => by
    obtain ⟨σ', h1, h2, y, hh, h3, h4, h5⟩ := hs 0 x h rfl hI
    obtain ⟨ys, hk, q1, q2, q3, q4⟩ := compL_st g I Y xs (i + 1) hh (by simpa using h4) fun j z h' hz hj => by
      have := hs (j + 1) z h' (by simpa using hz) (by rw [show i + (j + 1) = i + 1 + j by omega]; exact hj)
      rw [show i + (j + 1) = i + 1 + j by omega] at this
      exact this
    refine ⟨y :: ys, hk, ?_, by rw [List.length_cons, show i + (xs.length + 1) = i + 1 + xs.length by omega]; exact q2, by simp [q3], fun j z hz => ?_⟩
    · rw [List.map_cons]
      unfold compL
      rw [It1.get_v]
      dsimp only
      rw [h1]
      dsimp only
      rw [h2, R.bind_ok, if_pos rfl, h3, R.bind_ok, q1, R.bind_ok]
    · cases j with
      | zero =>
        have e1 : y = z := Option.some.inj hz
        subst e1
        simpa using h5
      | succ j =>
        have := q4 j z (by simpa using hz)
        rw [show i + (j + 1) = i + 1 + j by omega]
        exact this
/-- a for loop by an invariant, no way out but the end -/
theorem forL_inv {α : Type} (g : α → D) (I : Nat → Sl → Hh → Prop) {t : Tg} {body : Sl → Hh → R Fl} : ∀ (xs : List α) (i : Nat) (σ : Sl) (h : Hh), I i σ h →
    (∀ (j : Nat) (x : α) (σ : Sl) (h : Hh), xs[j]? = some x → I (i + j) σ h → ∃ σ1, bindTg t (g x) σ h = some σ1 ∧ ∃ σ2 h2, (body σ1 h = .ok (.nx σ2) h2 ∨ body σ1 h = .ok (.ct σ2) h2) ∧ I (i + j + 1) σ2 h2) →
    ∃ σ2 h2, forL t [] body (xs.map fun x => .v (g x)) σ h = .ok (.nx σ2) h2 ∧ I (i + xs.length) σ2 h2
  | [], i, σ, h, hI, _ => ⟨σ, h, rfl, hI⟩
  | x :: xs, i, σ, h, hI, hs => by
    obtain ⟨σ1, h1, σ2, h2, hb, h3⟩ := hs 0 x σ h rfl hI
    obtain ⟨σ3, h4, q1, q2⟩ := forL_inv g I xs (i + 1) σ2 h2 (by simpa using h3) fun j z σ' h' hz hj => by
      have := hs (j + 1) z σ' h' (by simpa using hz) (by rw [show i + (j + 1) = i + 1 + j by omega]; exact hj)
      rw [show i + (j + 1) = i + 1 + j by omega] at this
      exact this
    refine ⟨σ3, h4, ?_, by rw [List.length_cons, show i + (xs.length + 1) = i + 1 + xs.length by omega]; exact q2⟩
    rw [List.map_cons]
    unfold forL
    rw [It1.get_v]
    dsimp only
    rw [h1]
    dsimp only
    rcases hb with hb | hb <;> (rw [hb, R.bind_ok]; exact q1)
theorem sameC_refl' (c : Cell) : sameC c c = true := sameC_refl c
theorem zip_self_all {f : Cell × Cell → Bool} (hf : ∀ c, f (c, c) = true) : ∀ l : Hh, (l.zip l).all f = true
  | [] => rfl
  | c :: l => by simp [hf c, zip_self_all hf l]
theorem trimOk_refl (h : Hh) : trimOk h h = true := by
  simp only [trimOk, Nat.le_refl, decide_true, Bool.true_and]
  exact zip_self_all (fun c => by simp [sameC_refl c]) h
theorem zip_app_all {f : Cell × Cell → Bool} (hf : ∀ c, f (c, c) = true) : ∀ (l m : Hh), (l.zip (l ++ m)).all f = true
  | [], _ => by simp
  | c :: l, m => by simp [hf c, zip_app_all hf l m]
/-- below, of ints -/
theorem belowL_ints (n : Nat) : ∀ ns : List Int, belowL n (ns.map D.int) = true
  | [] => rfl
  | _ :: ns => by simp [belowL, below, belowL_ints n ns]

theorem lend_free (h : Hh) : ∀ (n : Nat) (d : D), noRef d = true → lend h n d = some d
  | 0, d, e => by unfold lend; rw [if_pos e]
  | n + 1, d, e => by unfold lend; rw [if_pos e]
theorem snap_free (lo : Nat) (h : Hh) : ∀ (n : Nat) (d : D), pureD d = true → snap lo h n d = some d
  | 0, d, e => by unfold snap; rw [if_pos e]
  | n + 1, d, e => by unfold snap; rw [if_pos e]
theorem view_free (h : Hh) : ∀ (n : Nat) (d : D), pureD d = true → view h n d = some d
  | 0, d, e => by unfold view; rw [if_pos e]
  | n + 1, d, e => by unfold view; rw [if_pos e]
theorem lendArgs (h : Hh) (n : Nat) : ∀ xs : List D, noRefL xs = true → optAll (lend h n) xs = some xs
  | [], _ => rfl
  | x :: xs, e => by
    simp only [noRefL, Bool.and_eq_true] at e
    unfold optAll
    rw [lend_free h n x e.1]
    dsimp only
    rw [lendArgs h n xs e.2]
theorem call_pure {Γ : Prog} {f : String} {fn : Fn} {k : Nat} {args : List D} {h h' : Hh} {d : D} (hf : Γ f = some fn) (hm : fn.mode = .pure) (hp : args.length = fn.params) (ha : noRefL args = true)
    (ev : bodyOf (evalSs (callN Γ k) fn.body (startOf fn args) []) = .ok d h') (hd : pureD d = true) : callN Γ (k + 1) f args h = .ok d h := by
  unfold callN
  rw [hf]
  dsimp only
  rw [if_pos hp, hm]
  dsimp only
  rw [lendArgs h 8 args ha]
  dsimp only
  rw [ev]
  dsimp only
  rw [snap_free 0 h' 8 d hd]
  rfl
/-- .. with cells lent -/
theorem call_pureR {Γ : Prog} {f : String} {fn : Fn} {k : Nat} {args args' : List D} {h h' : Hh} {d d' : D} (hf : Γ f = some fn) (hm : fn.mode = .pure) (hp : args.length = fn.params) (ha : optAll (lend h 8) args = some args')
    (ev : bodyOf (evalSs (callN Γ k) fn.body (startOf fn args') []) = .ok d h') (hd : snap 0 h' 8 d = some d') : callN Γ (k + 1) f args h = .ok d' h := by
  unfold callN
  rw [hf]
  dsimp only
  rw [if_pos hp, hm]
  dsimp only
  rw [ha]
  dsimp only
  rw [ev]
  dsimp only
  rw [hd]
  rfl
theorem call_drop {Γ : Prog} {f : String} {fn : Fn} {k : Nat} {args : List D} {h h' : Hh} {d : D} (hf : Γ f = some fn) (hm : fn.mode = .drop) (hp : args.length = fn.params)
    (ev : bodyOf (evalSs (callN Γ k) fn.body (startOf fn args) h) = .ok d h') (ht : trimOk h h' = true) (hd : below h.length d = true) : callN Γ (k + 1) f args h = .ok d (h'.take h.length) := by
  unfold callN
  rw [hf]
  dsimp only
  rw [if_pos hp, hm]
  dsimp only
  rw [ev]
  dsimp only
  rw [if_pos ht, if_pos hd]
theorem call_keep {Γ : Prog} {f : String} {fn : Fn} {k : Nat} {args : List D} {h h' : Hh} {d : D} (hf : Γ f = some fn) (hm : fn.mode = .keep) (hp : args.length = fn.params)
    (ev : bodyOf (evalSs (callN Γ k) fn.body (startOf fn args) h) = .ok d h') (ht : keepOk h h' = true) (hd : below h'.length d = true) : callN Γ (k + 1) f args h = .ok d h' := by
  unfold callN
  rw [hf]
  dsimp only
  rw [if_pos hp, hm]
  dsimp only
  rw [ev]
  dsimp only
  rw [ht, hd]
  rfl
theorem noRefL_ints : ∀ ns : List Int, noRefL (ns.map D.int) = true
  | [] => rfl
  | _ :: ns => by simp [noRefL, noRef, noRefL_ints ns]
theorem pureL_ints : ∀ ns : List Int, pureL (ns.map D.int) = true
  | [] => rfl
  | _ :: ns => by simp [pureL, pureD, pureL_ints ns]
theorem noRefL_map {α : Type} (f : α → D) (hf : ∀ x, noRef (f x) = true) : ∀ xs : List α, noRefL (xs.map f) = true
  | [] => rfl
  | x :: xs => by simp [noRefL, hf x, noRefL_map f hf xs]
theorem pureL_map {α : Type} (f : α → D) (hf : ∀ x, pureD (f x) = true) : ∀ xs : List α, pureL (xs.map f) = true
  | [] => rfl
  | x :: xs => by simp [pureL, hf x, pureL_map f hf xs]
theorem dataL_map {α : Type} (f : α → D) (hf : ∀ x, dataD (f x) = true) : ∀ xs : List α, dataL (xs.map f) = true
  | [] => rfl
  | x :: xs => by simp [dataL, hf x, dataL_map f hf xs]
theorem depL_map {α : Type} (f : α → D) (n : Nat) (hf : ∀ x, depD (f x) ≤ n) : ∀ xs : List α, depL (xs.map f) ≤ n
  | [] => Nat.zero_le _
  | x :: xs => by
    have := hf x
    have := depL_map f n hf xs
    simp only [List.map_cons, depL]
    omega
@[simp] theorem atI_nat {α : Type} (xs : List α) (i : Nat) : atI xs ((i : Nat) : Int) = xs[i]? := by
  unfold atI ixN
  rw [if_pos (Int.natCast_nonneg i)]
  by_cases h : i < xs.length
  · rw [if_pos (by omega)]
    rfl
  · rw [if_neg (by omega), List.getElem?_eq_none (by omega)]
mutual
theorem eqv_refl : ∀ d : D, dataD d = true → eqv d d = true
  | .non, _ => rfl
  | .bl b, _ => by simp [eqv]
  | .int i, _ => by simp [eqv]
  | .str s, _ => by simp [eqv]
  | .tup xs, h => by simp only [eqv]; exact eqvL_refl xs (by simpa [dataD] using h)
  | .lst xs, h => by simp only [eqv]; exact eqvL_refl xs (by simpa [dataD] using h)
  | .ref _, h => by simp [dataD] at h
  | .scr _, h => by simp [dataD] at h
  | .dct _, h => by simp [dataD] at h
  | .rep _, h => by simp [dataD] at h
theorem eqvL_refl : ∀ ds : List D, dataL ds = true → eqvL ds ds = true
  | [], _ => rfl
  | x :: xs, h => by
    simp only [dataL, Bool.and_eq_true] at h
    simp only [eqvL, Bool.and_eq_true]
    exact ⟨eqv_refl x h.1, eqvL_refl xs h.2⟩
end
theorem blsOf_map {α : Type} (f : α → Bool) : ∀ xs : List α, blsOf (xs.map fun x => D.bl (f x)) = some (xs.map f)
  | [] => rfl
  | x :: xs => by
    have ih := blsOf_map f xs
    unfold blsOf at ih ⊢
    rw [List.map_cons]
    unfold optAll
    dsimp only
    rw [ih]
    rfl
theorem intsOf_map : ∀ ns : List Int, intsOf (ns.map D.int) = some ns
  | [] => rfl
  | n :: ns => by
    have ih := intsOf_map ns
    unfold intsOf at ih ⊢
    rw [List.map_cons]
    unfold optAll
    dsimp only
    rw [ih]
theorem strsOf_map : ∀ ns : List (List Char), strsOf (ns.map D.str) = some ns
  | [] => rfl
  | n :: ns => by
    have ih := strsOf_map ns
    unfold strsOf at ih ⊢
    rw [List.map_cons]
    unfold optAll
    dsimp only
    rw [ih]


theorem compL_of {α : Type} (g : α → D) (p : α → Bool) (f : α → D) (xs : List α) {its : List It1} (hits : its = xs.map fun x => .v (g x)) {t : Tg} {own : List Nat} {c : Sl → Hh → R Bool} {e : Sl → Hh → R D} {σ : Sl} {h : Hh}
    (hx : ∀ x ∈ xs, ∃ σ', bindTg t (g x) (wipe σ own) h = some σ' ∧ c σ' h = .ok (p x) h ∧ (p x = true → e σ' h = .ok (f x) h)) : compL t own [] c e its σ h = .ok ((xs.filter p).map f) h := by
  subst hits
  exact compL_gen g p f xs hx
theorem compL_st_of {α : Type} (g : α → D) (I : Nat → Hh → Prop) (Y : Nat → D → Prop) (xs : List α) {its : List It1} (hits : its = xs.map fun x => .v (g x)) {t : Tg} {own : List Nat} {c : Sl → Hh → R Bool} {e : Sl → Hh → R D} {σ : Sl} {h : Hh} (hI : I 0 h)
    (hs : ∀ (j : Nat) (x : α) (h : Hh), xs[j]? = some x → I j h → ∃ σ', bindTg t (g x) (wipe σ own) h = some σ' ∧ c σ' h = .ok true h ∧ ∃ y h2, e σ' h = .ok y h2 ∧ I (j + 1) h2 ∧ Y j y) :
    ∃ ys h2, compL t own [] c e its σ h = .ok ys h2 ∧ I xs.length h2 ∧ ys.length = xs.length ∧ ∀ j y, ys[j]? = some y → Y j y := by
  subst hits
  have z := compL_st g I Y (t := t) (own := own) (c := c) (e := e) (σ := σ) xs 0 h hI (fun j x h a b => by simpa using hs j x h a (by simpa using b))
  simpa using z
theorem forL_of {α : Type} (g : α → D) (I : Nat → Sl → Hh → Prop) (xs : List α) {its : List It1} (hits : its = xs.map fun x => .v (g x)) {t : Tg} {body : Sl → Hh → R Fl} {σ : Sl} {h : Hh} (hI : I 0 σ h)
    (hs : ∀ (j : Nat) (x : α) (σ : Sl) (h : Hh), xs[j]? = some x → I j σ h → ∃ σ1, bindTg t (g x) σ h = some σ1 ∧ ∃ σ2 h2, (body σ1 h = .ok (.nx σ2) h2 ∨ body σ1 h = .ok (.ct σ2) h2) ∧ I (j + 1) σ2 h2) :
    ∃ σ2 h2, forL t [] body its σ h = .ok (.nx σ2) h2 ∧ I xs.length σ2 h2 := by
  subst hits
  have z := forL_inv g I (t := t) (body := body) xs 0 σ h hI (fun j x σ h a b => by simpa using hs j x σ h a (by simpa using b))
  simpa using z
theorem itsRange_nat {n : Nat} (h : n ≤ lim) : itsRange 0 (n : Nat) = some ⟨(List.range n).map fun i => .v (.int (i : Nat)), []⟩ := by
  unfold itsRange
  have h2 : n ≤ 1000000 := h
  rw [if_pos ⟨by omega, by omega, by omega, by omega, by omega⟩]
  simp
theorem rgD_nat {n : Nat} (h : n ≤ lim) : rgD (.int 0) (.int (n : Nat)) = some ((List.range n).map fun k => .int (k : Nat)) := by
  unfold rgD
  have h2 : n ≤ 1000000 := h
  dsimp only
  rw [if_pos ⟨by omega, by omega, by omega, by omega, by omega⟩]
  simp

section
variable {h : Hh} {a b : Int} {s t : List Char} {x y : Bool} {xs ys : List D} {d : D}
@[simp] theorem cmp_eq_int : cmpD h .eq (.int a) (.int b) = some (decide (a = b)) := rfl
@[simp] theorem cmp_ne_int : cmpD h .ne (.int a) (.int b) = some (!decide (a = b)) := rfl
@[simp] theorem cmp_eq_str : cmpD h .eq (.str s) (.str t) = some (decide (s = t)) := rfl
@[simp] theorem cmp_ne_str : cmpD h .ne (.str s) (.str t) = some (!decide (s = t)) := rfl
@[simp] theorem cmp_eq_bl : cmpD h .eq (.bl x) (.bl y) = some (decide (x = y)) := rfl
@[simp] theorem cmp_ne_bl : cmpD h .ne (.bl x) (.bl y) = some (!decide (x = y)) := rfl
@[simp] theorem cmp_lt : cmpD h .lt (.int a) (.int b) = some (decide (a < b)) := rfl
@[simp] theorem cmp_le : cmpD h .le (.int a) (.int b) = some (decide (a ≤ b)) := rfl
@[simp] theorem cmp_gt : cmpD h .gt (.int a) (.int b) = some (decide (b < a)) := rfl
@[simp] theorem cmp_ge : cmpD h .ge (.int a) (.int b) = some (decide (b ≤ a)) := rfl
@[simp] theorem cmp_isn : cmpD h .isn d .non = some (isNon d) := rfl
@[simp] theorem cmp_notn : cmpD h .notn d .non = some (!isNon d) := rfl
@[simp] theorem isNon_non : isNon .non = true := rfl
@[simp] theorem isNon_int : isNon (.int a) = false := rfl
@[simp] theorem isNon_bl : isNon (.bl x) = false := rfl
@[simp] theorem isNon_str : isNon (.str s) = false := rfl
@[simp] theorem isNon_tup : isNon (.tup xs) = false := rfl
@[simp] theorem isNon_lst : isNon (.lst xs) = false := rfl
@[simp] theorem truthy_non : truthy h .non = some false := rfl
@[simp] theorem truthy_bl : truthy h (.bl x) = some x := rfl
@[simp] theorem truthy_int : truthy h (.int a) = some (a != 0) := rfl
@[simp] theorem truthy_tup : truthy h (.tup xs) = some (!xs.isEmpty) := rfl
@[simp] theorem truthy_lst : truthy h (.lst xs) = some (!xs.isEmpty) := rfl
@[simp] theorem bin_add_int : binD h .add (.int a) (.int b) = some (.int (a + b)) := rfl
@[simp] theorem bin_sub_int : binD h .sub (.int a) (.int b) = some (.int (a - b)) := rfl
theorem bin_mod_int (hb : 0 < b) : binD h .mod (.int a) (.int b) = some (.int (a % b)) := if_pos hb
theorem bin_fdiv_int (hb : 0 < b) (hb2 : b < 1073741824) : binD h .fdiv (.int a) (.int b) = some (.int (a / b)) := if_pos ⟨hb, hb2⟩
@[simp] theorem idx_tup : idxD h (.tup xs) (.int a) = atI xs a := rfl
@[simp] theorem idx_lst : idxD h (.lst xs) (.int a) = atI xs a := rfl
@[simp] theorem idx_scr : idxD h (.scr xs) (.int a) = atI xs a := rfl
theorem idx_str (hl : s.length ≤ lim) : idxD h (.str s) (.int a) = (atI s a).map fun c => D.str [c] := if_pos hl
@[simp] theorem len_tup : biD h .len (.tup xs) = some (.int xs.length) := rfl
@[simp] theorem len_lst : biD h .len (.lst xs) = some (.int xs.length) := rfl
@[simp] theorem len_scr : biD h .len (.scr xs) = some (.int xs.length) := rfl
@[simp] theorem tuple_tup : biD h .tuple (.tup xs) = some (.tup xs) := rfl
@[simp] theorem tuple_lst : biD h .tuple (.lst xs) = some (.tup xs) := rfl
@[simp] theorem list_tup : biD h .list (.tup xs) = some (.lst xs) := rfl
@[simp] theorem list_lst : biD h .list (.lst xs) = some (.lst xs) := rfl
@[simp] theorem abs_int : biD h .abs (.int a) = some (.int (if a < 0 then -a else a)) := rfl
@[simp] theorem int_bl : biD h .int (.bl x) = some (.int (if x then 1 else 0)) := rfl
@[simp] theorem int_int : biD h .int (.int a) = some (.int a) := rfl
theorem all_bls {α : Type} (f : α → Bool) (xs : List α) : biD h .all (.lst (xs.map fun x => .bl (f x))) = some (.bl ((xs.map f).all id)) := by
  simp only [biD, rdOf, Option.bind_some, blsOf_map, Option.map_some]
@[simp] theorem seq_tup : itsSeq h (.tup xs) = some ⟨xs.map .v, []⟩ := rfl
@[simp] theorem seq_lst : itsSeq h (.lst xs) = some ⟨xs.map .v, []⟩ := rfl
@[simp] theorem seq_scr : itsSeq h (.scr xs) = some ⟨xs.map .v, []⟩ := rfl
@[simp] theorem zip_tup : zipD h (.tup xs) (.tup ys) = some ⟨zipIts (xs.map .v) (ys.map .v), []⟩ := rfl
@[simp] theorem zip_lst : zipD h (.lst xs) (.lst ys) = some ⟨zipIts (xs.map .v) (ys.map .v), []⟩ := rfl
end

theorem cmpOk_lst {α : Type} {f : α → D} (hf : ∀ x, dataD (f x) = true) {m : Nat} (hm : m ≤ 50) (hd : ∀ x, depD (f x) ≤ m) (xs : List α) : cmpOk (.lst (xs.map f)) = true := by
  have h1 := depL_map f m hd xs
  have h2 := dataL_map f hf xs
  unfold cmpOk
  rw [Bool.and_eq_true]
  refine ⟨by unfold dataD; exact h2, decide_eq_true ?_⟩
  unfold depD
  omega
/-- [..] == [] -/
theorem cmp_nil {α : Type} {f : α → D} {h : Hh} (hp : ∀ x, pureD (f x) = true) (hf : ∀ x, dataD (f x) = true) (hd : ∀ x, depD (f x) ≤ 50) (xs : List α) : cmpD h .eq (.lst (xs.map f)) (.lst []) = some xs.isEmpty := by
  have hv : view h 8 (.lst (xs.map f)) = some (.lst (xs.map f)) := view_free _ _ _ (by unfold pureD; exact pureL_map _ hp xs)
  have hv2 : view h 8 (.lst []) = some (.lst []) := view_free _ _ _ rfl
  have hc := cmpOk_lst hf (Nat.le_refl 50) hd xs
  have hc2 : cmpOk (.lst []) = true := rfl
  unfold cmpD
  dsimp only
  unfold eqD
  dsimp only
  rw [hv, hv2]
  dsimp only
  rw [hc, hc2, Bool.and_self, if_pos rfl]
  cases xs <;> simp [eqv, eqvL]

/-- a comprehension over items of any form -/
theorem compL_it {α : Type} (it : α → It1) (g : α → D) (p : α → Bool) (f : α → D) {t : Tg} {own : List Nat} {c : Sl → Hh → R Bool} {e : Sl → Hh → R D} {σ : Sl} {h : Hh} : ∀ (xs : List α) {its : List It1}, its = xs.map it →
    (∀ x ∈ xs, (it x).get h = some (g x) ∧ ∃ σ', bindTg t (g x) (wipe σ own) h = some σ' ∧ c σ' h = .ok (p x) h ∧ (p x = true → e σ' h = .ok (f x) h)) →
    compL t own [] c e its σ h = .ok ((xs.filter p).map f) h
  | [], _, rfl, _ => rfl
  | x :: xs, _, rfl, hx => by
    obtain ⟨h0, σ', h1, h2, h3⟩ := hx x List.mem_cons_self
    have ih := compL_it it g p f (t := t) (own := own) (c := c) (e := e) (σ := σ) (h := h) xs rfl fun y hy => hx y (List.mem_cons_of_mem _ hy)
    rw [List.map_cons]
    unfold compL
    rw [h0]
    dsimp only
    rw [h1]
    dsimp only
    rw [h2, R.bind_ok]
    cases hp : p x with
    | false => rw [if_neg Bool.false_ne_true, ih, List.filter_cons_of_neg (by simp [hp])]
    | true =>
      rw [if_pos rfl, h3 hp, R.bind_ok, ih, R.bind_ok, List.filter_cons_of_pos hp]
      rfl
theorem zip_same {α : Type} (f g : α → It1) : ∀ xs : List α, zipIts (xs.map f) (xs.map g) = xs.map fun x => .pr (f x) (g x)
  | [] => rfl
  | x :: xs => by
    rw [List.map_cons, List.map_cons, zipIts, zip_same f g xs]
    rfl
@[simp] theorem isi_int {h : Hh} {i : Int} {ts : List Ty} : isiD h (.int i) ts = some (decide (Ty.int ∈ ts)) := rfl
@[simp] theorem isi_str {h : Hh} {i : List Char} {ts : List Ty} : isiD h (.str i) ts = some (decide (Ty.str ∈ ts)) := rfl
@[simp] theorem isi_tup {h : Hh} {i : List D} {ts : List Ty} : isiD h (.tup i) ts = some (decide (Ty.tuple ∈ ts)) := rfl
@[simp] theorem isi_lst {h : Hh} {i : List D} {ts : List Ty} : isiD h (.lst i) ts = some (decide (Ty.list ∈ ts)) := rfl
@[simp] theorem isi_non {h : Hh} {ts : List Ty} : isiD h .non ts = some false := rfl
@[simp] theorem isi_bl {h : Hh} {b : Bool} {ts : List Ty} : isiD h (.bl b) ts = some (decide (Ty.bool ∈ ts) || decide (Ty.int ∈ ts)) := rfl
/-- ints, texts, None, truth values, nested n deep in tuples and lists -/
def smp : Nat → D → Bool
  | _, .int _ => true
  | _, .str _ => true
  | _, .non => true
  | _, .bl _ => true
  | n + 1, .tup xs => xs.all (smp n)
  | n + 1, .lst xs => xs.all (smp n)
  | _, _ => false
theorem smp_free : ∀ (n : Nat) (d : D), smp n d = true → noRef d = true ∧ pureD d = true ∧ dataD d = true := by
  have go : ∀ (n : Nat) (xs : List D), (∀ d, smp n d = true → noRef d = true ∧ pureD d = true ∧ dataD d = true) → xs.all (smp n) = true → noRefL xs = true ∧ pureL xs = true ∧ dataL xs = true := by
    intro n xs ih
    induction xs with
    | nil => intro _; exact ⟨rfl, rfl, rfl⟩
    | cons x xs ihx =>
      intro h
      rw [List.all_cons, Bool.and_eq_true] at h
      obtain ⟨a1, a2, a3⟩ := ih x h.1
      obtain ⟨b1, b2, b3⟩ := ihx h.2
      exact ⟨by simp [noRefL, a1, b1], by simp [pureL, a2, b2], by simp [dataL, a3, b3]⟩
  intro n
  induction n with
  | zero => intro d h; cases d <;> first | exact ⟨rfl, rfl, rfl⟩ | cases h
  | succ n ih =>
    intro d h
    cases d with
    | tup xs =>
      have h' : xs.all (smp n) = true := h
      obtain ⟨a1, a2, a3⟩ := go n xs ih h'
      exact ⟨by simp [noRef, a1], by simp [pureD, a2], by simp [dataD, a3]⟩
    | lst xs =>
      have h' : xs.all (smp n) = true := h
      obtain ⟨a1, a2, a3⟩ := go n xs ih h'
      exact ⟨by simp [noRef, a1], by simp [pureD, a2], by simp [dataD, a3]⟩
    | int i => exact ⟨rfl, rfl, rfl⟩
    | str i => exact ⟨rfl, rfl, rfl⟩
    | non => exact ⟨rfl, rfl, rfl⟩
    | bl i => exact ⟨rfl, rfl, rfl⟩
    | _ => cases h

theorem bin_mul_l {h : Hh} {a b : Int} (h1 : -(2 ^ 64) < a) (h2 : a < 2 ^ 64) : binD h .mul (.int a) (.int b) = some (.int (a * b)) := by
  show (if CMul a b then some (D.int (a * b)) else none) = _
  rw [if_pos]
  unfold CMul
  rw [Bool.or_eq_true]
  exact .inl (decide_eq_true ⟨h1, h2⟩)
theorem bin_mul_r {h : Hh} {a b : Int} (h1 : -(2 ^ 64) < b) (h2 : b < 2 ^ 64) : binD h .mul (.int a) (.int b) = some (.int (a * b)) := by
  show (if CMul a b then some (D.int (a * b)) else none) = _
  rw [if_pos]
  unfold CMul
  rw [Bool.or_eq_true]
  exact .inr (decide_eq_true ⟨h1, h2⟩)
theorem bin_pow_int {h : Hh} {a : Int} (n : Nat) (hn : n ≤ 1000) (h1 : a.natAbs < 2 ^ 64) : binD h .pow (.int a) (.int (n : Nat)) = some (.int (a ^ n)) := by
  show (if 0 ≤ ((n : Nat) : Int) ∧ ((n : Nat) : Int) ≤ 1000 ∧ a.natAbs < 2 ^ 64 then some (D.int (a ^ ((n : Nat) : Int).toNat)) else none) = _
  rw [if_pos ⟨by omega, by omega, h1⟩, Int.toNat_natCast]
theorem bin_pow3 {h : Hh} {a : Int} (h1 : a.natAbs < 2 ^ 64) : binD h .pow (.int a) (.int 3) = some (.int (a ^ 3)) := bin_pow_int 3 (by omega) h1

theorem bin_pow18 {h : Hh} {a : Int} (h1 : a.natAbs < 2 ^ 64) : binD h .pow (.int a) (.int 18) = some (.int (a ^ 18)) := bin_pow_int 18 (by omega) h1
theorem cut_to {α : Type} (xs : List α) (m : Nat) : cut xs none (some ((m : Nat) : Int)) = xs.take m := by
  have e0 : sIx xs.length 0 none = 0 := rfl
  have e1 : sIx xs.length xs.length (some ((m : Nat) : Int)) = min m xs.length := by
    unfold sIx
    dsimp only
    rw [if_neg (by omega), Int.toNat_natCast]
  unfold cut
  rw [e0, e1, List.drop_zero, Nat.sub_zero]
  by_cases h : m ≤ xs.length
  · rw [Nat.min_eq_left h]
  · rw [Nat.min_eq_right (by omega), List.take_length, List.take_of_length_le (by omega)]
@[simp] theorem slice_scr {h : Hh} {xs : List D} {lo hi : Option Int} : sliceD h (.scr xs) lo hi = some (.lst (cut xs lo hi)) := by cases lo <;> rfl
theorem add_lsts {h : Hh} {xs ys : List D} (hl : xs.length + ys.length ≤ lim) : binD h .add (.lst xs) (.lst ys) = some (.lst (xs ++ ys)) := if_pos hl
theorem mul_lst {h : Hh} {xs : List D} {k : Int} (h1 : xs.length ≤ 1000) (h2 : -1000 ≤ k) (h3 : k ≤ 1000) : binD h .mul (.lst xs) (.int k) = some (.lst (repL k.toNat xs)) := if_pos ⟨h1, h2, h3⟩

section
variable {h : Hh} {n : Nat} {xs : List D}
theorem lst_cell (e : h[n]? = some (.lst xs)) : lstOf h (.ref n) = some xs := by simp [lstOf, e]
theorem len_cell (e : h[n]? = some (.lst xs)) : biD h .len (.ref n) = some (.int xs.length) := by simp [biD, e]
theorem idx_cell (e : h[n]? = some (.lst xs)) (i : Int) : idxD h (.ref n) (.int i) = atI xs i := by simp [idxD, e]
theorem ixN_nat {m p : Nat} (hp : p < m) : ixN m ((p : Nat) : Int) = some p := by
  unfold ixN
  rw [if_pos (Int.natCast_nonneg p), if_pos (by omega)]
  rfl
theorem set_cell (e : h[n]? = some (.lst xs)) {p : Nat} (hp : p < xs.length) (d : D) : setD h (.ref n) (.int (p : Nat)) d = some (h.set n (.lst (xs.set p d))) := by
  simp [setD, e, ixN_nat hp]
theorem pop_cell (e : h[n]? = some (.lst xs)) {p : Nat} {d : D} (hd : xs[p]? = some d) : mutD h .pop (.ref n) [.int (p : Nat)] = .ok d (h.set n (.lst (xs.eraseIdx p))) := by
  obtain ⟨hp, _⟩ := List.getElem?_eq_some_iff.mp hd
  simp [mutD, e, ixN_nat hp, hd]
theorem append_cell (e : h[n]? = some (.lst xs)) (hl : xs.length < lim) (d : D) : mutD h .append (.ref n) [d] = .ok .non (h.set n (.lst (xs ++ [d]))) := by
  simp [mutD, e, hl]
end

theorem itsRange_nn {a b : Nat} (hb : b ≤ 1000000) (ha : a ≤ 1000000) : itsRange ((a : Nat) : Int) ((b : Nat) : Int) = some ⟨(List.range (b - a)).map fun t => .v (.int ((a + t : Nat) : Int)), []⟩ := by
  unfold itsRange
  have e : (((b : Nat) : Int) - ((a : Nat) : Int)).toNat = b - a := by omega
  have hl : b - a ≤ lim := by
    show b - a ≤ 1000000
    omega
  rw [e, if_pos ⟨by omega, by omega, by omega, by omega, hl⟩]
  rfl

theorem joinC_ones : ∀ r : List Char, joinC [] (r.map fun ch => [ch]) = r
  | [] => rfl
  | [x] => rfl
  | x :: y :: r => by
    have ih := joinC_ones (y :: r)
    simp only [List.map_cons] at ih ⊢
    rw [joinC, ih]
    rfl
theorem sum_ones : ∀ r : List Char, ((r.map fun ch => [ch]).map List.length).sum = r.length
  | [] => rfl
  | x :: r => by
    have ih := sum_ones r
    simp only [List.map_cons, List.sum_cons, List.length_cons, List.length_nil] at ih ⊢
    omega
/-- "".join of a cell of single signs -/
theorem join_cell {h : Hh} {n : Nat} {r : List Char} (e : h[n]? = some (.lst (r.map fun ch => D.str [ch]))) (hl : r.length ≤ lim) : methD h .join (.str []) [.ref n] = some (.str r) := by
  have e1 : rdOf h (.ref n) = some (r.map fun ch => D.str [ch]) := by simp [rdOf, e]
  have e2 : strsOf (r.map fun ch => D.str [ch]) = some (r.map fun ch => [ch]) := by
    have := strsOf_map (r.map fun ch => [ch])
    rw [List.map_map] at this
    exact this
  unfold methD
  dsimp only
  rw [e1, Option.bind_some, e2, Option.bind_some, sum_ones, if_pos (by simpa using hl), joinC_ones]
theorem repL_one {α : Type} (n : Nat) (x : α) : repL n [x] = List.replicate n x := by
  unfold repL
  induction n with
  | zero => rfl
  | succ n ih => rw [List.replicate_succ, List.flatten_cons, ih]; rfl
end Mini
end
section
set_option Elab.async false
set_option linter.all false
set_option autoImplicit false
set_option maxRecDepth 100000
/-! MiniR: running by simp: comprehensions and loops whose parts change nothing. -/
namespace Mini

/-! ### parts that change no cell -/
def pureF (Γ : Prog) (f : String) : Bool := match Γ f with
  | some fn => decide (fn.mode = .pure)
  | none => true
mutual
def pureME (Γ : Prog) : ME → Bool
  | .var _ => true
  | .cst _ => true
  | .glb _ _ => true
  | .tup es => pureMEs Γ es
  | .lst es => pureMEs Γ es
  | .new _ => false
  | .newK => false
  | .newT => false
  | .bin _ a b => pureME Γ a && pureME Γ b
  | .neg a => pureME Γ a
  | .cmp _ a b => pureME Γ a && pureME Γ b
  | .chain _ _ a b c => pureME Γ a && (pureME Γ b && pureME Γ c)
  | .and es => pureMEs Γ es
  | .or es => pureMEs Γ es
  | .not a => pureME Γ a
  | .ite c a b => pureME Γ c && (pureME Γ a && pureME Γ b)
  | .idx a i => pureME Γ a && pureME Γ i
  | .slice a lo hi => pureME Γ a && (pureMO Γ lo && pureMO Γ hi)
  | .rev a => pureME Γ a
  | .lc _ _ it c e => pureMI Γ it && (pureMO Γ c && pureME Γ e)
  | .rgl a => pureME Γ a
  | .rgl2 a b => pureME Γ a && pureME Γ b
  | .rgt a => pureME Γ a
  | .rgt2 a b => pureME Γ a && pureME Γ b
  | .isi a _ => pureME Γ a
  | .bi _ a => pureME Γ a
  | .bi2 _ a b => pureME Γ a && pureME Γ b
  | .meth _ o as => pureME Γ o && pureMEs Γ as
  | .mut _ _ _ => false
  | .call f as => pureF Γ f && pureMEs Γ as
  | .bad => true
def pureMEs (Γ : Prog) : MEs → Bool
  | .nil => true
  | .cons e es => pureME Γ e && pureMEs Γ es
def pureMO (Γ : Prog) : MO → Bool
  | .none => true
  | .some e => pureME Γ e
def pureMI (Γ : Prog) : MI → Bool
  | .seq e => pureME Γ e
  | .rng1 a => pureME Γ a
  | .rng2 a b => pureME Γ a && pureME Γ b
  | .enum e => pureME Γ e
  | .zip a b => pureME Γ a && pureME Γ b
  | .rev e => pureME Γ e
  | .revr a => pureME Γ a
end
def Keeps {α : Type} (r : R α) (h : Hh) : Prop := ∀ v h', r = .ok v h' → h' = h
theorem keeps_ok {α : Type} (v : α) (h : Hh) : Keeps (.ok v h) h := fun _ _ e => by cases e; rfl
theorem keeps_bad {α : Type} (h : Hh) : Keeps (.bad : R α) h := fun _ _ e => by cases e
theorem keeps_of {α : Type} (o : Option α) (h : Hh) : Keeps (R.of o h) h := by
  cases o
  · exact keeps_bad h
  · exact keeps_ok _ h
theorem keeps_bind {α β : Type} {r : R α} {h : Hh} {f : α → Hh → R β} (a : Keeps r h) (b : ∀ v, Keeps (f v h) h) : Keeps (r.bind f) h := by
  intro v h' e
  cases r with
  | ok x h1 =>
    have := a x h1 rfl
    subst this
    exact b x v h' e
  | exc c fs h1 => cases e
  | bad => cases e
theorem keeps_call (Γ : Prog) (k : Nat) (f : String) (args : List D) (h : Hh) (hp : pureF Γ f = true) : Keeps (callN Γ k f args h) h := by
  cases k with
  | zero => exact keeps_bad h
  | succ k =>
    unfold callN
    unfold pureF at hp
    cases hf : Γ f with
    | none => exact keeps_bad h
    | some fn =>
      rw [hf] at hp
      have hm : fn.mode = .pure := of_decide_eq_true hp
      dsimp only
      split
      · rw [hm]
        dsimp only
        split
        · split
          · exact keeps_of _ h
          · intro v h' e
            split at e
            · split at e <;> cases e
            · cases e
          · exact keeps_bad h
        · exact keeps_bad h
      · exact keeps_bad h
theorem keeps_comp {t : Tg} {own : List Nat} {live : List (Nat × Nat)} {c : Sl → Hh → R Bool} {e : Sl → Hh → R D} {h : Hh} (hc : ∀ σ, Keeps (c σ h) h) (he : ∀ σ, Keeps (e σ h) h) (σ : Sl) : ∀ its, Keeps (compL t own live c e its σ h) h
  | [] => by
    unfold compL
    split
    · exact keeps_ok _ h
    · exact keeps_bad h
  | x :: xs => by
    have ih := keeps_comp hc he σ (t := t) (own := own) (live := live) xs
    unfold compL
    split
    · split
      · refine keeps_bind (hc _) fun b => ?_
        split
        · exact keeps_bind (he _) fun y => keeps_bind ih fun ys => keeps_ok _ h
        · exact ih
      · exact keeps_bad h
    · exact keeps_bad h
theorem and3 {a b : Bool} (h : (a && b) = true) : a = true ∧ b = true := by simpa using h
section
variable (Γ : Prog) (k : Nat)
mutual
theorem keeps_E : ∀ (e : ME) (σ : Sl) (h : Hh), pureME Γ e = true → Keeps (evalE (callN Γ k) e σ h) h
  | .var i, σ, h, _ => by
    rw [evalE]
    split
    · exact keeps_ok _ h
    · exact keeps_bad h
  | .cst d, σ, h, _ => by rw [evalE]; exact keeps_ok _ h
  | .glb x d, σ, h, _ => by rw [evalE]; exact keeps_ok _ h
  | .tup es, σ, h, p => by rw [evalE]; exact keeps_bind (keeps_Es es σ h p) fun _ => keeps_ok _ h
  | .lst es, σ, h, p => by rw [evalE]; exact keeps_bind (keeps_Es es σ h p) fun _ => keeps_ok _ h
  | .bin op a b, σ, h, p => by
    rw [evalE]
    exact keeps_bind (keeps_E a σ h (and3 p).1) fun _ => keeps_bind (keeps_E b σ h (and3 p).2) fun _ => keeps_of _ h
  | .neg a, σ, h, p => by
    rw [evalE]
    refine keeps_bind (keeps_E a σ h p) fun x => ?_
    split
    · exact keeps_ok _ h
    · exact keeps_bad h
  | .cmp op a b, σ, h, p => by
    rw [evalE]
    exact keeps_bind (keeps_E a σ h (and3 p).1) fun _ => keeps_bind (keeps_E b σ h (and3 p).2) fun _ => keeps_bind (keeps_of _ h) fun _ => keeps_ok _ h
  | .chain op op' a b c, σ, h, p => by
    rw [evalE]
    refine keeps_bind (keeps_E a σ h (and3 p).1) fun _ => keeps_bind (keeps_E b σ h (and3 (and3 p).2).1) fun _ => keeps_bind (keeps_of _ h) fun k => ?_
    split
    · exact keeps_bind (keeps_E c σ h (and3 (and3 p).2).2) fun _ => keeps_bind (keeps_of _ h) fun _ => keeps_ok _ h
    · exact keeps_ok _ h
  | .and es, σ, h, p => by rw [evalE]; exact keeps_And es σ h p
  | .or es, σ, h, p => by rw [evalE]; exact keeps_Or es σ h p
  | .not a, σ, h, p => by
    rw [evalE]
    exact keeps_bind (keeps_bind (keeps_E a σ h p) fun _ => keeps_of _ h) fun _ => keeps_ok _ h
  | .ite c a b, σ, h, p => by
    rw [evalE]
    refine keeps_bind (keeps_bind (keeps_E c σ h (and3 p).1) fun _ => keeps_of _ h) fun k => ?_
    split
    · exact keeps_E a σ h (and3 (and3 p).2).1
    · exact keeps_E b σ h (and3 (and3 p).2).2
  | .idx a i, σ, h, p => by
    rw [evalE]
    exact keeps_bind (keeps_E a σ h (and3 p).1) fun _ => keeps_bind (keeps_E i σ h (and3 p).2) fun _ => keeps_of _ h
  | .slice a lo hi, σ, h, p => by
    rw [evalE]
    exact keeps_bind (keeps_E a σ h (and3 p).1) fun _ => keeps_bind (keeps_O lo σ h (and3 (and3 p).2).1) fun _ => keeps_bind (keeps_O hi σ h (and3 (and3 p).2).2) fun _ => keeps_of _ h
  | .rev a, σ, h, p => by rw [evalE]; exact keeps_bind (keeps_E a σ h p) fun _ => keeps_of _ h
  | .lc own t it c e, σ, h, p => by
    rw [evalE]
    exact keeps_bind (keeps_I it σ h (and3 p).1) fun its => keeps_bind (keeps_comp (fun σ => keeps_C c σ h (and3 (and3 p).2).1) (fun σ => keeps_E e σ h (and3 (and3 p).2).2) σ its.its) fun _ => keeps_ok _ h
  | .rgl a, σ, h, p => by rw [evalE]; exact keeps_bind (keeps_E a σ h p) fun _ => keeps_of _ h
  | .rgl2 a b, σ, h, p => by
    rw [evalE]
    exact keeps_bind (keeps_E a σ h (and3 p).1) fun _ => keeps_bind (keeps_E b σ h (and3 p).2) fun _ => keeps_of _ h
  | .rgt a, σ, h, p => by rw [evalE]; exact keeps_bind (keeps_E a σ h p) fun _ => keeps_of _ h
  | .rgt2 a b, σ, h, p => by
    rw [evalE]
    exact keeps_bind (keeps_E a σ h (and3 p).1) fun _ => keeps_bind (keeps_E b σ h (and3 p).2) fun _ => keeps_of _ h
  | .isi a ts, σ, h, p => by
    rw [evalE]
    exact keeps_bind (keeps_E a σ h p) fun _ => keeps_bind (keeps_of _ h) fun _ => keeps_ok _ h
  | .bi f a, σ, h, p => by rw [evalE]; exact keeps_bind (keeps_E a σ h p) fun _ => keeps_of _ h
  | .bi2 f a b, σ, h, p => by
    rw [evalE]
    exact keeps_bind (keeps_E a σ h (and3 p).1) fun _ => keeps_bind (keeps_E b σ h (and3 p).2) fun _ => keeps_of _ h
  | .meth m o as, σ, h, p => by
    rw [evalE]
    exact keeps_bind (keeps_E o σ h (and3 p).1) fun _ => keeps_bind (keeps_Es as σ h (and3 p).2) fun _ => keeps_of _ h
  | .call f as, σ, h, p => by
    rw [evalE]
    exact keeps_bind (keeps_Es as σ h (and3 p).2) fun xs => keeps_call Γ k f xs h (and3 p).1
  | .bad, σ, h, _ => by rw [evalE]; exact keeps_bad h
theorem keeps_Es : ∀ (es : MEs) (σ : Sl) (h : Hh), pureMEs Γ es = true → Keeps (evalEs (callN Γ k) es σ h) h
  | .nil, σ, h, _ => by rw [evalEs]; exact keeps_ok _ h
  | .cons e es, σ, h, p => by
    rw [evalEs]
    exact keeps_bind (keeps_E e σ h (and3 p).1) fun _ => keeps_bind (keeps_Es es σ h (and3 p).2) fun _ => keeps_ok _ h
theorem keeps_And : ∀ (es : MEs) (σ : Sl) (h : Hh), pureMEs Γ es = true → Keeps (evalAnd (callN Γ k) es σ h) h
  | .nil, σ, h, _ => by rw [evalAnd]; exact keeps_bad h
  | .cons e .nil, σ, h, p => by rw [evalAnd]; exact keeps_E e σ h (and3 p).1
  | .cons e (.cons e' es), σ, h, p => by
    rw [evalAnd]
    refine keeps_bind (keeps_E e σ h (and3 p).1) fun _ => keeps_bind (keeps_of _ h) fun b => ?_
    split
    · exact keeps_And _ σ h (and3 p).2
    · exact keeps_ok _ h
theorem keeps_Or : ∀ (es : MEs) (σ : Sl) (h : Hh), pureMEs Γ es = true → Keeps (evalOr (callN Γ k) es σ h) h
  | .nil, σ, h, _ => by rw [evalOr]; exact keeps_bad h
  | .cons e .nil, σ, h, p => by rw [evalOr]; exact keeps_E e σ h (and3 p).1
  | .cons e (.cons e' es), σ, h, p => by
    rw [evalOr]
    refine keeps_bind (keeps_E e σ h (and3 p).1) fun _ => keeps_bind (keeps_of _ h) fun b => ?_
    split
    · exact keeps_ok _ h
    · exact keeps_Or _ σ h (and3 p).2
theorem keeps_O : ∀ (o : MO) (σ : Sl) (h : Hh), pureMO Γ o = true → Keeps (evalO (callN Γ k) o σ h) h
  | .none, σ, h, _ => by rw [evalO]; exact keeps_ok _ h
  | .some e, σ, h, p => by
    rw [evalO]
    refine keeps_bind (keeps_E e σ h p) fun x => ?_
    split
    · exact keeps_ok _ h
    · exact keeps_bad h
theorem keeps_C : ∀ (o : MO) (σ : Sl) (h : Hh), pureMO Γ o = true → Keeps (evalC (callN Γ k) o σ h) h
  | .none, σ, h, _ => by rw [evalC]; exact keeps_ok _ h
  | .some e, σ, h, p => by
    rw [evalC]
    exact keeps_bind (keeps_E e σ h p) fun _ => keeps_of _ h
theorem keeps_I : ∀ (it : MI) (σ : Sl) (h : Hh), pureMI Γ it = true → Keeps (evalI (callN Γ k) it σ h) h
  | .seq e, σ, h, p => by rw [evalI]; exact keeps_bind (keeps_E e σ h p) fun _ => keeps_of _ h
  | .rng1 a, σ, h, p => by
    rw [evalI]
    refine keeps_bind (keeps_E a σ h p) fun x => ?_
    split
    · exact keeps_of _ h
    · exact keeps_bad h
  | .rng2 a b, σ, h, p => by
    rw [evalI]
    refine keeps_bind (keeps_E a σ h (and3 p).1) fun x => keeps_bind (keeps_E b σ h (and3 p).2) fun y => ?_
    split
    · exact keeps_of _ h
    · exact keeps_bad h
  | .enum e, σ, h, p => by rw [evalI]; exact keeps_bind (keeps_E e σ h p) fun _ => keeps_of _ h
  | .zip a b, σ, h, p => by
    rw [evalI]
    exact keeps_bind (keeps_E a σ h (and3 p).1) fun x => keeps_bind (keeps_E b σ h (and3 p).2) fun y => keeps_of _ h
  | .rev e, σ, h, p => by rw [evalI]; exact keeps_bind (keeps_E e σ h p) fun _ => keeps_of _ h
  | .revr a, σ, h, p => by
    rw [evalI]
    refine keeps_bind (keeps_E a σ h p) fun x => ?_
    split
    · exact keeps_of _ h
    · exact keeps_bad h
end
end
end Mini
end
section
set_option Elab.async false
set_option linter.all false
set_option autoImplicit false
set_option maxRecDepth 100000
/-! MiniX: running by simp. -/
namespace Mini

@[simp] theorem get_zero {α : Type} (a : α) (l : List α) : (a :: l)[0]? = some a := rfl
/-! ### naturals -/
def b01 (x : Bool) : Nat := if x then 1 else 0
def N (n : Nat) : D := .int (n : Int)
theorem N_def (n : Nat) : N n = .int (n : Int) := rfl
theorem int_lit (n : Nat) : D.int (no_index (OfNat.ofNat n : Int)) = N (no_index (OfNat.ofNat n)) := rfl
@[simp high] theorem ev_cstN {C : Oracle} {σ : Sl} {h : Hh} (n : Nat) : evalE C (.cst (.int (no_index (OfNat.ofNat n : Int)))) σ h = .ok (N (no_index (OfNat.ofNat n))) h := by rw [evalE]; rfl
@[simp high] theorem ev_glbN {C : Oracle} {σ : Sl} {h : Hh} {x : String} (n : Nat) : evalE C (.glb x (.int (no_index (OfNat.ofNat n : Int)))) σ h = .ok (N (no_index (OfNat.ofNat n))) h := by rw [evalE]; rfl
@[simp] theorem N_inj {a b : Nat} : N a = N b ↔ a = b := by
  unfold N
  constructor
  · intro h
    injection h with h
    omega
  · intro h; rw [h]
section
variable {h : Hh} {a b : Nat} {i : Int} {s t : List Char} {xs ys : List D} {ts : List Ty} {x y : Bool}
@[simp] theorem cmpN_eq : cmpD h .eq (N a) (N b) = some (decide (a = b)) := by
  show some (decide ((a : Int) = (b : Int))) = _
  congr 1; exact decide_eq_decide.mpr (by omega)
@[simp] theorem cmpN_ne : cmpD h .ne (N a) (N b) = some (!decide (a = b)) := by
  show some (!decide ((a : Int) = (b : Int))) = _
  congr 2; exact decide_eq_decide.mpr (by omega)
@[simp] theorem cmpN_lt : cmpD h .lt (N a) (N b) = some (decide (a < b)) := by
  show some (decide ((a : Int) < (b : Int))) = _
  congr 1; exact decide_eq_decide.mpr (by omega)
@[simp] theorem cmpN_le : cmpD h .le (N a) (N b) = some (decide (a ≤ b)) := by
  show some (decide ((a : Int) ≤ (b : Int))) = _
  congr 1; exact decide_eq_decide.mpr (by omega)
@[simp] theorem cmpN_gt : cmpD h .gt (N a) (N b) = some (decide (b < a)) := by
  show some (decide ((b : Int) < (a : Int))) = _
  congr 1; exact decide_eq_decide.mpr (by omega)
@[simp] theorem cmpN_ge : cmpD h .ge (N a) (N b) = some (decide (b ≤ a)) := by
  show some (decide ((b : Int) ≤ (a : Int))) = _
  congr 1; exact decide_eq_decide.mpr (by omega)
@[simp] theorem cmpIN_eq : cmpD h .eq (.int i) (N b) = some (decide (i = (b : Int))) := rfl
@[simp] theorem cmpIN_ne : cmpD h .ne (.int i) (N b) = some (!decide (i = (b : Int))) := rfl
@[simp] theorem cmpIN_lt : cmpD h .lt (.int i) (N b) = some (decide (i < (b : Int))) := rfl
@[simp] theorem cmpIN_le : cmpD h .le (.int i) (N b) = some (decide (i ≤ (b : Int))) := rfl
@[simp] theorem cmpIN_gt : cmpD h .gt (.int i) (N b) = some (decide ((b : Int) < i)) := rfl
@[simp] theorem cmpIN_ge : cmpD h .ge (.int i) (N b) = some (decide ((b : Int) ≤ i)) := rfl
@[simp] theorem cmpNI_eq : cmpD h .eq (N b) (.int i) = some (decide ((b : Int) = i)) := rfl
@[simp] theorem cmpNI_lt : cmpD h .lt (N b) (.int i) = some (decide ((b : Int) < i)) := rfl
@[simp] theorem cmpNI_le : cmpD h .le (N b) (.int i) = some (decide ((b : Int) ≤ i)) := rfl
@[simp] theorem cmpNI_gt : cmpD h .gt (N b) (.int i) = some (decide (i < (b : Int))) := rfl
@[simp] theorem cmpNI_ge : cmpD h .ge (N b) (.int i) = some (decide (i ≤ (b : Int))) := rfl
@[simp] theorem cmpN_isn : cmpD h .isn (N a) .non = some false := rfl
@[simp] theorem cmpN_notn : cmpD h .notn (N a) .non = some true := rfl
@[simp] theorem cmpB_isn : cmpD h .isn (.bl x) (.bl y) = some (decide (x = y)) := rfl
@[simp] theorem cmpB_notn : cmpD h .notn (.bl x) (.bl y) = some (!decide (x = y)) := rfl
@[simp] theorem isNon_N : isNon (N a) = false := rfl
@[simp] theorem truthy_N : truthy h (N a) = some (a != 0) := by
  show some ((a : Int) != 0) = _
  congr 1
  cases a <;> rfl
@[simp] theorem addN : binD h .add (N a) (N b) = some (N (a + b)) := by
  show some (D.int _) = some (D.int _)
  simp
@[simp] theorem addIN : binD h .add (.int i) (N b) = some (.int (i + b)) := rfl
@[simp] theorem addNI : binD h .add (N b) (.int i) = some (.int (b + i)) := rfl
@[simp] theorem subN (hb : b ≤ a) : binD h .sub (N a) (N b) = some (N (a - b)) := by
  show some (D.int _) = some (D.int _)
  congr 2
  omega
theorem subNI : binD h .sub (N a) (N b) = some (.int ((a : Int) - b)) := rfl
@[simp] theorem mulN (ha : a < 2 ^ 64) : binD h .mul (N a) (N b) = some (N (a * b)) := by
  unfold N
  rw [bin_mul_l (by omega) (by omega)]
  simp
@[simp] theorem mulN' (hb : b < 2 ^ 64) : binD h .mul (N a) (N b) = some (N (a * b)) := by
  unfold N
  rw [bin_mul_r (by omega) (by omega)]
  simp
@[simp] theorem modN (hb : 0 < b) : binD h .mod (N a) (N b) = some (N (a % b)) := by
  unfold N
  rw [bin_mod_int (by omega)]
  simp
@[simp] theorem divN (hb : 0 < b) (hb2 : b < 1073741824) : binD h .fdiv (N a) (N b) = some (N (a / b)) := by
  unfold N
  rw [bin_fdiv_int (by omega) (by omega)]
  simp
@[simp] theorem negN : negR (N a) h = .ok (.int (-(a : Int))) h := rfl
@[simp] theorem partN : partR (N a) h = .ok (some (a : Int)) h := rfl
theorem rngN : rngR h (N a) (N b) = R.of (itsRange (a : Int) (b : Int)) h := rfl
@[simp] theorem isiN : isiD h (N a) ts = some (decide (Ty.int ∈ ts)) := rfl
@[simp] theorem absN : biD h .abs (N a) = some (N a) := by
  show some (D.int (if (a : Int) < 0 then -(a : Int) else a)) = _
  rw [if_neg (by omega)]
  rfl
@[simp] theorem intN : biD h .int (N a) = some (N a) := rfl
@[simp high] theorem int_blN : biD h .int (.bl x) = some (N (b01 x)) := by cases x <;> rfl
@[simp high] theorem idx_b01 {s t : List Char} : idxD h (.lst [.str s, .str t]) (N (b01 x)) = some (.str (if x = true then t else s)) := by cases x <;> rfl
@[simp high] theorem idx_b01' {s t : Char} : idxD h (.str [s, t]) (N (b01 x)) = some (.str [if x = true then t else s]) := by cases x <;> rfl
@[simp high] theorem idx_b01i {s t : Nat} : idxD h (.lst [N s, N t]) (N (b01 x)) = some (N (if x = true then t else s)) := by cases x <;> rfl
@[simp] theorem newN : newR (.ok (N a) h) = .ok (N a) h := rfl
@[simp] theorem new_bl : newR (.ok (.bl x) h) = .ok (.bl x) h := rfl
@[simp] theorem new_non : newR (.ok .non h) = .ok .non h := rfl
@[simp] theorem lenN_tup : biD h .len (.tup xs) = some (N xs.length) := rfl
@[simp] theorem lenN_lst : biD h .len (.lst xs) = some (N xs.length) := rfl
@[simp] theorem lenN_scr : biD h .len (.scr xs) = some (N xs.length) := rfl
@[simp] theorem lenN_str (hl : s.length ≤ 1000000) : biD h .len (.str s) = some (N s.length) := if_pos hl
@[simp] theorem idxN_tup : idxD h (.tup xs) (N a) = xs[a]? := atI_nat xs a
@[simp] theorem idxN_lst : idxD h (.lst xs) (N a) = xs[a]? := atI_nat xs a
@[simp] theorem idxN_scr : idxD h (.scr xs) (N a) = xs[a]? := atI_nat xs a
@[simp] theorem idxN_str (hl : s.length ≤ 1000000) : idxD h (.str s) (N a) = s[a]?.map fun c => .str [c] := by
  show (if s.length ≤ lim then _ else _) = _
  rw [if_pos hl, atI_nat]
@[simp] theorem frN : noRef (N a) = true := rfl
@[simp] theorem puN : pureD (N a) = true := rfl
@[simp] theorem daN : dataD (N a) = true := rfl
@[simp] theorem deN : depD (N a) = 0 := rfl
end
/-- an item, its place known to lie within -/
@[simp] theorem map_at {α : Type} (f : α → D) (xs : List α) {i : Nat} (hi : i < xs.length) : (xs.map f)[i]? = some (f xs[i]) := by
  rw [List.getElem?_map, List.getElem?_eq_getElem hi]; rfl
@[simp] theorem range_at {β : Type} (f : Nat → β) {n i : Nat} (hi : i < n) : ((List.range n).map f)[i]? = some (f i) := by
  rw [List.getElem?_map, List.getElem?_range hi]; rfl

/-! ### truth -/
@[simp] theorem truB_some {γ : Type} {b : Bool} (h : Hh) (x y : Sl → Hh → R γ) (σ : Sl) : truB (some b) h x y σ = if b = true then x σ h else y σ h := by cases b <;> rfl
@[simp] theorem andB_some {b : Bool} (x : D) (h : Hh) (e : Sl → Hh → R D) (σ : Sl) : andB (some b) x h e σ = if b = true then e σ h else .ok x h := by cases b <;> rfl
@[simp] theorem orB_some {b : Bool} (x : D) (h : Hh) (e : Sl → Hh → R D) (σ : Sl) : orB (some b) x h e σ = if b = true then .ok x h else e σ h := by cases b <;> rfl
@[simp] theorem ch2_some {b : Bool} (y : D) (h : Hh) (ec : Sl → Hh → R D) (σ : Sl) (op' : Cm) : ch2 (some b) y h ec σ op' = if b = true then (bind1 (ec σ h) fun z h => cmR (cmpD h op' y z) h) else .ok (.bl false) h := by
  cases b
  · exact ch2_false y h ec σ op'
  · exact ch2_true y h ec σ op'
section
variable {α β γ : Type} {p : Prop} [Decidable p] {h : Hh}
@[simp] theorem ite_okD (x y : D) : (if p then R.ok x h else R.ok y h) = R.ok (if p then x else y) h := by split <;> rfl
@[simp] theorem ite_okB (x y : Bool) : (if p then R.ok x h else R.ok y h) = R.ok (if p then x else y) h := by split <;> rfl
@[simp] theorem ite_bl (x y : Bool) : (if p then D.bl x else D.bl y) = D.bl (if p then x else y) := by split <;> rfl
@[simp] theorem ite_N (x y : Nat) : (if p then N x else N y) = N (if p then x else y) := by split <;> rfl
@[simp] theorem ite_str (x y : List Char) : (if p then D.str x else D.str y) = D.str (if p then x else y) := by split <;> rfl
@[simp] theorem bind1_ite (x y : R α) (k : α → Hh → R γ) : bind1 (if p then x else y) k = if p then bind1 x k else bind1 y k := by split <;> rfl
@[simp] theorem seqS_ite (x y : R Fl) (k : Sl → Hh → R Fl) : seqS (if p then x else y) k = if p then seqS x k else seqS y k := by split <;> rfl
@[simp] theorem body_ite (x y : R Fl) : bodyOf (if p then x else y) = if p then bodyOf x else bodyOf y := by split <;> rfl
end

/-! ### comprehensions -/
def onTg {β : Type} (t : Tg) (d : D) (σ : Sl) (h : Hh) (F : Sl → Hh → R β) : R β := match bindTg t d σ h with
  | some σ => F σ h
  | none => .bad
@[simp] theorem onTg_var {β : Type} (i : Nat) (d : D) (σ : Sl) (h : Hh) (F : Sl → Hh → R β) : onTg (.var i) d σ h F = F (σ.set i (some d)) h := rfl
@[simp] theorem onTg_two {β : Type} (i j : Nat) (a b : D) (σ : Sl) (h : Hh) (F : Sl → Hh → R β) : onTg (.vars [i, j]) (.tup [a, b]) σ h F = F ((σ.set i (some a)).set j (some b)) h := rfl
@[simp] theorem onTg_twol {β : Type} (i j : Nat) (a b : D) (σ : Sl) (h : Hh) (F : Sl → Hh → R β) : onTg (.vars [i, j]) (.lst [a, b]) σ h F = F ((σ.set i (some a)).set j (some b)) h := rfl
def compC {α : Type} (c : α → R Bool) (e : α → R D) (h : Hh) : List α → R (List D)
  | [] => .ok [] h
  | y :: ys => match c y with
    | .ok true _ => (match e y with
      | .ok d _ => (match compC c e h ys with
        | .ok ds _ => .ok (d :: ds) h
        | .exc c fs h => .exc c fs h
        | .bad => .bad)
      | .exc c fs h => .exc c fs h
      | .bad => .bad)
    | .ok false _ => compC c e h ys
    | .exc c fs h => .exc c fs h
    | .bad => .bad
def compE {α : Type} (e : α → R D) (h : Hh) : List α → R (List D)
  | [] => .ok [] h
  | y :: ys => match e y with
      | .ok d _ => (match compE e h ys with
        | .ok ds _ => .ok (d :: ds) h
        | .exc c fs h => .exc c fs h
        | .bad => .bad)
      | .exc c fs h => .exc c fs h
      | .bad => .bad
theorem compC_congr {α : Type} {c c' : α → R Bool} {e : α → R D} {h : Hh} : ∀ {ys : List α}, (∀ y ∈ ys, c y = c' y) → compC c e h ys = compC c' e h ys
  | [], _ => rfl
  | y :: ys, hc => by
    have ih := compC_congr (e := e) (h := h) fun y hy => hc y (List.mem_cons_of_mem _ hy)
    unfold compC
    rw [hc y List.mem_cons_self, ih]
theorem compE_congr {α : Type} {e e' : α → R D} {h : Hh} : ∀ {ys : List α}, (∀ y ∈ ys, e y = e' y) → compE e h ys = compE e' h ys
  | [], _ => rfl
  | y :: ys, hc => by
    have ih := compE_congr (h := h) fun y hy => hc y (List.mem_cons_of_mem _ hy)
    unfold compE
    rw [hc y List.mem_cons_self, ih]
theorem compC_ok {α : Type} (p : α → Bool) (e : α → R D) (h h' : Hh) : ∀ ys : List α, compC (fun y => .ok (p y) h') e h ys = compE e h (ys.filter p)
  | [] => rfl
  | y :: ys => by
    have ih := compC_ok p e h h' ys
    unfold compC
    cases hp : p y with
    | true =>
      rw [List.filter_cons_of_pos hp]
      unfold compE
      dsimp only
      rw [ih]
    | false =>
      rw [List.filter_cons_of_neg (by simp [hp])]
      exact ih
theorem compE_ok {α : Type} (f : α → D) (h h' : Hh) : ∀ ys : List α, compE (fun y => .ok (f y) h') h ys = .ok (ys.map f) h
  | [] => rfl
  | y :: ys => by
    have ih := compE_ok f h h' ys
    unfold compE
    dsimp only
    rw [ih]
    rfl
@[simp] theorem filter_tt {α : Type} (ys : List α) : ys.filter (fun _ => true) = ys := List.filter_eq_self.mpr (by simp)
/-- a comprehension over known items, told by its parts alone -/
def compQ (Γ : Prog) (k : Nat) (t : Tg) (own : List Nat) (c : MO) (e : ME) (σ : Sl) (h : Hh) (xs : List D) : R (List D) :=
  compC (fun y => onTg t y (wipe σ own) h (evalC (callN Γ k) c)) (fun y => onTg t y (wipe σ own) h (evalE (callN Γ k) e)) h xs
/-- its element, not yet looked at -/
def elemQ (Γ : Prog) (k : Nat) (t : Tg) (own : List Nat) (e : ME) (σ : Sl) (h : Hh) (d : D) : R D := onTg t d (wipe σ own) h (evalE (callN Γ k) e)
def compG {α : Type} (c : α → R Bool) (E : D → R D) (g : α → D) (h : Hh) (ys : List α) : R (List D) := compC c (fun y => E (g y)) h ys
def compH {α : Type} (F : α → R D) (h : Hh) (ys : List α) : R (List D) := compE F h ys
/-- what resolves to known items -/
def Res (h : Hh) (its : Its) (ds : List D) : Prop := optAll (It1.get h) its.its = some ds ∧ liveOk h its.live = true
theorem compL_C {α : Type} {Γ : Prog} {k : Nat} {t : Tg} {own : List Nat} {live : List (Nat × Nat)} {c : MO} {e : ME} {σ : Sl} {h : Hh} (g : α → D) (pc : pureMO Γ c = true) (pe : pureME Γ e = true) (hl : liveOk h live = true) :
    ∀ (ys : List α) (its : List It1), optAll (It1.get h) its = some (ys.map g) →
    compL t own live (evalC (callN Γ k) c) (evalE (callN Γ k) e) its σ h = compC (fun y => onTg t (g y) (wipe σ own) h (evalC (callN Γ k) c)) (fun y => onTg t (g y) (wipe σ own) h (evalE (callN Γ k) e)) h ys
  | [], its, hr => by
    cases its with
    | nil => unfold compL compC; rw [if_pos hl]
    | cons x xs =>
      unfold optAll at hr
      split at hr
      · split at hr <;> simp at hr
      · cases hr
  | y :: ys, its, hr => by
    cases its with
    | nil => simp [optAll] at hr
    | cons x xs =>
      unfold optAll at hr
      split at hr
      · rename_i d hd
        split at hr
        · rename_i ds hds
          have e1 : d = g y := by simpa using (List.cons.inj (Option.some.inj hr)).1
          have e2 : ds = ys.map g := by simpa using (List.cons.inj (Option.some.inj hr)).2
          subst e1
          subst e2
          have ih := compL_C (k := k) (t := t) (own := own) (σ := σ) g pc pe hl ys xs hds
          unfold compL compC
          rw [hd]
          dsimp only
          cases hb : bindTg t (g y) (wipe σ own) h with
          | none =>
            have e0 : ∀ {β : Type} (F : Sl → Hh → R β), onTg t (g y) (wipe σ own) h F = .bad := fun F => by unfold onTg; rw [hb]
            rw [e0]
          | some σ' =>
            have e0 : ∀ {β : Type} (F : Sl → Hh → R β), onTg t (g y) (wipe σ own) h F = F σ' h := fun F => by unfold onTg; rw [hb]
            dsimp only
            rw [e0, e0]
            have kc := keeps_C Γ k c σ' h pc
            cases hc : evalC (callN Γ k) c σ' h with
            | bad => rfl
            | exc a b c => rfl
            | ok b h1 =>
              have := kc b h1 hc
              subst this
              rw [R.bind_ok]
              cases b with
              | false =>
                rw [if_neg Bool.false_ne_true, ih]
              | true =>
                rw [if_pos rfl]
                dsimp only
                have ke := keeps_E Γ k e σ' h1 pe
                cases he : evalE (callN Γ k) e σ' h1 with
                | bad => rfl
                | exc a b c => rfl
                | ok d h2 =>
                  have := ke d h2 he
                  subst this
                  rw [R.bind_ok]
                  have kk := keeps_comp (t := t) (own := own) (live := live) (h := h2) (fun σ => keeps_C Γ k c σ h2 pc) (fun σ => keeps_E Γ k e σ h2 pe) σ xs
                  rw [← ih]
                  dsimp only
                  cases hx : compL t own live (evalC (callN Γ k) c) (evalE (callN Γ k) e) xs σ h2 with
                  | ok ds h3 =>
                    have := kk ds h3 hx
                    subst this
                    rfl
                  | exc _ _ _ => rfl
                  | bad => rfl
        · cases hr
      · cases hr

theorem all_v (h : Hh) : ∀ xs : List D, optAll (It1.get h) (xs.map .v) = some xs
  | [] => rfl
  | x :: xs => by
    rw [List.map_cons]
    unfold optAll
    rw [It1.get_v]
    dsimp only
    rw [all_v h xs]
def enumD : Nat → List D → List D
  | _, [] => []
  | n, x :: xs => .tup [N n, x] :: enumD (n + 1) xs
theorem all_enum (h : Hh) : ∀ (n : Nat) (xs : List D), optAll (It1.get h) (enumIts n (xs.map .v)) = some (enumD n xs)
  | _, [] => rfl
  | n, x :: xs => by
    rw [List.map_cons]
    unfold enumIts optAll enumD
    simp only [It1.get]
    rw [all_enum h (n + 1) xs]
    rfl
def zipDD : List D → List D → List D
  | x :: xs, y :: ys => .tup [x, y] :: zipDD xs ys
  | _, _ => []
theorem all_zip (h : Hh) : ∀ (xs ys : List D), optAll (It1.get h) (zipIts (xs.map .v) (ys.map .v)) = some (zipDD xs ys)
  | [], _ => rfl
  | _ :: _, [] => rfl
  | x :: xs, y :: ys => by
    rw [List.map_cons, List.map_cons]
    unfold zipIts optAll zipDD
    simp only [It1.get]
    rw [all_zip h xs ys]
theorem range_get {α : Type} : ∀ (xs : List α), (List.range xs.length).map (fun i => xs[i]?) = xs.map some
  | xs => by
    refine List.ext_getElem (by simp) fun i h1 h2 => ?_
    simp at h1 ⊢
theorem optAll_map {α β : Type} (f : α → Option β) : ∀ (xs : List α) (ys : List β), xs.map f = ys.map some → optAll f xs = some ys
  | [], [], _ => rfl
  | [], _ :: _, h => by simp at h
  | _ :: _, [], h => by simp at h
  | x :: xs, y :: ys, h => by
    rw [List.map_cons, List.map_cons] at h
    unfold optAll
    rw [(List.cons.inj h).1]
    dsimp only
    rw [optAll_map f xs ys (List.cons.inj h).2]
theorem all_l {h : Hh} {n : Nat} {xs : List D} (e : h[n]? = some (.lst xs)) : optAll (It1.get h) ((List.range xs.length).map fun i => .l n i xs.length) = some xs := by
  refine optAll_map _ _ _ ?_
  rw [List.map_map, ← range_get xs]
  refine List.map_congr_left fun i _ => ?_
  simp only [Function.comp, It1.get, e, if_true]
theorem live_one {h : Hh} {n : Nat} {xs : List D} (e : h[n]? = some (.lst xs)) : liveOk h [(n, xs.length)] = true := by
  simp [liveOk, e]
section
variable {Γ : Prog} {k : Nat} {t : Tg} {own : List Nat} {c : MO} {e : ME} {σ : Sl} {h : Hh}
/-- over known items -/
@[simp] theorem comp_v (xs : List D) (pc : pureMO Γ c = true) (pe : pureME Γ e = true) : compL t own [] (evalC (callN Γ k) c) (evalE (callN Γ k) e) (xs.map .v) σ h = compQ Γ k t own c e σ h xs :=
  compL_C (fun x => x) pc pe rfl xs _ (by rw [all_v]; simp)
@[simp] theorem comp_enum (xs : List D) (n : Nat) (pc : pureMO Γ c = true) (pe : pureME Γ e = true) : compL t own [] (evalC (callN Γ k) c) (evalE (callN Γ k) e) (enumIts n (xs.map .v)) σ h = compQ Γ k t own c e σ h (enumD n xs) :=
  compL_C (fun x => x) pc pe rfl _ _ (by rw [all_enum]; simp)
@[simp] theorem comp_zip (xs ys : List D) (pc : pureMO Γ c = true) (pe : pureME Γ e = true) : compL t own [] (evalC (callN Γ k) c) (evalE (callN Γ k) e) (zipIts (xs.map .v) (ys.map .v)) σ h = compQ Γ k t own c e σ h (zipDD xs ys) :=
  compL_C (fun x => x) pc pe rfl _ _ (by rw [all_zip]; simp)
/-- over a cell -/
theorem comp_l {n : Nat} {xs : List D} (hh : h[n]? = some (.lst xs)) (pc : pureMO Γ c = true) (pe : pureME Γ e = true) : compL t own [(n, xs.length)] (evalC (callN Γ k) c) (evalE (callN Γ k) e) ((List.range xs.length).map fun i => .l n i xs.length) σ h =
    compC (fun y => onTg t y (wipe σ own) h (evalC (callN Γ k) c)) (fun y => onTg t y (wipe σ own) h (evalE (callN Γ k) e)) h xs :=
  compL_C (fun x => x) pc pe (live_one hh) _ _ (by rw [all_l hh]; simp)
end
/-- the items of a cell, a comprehension over them -/
def seqC (h : Hh) (n : Nat) : Option Cell → R Its
  | some (.lst xs) => .ok ⟨(List.range xs.length).map fun i => .l n i xs.length, [(n, xs.length)]⟩ h
  | _ => .bad
@[simp] theorem seq_ref {h : Hh} {n : Nat} : R.of (itsSeq h (.ref n)) h = seqC h n h[n]? := by
  have e : itsSeq h (.ref n) = match h[n]? with
    | some (.lst xs) => some ⟨(List.range xs.length).map fun i => .l n i xs.length, [(n, xs.length)]⟩
    | _ => none := rfl
  rw [e]
  unfold seqC
  cases h[n]? with
  | none => rfl
  | some c => cases c <;> rfl
@[simp] theorem lcK_ref {Γ : Prog} {k : Nat} {t : Tg} {own : List Nat} {c : MO} {e : ME} {σ : Sl} {h : Hh} {n : Nat} {o : Option Cell} {xs : List D} (ho : h[n]? = some (.lst xs)) (pc : pureMO Γ c = true) (pe : pureME Γ e = true) :
    lcK (seqC h n (some (.lst xs))) t own (evalC (callN Γ k) c) (evalE (callN Γ k) e) σ = lstR (compQ Γ k t own c e σ h xs) := by
  unfold seqC
  rw [lcK_ok]
  dsimp only
  rw [comp_l ho pc pe]
  rfl
theorem compC_map {α : Type} (c : D → R Bool) (e : D → R D) (h : Hh) (g : α → D) : ∀ ys : List α, compC c e h (ys.map g) = compC (fun y => c (g y)) (fun y => e (g y)) h ys
  | [] => rfl
  | y :: ys => by
    rw [List.map_cons]
    unfold compC
    rw [compC_map c e h g ys]
theorem compE_map {α : Type} (e : D → R D) (h : Hh) (g : α → D) : ∀ ys : List α, compE e h (ys.map g) = compE (fun y => e (g y)) h ys
  | [] => rfl
  | y :: ys => by
    rw [List.map_cons]
    unfold compE
    rw [compE_map e h g ys]
section
variable {Γ : Prog} {k : Nat} {t : Tg} {own : List Nat} {c : MO} {e : ME} {σ : Sl} {h : Hh} {α : Type}
@[simp] theorem compQ_map (g : α → D) (ys : List α) : compQ Γ k t own c e σ h (ys.map g) = compG (fun y => @ite _ (y ∈ ys) (Classical.propDecidable _) (onTg t (g y) (wipe σ own) h (evalC (callN Γ k) c)) .bad) (elemQ Γ k t own e σ h) g h ys := by
  unfold compQ compG
  rw [compC_map]
  refine compC_congr fun y hy => ?_
  rw [if_pos hy]
theorem compQ_raw (xs : List D) : compQ Γ k t own c e σ h xs = compG (fun y => onTg t y (wipe σ own) h (evalC (callN Γ k) c)) (elemQ Γ k t own e σ h) (fun x => x) h xs := rfl
@[simp] theorem filter_ff (ys : List α) : ys.filter (fun _ => false) = [] := List.filter_eq_nil_iff.mpr (by simp)
@[simp] theorem compH_nil {F : α → R D} : compH F h [] = .ok [] h := rfl
@[simp] theorem compG_nil {F : α → R Bool} {E : D → R D} {g : α → D} : compG F E g h [] = .ok [] h := rfl
@[simp] theorem compQ_nil : compQ Γ k t own c e σ h [] = .ok [] h := rfl
@[simp] theorem compG_un {P : α → Prop} [∀ y, Decidable (P y)] {F : α → R Bool} {E : D → R D} {g : α → D} {ys : List α} (hP : ∀ y ∈ ys, P y) : compG (fun y => if P y then F y else .bad) E g h ys = compG F E g h ys := by
  unfold compG
  exact compC_congr fun y hy => if_pos (hP y hy)
@[simp] theorem compG_ok {p : α → Bool} {g : α → D} {ys : List α} {h' h0 : Hh} : compG (fun y => .ok (p y) h') (elemQ Γ k t own e σ h0) g h ys = compH (fun y => @ite _ (y ∈ ys.filter p) (Classical.propDecidable _) (onTg t (g y) (wipe σ own) h0 (evalE (callN Γ k) e)) .bad) h (ys.filter p) := by
  unfold compG compH
  rw [compC_ok]
  refine compE_congr fun y hy => ?_
  rw [if_pos hy]
  rfl
@[simp] theorem compH_un {P : α → Prop} [∀ y, Decidable (P y)] {F : α → R D} {ys : List α} (hP : ∀ y ∈ ys, P y) : compH (fun y => if P y then F y else .bad) h ys = compH F h ys := by
  unfold compH
  exact compE_congr fun y hy => if_pos (hP y hy)
@[simp] theorem compH_ok {f : α → D} {ys : List α} {h' : Hh} : compH (fun y => .ok (f y) h') h ys = .ok (ys.map f) h := compE_ok f h h' ys
end
theorem enumD_range' (g : Nat → D) : ∀ (n a : Nat), enumD a ((List.range' a n).map g) = (List.range' a n).map fun i => .tup [N i, g i]
  | 0, _ => rfl
  | n + 1, a => by
    rw [List.range'_succ, List.map_cons, List.map_cons]
    unfold enumD
    rw [enumD_range' g n (a + 1)]
@[simp high] theorem enumD_range (g : Nat → D) (n : Nat) : enumD 0 ((List.range n).map g) = (List.range n).map fun i => .tup [N i, g i] := by
  rw [List.range_eq_range', enumD_range']
@[simp] theorem enumD_map {α : Type} (g : α → D) : ∀ (ys : List α) (k : Nat), enumD k (ys.map g) = (ys.zipIdx k).map fun p => .tup [N p.2, g p.1]
  | [], _ => rfl
  | y :: ys, k => by
    rw [List.map_cons, List.zipIdx_cons, List.map_cons]
    unfold enumD
    rw [enumD_map g ys (k + 1)]
@[simp] theorem zipDD_map {α β : Type} (g : α → D) (g' : β → D) : ∀ (xs : List α) (ys : List β), zipDD (xs.map g) (ys.map g') = (xs.zip ys).map fun p => .tup [g p.1, g' p.2]
  | [], _ => rfl
  | _ :: _, [] => rfl
  | x :: xs, y :: ys => by
    rw [List.map_cons, List.map_cons, List.zip_cons_cons, List.map_cons]
    unfold zipDD
    rw [zipDD_map g g' xs ys]
@[simp] theorem zipDD_same {α : Type} (g g' : α → D) (xs : List α) : zipDD (xs.map g) (xs.map g') = xs.map fun x => .tup [g x, g' x] := by
  induction xs with
  | nil => rfl
  | cons x xs ih => rw [List.map_cons, List.map_cons, List.map_cons]; unfold zipDD; rw [ih]
@[simp] theorem rng0 {h : Hh} {n : Nat} (hn : n ≤ 1000000) : rngR h (.int 0) (N n) = .ok ⟨((List.range n).map N).map .v, []⟩ h := by
  show R.of (itsRange 0 (n : Nat)) h = _
  rw [itsRange_nat hn, List.map_map]
  rfl
@[simp low] theorem rngAB {h : Hh} {a b : Nat} (ha : a ≤ 1000000) (hb : b ≤ 1000000) : rngR h (N a) (N b) = .ok ⟨((List.range' a (b - a)).map N).map .v, []⟩ h := by
  show R.of (itsRange (a : Nat) (b : Nat)) h = _
  rw [itsRange_nn hb ha, List.map_map, List.range'_eq_map_range, List.map_map]
  rfl
@[simp] theorem rgN {n : Nat} (hn : n ≤ 1000000) : rgD (.int 0) (N n) = some ((List.range n).map N) := rgD_nat hn
@[simp] theorem enR_lst {h : Hh} {xs : List D} : enR h (.lst xs) = .ok ⟨enumIts 0 (xs.map .v), []⟩ h := rfl
@[simp] theorem enR_tup {h : Hh} {xs : List D} : enR h (.tup xs) = .ok ⟨enumIts 0 (xs.map .v), []⟩ h := rfl
@[simp] theorem enR_scr {h : Hh} {xs : List D} : enR h (.scr xs) = .ok ⟨enumIts 0 (xs.map .v), []⟩ h := rfl

/-! ### what built-in names say of mapped lists -/
section
variable {α : Type} {h : Hh}
@[simp] theorem allM (f : α → Bool) (xs : List α) : biD h .all (.lst (xs.map fun x => .bl (f x))) = some (.bl (xs.all f)) := by
  rw [all_bls, List.all_map]
  rfl
@[simp] theorem anyM (f : α → Bool) (xs : List α) : biD h .any (.lst (xs.map fun x => .bl (f x))) = some (.bl (xs.any f)) := by
  simp only [biD, rdOf, Option.bind_some, blsOf_map, Option.map_some, List.any_map]
  rfl
theorem intsN (f : α → Nat) (xs : List α) : intsOf (xs.map fun x => N (f x)) = some (xs.map fun x => ((f x : Nat) : Int)) := by
  have := intsOf_map (xs.map fun x => ((f x : Nat) : Int))
  rw [List.map_map] at this
  exact this
theorem sum_cast : ∀ xs : List Nat, (xs.map fun x => ((x : Nat) : Int)).sum = ((xs.sum : Nat) : Int)
  | [] => rfl
  | x :: xs => by
    rw [List.map_cons, List.sum_cons, List.sum_cons, sum_cast xs]
    omega
@[simp] theorem sumM (f : α → Nat) (xs : List α) : biD h .sum (.lst (xs.map fun x => N (f x))) = some (N (xs.map f).sum) := by
  simp only [biD, rdOf, Option.bind_some, intsN, Option.map_some]
  have := sum_cast (xs.map f)
  rw [List.map_map] at this
  unfold N
  rw [← this]
  rfl
@[simp] theorem sumI (f : α → Int) (xs : List α) : biD h .sum (.lst (xs.map fun x => .int (f x))) = some (.int (xs.map f).sum) := by
  have := intsOf_map (xs.map f)
  rw [List.map_map] at this
  simp only [biD, rdOf, Option.bind_some, Option.map_some]
  rw [show (xs.map fun x => D.int (f x)) = xs.map (D.int ∘ f) from rfl, this]
  rfl
@[simp] theorem sum_nil : biD h .sum (.lst []) = some (N 0) := rfl
@[simp] theorem all_nil : biD h .all (.lst []) = some (.bl true) := rfl
@[simp] theorem any_nil : biD h .any (.lst []) = some (.bl false) := rfl
theorem noRefL_all : ∀ xs : List D, noRefL xs = xs.all noRef
  | [] => rfl
  | x :: xs => by rw [noRefL, List.all_cons, noRefL_all xs]
theorem belowL_all (b : Nat) : ∀ xs : List D, belowL b xs = xs.all (below b)
  | [] => rfl
  | x :: xs => by rw [belowL, List.all_cons, belowL_all b xs]
@[simp] theorem below_int (b : Nat) (i : Int) : below b (.int i) = true := rfl
@[simp] theorem below_N (b : Nat) (i : Nat) : below b (N i) = true := rfl
@[simp] theorem below_str (b : Nat) (s : List Char) : below b (.str s) = true := rfl
@[simp] theorem below_bl (b : Nat) (s : Bool) : below b (.bl s) = true := rfl
@[simp] theorem below_non (b : Nat) : below b .non = true := rfl
@[simp] theorem below_ref (b i : Nat) : below b (.ref i) = decide (i < b) := rfl
@[simp] theorem below_tup (b : Nat) (xs : List D) : below b (.tup xs) = belowL b xs := by rw [below]
@[simp] theorem below_lst (b : Nat) (xs : List D) : below b (.lst xs) = belowL b xs := by rw [below]
@[simp] theorem belowL_nil (b : Nat) : belowL b [] = true := rfl
@[simp] theorem belowL_cons (b : Nat) (x : D) (xs : List D) : belowL b (x :: xs) = (below b x && belowL b xs) := by rw [belowL]
@[simp] theorem belowL_m (b : Nat) (f : α → D) (xs : List α) : belowL b (xs.map f) = xs.all fun x => below b (f x) := by rw [belowL_all, List.all_map]; rfl
theorem pureL_all : ∀ xs : List D, pureL xs = xs.all pureD
  | [] => rfl
  | x :: xs => by rw [pureL, List.all_cons, pureL_all xs]
theorem dataL_all : ∀ xs : List D, dataL xs = xs.all dataD
  | [] => rfl
  | x :: xs => by rw [dataL, List.all_cons, dataL_all xs]
@[simp] theorem noRefL_m (f : α → D) (xs : List α) : noRefL (xs.map f) = xs.all fun x => noRef (f x) := by rw [noRefL_all, List.all_map]; rfl
@[simp] theorem pureL_m (f : α → D) (xs : List α) : pureL (xs.map f) = xs.all fun x => pureD (f x) := by rw [pureL_all, List.all_map]; rfl
@[simp] theorem dataL_m (f : α → D) (xs : List α) : dataL (xs.map f) = xs.all fun x => dataD (f x) := by rw [dataL_all, List.all_map]; rfl
@[simp] theorem all_tt (xs : List α) : xs.all (fun _ => true) = true := by simp
@[simp] theorem join_ones {ys : List α} {c : α → Char} (hl : ys.length ≤ 1000000) : methD h .join (.str []) [.lst (ys.map fun y => .str [c y])] = some (.str (ys.map c)) := by
  have e2 : strsOf (ys.map fun y => D.str [c y]) = some ((ys.map c).map fun ch => [ch]) := by
    have := strsOf_map ((ys.map c).map fun ch => [ch])
    rw [List.map_map, List.map_map] at this
    rw [← this]
    rfl
  show ((rdOf h (.lst (ys.map fun y => D.str [c y]))).bind fun xs => (strsOf xs).bind fun ss =>
      if (ss.map List.length).sum + ss.length * 0 ≤ lim then some (D.str (joinC [] ss)) else none) = _
  show ((strsOf (ys.map fun y => D.str [c y])).bind fun ss =>
      if (ss.map List.length).sum + ss.length * 0 ≤ lim then some (D.str (joinC [] ss)) else none) = _
  rw [e2, Option.bind_some, sum_ones, if_pos (by simpa using hl), joinC_ones]
end

/-! ### == -/
class EqD {α : Type} [DecidableEq α] (n : outParam Nat) (g : α → D) : Prop where
  pure : ∀ a, pureD (g a) = true
  data : ∀ a, dataD (g a) = true
  dep : ∀ a, depD (g a) ≤ n
  eq : ∀ a b, eqv (g a) (g b) = decide (a = b)
instance : EqD 0 N where
  pure _ := rfl
  data _ := rfl
  dep _ := Nat.le_refl 0
  eq a b := by
    show ((a : Int) == (b : Int)) = _
    rw [Bool.eq_iff_iff]
    simp
    omega
instance : EqD 0 D.int where
  pure _ := rfl
  data _ := rfl
  dep _ := Nat.le_refl 0
  eq a b := by
    show (a == b) = _
    rw [Bool.eq_iff_iff]
    simp
instance : EqD 0 D.str where
  pure _ := rfl
  data _ := rfl
  dep _ := Nat.le_refl 0
  eq a b := by
    show (a == b) = _
    rw [Bool.eq_iff_iff]
    simp
instance : EqD 0 D.bl where
  pure _ := rfl
  data _ := rfl
  dep _ := Nat.le_refl 0
  eq a b := by
    show (a == b) = _
    rw [Bool.eq_iff_iff]
    simp
theorem eqvL_m {α : Type} [DecidableEq α] {n : Nat} (g : α → D) [E : EqD n g] : ∀ xs ys : List α, eqvL (xs.map g) (ys.map g) = decide (xs = ys)
  | [], [] => rfl
  | [], _ :: _ => rfl
  | _ :: _, [] => rfl
  | x :: xs, y :: ys => by
    rw [List.map_cons, List.map_cons, eqvL, E.eq, eqvL_m g xs ys, Bool.eq_iff_iff]
    simp
theorem depL_m {α : Type} [DecidableEq α] {n : Nat} (g : α → D) [E : EqD n g] (xs : List α) : depL (xs.map g) ≤ n := depL_map g n E.dep xs
def tupM {α : Type} (g : α → D) (xs : List α) : D := .tup (xs.map g)
def lstM {α : Type} (g : α → D) (xs : List α) : D := .lst (xs.map g)
instance {α : Type} [DecidableEq α] {n : Nat} (g : α → D) [E : EqD n g] : EqD (n + 1) (fun xs : List α => D.tup (xs.map g)) where
  pure _ := by simp [pureD, E.pure]
  data _ := by simp [dataD, E.data]
  dep xs := by simp only [depD]; have := depL_m g xs; omega
  eq xs ys := by simp only [eqv]; exact eqvL_m g xs ys
instance {α : Type} [DecidableEq α] {n : Nat} (g : α → D) [E : EqD n g] : EqD (n + 1) (fun xs : List α => D.lst (xs.map g)) where
  pure _ := by simp [pureD, E.pure]
  data _ := by simp [dataD, E.data]
  dep xs := by simp only [depD]; have := depL_m g xs; omega
  eq xs ys := by simp only [eqv]; exact eqvL_m g xs ys
section
variable {α : Type} [DecidableEq α] {n : Nat} {g : α → D} {h : Hh}
theorem eqD_seq (x y : D) (px : pureD x = true) (py : pureD y = true) (dx : dataD x = true) (dy : dataD y = true) (ex : depD x ≤ 60) (ey : depD y ≤ 60) (nx : ∃ l, x = .tup l ∨ x = .lst l) : eqD h x y = some (eqv x y) := by
  have v1 := view_free h 8 x px
  have v2 := view_free h 8 y py
  have c1 : cmpOk x = true := by simp [cmpOk, dx, ex]
  have c2 : cmpOk y = true := by simp [cmpOk, dy, ey]
  obtain ⟨l, rfl | rfl⟩ := nx
  · have e : eqD h (.tup l) y = match view h 8 (.tup l), view h 8 y with
      | some x', some y' => if cmpOk x' && cmpOk y' then some (eqv x' y') else eqE (.tup l) y
      | _, _ => eqE (.tup l) y := rfl
    rw [e, v1, v2]
    dsimp only
    rw [c1, c2]
    rfl
  · have e : eqD h (.lst l) y = match view h 8 (.lst l), view h 8 y with
      | some x', some y' => if cmpOk x' && cmpOk y' then some (eqv x' y') else eqE (.lst l) y
      | _, _ => eqE (.lst l) y := rfl
    rw [e, v1, v2]
    dsimp only
    rw [c1, c2]
    rfl
theorem free_m {α : Type} [DecidableEq α] {n : Nat} {g : α → D} (E : EqD n g) (hn : n ≤ 50) (xs : List α) : pureD (.tup (xs.map g)) = true ∧ dataD (.tup (xs.map g)) = true ∧ depD (.tup (xs.map g)) ≤ 60 := by
  refine ⟨by simp [pureD, E.pure], by simp [dataD, E.data], ?_⟩
  simp only [depD]
  have := depL_m g xs
  omega
theorem free_l {α : Type} [DecidableEq α] {n : Nat} {g : α → D} (E : EqD n g) (hn : n ≤ 50) (xs : List α) : pureD (.lst (xs.map g)) = true ∧ dataD (.lst (xs.map g)) = true ∧ depD (.lst (xs.map g)) ≤ 60 := by
  refine ⟨by simp [pureD, E.pure], by simp [dataD, E.data], ?_⟩
  simp only [depD]
  have := depL_m g xs
  omega
@[simp] theorem eq_tupM [E : EqD n g] (xs ys : List α) (hn : n ≤ 50) : cmpD h .eq (.tup (xs.map g)) (.tup (ys.map g)) = some (decide (xs = ys)) := by
  obtain ⟨a1, a2, a3⟩ := free_m E hn xs
  obtain ⟨b1, b2, b3⟩ := free_m E hn ys
  rw [show cmpD h .eq (.tup (xs.map g)) (.tup (ys.map g)) = eqD h (.tup (xs.map g)) (.tup (ys.map g)) from rfl, eqD_seq _ _ a1 b1 a2 b2 a3 b3 ⟨_, .inl rfl⟩, eqv, eqvL_m]
@[simp] theorem eq_lstM [E : EqD n g] (xs ys : List α) (hn : n ≤ 50) : cmpD h .eq (.lst (xs.map g)) (.lst (ys.map g)) = some (decide (xs = ys)) := by
  obtain ⟨a1, a2, a3⟩ := free_l E hn xs
  obtain ⟨b1, b2, b3⟩ := free_l E hn ys
  rw [show cmpD h .eq (.lst (xs.map g)) (.lst (ys.map g)) = eqD h (.lst (xs.map g)) (.lst (ys.map g)) from rfl, eqD_seq _ _ a1 b1 a2 b2 a3 b3 ⟨_, .inr rfl⟩, eqv, eqvL_m]
@[simp] theorem ne_tupM [E : EqD n g] (xs ys : List α) (hn : n ≤ 50) : cmpD h .ne (.tup (xs.map g)) (.tup (ys.map g)) = some (!decide (xs = ys)) := by
  have := eq_tupM (h := h) (E := E) xs ys hn
  rw [show cmpD h .eq (.tup (xs.map g)) (.tup (ys.map g)) = eqD h (.tup (xs.map g)) (.tup (ys.map g)) from rfl] at this
  rw [show cmpD h .ne (.tup (xs.map g)) (.tup (ys.map g)) = (eqD h (.tup (xs.map g)) (.tup (ys.map g))).map (!·) from rfl, this]
  rfl
@[simp] theorem ne_lstM [E : EqD n g] (xs ys : List α) (hn : n ≤ 50) : cmpD h .ne (.lst (xs.map g)) (.lst (ys.map g)) = some (!decide (xs = ys)) := by
  have := eq_lstM (h := h) (E := E) xs ys hn
  rw [show cmpD h .eq (.lst (xs.map g)) (.lst (ys.map g)) = eqD h (.lst (xs.map g)) (.lst (ys.map g)) from rfl] at this
  rw [show cmpD h .ne (.lst (xs.map g)) (.lst (ys.map g)) = (eqD h (.lst (xs.map g)) (.lst (ys.map g))).map (!·) from rfl, this]
  rfl
@[simp] theorem eq_tup0 [E : EqD n g] (xs : List α) (hn : n ≤ 50) : cmpD h .eq (.tup (xs.map g)) (.tup []) = some (decide (xs = [])) := eq_tupM (E := E) xs [] hn
@[simp] theorem eq_lst0 [E : EqD n g] (xs : List α) (hn : n ≤ 50) : cmpD h .eq (.lst (xs.map g)) (.lst []) = some (decide (xs = [])) := eq_lstM (E := E) xs [] hn
@[simp] theorem ne_tup0 [E : EqD n g] (xs : List α) (hn : n ≤ 50) : cmpD h .ne (.tup (xs.map g)) (.tup []) = some (!decide (xs = [])) := ne_tupM (E := E) xs [] hn
@[simp] theorem ne_lst0 [E : EqD n g] (xs : List α) (hn : n ≤ 50) : cmpD h .ne (.lst (xs.map g)) (.lst []) = some (!decide (xs = [])) := ne_lstM (E := E) xs [] hn
@[simp] theorem eq_tup00 : cmpD h .eq (.tup []) (.tup []) = some true := rfl
@[simp] theorem eq_lst00 : cmpD h .eq (.lst []) (.lst []) = some true := rfl
@[simp] theorem ne_tup00 : cmpD h .ne (.tup []) (.tup []) = some false := rfl
@[simp] theorem ne_lst00 : cmpD h .ne (.lst []) (.lst []) = some false := rfl
theorem any_eqv [E : EqD n g] (a : α) : ∀ ys : List α, (ys.map g).any (fun y => eqv y (g a)) = decide (a ∈ ys)
  | [] => by simp
  | y :: ys => by
    rw [List.map_cons, List.any_cons, any_eqv a ys, E.eq, Bool.eq_iff_iff]
    simp
    constructor
    · rintro (h | h)
      · exact .inl h.symm
      · exact .inr h
    · rintro (h | h)
      · exact .inl h.symm
      · exact .inr h
theorem in_seq [E : EqD n g] (hn : n ≤ 50) (a : α) (ys : List α) : inSeq h (g a) (.tup (ys.map g)) = some (decide (a ∈ ys)) ∧ inSeq h (g a) (.lst (ys.map g)) = some (decide (a ∈ ys)) := by
  have v1 := view_free h 8 _ (E.pure a)
  have c1 : cmpOk (g a) = true := by
    have := E.dep a
    simp [cmpOk, E.data]
    omega
  obtain ⟨b1, b2, b3⟩ := free_m E hn ys
  obtain ⟨d1, d2, d3⟩ := free_l E hn ys
  have v2 := view_free h 8 _ b1
  have v3 := view_free h 8 _ d1
  have c2 : cmpOk (.tup (ys.map g)) = true := by simp [cmpOk, b2, b3]
  have c3 : cmpOk (.lst (ys.map g)) = true := by simp [cmpOk, d2, d3]
  constructor
  · unfold inSeq
    rw [v1, v2]
    dsimp only
    rw [c1, c2, any_eqv]
    rfl
  · unfold inSeq
    rw [v1, v3]
    dsimp only
    rw [c1, c3, any_eqv]
    rfl
@[simp] theorem in_tupM [E : EqD n g] (hn : n ≤ 50) (a : α) (ys : List α) : cmpD h .inn (g a) (.tup (ys.map g)) = some (decide (a ∈ ys)) := (in_seq (h := h) hn a ys).1
@[simp] theorem in_lstM [E : EqD n g] (hn : n ≤ 50) (a : α) (ys : List α) : cmpD h .inn (g a) (.lst (ys.map g)) = some (decide (a ∈ ys)) := (in_seq (h := h) hn a ys).2
@[simp] theorem nin_tupM [E : EqD n g] (hn : n ≤ 50) (a : α) (ys : List α) : cmpD h .nin (g a) (.tup (ys.map g)) = some (!decide (a ∈ ys)) := by
  show (inSeq h (g a) (.tup (ys.map g))).map _ = _
  rw [(in_seq (h := h) hn a ys).1]
  rfl
@[simp] theorem nin_lstM [E : EqD n g] (hn : n ≤ 50) (a : α) (ys : List α) : cmpD h .nin (g a) (.lst (ys.map g)) = some (!decide (a ∈ ys)) := by
  show (inSeq h (g a) (.lst (ys.map g))).map _ = _
  rw [(in_seq (h := h) hn a ys).2]
  rfl
end

@[simp] theorem smp_N (n a : Nat) : smp n (N a) = true := by cases n <;> rfl
/-! ### tables -/
/-- the table with the sign w i j of one i against the other j -/
def tab (n : Nat) (w : Nat → Nat → Char) : D := .tup ((List.range n).map fun i => .str ((List.range n).map fun j => w i j))
/-- a row -/
def rowS (n : Nat) (w : Nat → Nat → Char) (i : Nat) : D := .str ((List.range n).map fun j => w i j)
section
variable {h : Hh} {n : Nat} {w : Nat → Nat → Char}
@[simp] theorem fr_tab : noRef (tab n w) = true := by simp [tab, noRef]
@[simp] theorem pu_tab : pureD (tab n w) = true := by simp [tab, pureD]
@[simp] theorem below_tab (b : Nat) : below b (tab n w) = true := by simp [tab]
@[simp] theorem da_tab : dataD (tab n w) = true := by simp [tab, dataD]
@[simp] theorem len_tab : biD h .len (tab n w) = some (N n) := by
  unfold tab
  rw [lenN_tup]
  simp
@[simp] theorem enR_row {i : Nat} (hn : n ≤ 1000000) : enR h (rowS n w i) = .ok ⟨enumIts 0 (((List.range n).map fun j => D.str [w i j]).map .v), []⟩ h := by
  unfold rowS
  show R.of (if ((List.range n).map fun j => w i j).length ≤ lim then _ else _) h = _
  rw [if_pos (by simpa using hn), List.map_map, List.map_map]
  rfl
@[simp] theorem itsSeq_row {i : Nat} (hn : n ≤ 1000000) : itsSeq h (rowS n w i) = some ⟨((List.range n).map fun j => D.str [w i j]).map .v, []⟩ := by
  unfold rowS
  show (if ((List.range n).map fun j => w i j).length ≤ lim then _ else _) = _
  rw [if_pos (by simpa using hn), List.map_map, List.map_map]
  rfl
@[simp] theorem len_row {i : Nat} (hn : n ≤ 1000000) : biD h .len (rowS n w i) = some (N n) := by
  unfold rowS
  rw [lenN_str (by simpa using hn)]
  simp
@[simp] theorem enR_tab : enR h (tab n w) = .ok ⟨enumIts 0 (((List.range n).map fun i => rowS n w i).map .v), []⟩ h := rfl
@[simp] theorem itsSeq_tab : itsSeq h (tab n w) = some ⟨((List.range n).map fun i => rowS n w i).map .v, []⟩ := rfl
@[simp] theorem fr_row {i : Nat} : noRef (rowS n w i) = true := rfl
@[simp] theorem pu_row {i : Nat} : pureD (rowS n w i) = true := rfl
@[simp] theorem idx_tab {i : Nat} (hi : i < n) : idxD h (tab n w) (N i) = some (rowS n w i) := by
  unfold tab rowS
  rw [idxN_tup, List.getElem?_map, List.getElem?_range hi]
  rfl
@[simp] theorem idx_row {i j : Nat} (hj : j < n) (hn : n ≤ 1000000) : idxD h (rowS n w i) (N j) = some (.str [w i j]) := by
  unfold rowS
  rw [idxN_str (by simpa using hn), List.getElem?_map, List.getElem?_range hj]
  rfl
end
end Mini
end
section
set_option Elab.async false
set_option linter.all false
set_option autoImplicit false
set_option maxRecDepth 100000
/-! MiniY: loops that look and perhaps return. -/
namespace Mini
mutual
def quietS (Γ : Prog) : MS → Bool
  | .expr e => pureME Γ e
  | .ite c a b => pureME Γ c && (quietSs Γ a && quietSs Γ b)
  | .ret e => pureME Γ e
  | .retN => true
  | .pass => true
  | .brk => true
  | .cont => true
  | .never => true
  | .raise0 _ => true
  | .raise1 _ e => pureME Γ e
  | .try_ _ _ => false
  | .asg _ _ => false
  | .asgs _ _ => false
  | .unp _ _ => false
  | .par _ _ => false
  | .aug _ _ _ => false
  | .augIx _ _ _ _ => false
  | .for_ _ _ _ => false
  | .while_ _ _ => false
def quietSs (Γ : Prog) : MSs → Bool
  | .nil => true
  | .cons s ss => quietS Γ s && quietSs Γ ss
end
/-- goes on as it began, or ends -/
def Quiet (r : R Fl) (σ : Sl) (h : Hh) : Prop := ∀ f h', r = .ok f h' → h' = h ∧ match f with
  | .nx σ' => σ' = σ
  | .ct σ' => σ' = σ
  | .bk σ' => σ' = σ
  | .rt _ => True
theorem quiet_bad (σ : Sl) (h : Hh) : Quiet .bad σ h := fun _ _ e => by cases e
theorem quiet_bind {α : Type} {r : R α} {σ : Sl} {h : Hh} {f : α → Hh → R Fl} (a : Keeps r h) (b : ∀ v, Quiet (f v h) σ h) : Quiet (r.bind f) σ h := by
  intro v h' e
  cases r with
  | ok x h1 =>
    have := a x h1 rfl
    subst this
    exact b x v h' e
  | exc c fs h1 => cases e
  | bad => cases e
section
variable (Γ : Prog) (k : Nat)
mutual
theorem quiet_S : ∀ (s : MS) (σ : Sl) (h : Hh), quietS Γ s = true → Quiet (evalS (callN Γ k) s σ h) σ h
  | .expr e, σ, h, p => by
    rw [evalS]
    exact quiet_bind (keeps_E Γ k e σ h p) fun _ => fun f h' e => by cases e; exact ⟨rfl, rfl⟩
  | .ite c a b, σ, h, p => by
    rw [evalS]
    refine quiet_bind (keeps_bind (keeps_E Γ k c σ h (and3 p).1) fun _ => keeps_of _ h) fun b => ?_
    split
    · exact quiet_Ss a σ h (and3 (and3 p).2).1
    · exact quiet_Ss _ σ h (and3 (and3 p).2).2
  | .ret e, σ, h, p => by
    rw [evalS]
    exact quiet_bind (keeps_E Γ k e σ h p) fun _ => fun f h' e => by cases e; exact ⟨rfl, trivial⟩
  | .retN, σ, h, _ => by rw [evalS]; exact fun f h' e => by cases e; exact ⟨rfl, trivial⟩
  | .pass, σ, h, _ => by rw [evalS]; exact fun f h' e => by cases e; exact ⟨rfl, rfl⟩
  | .brk, σ, h, _ => by rw [evalS]; exact fun f h' e => by cases e; exact ⟨rfl, rfl⟩
  | .cont, σ, h, _ => by rw [evalS]; exact fun f h' e => by cases e; exact ⟨rfl, rfl⟩
  | .never, σ, h, _ => by rw [evalS]; exact quiet_bad σ h
  | .raise0 c, σ, h, _ => by rw [evalS]; exact fun _ _ e => by cases e
  | .raise1 c e, σ, h, p => by rw [evalS]; exact quiet_bind (keeps_E Γ k e σ h p) fun _ => fun _ _ e => by cases e
theorem quiet_Ss : ∀ (ss : MSs) (σ : Sl) (h : Hh), quietSs Γ ss = true → Quiet (evalSs (callN Γ k) ss σ h) σ h
  | .nil, σ, h, _ => by rw [evalSs]; exact fun f h' e => by cases e; exact ⟨rfl, rfl⟩
  | .cons s ss, σ, h, p => by
    rw [evalSs]
    have q := quiet_S s σ h (and3 p).1
    cases hs : evalS (callN Γ k) s σ h with
    | bad => exact quiet_bad σ h
    | exc a b c => exact fun _ _ e => by cases e
    | ok f h1 =>
      obtain ⟨e1, e2⟩ := q f h1 hs
      subst e1
      rw [R.bind_ok]
      cases f with
      | nx σ' =>
        have e2 : σ' = σ := e2
        subst e2
        exact quiet_Ss ss σ' h1 (and3 p).2
      | rt d => exact fun f h' e => by cases e; exact ⟨rfl, trivial⟩
      | bk s => exact fun f h' e => by cases e; exact ⟨rfl, e2⟩
      | ct s => exact fun f h' e => by cases e; exact ⟨rfl, e2⟩
end
end
/-- what the target's places hold behind a loop -/
def setTg (t : Tg) (h : Hh) (σ : Sl) (d : D) : Sl := (bindTg t d σ h).getD σ
def lastTg (t : Tg) (h : Hh) (σ : Sl) (xs : List D) : Sl := match xs.getLast? with
  | some d => setTg t h σ d
  | none => σ
/-- how a turn ends the loop -/
def outOf : R Fl → Option (R Fl)
  | .ok (.nx _) _ => none
  | .ok (.ct _) _ => none
  | .ok (.bk σ) h => some (.ok (.nx σ) h)
  | .ok (.rt d) h => some (.ok (.rt d) h)
  | .exc c fs h => some (.exc c fs h)
  | .bad => some .bad
@[simp] theorem outOf_nx (σ : Sl) (h : Hh) : outOf (.ok (.nx σ) h) = none := rfl
@[simp] theorem outOf_ct (σ : Sl) (h : Hh) : outOf (.ok (.ct σ) h) = none := rfl
@[simp] theorem outOf_bk (σ : Sl) (h : Hh) : outOf (.ok (.bk σ) h) = some (.ok (.nx σ) h) := rfl
@[simp] theorem outOf_rt (d : D) (h : Hh) : outOf (.ok (.rt d) h) = some (.ok (.rt d) h) := rfl
@[simp] theorem outOf_ite {p : Prop} [Decidable p] (x y : R Fl) : outOf (if p then x else y) = if p then outOf x else outOf y := by split <;> rfl
def forQ (F : D → R Fl) (z : R Fl) (xs : List D) : R Fl := (xs.findSome? fun y => outOf (F y)).getD z
theorem bind_set {i : Nat} {d d' : D} {σ : Sl} {h : Hh} : bindTg (.var i) d (setTg (.var i) h σ d') h = bindTg (.var i) d σ h := by
  simp [setTg, bindTg]
theorem forL_Q {Γ : Prog} {k : Nat} {i : Nat} {live : List (Nat × Nat)} {b : MSs} {h : Hh} (pb : quietSs Γ b = true) (hl : liveOk h live = true) :
    ∀ (xs : List D) (its : List It1) (σ : Sl), optAll (It1.get h) its = some xs →
    forL (.var i) live (evalSs (callN Γ k) b) its σ h = forQ (fun y => evalSs (callN Γ k) b (σ.set i (some y)) h) (.ok (.nx (lastTg (.var i) h σ xs)) h) xs
  | [], its, σ, hr => by
    cases its with
    | nil => unfold forL; rw [if_pos hl]; rfl
    | cons x xs =>
      unfold optAll at hr
      split at hr
      · split at hr <;> simp at hr
      · cases hr
  | y :: ys, its, σ, hr => by
    cases its with
    | nil => simp [optAll] at hr
    | cons x xs =>
      unfold optAll at hr
      split at hr
      · rename_i d hd
        split at hr
        · rename_i ds hds
          have e1 : d = y := (List.cons.inj (Option.some.inj hr)).1
          have e2 : ds = ys := (List.cons.inj (Option.some.inj hr)).2
          subst e1
          subst e2
          have ih := forL_Q (k := k) (i := i) pb hl ds xs (σ.set i (some d)) hds
          have e3 : (fun y => evalSs (callN Γ k) b ((σ.set i (some d)).set i (some y)) h) = fun y => evalSs (callN Γ k) b (σ.set i (some y)) h := by
            funext y
            rw [List.set_set]
          rw [e3] at ih
          have e4 : lastTg (.var i) h (σ.set i (some d)) ds = lastTg (.var i) h σ (d :: ds) := by
            unfold lastTg
            cases hg : ds.getLast? with
            | none =>
              have : ds = [] := by simpa using hg
              subst this
              rfl
            | some z =>
              rw [List.getLast?_cons]
              rw [hg]
              simp [setTg, bindTg]
          rw [e4] at ih
          unfold forL
          rw [hd]
          show (evalSs (callN Γ k) b (σ.set i (some d)) h).bind _ = _
          unfold forQ at ih ⊢
          dsimp only at ih ⊢
          rw [List.findSome?_cons]
          have q := quiet_Ss Γ k b (σ.set i (some d)) h pb
          cases hs : evalSs (callN Γ k) b (σ.set i (some d)) h with
          | bad => rfl
          | exc a b c => rfl
          | ok f h1 =>
            obtain ⟨e5, e6⟩ := q f h1 hs
            subst e5
            rw [R.bind_ok]
            cases f with
            | nx σ' =>
              have e6 : σ' = _ := e6
              subst e6
              dsimp only [outOf]
              exact ih
            | rt d => rfl
            | bk s => rfl
            | ct σ' =>
              have e6 : σ' = _ := e6
              subst e6
              dsimp only [outOf]
              exact ih
        · cases hr
      · cases hr
theorem quiet_tg {is : List Nat} {d d' : D} {σ σ' : Sl} {h : Hh} : bindTg (.vars is) d' σ h = some σ' → bindTg (.vars is) d σ' h = bindTg (.vars is) d σ h ∨ True := fun _ => .inr trivial
section
variable {Γ : Prog} {k : Nat} {i : Nat} {b : MSs} {σ : Sl} {h : Hh}
theorem for_v (xs : List D) (pb : quietSs Γ b = true) : forL (.var i) [] (evalSs (callN Γ k) b) (xs.map .v) σ h = forQ (fun y => evalSs (callN Γ k) b (σ.set i (some y)) h) (.ok (.nx (lastTg (.var i) h σ xs)) h) xs :=
  forL_Q pb rfl xs _ σ (all_v h xs)
end
theorem pair_set {i j : Nat} {a b a' b' : D} {σ : Sl} (h : Hh) (hij : i ≠ j) : ((((σ.set i (some a)).set j (some b)).set i (some a')).set j (some b')) = (σ.set i (some a')).set j (some b') := by
  rw [List.set_comm (some b) (some a') (fun e => hij e.symm), List.set_set, List.set_set]
/-- pairs: the target is two names -/
theorem forL_Q2 {Γ : Prog} {k : Nat} {i j : Nat} {live : List (Nat × Nat)} {b : MSs} {h : Hh} (hij : i ≠ j) (pb : quietSs Γ b = true) (hl : liveOk h live = true) :
    ∀ (xs : List (D × D)) (its : List It1) (σ : Sl), optAll (It1.get h) its = some (xs.map fun p => .tup [p.1, p.2]) →
    forL (.vars [i, j]) live (evalSs (callN Γ k) b) its σ h = (xs.findSome? fun y => outOf (evalSs (callN Γ k) b ((σ.set i (some y.1)).set j (some y.2)) h)).getD (.ok (.nx (match xs.getLast? with
      | some y => (σ.set i (some y.1)).set j (some y.2)
      | none => σ)) h)
  | [], its, σ, hr => by
    cases its with
    | nil => unfold forL; rw [if_pos hl]; rfl
    | cons x xs =>
      unfold optAll at hr
      split at hr
      · split at hr <;> simp at hr
      · cases hr
  | y :: ys, its, σ, hr => by
    cases its with
    | nil => simp [optAll] at hr
    | cons x xs =>
      unfold optAll at hr
      split at hr
      · rename_i d hd
        split at hr
        · rename_i ds hds
          have e1 : d = .tup [y.1, y.2] := (List.cons.inj (Option.some.inj hr)).1
          have e2 : ds = ys.map fun p => .tup [p.1, p.2] := (List.cons.inj (Option.some.inj hr)).2
          subst e1
          subst e2
          have ih := forL_Q2 (k := k) (i := i) hij pb hl ys xs ((σ.set i (some y.1)).set j (some y.2)) hds
          have e3 : (fun z : D × D => outOf (evalSs (callN Γ k) b ((((σ.set i (some y.1)).set j (some y.2)).set i (some z.1)).set j (some z.2)) h)) = fun z => outOf (evalSs (callN Γ k) b ((σ.set i (some z.1)).set j (some z.2)) h) := by
            funext z
            rw [pair_set h hij]
          rw [e3] at ih
          have e4 : (match ys.getLast? with
              | some z => ((((σ.set i (some y.1)).set j (some y.2)).set i (some z.1)).set j (some z.2))
              | none => ((σ.set i (some y.1)).set j (some y.2))) = match (y :: ys).getLast? with
              | some y => (σ.set i (some y.1)).set j (some y.2)
              | none => σ := by
            cases hg : ys.getLast? with
            | none =>
              have : ys = [] := by simpa using hg
              subst this
              rfl
            | some z =>
              rw [List.getLast?_cons]
              rw [hg]
              dsimp only [Option.getD_some]
              rw [pair_set h hij]
          rw [e4] at ih
          unfold forL
          rw [hd]
          show (evalSs (callN Γ k) b ((σ.set i (some y.1)).set j (some y.2)) h).bind _ = _
          rw [List.findSome?_cons]
          have q := quiet_Ss Γ k b ((σ.set i (some y.1)).set j (some y.2)) h pb
          cases hs : evalSs (callN Γ k) b ((σ.set i (some y.1)).set j (some y.2)) h with
          | bad => rfl
          | exc a b c => rfl
          | ok f h1 =>
            obtain ⟨e5, e6⟩ := q f h1 hs
            subst e5
            rw [R.bind_ok]
            cases f with
            | nx σ' =>
              have e6 : σ' = _ := e6
              subst e6
              dsimp only [outOf]
              exact ih
            | rt d => rfl
            | bk s => rfl
            | ct σ' =>
              have e6 : σ' = _ := e6
              subst e6
              dsimp only [outOf]
              exact ih
        · cases hr
      · cases hr
/-! what findSome? finds -/
section
variable {α β : Type} {xs : List α}
@[simp] theorem find_const (p : α → Prop) [DecidablePred p] (c : β) : xs.findSome? (fun y => if p y then some c else none) = if (∃ y ∈ xs, p y) then some c else none := by
  induction xs with
  | nil => simp
  | cons x xs ih =>
    rw [List.findSome?_cons]
    by_cases h : p x
    · simp [h]
    · simp [h, ih]
@[simp] theorem find_none : xs.findSome? (fun _ => (none : Option β)) = none := by simp
theorem ite_same3 {γ : Type} (p q r : Prop) [Decidable p] [Decidable q] [Decidable r] (x y : γ) : (if p then (if q then x else y) else (if r then x else y)) = if (p ∧ q ∨ ¬ p ∧ r) then x else y := by
  by_cases hp : p <;> by_cases hq : q <;> by_cases hr : r <;> simp [hp, hq, hr]
theorem ite_or {γ : Type} (p q : Prop) [Decidable p] [Decidable q] (x y : γ) : (if p then x else if q then x else y) = if p ∨ q then x else y := by
  by_cases hp : p <;> by_cases hq : q <;> simp [hp, hq]
theorem ite_and' {γ : Type} (p q : Prop) [Decidable p] [Decidable q] (x y : γ) : (if p then (if q then x else y) else y) = if p ∧ q then x else y := by
  by_cases hp : p <;> by_cases hq : q <;> simp [hp, hq]
end
/-- a loop over mapped items -/
def forQm {α : Type} (F : α → R Fl) (z : R Fl) (xs : List α) : R Fl := (xs.findSome? fun y => outOf (F y)).getD z
theorem forQ_map {α : Type} (F : D → R Fl) (z : R Fl) (g : α → D) (xs : List α) : forQ F z (xs.map g) = forQm (fun y => F (g y)) z xs := by
  unfold forQ forQm
  rw [List.findSome?_map]
  rfl
theorem forQm_congr {α : Type} {F F' : α → R Fl} {z : R Fl} {xs : List α} (hF : ∀ y ∈ xs, F y = F' y) : forQm F z xs = forQm F' z xs := by
  unfold forQm
  congr 1
  induction xs with
  | nil => rfl
  | cons x xs ih =>
    rw [List.findSome?_cons, List.findSome?_cons, hF x List.mem_cons_self, ih fun y hy => hF y (List.mem_cons_of_mem _ hy)]
section
variable {α : Type} {z : R Fl} {xs : List α} {h : Hh} {s : α → Sl}
theorem forQm_some (F : α → R Fl) {o : α → Option (R Fl)} (hF : ∀ y ∈ xs, outOf (F y) = o y) : forQm F z xs = (xs.findSome? o).getD z := by
  unfold forQm
  congr 1
  induction xs with
  | nil => rfl
  | cons x xs ih => rw [List.findSome?_cons, List.findSome?_cons, hF x List.mem_cons_self, ih fun y hy => hF y (List.mem_cons_of_mem _ hy)]
theorem forQm_1 (p : α → Prop) [DecidablePred p] (d : D) : forQm (fun y => if p y then .ok (.rt d) h else .ok (.nx (s y)) h) z xs = if (∃ y ∈ xs, p y) then .ok (.rt d) h else z := by
  rw [forQm_some (o := fun y => if p y then some (.ok (.rt d) h) else none) _ (fun y _ => by split <;> rfl), find_const]
  split <;> rfl
theorem forQm_1' (p : α → Prop) [DecidablePred p] (d : D) : forQm (fun y => if p y then .ok (.nx (s y)) h else .ok (.rt d) h) z xs = if (∃ y ∈ xs, ¬ p y) then .ok (.rt d) h else z := by
  rw [forQm_some (o := fun y => if ¬ p y then some (.ok (.rt d) h) else none) _ (fun y _ => by by_cases hp : p y <;> simp [hp]), find_const]
  split <;> rfl
/-- the first for which p holds -/
theorem forQm_2 (p : α → Prop) [DecidablePred p] (d : α → D) : forQm (fun y => if p y then .ok (.rt (d y)) h else .ok (.nx (s y)) h) z xs = (match xs.find? (fun y => decide (p y)) with
    | some y => .ok (.rt (d y)) h
    | none => z) := by
  rw [forQm_some (o := fun y => if p y then some (.ok (.rt (d y)) h) else none) _ (fun y _ => by split <;> rfl)]
  induction xs with
  | nil => rfl
  | cons x xs ih =>
    rw [List.findSome?_cons, List.find?_cons]
    by_cases hp : p x
    · simp [hp]
    · simp only [hp, if_false, decide_false]
      exact ih
end
@[simp] theorem last_cons {i : Nat} {a : Option D} {σ : Sl} {h : Hh} {xs : List D} : lastTg (.var (i + 1)) h (a :: σ) xs = a :: lastTg (.var i) h σ xs := by
  unfold lastTg
  cases xs.getLast? <;> rfl
def lastO (a : Option D) (xs : List D) : Option D := match xs.getLast? with
  | some d => some d
  | none => a
@[simp] theorem last_zero {a : Option D} {σ : Sl} {h : Hh} {xs : List D} : lastTg (.var 0) h (a :: σ) xs = lastO a xs :: σ := by
  unfold lastTg lastO
  cases xs.getLast? <;> rfl
/-- over pairs -/
def last2 (i j : Nat) (σ : Sl) (xs : List (D × D)) : Sl := match xs.getLast? with
      | some y => (σ.set i (some y.1)).set j (some y.2)
      | none => σ
@[simp] theorem last2_cons {i j : Nat} {a : Option D} {σ : Sl} {xs : List (D × D)} : last2 (i + 1) (j + 1) (a :: σ) xs = a :: last2 i j σ xs := by
  unfold last2
  cases xs.getLast? <;> rfl
def lastA (f : D × D → D) (a : Option D) (xs : List (D × D)) : Option D := match xs.getLast? with
  | some d => some (f d)
  | none => a
@[simp] theorem last2_01 {a b : Option D} {σ : Sl} {xs : List (D × D)} : last2 0 1 (a :: b :: σ) xs = lastA Prod.fst a xs :: lastA Prod.snd b xs :: σ := by
  unfold last2 lastA
  cases xs.getLast? <;> rfl
theorem enum_pairs (xs : List D) (n : Nat) : enumD n xs = ((xs.zipIdx n).map fun p => (N p.2, p.1)).map fun p => .tup [p.1, p.2] := by
  rw [List.map_map]
  have := enumD_map (fun x => x) xs n
  rw [List.map_id'] at this
  rw [this]
  rfl
theorem forL_pairs {Γ : Prog} {k : Nat} {i j : Nat} {its : List It1} {b : MSs} {σ : Sl} {h : Hh} {α : Type} (ys : List α) (f g : α → D) (hij : i ≠ j) (pb : quietSs Γ b = true) (e : optAll (It1.get h) its = some (ys.map fun y => .tup [f y, g y])) :
    forL (.vars [i, j]) [] (evalSs (callN Γ k) b) its σ h = forQm (fun y => evalSs (callN Γ k) b ((σ.set i (some (f y))).set j (some (g y))) h) (.ok (.nx (last2 i j σ (ys.map fun y => (f y, g y)))) h) ys := by
  have e' : optAll (It1.get h) its = some ((ys.map fun y => (f y, g y)).map fun p => .tup [p.1, p.2]) := by
    rw [e, List.map_map]
    rfl
  have := forL_Q2 (k := k) (live := []) hij pb rfl _ _ σ e'
  rw [List.findSome?_map] at this
  exact this
theorem for_enum_range {Γ : Prog} {k : Nat} {i j n : Nat} {b : MSs} {σ : Sl} {h : Hh} (g : Nat → D) (hij : i ≠ j) (pb : quietSs Γ b = true) : forL (.vars [i, j]) [] (evalSs (callN Γ k) b) (enumIts 0 (((List.range n).map g).map .v)) σ h = forQm (fun y => evalSs (callN Γ k) b ((σ.set i (some (N y))).set j (some (g y))) h) (.ok (.nx (last2 i j σ ((List.range n).map fun y => (N y, g y)))) h) (List.range n) :=
  forL_pairs (List.range n) N g hij pb (by rw [all_enum, enumD_range])
theorem for_enum {Γ : Prog} {k : Nat} {i j n : Nat} {b : MSs} {σ : Sl} {h : Hh} {α : Type} (g : α → D) (xs : List α) (hij : i ≠ j) (pb : quietSs Γ b = true) : forL (.vars [i, j]) [] (evalSs (callN Γ k) b) (enumIts n ((xs.map g).map .v)) σ h = forQm (fun y => evalSs (callN Γ k) b ((σ.set i (some (N y.2))).set j (some (g y.1))) h) (.ok (.nx (last2 i j σ ((xs.zipIdx n).map fun y => (N y.2, g y.1)))) h) (xs.zipIdx n) :=
  forL_pairs (xs.zipIdx n) (fun y => N y.2) (fun y => g y.1) hij pb (by rw [all_enum, enumD_map])
theorem for_zip {Γ : Prog} {k : Nat} {i j : Nat} {b : MSs} {σ : Sl} {h : Hh} {α β : Type} (f : α → D) (g : β → D) (xs : List α) (ys : List β) (hij : i ≠ j) (pb : quietSs Γ b = true) : forL (.vars [i, j]) [] (evalSs (callN Γ k) b) (zipIts ((xs.map f).map .v) ((ys.map g).map .v)) σ h = forQm (fun y => evalSs (callN Γ k) b ((σ.set i (some (f y.1))).set j (some (g y.2))) h) (.ok (.nx (last2 i j σ ((xs.zip ys).map fun y => (f y.1, g y.2)))) h) (xs.zip ys) :=
  forL_pairs (xs.zip ys) (fun y => f y.1) (fun y => g y.2) hij pb (by rw [all_zip, zipDD_map])
end Mini
end
section
set_option Elab.async false
set_option linter.all false
set_option autoImplicit false
set_option maxRecDepth 100000
/-! MiniM: places that nothing reads. -/
namespace Mini
/-- τ holds at least what σ holds -/
def Le (σ τ : Sl) : Prop := σ.length = τ.length ∧ ∀ (i : Nat) (d : D), σ[i]? = some (some d) → τ[i]? = some (some d)
theorem Le.refl (σ : Sl) : Le σ σ := ⟨rfl, fun _ _ h => h⟩
theorem Le.set {σ τ : Sl} (l : Le σ τ) (i : Nat) (d : Option D) : Le (σ.set i d) (τ.set i d) := by
  refine ⟨by simp [l.1], fun j e h => ?_⟩
  rw [List.getElem?_set] at h ⊢
  by_cases hij : i = j
  · subst hij
    rw [if_pos rfl] at h ⊢
    rw [← l.1]
    exact h
  · rw [if_neg hij] at h ⊢
    exact l.2 j e h
theorem Le.wipe {σ τ : Sl} (l : Le σ τ) : ∀ own : List Nat, Le (wipe σ own) (wipe τ own)
  | [] => l
  | v :: vs => (Le.wipe l vs).set v none
theorem Le.foldl {σ τ : Sl} (ps : List (Nat × D)) : Le σ τ → Le (ps.foldl (fun σ p => σ.set p.1 (some p.2)) σ) (ps.foldl (fun σ p => σ.set p.1 (some p.2)) τ) := by
  induction ps generalizing σ τ with
  | nil => exact id
  | cons p ps ih => exact fun l => ih (l.set _ _)
theorem Le.bind {σ τ σ' : Sl} {t : Tg} {d : D} {h : Hh} (l : Le σ τ) (e : bindTg t d σ h = some σ') : ∃ τ', bindTg t d τ h = some τ' ∧ Le σ' τ' := by
  cases t with
  | var i =>
    have e : some _ = some σ' := e
    injection e with e
    subst e
    exact ⟨_, rfl, l.set _ _⟩
  | vars is =>
    unfold bindTg at e ⊢
    dsimp only at e ⊢
    split at e
    · split at e
      · rename_i xs hx hl
        rw [if_pos hl]
        injection e with e
        subst e
        exact ⟨_, rfl, Le.foldl _ l⟩
      · cases e
    · cases e
theorem Le.none {σ τ : Sl} {t : Tg} {d : D} {h : Hh} (l : Le σ τ) (e : bindTg t d σ h = none) : bindTg t d τ h = none := by
  cases t with
  | var i => cases e
  | vars is =>
    unfold bindTg at e ⊢
    dsimp only at e ⊢
    split at e
    · split at e
      · cases e
      · rename_i hl
        rw [if_neg hl]
    · rfl
def LR {α : Type} (r r' : R α) : Prop := r = .bad ∨ r = r'
theorem LR.refl {α : Type} (r : R α) : LR r r := .inr rfl
theorem LR.bad {α : Type} (r : R α) : LR .bad r := .inl rfl
theorem LR.bind {α β : Type} {r r' : R α} {f f' : α → Hh → R β} (a : LR r r') (b : ∀ x h, LR (f x h) (f' x h)) : LR (r.bind f) (r'.bind f') := by
  rcases a with rfl | rfl
  · exact .inl rfl
  · cases r with
    | ok x h => exact b x h
    | exc c fs h => exact .inr rfl
    | bad => exact .inl rfl
theorem LR.comp {t : Tg} {own : List Nat} {live : List (Nat × Nat)} {c c' : Sl → Hh → R Bool} {e e' : Sl → Hh → R D} : ∀ (its : List It1) (σ τ : Sl) (h : Hh), Le σ τ → (∀ σ τ h, Le σ τ → LR (c σ h) (c' τ h)) → (∀ σ τ h, Le σ τ → LR (e σ h) (e' τ h)) → LR (compL t own live c e its σ h) (compL t own live c' e' its τ h)
  | [], σ, τ, h, l, _, _ => by unfold compL; exact .inr rfl
  | x :: xs, σ, τ, h, l, hc, he => by
    unfold compL
    split
    · rename_i d _
      cases hb : bindTg t d (wipe σ own) h with
      | none => exact .inl rfl
      | some σ' =>
        obtain ⟨τ', e1, l'⟩ := (l.wipe own).bind hb
        rw [e1]
        dsimp only
        refine LR.bind (hc _ _ _ l') fun b h2 => ?_
        split
        · exact LR.bind (he _ _ _ l') fun y h3 => LR.bind (LR.comp xs σ τ h3 l hc he) fun ys h4 => .inr rfl
        · exact LR.comp xs σ τ h2 l hc he
    · exact .inl rfl
section
variable (C : Oracle)
mutual
theorem mono_E : ∀ (e : ME) (σ τ : Sl) (h : Hh), Le σ τ → LR (evalE C e σ h) (evalE C e τ h)
  | .var i, σ, τ, h, l => by
    rw [evalE, evalE]
    split
    · rename_i d hd
      rw [l.2 i d hd]
      exact .inr rfl
    · exact .inl rfl
  | .cst d, σ, τ, h, l => by rw [evalE, evalE]; exact .inr rfl
  | .glb x d, σ, τ, h, l => by rw [evalE, evalE]; exact .inr rfl
  | .tup es, σ, τ, h, l => by rw [evalE, evalE]; exact (mono_Es es σ τ h l).bind fun _ _ => .inr rfl
  | .lst es, σ, τ, h, l => by rw [evalE, evalE]; exact (mono_Es es σ τ h l).bind fun _ _ => .inr rfl
  | .new e, σ, τ, h, l => by rw [evalE, evalE]; exact (mono_E e σ τ h l).bind fun _ _ => .inr rfl
  | .newK, σ, τ, h, l => by rw [evalE, evalE]; exact .inr rfl
  | .newT, σ, τ, h, l => by rw [evalE, evalE]; exact .inr rfl
  | .bin op a b, σ, τ, h, l => by rw [evalE, evalE]; exact (mono_E a σ τ h l).bind fun _ h => (mono_E b σ τ h l).bind fun _ _ => .inr rfl
  | .neg a, σ, τ, h, l => by rw [evalE, evalE]; exact (mono_E a σ τ h l).bind fun _ _ => .inr rfl
  | .cmp op a b, σ, τ, h, l => by rw [evalE, evalE]; exact (mono_E a σ τ h l).bind fun _ h => (mono_E b σ τ h l).bind fun _ _ => .inr rfl
  | .chain op op' a b c, σ, τ, h, l => by
    rw [evalE, evalE]
    refine (mono_E a σ τ h l).bind fun _ h => (mono_E b σ τ h l).bind fun _ h => LR.bind (.inr rfl) fun k h => ?_
    split
    · exact (mono_E c σ τ h l).bind fun _ _ => .inr rfl
    · exact .inr rfl
  | .and es, σ, τ, h, l => by rw [evalE, evalE]; exact mono_And es σ τ h l
  | .or es, σ, τ, h, l => by rw [evalE, evalE]; exact mono_Or es σ τ h l
  | .not a, σ, τ, h, l => by
    rw [evalE, evalE]
    exact LR.bind ((mono_E a σ τ h l).bind fun _ _ => .inr rfl) fun _ _ => .inr rfl
  | .ite c a b, σ, τ, h, l => by
    rw [evalE, evalE]
    refine LR.bind ((mono_E c σ τ h l).bind fun _ _ => .inr rfl) fun k h => ?_
    split
    · exact mono_E a σ τ h l
    · exact mono_E b σ τ h l
  | .idx a i, σ, τ, h, l => by rw [evalE, evalE]; exact (mono_E a σ τ h l).bind fun _ h => (mono_E i σ τ h l).bind fun _ _ => .inr rfl
  | .slice a lo hi, σ, τ, h, l => by
    rw [evalE, evalE]
    exact (mono_E a σ τ h l).bind fun _ h => (mono_O lo σ τ h l).bind fun _ h => (mono_O hi σ τ h l).bind fun _ _ => .inr rfl
  | .rev a, σ, τ, h, l => by rw [evalE, evalE]; exact (mono_E a σ τ h l).bind fun _ _ => .inr rfl
  | .lc own t it c e, σ, τ, h, l => by
    rw [evalE, evalE]
    exact (mono_I it σ τ h l).bind fun its h => LR.bind (LR.comp its.its σ τ h l (fun σ τ h l => mono_C c σ τ h l) (fun σ τ h l => mono_E e σ τ h l)) fun _ _ => .inr rfl
  | .rgl a, σ, τ, h, l => by rw [evalE, evalE]; exact (mono_E a σ τ h l).bind fun _ _ => .inr rfl
  | .rgl2 a b, σ, τ, h, l => by rw [evalE, evalE]; exact (mono_E a σ τ h l).bind fun _ h => (mono_E b σ τ h l).bind fun _ _ => .inr rfl
  | .rgt a, σ, τ, h, l => by rw [evalE, evalE]; exact (mono_E a σ τ h l).bind fun _ _ => .inr rfl
  | .rgt2 a b, σ, τ, h, l => by rw [evalE, evalE]; exact (mono_E a σ τ h l).bind fun _ h => (mono_E b σ τ h l).bind fun _ _ => .inr rfl
  | .isi a ts, σ, τ, h, l => by rw [evalE, evalE]; exact (mono_E a σ τ h l).bind fun _ _ => .inr rfl
  | .bi f a, σ, τ, h, l => by rw [evalE, evalE]; exact (mono_E a σ τ h l).bind fun _ _ => .inr rfl
  | .bi2 f a b, σ, τ, h, l => by rw [evalE, evalE]; exact (mono_E a σ τ h l).bind fun _ h => (mono_E b σ τ h l).bind fun _ _ => .inr rfl
  | .meth m o as, σ, τ, h, l => by rw [evalE, evalE]; exact (mono_E o σ τ h l).bind fun _ h => (mono_Es as σ τ h l).bind fun _ _ => .inr rfl
  | .mut m o as, σ, τ, h, l => by
    rw [evalE, evalE]
    refine (mono_E o σ τ h l).bind fun _ h => ?_
    split
    · exact (mono_Es as σ τ h l).bind fun _ _ => .inr rfl
    · exact .inl rfl
  | .call f as, σ, τ, h, l => by rw [evalE, evalE]; exact (mono_Es as σ τ h l).bind fun _ _ => .inr rfl
  | .bad, σ, τ, h, l => by rw [evalE, evalE]; exact .inl rfl
theorem mono_Es : ∀ (es : MEs) (σ τ : Sl) (h : Hh), Le σ τ → LR (evalEs C es σ h) (evalEs C es τ h)
  | .nil, σ, τ, h, l => by rw [evalEs, evalEs]; exact .inr rfl
  | .cons e es, σ, τ, h, l => by rw [evalEs, evalEs]; exact (mono_E e σ τ h l).bind fun _ h => (mono_Es es σ τ h l).bind fun _ _ => .inr rfl
theorem mono_And : ∀ (es : MEs) (σ τ : Sl) (h : Hh), Le σ τ → LR (evalAnd C es σ h) (evalAnd C es τ h)
  | .nil, σ, τ, h, l => by rw [evalAnd, evalAnd]; exact .inl rfl
  | .cons e .nil, σ, τ, h, l => by rw [evalAnd, evalAnd]; exact mono_E e σ τ h l
  | .cons e (.cons e' es), σ, τ, h, l => by
    rw [evalAnd, evalAnd]
    refine (mono_E e σ τ h l).bind fun _ h => LR.bind (.inr rfl) fun b h => ?_
    split
    · exact mono_And _ σ τ h l
    · exact .inr rfl
theorem mono_Or : ∀ (es : MEs) (σ τ : Sl) (h : Hh), Le σ τ → LR (evalOr C es σ h) (evalOr C es τ h)
  | .nil, σ, τ, h, l => by rw [evalOr, evalOr]; exact .inl rfl
  | .cons e .nil, σ, τ, h, l => by rw [evalOr, evalOr]; exact mono_E e σ τ h l
  | .cons e (.cons e' es), σ, τ, h, l => by
    rw [evalOr, evalOr]
    refine (mono_E e σ τ h l).bind fun _ h => LR.bind (.inr rfl) fun b h => ?_
    split
    · exact .inr rfl
    · exact mono_Or _ σ τ h l
theorem mono_O : ∀ (o : MO) (σ τ : Sl) (h : Hh), Le σ τ → LR (evalO C o σ h) (evalO C o τ h)
  | .none, σ, τ, h, l => by rw [evalO, evalO]; exact .inr rfl
  | .some e, σ, τ, h, l => by rw [evalO, evalO]; exact (mono_E e σ τ h l).bind fun _ _ => .inr rfl
theorem mono_C : ∀ (o : MO) (σ τ : Sl) (h : Hh), Le σ τ → LR (evalC C o σ h) (evalC C o τ h)
  | .none, σ, τ, h, l => by rw [evalC, evalC]; exact .inr rfl
  | .some e, σ, τ, h, l => by rw [evalC, evalC]; exact (mono_E e σ τ h l).bind fun _ _ => .inr rfl
theorem mono_I : ∀ (it : MI) (σ τ : Sl) (h : Hh), Le σ τ → LR (evalI C it σ h) (evalI C it τ h)
  | .seq e, σ, τ, h, l => by rw [evalI, evalI]; exact (mono_E e σ τ h l).bind fun _ _ => .inr rfl
  | .rng1 a, σ, τ, h, l => by rw [evalI, evalI]; exact (mono_E a σ τ h l).bind fun _ _ => .inr rfl
  | .rng2 a b, σ, τ, h, l => by rw [evalI, evalI]; exact (mono_E a σ τ h l).bind fun _ h => (mono_E b σ τ h l).bind fun _ _ => .inr rfl
  | .enum e, σ, τ, h, l => by rw [evalI, evalI]; exact (mono_E e σ τ h l).bind fun _ _ => .inr rfl
  | .zip a b, σ, τ, h, l => by rw [evalI, evalI]; exact (mono_E a σ τ h l).bind fun _ h => (mono_E b σ τ h l).bind fun _ _ => .inr rfl
  | .rev e, σ, τ, h, l => by rw [evalI, evalI]; exact (mono_E e σ τ h l).bind fun _ _ => .inr rfl
  | .revr a, σ, τ, h, l => by rw [evalI, evalI]; exact (mono_E a σ τ h l).bind fun _ _ => .inr rfl
end
end
/-- .. of ends of statements -/
def LF : Fl → Fl → Prop
  | .nx σ, .nx τ => Le σ τ
  | .bk σ, .bk τ => Le σ τ
  | .ct σ, .ct τ => Le σ τ
  | .rt d, .rt e => d = e
  | _, _ => False
def LS (r r' : R Fl) : Prop := match r, r' with
  | .bad, _ => True
  | .ok f h, .ok f' h' => h = h' ∧ LF f f'
  | .exc c fs h, .exc c' fs' h' => c = c' ∧ fs = fs' ∧ h = h'
  | _, _ => False
theorem LS.bad (r : R Fl) : LS .bad r := by cases r <;> exact True.intro
theorem LS.bindE {α : Type} {r r' : R α} {f f' : α → Hh → R Fl} (a : LR r r') (b : ∀ x h, LS (f x h) (f' x h)) : LS (r.bind f) (r'.bind f') := by
  rcases a with rfl | rfl
  · exact LS.bad _
  · cases r with
    | ok x h => exact b x h
    | exc c fs h => exact ⟨rfl, rfl, rfl⟩
    | bad => exact LS.bad _
theorem LS.bind {r r' : R Fl} {f f' : Fl → Hh → R Fl} (a : LS r r') (b : ∀ x y h, LF x y → LS (f x h) (f' y h)) : LS (r.bind f) (r'.bind f') := by
  cases r with
  | bad => exact LS.bad _
  | exc c fs h =>
    cases r' with
    | exc c' fs' h' => exact a
    | ok _ _ => exact a.elim
    | bad => exact a.elim
  | ok x h =>
    cases r' with
    | exc c' fs' h' => exact a.elim
    | ok y h' =>
      obtain ⟨rfl, l⟩ := a
      exact b x y h l
    | bad => exact a.elim
/-- a loop's turn -/
theorem LS.turn {t : Tg} {live : List (Nat × Nat)} {body : Sl → Hh → R Fl} (hb : ∀ σ τ h, Le σ τ → LS (body σ h) (body τ h)) : ∀ (its : List It1) (σ τ : Sl) (h : Hh), Le σ τ → LS (forL t live body its σ h) (forL t live body its τ h)
  | [], σ, τ, h, l => by
    unfold forL
    split
    · exact ⟨rfl, l⟩
    · exact LS.bad _
  | x :: xs, σ, τ, h, l => by
    unfold forL
    split
    · rename_i d _
      cases hd : bindTg t d σ h with
      | none => exact LS.bad _
      | some σ' =>
        obtain ⟨τ', e1, l'⟩ := l.bind hd
        rw [e1]
        dsimp only
        refine (hb _ _ _ l').bind fun f g h2 lf => ?_
        cases f <;> cases g <;> first | exact lf.elim | skip
        · exact LS.turn hb xs _ _ h2 lf
        · exact ⟨rfl, lf⟩
        · exact ⟨rfl, lf⟩
        · exact LS.turn hb xs _ _ h2 lf
    · exact LS.bad _
theorem LS.while_ {c : Sl → Hh → R Bool} {body : Sl → Hh → R Fl} (hc : ∀ σ τ h, Le σ τ → LR (c σ h) (c τ h)) (hb : ∀ σ τ h, Le σ τ → LS (body σ h) (body τ h)) : ∀ (n : Nat) (σ τ : Sl) (h : Hh), Le σ τ → LS (whileL c body n σ h) (whileL c body n τ h)
  | 0, σ, τ, h, l => LS.bad _
  | n + 1, σ, τ, h, l => by
    unfold whileL
    refine LS.bindE (hc _ _ _ l) fun b h => ?_
    split
    · refine (hb _ _ _ l).bind fun f g h2 lf => ?_
      cases f <;> cases g <;> first | exact lf.elim | skip
      · exact LS.while_ hc hb n _ _ h2 lf
      · exact ⟨rfl, lf⟩
      · exact ⟨rfl, lf⟩
      · exact LS.while_ hc hb n _ _ h2 lf
    · exact ⟨rfl, l⟩
/-- .. an assignment's -/
def LT (r r' : R Sl) : Prop := match r, r' with
  | .bad, _ => True
  | .ok σ h, .ok τ h' => h = h' ∧ Le σ τ
  | .exc c fs h, .exc c' fs' h' => c = c' ∧ fs = fs' ∧ h = h'
  | _, _ => False
theorem LT.bad (r : R Sl) : LT .bad r := by cases r <;> exact True.intro
theorem LT.bindE {α : Type} {r r' : R α} {f f' : α → Hh → R Sl} (a : LR r r') (b : ∀ x h, LT (f x h) (f' x h)) : LT (r.bind f) (r'.bind f') := by
  rcases a with rfl | rfl
  · exact LT.bad _
  · cases r with
    | ok x h => exact b x h
    | exc c fs h => exact ⟨rfl, rfl, rfl⟩
    | bad => exact LT.bad _
theorem LT.bind {r r' : R Sl} {f : Sl → Hh → R Fl} (a : LT r r') (b : ∀ x y h, Le x y → LS (f x h) (f y h)) : LS (r.bind f) (r'.bind f) := by
  cases r with
  | bad => exact LS.bad _
  | exc c fs h =>
    cases r' with
    | exc c' fs' h' => exact a
    | ok _ _ => exact a.elim
    | bad => exact a.elim
  | ok x h =>
    cases r' with
    | exc c' fs' h' => exact a.elim
    | ok y h' =>
      obtain ⟨rfl, l⟩ := a
      exact b x y h l
    | bad => exact a.elim
theorem LT.bindT {r r' : R Sl} {f : Sl → Hh → R Sl} (a : LT r r') (b : ∀ x y h, Le x y → LT (f x h) (f y h)) : LT (r.bind f) (r'.bind f) := by
  cases r with
  | bad => exact LT.bad _
  | exc c fs h =>
    cases r' with
    | exc c' fs' h' => exact a
    | ok _ _ => exact a.elim
    | bad => exact a.elim
  | ok x h =>
    cases r' with
    | exc c' fs' h' => exact a.elim
    | ok y h' =>
      obtain ⟨rfl, l⟩ := a
      exact b x y h l
    | bad => exact a.elim
mutual
theorem xe_le (c : String) (fs : List D) : ∀ (e : XE) {σ τ : Sl}, Le σ τ → ∀ d, evalXE c fs e σ = some d → evalXE c fs e τ = some d
  | .cst d, σ, τ, l, x, q => by rw [evalXE] at q ⊢; exact q
  | .var i, σ, τ, l, x, q => by
    rw [evalXE] at q ⊢
    split at q
    · rename_i d hd
      rw [l.2 i d hd]
      exact q
    · cases q
  | .isx cs, σ, τ, l, x, q => by rw [evalXE] at q ⊢; exact q
  | .not a, σ, τ, l, x, q => by
    rw [evalXE] at q ⊢
    split at q
    · rename_i b hb
      rw [xe_le c fs a l _ hb]
      exact q
    · cases q
  | .and a b, σ, τ, l, x, q => by
    rw [evalXE] at q ⊢
    split at q
    · rename_i hb
      rw [xe_le c fs a l _ hb]
      exact xe_le c fs b l _ q
    · rename_i hb
      rw [xe_le c fs a l _ hb]
      exact q
    · cases q
  | .val, σ, τ, l, x, q => by
    unfold evalXE at q ⊢
    exact q
  | .rep, σ, τ, l, x, q => by
    unfold evalXE at q ⊢
    exact q
  | .lst es, σ, τ, l, x, q => by
    rw [evalXE] at q ⊢
    obtain ⟨ds, hd, e⟩ := Option.map_eq_some_iff.mp q
    rw [xes_le c fs es l ds hd, ← e]
    rfl
theorem xes_le (c : String) (fs : List D) : ∀ (es : XEs) {σ τ : Sl}, Le σ τ → ∀ ds, evalXEs c fs es σ = some ds → evalXEs c fs es τ = some ds
  | .nil, σ, τ, l, x, q => by rw [evalXEs] at q ⊢; exact q
  | .cons e es, σ, τ, l, x, q => by
    rw [evalXEs] at q ⊢
    obtain ⟨d, hd, q⟩ := Option.bind_eq_some_iff.mp q
    obtain ⟨ds, hs, e2⟩ := Option.map_eq_some_iff.mp q
    rw [xe_le c fs e l d hd, Option.bind_some, xes_le c fs es l ds hs, ← e2]
    rfl
end
mutual
theorem xs_le (c : String) (fs : List D) : ∀ (s : XS) {σ τ : Sl}, Le σ τ → ∀ f, evalXS c fs s σ = some f → ∃ g, evalXS c fs s τ = some g ∧ LF f g
  | .asg i e, σ, τ, l, f, q => by
    rw [evalXS] at q
    obtain ⟨d, hd, e2⟩ := Option.map_eq_some_iff.mp q
    rw [evalXS, xe_le c fs e l d hd, ← e2]
    exact ⟨_, rfl, l.set i _⟩
  | .ite e a, σ, τ, l, f, q => by
    rw [evalXS] at q
    split at q
    · rename_i hb
      rw [evalXS, xe_le c fs e l _ hb]
      exact xss_le c fs a l f q
    · rename_i hb
      rw [evalXS, xe_le c fs e l _ hb, ← Option.some.inj q]
      exact ⟨_, rfl, l⟩
    · cases q
  | .ret e, σ, τ, l, f, q => by
    rw [evalXS] at q
    obtain ⟨d, hd, e2⟩ := Option.map_eq_some_iff.mp q
    rw [evalXS, xe_le c fs e l d hd, ← e2]
    exact ⟨_, rfl, rfl⟩
theorem xss_le (c : String) (fs : List D) : ∀ (s : XSs) {σ τ : Sl}, Le σ τ → ∀ f, evalXSs c fs s σ = some f → ∃ g, evalXSs c fs s τ = some g ∧ LF f g
  | .nil, σ, τ, l, f, q => by
    rw [evalXSs] at q
    rw [evalXSs, ← Option.some.inj q]
    exact ⟨_, rfl, l⟩
  | .cons s ss, σ, τ, l, f, q => by
    rw [evalXSs] at q
    cases h1 : evalXS c fs s σ with
    | none => rw [h1] at q; cases q
    | some f1 =>
      rw [h1] at q
      obtain ⟨g1, h2, l1⟩ := xs_le c fs s l f1 h1
      rw [evalXSs, h2]
      cases f1 <;> cases g1 <;> first | exact l1.elim | skip
      · exact xss_le c fs ss l1 f q
      · exact ⟨_, rfl, by rw [← Option.some.inj q]; exact l1⟩
      · exact ⟨_, rfl, by rw [← Option.some.inj q]; exact l1⟩
      · exact ⟨_, rfl, by rw [← Option.some.inj q]; exact l1⟩
end
theorem mono_H (c : String) (fs : List D) (h : Hh) : ∀ (hs : List MH) {σ τ : Sl}, Le σ τ → LS (handleX c fs σ h hs) (handleX c fs τ h hs)
  | [], σ, τ, l => ⟨rfl, rfl, rfl⟩
  | m :: ms, σ, τ, l => by
    unfold handleX
    split
    · cases h1 : evalXSs c fs m.suite (σ.set m.slot none) with
      | none => exact LS.bad _
      | some f =>
        obtain ⟨g, h2, l2⟩ := xss_le c fs m.suite (l.set m.slot none) f h1
        rw [h2]
        refine ⟨rfl, ?_⟩
        cases f <;> cases g <;> first | exact l2.elim | exact l2.set _ _ | exact l2
    · exact mono_H c fs h ms l
section
variable (C : Oracle)
theorem mono_T (t : MT) (d : D) (σ τ : Sl) (h : Hh) (l : Le σ τ) : LT (setT C t d σ h) (setT C t d τ h) := by
  cases t with
  | var i => exact ⟨rfl, l.set _ _⟩
  | ix o i =>
    unfold setT
    refine LT.bindE (mono_E C o σ τ h l) fun ov h => LT.bindE (mono_E C i σ τ h l) fun iv h => ?_
    split
    · exact ⟨rfl, l⟩
    · exact LT.bad _
theorem mono_Ts : ∀ (ts : MTs) (ds : List D) (σ τ : Sl) (h : Hh), Le σ τ → LT (setTs C ts ds σ h) (setTs C ts ds τ h)
  | .nil, [], σ, τ, h, l => by unfold setTs; exact ⟨rfl, l⟩
  | .nil, _ :: _, σ, τ, h, l => by unfold setTs; exact LT.bad _
  | .cons t ts, [], σ, τ, h, l => by unfold setTs; exact LT.bad _
  | .cons t ts, d :: ds, σ, τ, h, l => by
    unfold setTs
    exact (mono_T C t d σ τ h l).bindT fun x y h l => mono_Ts ts ds x y h l
theorem excE_le (e : ME) {σ τ : Sl} {h : Hh} (l : Le σ τ) : ∀ x, excE C e σ h = some x → excE C e τ h = some x := by
  intro x q
  cases e with
  | call f as =>
    unfold excE at q ⊢
    dsimp only at q ⊢
    rcases mono_Es C as σ τ h l with e | e
    · rw [e] at q; cases q
    · rw [← e]; exact q
  | _ => cases q
theorem excS_le (s : MS) {σ τ : Sl} {h : Hh} (l : Le σ τ) : ∀ x, excS C s σ h = some x → excS C s τ h = some x := by
  intro x q
  cases s with
  | raise0 c => exact q
  | raise1 c e =>
    unfold excS at q ⊢
    dsimp only at q ⊢
    rcases mono_E C e σ τ h l with e | e
    · rw [e] at q; cases q
    · rw [← e]; exact q
  | asg t e =>
    cases t with
    | var i => exact excE_le C e l x q
    | ix _ _ => cases q
  | expr e => exact excE_le C e l x q
  | ret e => exact excE_le C e l x q
  | _ => cases q
mutual
theorem mono_S : ∀ (s : MS) (σ τ : Sl) (h : Hh), Le σ τ → LS (evalS C s σ h) (evalS C s τ h)
  | .asg t e, σ, τ, h, l => by
    rw [evalS, evalS]
    exact LS.bindE (mono_E C e σ τ h l) fun x h => (mono_T C t x σ τ h l).bind fun _ _ _ l => ⟨rfl, l⟩
  | .asgs ts e, σ, τ, h, l => by
    rw [evalS, evalS]
    refine LS.bindE (mono_E C e σ τ h l) fun x h => ?_
    split
    · exact (mono_Ts C ts _ σ τ h l).bind fun _ _ _ l => ⟨rfl, l⟩
    · exact LS.bad _
  | .unp is e, σ, τ, h, l => by
    rw [evalS, evalS]
    refine LS.bindE (mono_E C e σ τ h l) fun x h => ?_
    cases hb : bindTg (.vars is) x σ h with
    | none => exact LS.bad _
    | some σ' =>
      obtain ⟨τ', e1, l'⟩ := l.bind hb
      rw [e1]
      exact ⟨rfl, l'⟩
  | .par is es, σ, τ, h, l => by
    rw [evalS, evalS]
    refine LS.bindE (mono_Es C es σ τ h l) fun xs h => ?_
    split
    · exact ⟨rfl, Le.foldl _ l⟩
    · exact LS.bad _
  | .aug i op e, σ, τ, h, l => by
    rw [evalS, evalS]
    split
    · rename_i x hx
      rw [l.2 i x hx]
      dsimp only
      refine LS.bindE (mono_E C e σ τ h l) fun y h => ?_
      split
      · exact LS.bindE (.inr rfl) fun z h => ⟨rfl, l.set _ _⟩
      · exact LS.bad _
    · exact LS.bad _
  | .augIx o i op e, σ, τ, h, l => by
    rw [evalS, evalS]
    refine LS.bindE (mono_E C o σ τ h l) fun ov h => LS.bindE (mono_E C i σ τ h l) fun iv h => LS.bindE (.inr rfl) fun x h => LS.bindE (mono_E C e σ τ h l) fun y h => ?_
    split
    · refine LS.bindE (.inr rfl) fun z h => ?_
      split
      · exact ⟨rfl, l⟩
      · exact LS.bad _
    · exact LS.bad _
  | .expr e, σ, τ, h, l => by
    rw [evalS, evalS]
    exact LS.bindE (mono_E C e σ τ h l) fun _ h => ⟨rfl, l⟩
  | .ite c a b, σ, τ, h, l => by
    rw [evalS, evalS]
    refine LS.bindE (LR.bind (mono_E C c σ τ h l) fun _ _ => .inr rfl) fun k h => ?_
    split
    · exact mono_Ss a σ τ h l
    · exact mono_Ss b σ τ h l
  | .for_ t it b, σ, τ, h, l => by
    rw [evalS, evalS]
    exact LS.bindE (mono_I C it σ τ h l) fun its h => LS.turn (fun σ τ h l => mono_Ss b σ τ h l) its.its σ τ h l
  | .while_ c b, σ, τ, h, l => by
    rw [evalS, evalS]
    exact LS.while_ (fun σ τ h l => LR.bind (mono_E C c σ τ h l) fun _ _ => .inr rfl) (fun σ τ h l => mono_Ss b σ τ h l) _ σ τ h l
  | .ret e, σ, τ, h, l => by
    rw [evalS, evalS]
    exact LS.bindE (mono_E C e σ τ h l) fun _ h => ⟨rfl, rfl⟩
  | .retN, σ, τ, h, l => by rw [evalS, evalS]; exact ⟨rfl, rfl⟩
  | .pass, σ, τ, h, l => by rw [evalS, evalS]; exact ⟨rfl, l⟩
  | .brk, σ, τ, h, l => by rw [evalS, evalS]; exact ⟨rfl, l⟩
  | .cont, σ, τ, h, l => by rw [evalS, evalS]; exact ⟨rfl, l⟩
  | .never, σ, τ, h, l => by rw [evalS, evalS]; exact LS.bad _
  | .raise0 c, σ, τ, h, l => by rw [evalS, evalS]; exact ⟨rfl, rfl, rfl⟩
  | .raise1 c e, σ, τ, h, l => by
    rw [evalS, evalS]
    exact LS.bindE (mono_E C e σ τ h l) fun _ h => ⟨rfl, rfl, rfl⟩
  | .try_ b hs, σ, τ, h, l => by
    rw [evalS, evalS]
    have m := mono_S b σ τ h l
    cases e1 : evalS C b σ h with
    | bad => exact LS.bad _
    | ok f h1 =>
      rw [e1] at m
      cases e2 : evalS C b τ h with
      | ok f' h2 => rw [e2] at m; exact m
      | exc _ _ _ => rw [e2] at m; exact m.elim
      | bad => rw [e2] at m; exact m.elim
    | exc c fs h1 =>
      rw [e1] at m
      cases e2 : evalS C b τ h with
      | exc c' fs' h2 =>
        dsimp only
        cases e3 : excS C b σ h with
        | none => exact LS.bad _
        | some x =>
          obtain ⟨c3, fs3, h3⟩ := x
          rw [excS_le C b l _ e3]
          exact mono_H _ _ _ hs l
      | ok _ _ => rw [e2] at m; exact m.elim
      | bad => rw [e2] at m; exact m.elim
theorem mono_Ss : ∀ (ss : MSs) (σ τ : Sl) (h : Hh), Le σ τ → LS (evalSs C ss σ h) (evalSs C ss τ h)
  | .nil, σ, τ, h, l => by rw [evalSs, evalSs]; exact ⟨rfl, l⟩
  | .cons s ss, σ, τ, h, l => by
    rw [evalSs, evalSs]
    refine (mono_S s σ τ h l).bind fun f g h lf => ?_
    cases f <;> cases g <;> first | exact lf.elim | skip
    · exact mono_Ss ss _ _ h lf
    · exact ⟨rfl, lf⟩
    · exact ⟨rfl, lf⟩
    · exact ⟨rfl, lf⟩
end
end
end Mini
end
section
set_option Elab.async false
set_option linter.all false
set_option autoImplicit false
set_option maxRecDepth 100000
/-! MiniF: which places a loop stores; loops that change no cell. -/
namespace Mini
def tgs : Tg → List Nat
  | .var i => [i]
  | .vars is => is
def asgdTs : MTs → List Nat
  | .nil => []
  | .cons (.var i) ts => i :: asgdTs ts
  | .cons (.ix _ _) ts => asgdTs ts
mutual
def asgdX : XS → List Nat
  | .asg i _ => [i]
  | .ite _ a => asgdXs a
  | .ret _ => []
def asgdXs : XSs → List Nat
  | .nil => []
  | .cons s ss => asgdX s ++ asgdXs ss
end
def asgdH : List MH → List Nat
  | [] => []
  | m :: ms => m.slot :: (asgdXs m.suite ++ asgdH ms)
mutual
/-- the places that a statement stores -/
def asgd : MS → List Nat
  | .asg (.var i) _ => [i]
  | .asg (.ix _ _) _ => []
  | .asgs ts _ => asgdTs ts
  | .unp is _ => is
  | .par is _ => is
  | .aug i _ _ => [i]
  | .augIx _ _ _ _ => []
  | .expr _ => []
  | .ite _ a b => asgds a ++ asgds b
  | .for_ t _ b => tgs t ++ asgds b
  | .while_ _ b => asgds b
  | .ret _ => []
  | .retN => []
  | .pass => []
  | .brk => []
  | .cont => []
  | .never => []
  | .raise0 _ => []
  | .raise1 _ _ => []
  | .try_ b hs => asgd b ++ asgdH hs
def asgds : MSs → List Nat
  | .nil => []
  | .cons s ss => asgd s ++ asgds ss
end
/-- alike but for the places A -/
def Alike (A : List Nat) (σ τ : Sl) : Prop := σ.length = τ.length ∧ ∀ i : Nat, i ∉ A → τ[i]? = σ[i]?
theorem Alike.refl (A : List Nat) (σ : Sl) : Alike A σ σ := ⟨rfl, fun _ _ => rfl⟩
theorem Alike.trans {A : List Nat} {σ τ υ : Sl} (a : Alike A σ τ) (b : Alike A τ υ) : Alike A σ υ := ⟨a.1.trans b.1, fun i hi => (b.2 i hi).trans (a.2 i hi)⟩
theorem Alike.mono {A B : List Nat} {σ τ : Sl} (a : Alike A σ τ) (h : ∀ i ∈ A, i ∈ B) : Alike B σ τ := ⟨a.1, fun i hi => a.2 i fun hA => hi (h i hA)⟩
theorem Alike.set {A : List Nat} {σ : Sl} {i : Nat} (d : Option D) (hi : i ∈ A) : Alike A σ (σ.set i d) := by
  refine ⟨by simp, fun j hj => ?_⟩
  rw [List.getElem?_set_ne]
  intro e
  subst e
  exact hj hi
theorem Alike.foldl {A : List Nat} : ∀ (ps : List (Nat × D)) (σ : Sl), (∀ p ∈ ps, p.1 ∈ A) → Alike A σ (ps.foldl (fun σ p => σ.set p.1 (some p.2)) σ)
  | [], σ, _ => Alike.refl A σ
  | p :: ps, σ, h => (Alike.set (some p.2) (h p List.mem_cons_self)).trans (Alike.foldl ps _ fun q hq => h q (List.mem_cons_of_mem _ hq))
theorem Alike.bind {A : List Nat} {σ σ' : Sl} {t : Tg} {d : D} {h : Hh} (e : bindTg t d σ h = some σ') (hA : ∀ i ∈ tgs t, i ∈ A) : Alike A σ σ' := by
  cases t with
  | var i =>
    have e : some _ = some σ' := e
    injection e with e
    subst e
    exact Alike.set _ (hA i (by simp [tgs]))
  | vars is =>
    unfold bindTg at e
    dsimp only at e
    split at e
    · split at e
      · injection e with e
        subst e
        refine Alike.foldl _ _ fun p hp => hA _ ?_
        exact (List.of_mem_zip hp).1
      · cases e
    · cases e
theorem le_wipe {A : List Nat} {σ τ : Sl} (a : Alike A σ τ) : Le (wipe σ A) τ := by
  have hl : ∀ B : List Nat, (wipe σ B).length = σ.length := fun B => by
    induction B with
    | nil => rfl
    | cons b B ih => rw [wipe_cons, List.length_set, ih]
  have hg : ∀ (B : List Nat) (i : Nat) (d : D), (wipe σ B)[i]? = some (some d) → i ∉ B ∧ σ[i]? = some (some d) := fun B => by
    induction B with
    | nil => exact fun i d h => ⟨by simp, h⟩
    | cons b B ih =>
      intro i d h
      rw [wipe_cons, List.getElem?_set] at h
      split at h
      · split at h <;> cases h
      · rename_i hne
        obtain ⟨h1, h2⟩ := ih i d h
        refine ⟨?_, h2⟩
        intro hm
        rcases List.mem_cons.mp hm with e | e
        · exact hne e.symm
        · exact h1 e
  refine ⟨(hl A).trans a.1, fun i d h => ?_⟩
  obtain ⟨h1, h2⟩ := hg A i d h
  rw [a.2 i h1, h2]
def FA (A : List Nat) (σ : Sl) : Fl → Prop
  | .nx τ => Alike A σ τ
  | .bk τ => Alike A σ τ
  | .ct τ => Alike A σ τ
  | .rt _ => True
def FR (A : List Nat) (σ : Sl) (r : R Fl) : Prop := ∀ f h, r = .ok f h → FA A σ f
theorem FR.bad (A : List Nat) (σ : Sl) : FR A σ .bad := fun _ _ e => by cases e
theorem FR.bindE {α : Type} {A : List Nat} {σ : Sl} {r : R α} {f : α → Hh → R Fl} (b : ∀ x h, FR A σ (f x h)) : FR A σ (r.bind f) := by
  cases r with
  | ok x h => exact b x h
  | exc c fs h => exact fun _ _ e => by cases e
  | bad => exact FR.bad A σ
theorem FR.bind {A : List Nat} {σ : Sl} {r : R Fl} {f : Fl → Hh → R Fl} (a : FR A σ r) (b : ∀ x h, FA A σ x → FR A σ (f x h)) : FR A σ (r.bind f) := by
  cases r with
  | ok x h => exact b x h (a x h rfl)
  | exc c fs h => exact fun _ _ e => by cases e
  | bad => exact FR.bad A σ
theorem FA.trans {A : List Nat} {σ τ : Sl} {f : Fl} (a : Alike A σ τ) (b : FA A τ f) : FA A σ f := by
  cases f with
  | rt d => trivial
  | nx τ' => exact a.trans b
  | bk τ' => exact a.trans b
  | ct τ' => exact a.trans b
theorem FR.trans {A : List Nat} {σ τ : Sl} {r : R Fl} (a : Alike A σ τ) (b : FR A τ r) : FR A σ r := fun f h e => (b f h e).trans a
theorem FR.ok {A : List Nat} {σ : Sl} {f : Fl} {h : Hh} (a : FA A σ f) : FR A σ (.ok f h) := fun _ _ e => by cases e; exact a
theorem FR.forL {A : List Nat} {t : Tg} {live : List (Nat × Nat)} {body : Sl → Hh → R Fl} (ht : ∀ i ∈ tgs t, i ∈ A) (hb : ∀ σ h, FR A σ (body σ h)) : ∀ (its : List It1) (σ : Sl) (h : Hh), FR A σ (Mini.forL t live body its σ h)
  | [], σ, h => by
    unfold Mini.forL
    split
    · exact FR.ok (Alike.refl A σ)
    · exact FR.bad A σ
  | x :: xs, σ, h => by
    unfold Mini.forL
    split
    · split
      · rename_i σ' hσ
        refine FR.trans (Alike.bind hσ ht) (FR.bind (hb σ' h) fun f h2 fa => ?_)
        cases f with
        | nx τ => exact FR.trans fa (FR.forL ht hb xs τ h2)
        | ct τ => exact FR.trans fa (FR.forL ht hb xs τ h2)
        | bk τ => exact FR.ok fa
        | rt d => exact FR.ok trivial
      · exact FR.bad A σ
    · exact FR.bad A σ
theorem FR.whileL {A : List Nat} {c : Sl → Hh → R Bool} {body : Sl → Hh → R Fl} (hb : ∀ σ h, FR A σ (body σ h)) : ∀ (n : Nat) (σ : Sl) (h : Hh), FR A σ (Mini.whileL c body n σ h)
  | 0, σ, h => FR.bad A σ
  | n + 1, σ, h => by
    unfold Mini.whileL
    refine FR.bindE fun b h => ?_
    split
    · refine FR.bind (hb σ h) fun f h2 fa => ?_
      cases f with
      | nx τ => exact FR.trans fa (FR.whileL hb n τ h2)
      | ct τ => exact FR.trans fa (FR.whileL hb n τ h2)
      | bk τ => exact FR.ok fa
      | rt d => exact FR.ok trivial
    · exact FR.ok (Alike.refl A σ)
theorem setT_al {C : Oracle} {A : List Nat} {i : Nat} {d : D} (hi : i ∈ A) (σ : Sl) (h : Hh) (f : Sl → Hh → R Fl) (hf : ∀ τ h, Alike A σ τ → FR A σ (f τ h)) : FR A σ ((setT C (.var i) d σ h).bind f) := hf _ _ (Alike.set _ hi)
theorem setTs_al {C : Oracle} : ∀ (ts : MTs) (ds : List D) (σ : Sl) (h : Hh) (τ : Sl) (h' : Hh), setTs C ts ds σ h = .ok τ h' → Alike (asgdTs ts) σ τ
  | .nil, [], σ, h, τ, h', e => by unfold setTs at e; cases e; exact Alike.refl _ σ
  | .nil, _ :: _, σ, h, τ, h', e => by unfold setTs at e; cases e
  | .cons t ts, [], σ, h, τ, h', e => by unfold setTs at e; cases e
  | .cons (.var i) ts, d :: ds, σ, h, τ, h', e => by
    unfold setTs at e
    have e : setTs C ts ds (σ.set i (some d)) h = .ok τ h' := e
    have ih := setTs_al ts ds _ h τ h' e
    exact ((Alike.set (some d) (by simp [asgdTs])).trans (ih.mono fun j hj => by simp [asgdTs, hj]))
  | .cons (.ix o i) ts, d :: ds, σ, h, τ, h', e => by
    unfold setTs at e
    cases hs : setT C (.ix o i) d σ h with
    | bad => rw [hs] at e; cases e
    | exc a b c => rw [hs] at e; cases e
    | ok σ1 h1 =>
      rw [hs, R.bind_ok] at e
      have e1 : σ1 = σ := by
        unfold setT at hs
        dsimp only at hs
        cases ho : evalE C o σ h with
        | bad => rw [ho] at hs; cases hs
        | exc a b c => rw [ho] at hs; cases hs
        | ok ov h2 =>
          rw [ho, R.bind_ok] at hs
          cases hi : evalE C i σ h2 with
          | bad => rw [hi] at hs; cases hs
          | exc a b c => rw [hi] at hs; cases hs
          | ok iv h3 =>
            rw [hi, R.bind_ok] at hs
            split at hs
            · cases hs; rfl
            · cases hs
      subst e1
      exact setTs_al ts ds _ h1 τ h' e
theorem FR.exc (A : List Nat) (σ : Sl) {c : String} {fs : List D} {h : Hh} : FR A σ (.exc c fs h) := fun _ _ e => by cases e
mutual
theorem fr_XS (c : String) (fs : List D) : ∀ (s : XS) (A : List Nat) (σ : Sl), (∀ i ∈ asgdX s, i ∈ A) → ∀ f, evalXS c fs s σ = some f → FA A σ f
  | .asg i e, A, σ, hA, f, q => by
    rw [evalXS] at q
    obtain ⟨d, _, rfl⟩ := Option.map_eq_some_iff.mp q
    exact Alike.set _ (hA i (by simp [asgdX]))
  | .ite e a, A, σ, hA, f, q => by
    rw [evalXS] at q
    split at q
    · exact fr_XSs c fs a A σ (fun i hi => hA i (by simpa [asgdX] using hi)) f q
    · rw [← Option.some.inj q]
      exact Alike.refl A σ
    · cases q
  | .ret e, A, σ, hA, f, q => by
    rw [evalXS] at q
    obtain ⟨d, _, rfl⟩ := Option.map_eq_some_iff.mp q
    exact True.intro
theorem fr_XSs (c : String) (fs : List D) : ∀ (s : XSs) (A : List Nat) (σ : Sl), (∀ i ∈ asgdXs s, i ∈ A) → ∀ f, evalXSs c fs s σ = some f → FA A σ f
  | .nil, A, σ, hA, f, q => by
    rw [evalXSs] at q
    rw [← Option.some.inj q]
    exact Alike.refl A σ
  | .cons s ss, A, σ, hA, f, q => by
    rw [evalXSs] at q
    cases h1 : evalXS c fs s σ with
    | none => rw [h1] at q; cases q
    | some f1 =>
      rw [h1] at q
      have a1 := fr_XS c fs s A σ (fun i hi => hA i (by simp [asgdXs, hi])) f1 h1
      cases f1 with
      | nx τ =>
        have a2 := fr_XSs c fs ss A τ (fun i hi => hA i (by simp [asgdXs, hi])) f q
        exact (FR.trans (r := .ok f []) a1 (FR.ok a2)) f [] rfl
      | rt d => rw [← Option.some.inj q]; exact True.intro
      | bk τ => rw [← Option.some.inj q]; exact a1
      | ct τ => rw [← Option.some.inj q]; exact a1
end
theorem fr_H (c : String) (fs : List D) (h : Hh) : ∀ (hs : List MH) (A : List Nat) (σ : Sl), (∀ i ∈ asgdH hs, i ∈ A) → FR A σ (handleX c fs σ h hs)
  | [], A, σ, hA => FR.exc A σ
  | m :: ms, A, σ, hA => by
    unfold handleX
    split
    · cases h1 : evalXSs c fs m.suite (σ.set m.slot none) with
      | none => exact FR.bad A σ
      | some f =>
        have a := fr_XSs c fs m.suite A _ (fun i hi => hA i (by simp [asgdH, hi])) f h1
        have a0 : Alike A σ (σ.set m.slot none) := Alike.set _ (hA _ (by simp [asgdH]))
        refine FR.trans (r := .ok (unsetF m.slot f) h) a0 (FR.ok ?_)
        have hm : m.slot ∈ A := hA _ (by simp [asgdH])
        cases f with
        | nx τ => exact Alike.trans (show Alike A _ τ from a) (Alike.set _ hm)
        | bk τ => exact Alike.trans (show Alike A _ τ from a) (Alike.set _ hm)
        | ct τ => exact Alike.trans (show Alike A _ τ from a) (Alike.set _ hm)
        | rt d => exact True.intro
    · exact fr_H c fs h ms A σ fun i hi => hA i (by simp [asgdH, hi])
section
variable (C : Oracle)
mutual
theorem fr_S : ∀ (s : MS) (A : List Nat) (σ : Sl) (h : Hh), (∀ i ∈ asgd s, i ∈ A) → FR A σ (evalS C s σ h)
  | .asg (.var i) e, A, σ, h, hA => by
    rw [evalS]
    exact FR.bindE fun x h => setT_al (hA i (by simp [asgd])) σ h _ fun τ h a => FR.ok a
  | .asg (.ix o i) e, A, σ, h, hA => by
    rw [evalS]
    refine FR.bindE fun x h => ?_
    intro f h' e
    cases hs : setT C (.ix o i) x σ h with
    | bad => rw [hs] at e; cases e
    | exc a b c => rw [hs] at e; cases e
    | ok σ1 h1 =>
      have := setTs_al (C := C) (.cons (.ix o i) .nil) [x] σ h σ1 h1 (by unfold setTs; rw [hs, R.bind_ok]; unfold setTs; rfl)
      rw [hs, R.bind_ok] at e
      cases e
      exact this.mono fun j hj => by simp [asgdTs] at hj
  | .asgs ts e, A, σ, h, hA => by
    rw [evalS]
    refine FR.bindE fun x h => ?_
    split
    · rename_i xs _
      intro f h' e
      cases hs : setTs C ts xs σ h with
      | bad => rw [hs] at e; cases e
      | exc a b c => rw [hs] at e; cases e
      | ok σ1 h1 =>
        rw [hs, R.bind_ok] at e
        have al := setTs_al ts xs σ h σ1 h1 hs
        cases e
        exact al.mono fun j hj => hA j (by simpa [asgd] using hj)
    · exact FR.bad A σ
  | .unp is e, A, σ, h, hA => by
    rw [evalS]
    refine FR.bindE fun x h => ?_
    split
    · rename_i σ' hσ
      exact FR.ok (Alike.bind hσ fun i hi => hA i (by simpa [asgd, tgs] using hi))
    · exact FR.bad A σ
  | .par is es, A, σ, h, hA => by
    rw [evalS]
    refine FR.bindE fun xs h => ?_
    split
    · exact FR.ok (Alike.foldl _ _ fun p hp => hA _ (by simpa [asgd] using (List.of_mem_zip hp).1))
    · exact FR.bad A σ
  | .aug i op e, A, σ, h, hA => by
    rw [evalS]
    split
    · refine FR.bindE fun y h => ?_
      split
      · exact FR.bindE fun z h => FR.ok (Alike.set _ (hA i (by simp [asgd])))
      · exact FR.bad A σ
    · exact FR.bad A σ
  | .augIx o i op e, A, σ, h, hA => by
    rw [evalS]
    refine FR.bindE fun ov h => FR.bindE fun iv h => FR.bindE fun x h => FR.bindE fun y h => ?_
    split
    · refine FR.bindE fun z h => ?_
      split
      · exact FR.ok (Alike.refl A σ)
      · exact FR.bad A σ
    · exact FR.bad A σ
  | .expr e, A, σ, h, hA => by rw [evalS]; exact FR.bindE fun _ h => FR.ok (Alike.refl A σ)
  | .ite c a b, A, σ, h, hA => by
    rw [evalS]
    refine FR.bindE fun k h => ?_
    split
    · exact fr_Ss a A σ h fun i hi => hA i (by simp [asgd, hi])
    · exact fr_Ss b A σ h fun i hi => hA i (by simp [asgd, hi])
  | .for_ t it b, A, σ, h, hA => by
    rw [evalS]
    refine FR.bindE fun its h => FR.forL (fun i hi => hA i (by simp [asgd, hi])) (fun σ h => fr_Ss b A σ h fun i hi => hA i (by simp [asgd, hi])) its.its σ h
  | .while_ c b, A, σ, h, hA => by
    rw [evalS]
    exact FR.whileL (fun σ h => fr_Ss b A σ h fun i hi => hA i (by simpa [asgd] using hi)) _ σ h
  | .ret e, A, σ, h, hA => by rw [evalS]; exact FR.bindE fun _ h => FR.ok trivial
  | .retN, A, σ, h, hA => by rw [evalS]; exact FR.ok trivial
  | .pass, A, σ, h, hA => by rw [evalS]; exact FR.ok (Alike.refl A σ)
  | .brk, A, σ, h, hA => by rw [evalS]; exact FR.ok (Alike.refl A σ)
  | .cont, A, σ, h, hA => by rw [evalS]; exact FR.ok (Alike.refl A σ)
  | .never, A, σ, h, hA => by rw [evalS]; exact FR.bad A σ
  | .raise0 c, A, σ, h, hA => by rw [evalS]; exact FR.exc A σ
  | .raise1 c e, A, σ, h, hA => by rw [evalS]; exact FR.bindE fun _ h => FR.exc A σ
  | .try_ b hs, A, σ, h, hA => by
    rw [evalS]
    have f1 := fr_S b A σ h fun i hi => hA i (by simp [asgd, hi])
    split
    · rename_i q; rw [q] at f1; exact f1
    · split
      · exact fr_H _ _ _ hs A σ fun i hi => hA i (by simp [asgd, hi])
      · exact FR.bad A σ
    · exact FR.bad A σ
theorem fr_Ss : ∀ (ss : MSs) (A : List Nat) (σ : Sl) (h : Hh), (∀ i ∈ asgds ss, i ∈ A) → FR A σ (evalSs C ss σ h)
  | .nil, A, σ, h, hA => by rw [evalSs]; exact FR.ok (Alike.refl A σ)
  | .cons s ss, A, σ, h, hA => by
    rw [evalSs]
    refine FR.bind (fr_S s A σ h fun i hi => hA i (by simp [asgds, hi])) fun f h2 fa => ?_
    cases f with
    | nx τ => exact FR.trans fa (fr_Ss ss A τ h2 fun i hi => hA i (by simp [asgds, hi]))
    | rt d => exact FR.ok trivial
    | bk τ => exact FR.ok fa
    | ct τ => exact FR.ok fa
end
end
/-! ### statements that change no cell -/
mutual
def pureMS (Γ : Prog) : MS → Bool
  | .asg (.var _) e => pureME Γ e
  | .asg (.ix _ _) _ => false
  | .asgs _ _ => false
  | .unp _ e => pureME Γ e
  | .par _ es => pureMEs Γ es
  | .aug _ _ e => pureME Γ e
  | .augIx _ _ _ _ => false
  | .expr e => pureME Γ e
  | .ite c a b => pureME Γ c && (pureMSs Γ a && pureMSs Γ b)
  | .for_ _ it b => pureMI Γ it && pureMSs Γ b
  | .while_ c b => pureME Γ c && pureMSs Γ b
  | .ret e => pureME Γ e
  | .retN => true
  | .pass => true
  | .brk => true
  | .cont => true
  | .never => true
  | .raise0 _ => true
  | .raise1 _ e => pureME Γ e
  | .try_ _ _ => false
def pureMSs (Γ : Prog) : MSs → Bool
  | .nil => true
  | .cons s ss => pureMS Γ s && pureMSs Γ ss
end
theorem keeps_forL {t : Tg} {live : List (Nat × Nat)} {body : Sl → Hh → R Fl} {h : Hh} (hb : ∀ σ, Keeps (body σ h) h) : ∀ (its : List It1) (σ : Sl), Keeps (forL t live body its σ h) h
  | [], σ => by
    unfold forL
    split
    · exact keeps_ok _ h
    · exact keeps_bad h
  | x :: xs, σ => by
    unfold forL
    split
    · split
      · refine keeps_bind (hb _) fun f => ?_
        cases f with
        | nx τ => exact keeps_forL hb xs τ
        | ct τ => exact keeps_forL hb xs τ
        | bk τ => exact keeps_ok _ h
        | rt d => exact keeps_ok _ h
      · exact keeps_bad h
    · exact keeps_bad h
theorem keeps_whileL {c : Sl → Hh → R Bool} {body : Sl → Hh → R Fl} {h : Hh} (hc : ∀ σ, Keeps (c σ h) h) (hb : ∀ σ, Keeps (body σ h) h) : ∀ (n : Nat) (σ : Sl), Keeps (whileL c body n σ h) h
  | 0, σ => keeps_bad h
  | n + 1, σ => by
    unfold whileL
    refine keeps_bind (hc σ) fun b => ?_
    split
    · refine keeps_bind (hb _) fun f => ?_
      cases f with
      | nx τ => exact keeps_whileL hc hb n τ
      | ct τ => exact keeps_whileL hc hb n τ
      | bk τ => exact keeps_ok _ h
      | rt d => exact keeps_ok _ h
    · exact keeps_ok _ h
section
variable (Γ : Prog) (k : Nat)
mutual
theorem keeps_S : ∀ (s : MS) (σ : Sl) (h : Hh), pureMS Γ s = true → Keeps (evalS (callN Γ k) s σ h) h
  | .asg (.var i) e, σ, h, p => by
    rw [evalS]
    exact keeps_bind (keeps_E Γ k e σ h p) fun x => keeps_bind (keeps_ok _ h) fun _ => keeps_ok _ h
  | .unp is e, σ, h, p => by
    rw [evalS]
    refine keeps_bind (keeps_E Γ k e σ h p) fun x => ?_
    split
    · exact keeps_ok _ h
    · exact keeps_bad h
  | .par is es, σ, h, p => by
    rw [evalS]
    refine keeps_bind (keeps_Es Γ k es σ h p) fun xs => ?_
    split
    · exact keeps_ok _ h
    · exact keeps_bad h
  | .aug i op e, σ, h, p => by
    rw [evalS]
    split
    · refine keeps_bind (keeps_E Γ k e σ h p) fun y => ?_
      split
      · exact keeps_bind (keeps_of _ h) fun z => keeps_ok _ h
      · exact keeps_bad h
    · exact keeps_bad h
  | .expr e, σ, h, p => by rw [evalS]; exact keeps_bind (keeps_E Γ k e σ h p) fun _ => keeps_ok _ h
  | .ite c a b, σ, h, p => by
    rw [evalS]
    refine keeps_bind (keeps_bind (keeps_E Γ k c σ h (and3 p).1) fun _ => keeps_of _ h) fun b => ?_
    split
    · exact keeps_Ss a σ h (and3 (and3 p).2).1
    · exact keeps_Ss _ σ h (and3 (and3 p).2).2
  | .for_ t it b, σ, h, p => by
    rw [evalS]
    exact keeps_bind (keeps_I Γ k it σ h (and3 p).1) fun its => keeps_forL (fun σ => keeps_Ss b σ h (and3 p).2) its.its σ
  | .while_ c b, σ, h, p => by
    rw [evalS]
    exact keeps_whileL (fun σ => keeps_bind (f := fun d h => R.of (truthy h d) h) (keeps_E Γ k c σ h (and3 p).1) fun _ => keeps_of _ h) (fun σ => keeps_Ss b σ h (and3 p).2) _ σ
  | .ret e, σ, h, p => by rw [evalS]; exact keeps_bind (keeps_E Γ k e σ h p) fun _ => keeps_ok _ h
  | .retN, σ, h, _ => by rw [evalS]; exact keeps_ok _ h
  | .pass, σ, h, _ => by rw [evalS]; exact keeps_ok _ h
  | .brk, σ, h, _ => by rw [evalS]; exact keeps_ok _ h
  | .cont, σ, h, _ => by rw [evalS]; exact keeps_ok _ h
  | .never, σ, h, _ => by rw [evalS]; exact keeps_bad h
  | .raise0 c, σ, h, _ => by rw [evalS]; exact fun _ _ e => by cases e
  | .raise1 c e, σ, h, p => by rw [evalS]; exact keeps_bind (keeps_E Γ k e σ h p) fun _ => fun _ _ e => by cases e
  | .try_ b hs, σ, h, p => by cases p
theorem keeps_Ss : ∀ (ss : MSs) (σ : Sl) (h : Hh), pureMSs Γ ss = true → Keeps (evalSs (callN Γ k) ss σ h) h
  | .nil, σ, h, _ => by rw [evalSs]; exact keeps_ok _ h
  | .cons s ss, σ, h, p => by
    rw [evalSs]
    refine keeps_bind (keeps_S s σ h (and3 p).1) fun f => ?_
    cases f with
    | nx τ => exact keeps_Ss ss τ h (and3 p).2
    | rt d => exact keeps_ok _ h
    | bk τ => exact keeps_ok _ h
    | ct τ => exact keeps_ok _ h
end
end
/-! ### a loop that changes no cell, its turns each by themselves -/
/-- the places A hold anything -/
def junk (J : Nat → Option D) (A : List Nat) : Nat → Sl → Sl
  | _, [] => []
  | n, a :: σ => (if n ∈ A then J n else a) :: junk J A (n + 1) σ
@[simp] theorem junk_nil (J : Nat → Option D) (A : List Nat) (n : Nat) : junk J A n [] = [] := rfl
@[simp] theorem junk_cons (J : Nat → Option D) (A : List Nat) (n : Nat) (a : Option D) (σ : Sl) : junk J A n (a :: σ) = (if n ∈ A then J n else a) :: junk J A (n + 1) σ := rfl
theorem junk_get (J : Nat → Option D) (A : List Nat) : ∀ (σ : Sl) (n i : Nat), (junk J A n σ)[i]? = if n + i ∈ A then (σ[i]?).map fun _ => J (n + i) else σ[i]?
  | [], n, i => by simp
  | a :: σ, n, 0 => by
    rw [junk_cons]
    simp only [List.getElem?_cons_zero, Nat.add_zero, Option.map_some]
    split <;> rfl
  | a :: σ, n, i + 1 => by
    rw [junk_cons, List.getElem?_cons_succ, List.getElem?_cons_succ, junk_get J A σ (n + 1) i, show n + 1 + i = n + (i + 1) by omega]
theorem junk_of {A : List Nat} {σ τ : Sl} (a : Alike A σ τ) : τ = junk (fun i => (τ[i]?).join) A 0 σ := by
  refine List.ext_getElem? fun i => ?_
  rw [junk_get, Nat.zero_add]
  split
  · by_cases hi : i < σ.length
    · have hi2 : i < τ.length := by rw [← a.1]; exact hi
      rw [List.getElem?_eq_getElem hi, List.getElem?_eq_getElem hi2]
      rfl
    · have hi2 : ¬ i < τ.length := by rw [← a.1]; exact hi
      rw [List.getElem?_eq_none (by omega), List.getElem?_eq_none (by omega)]
      rfl
  · rename_i h
    exact a.2 i h
def slOf : R Fl → Sl
  | .ok (.nx τ) _ => τ
  | _ => []
/-- what the loop leaves in its places -/
def finJ (Γ : Prog) (k : Nat) (t : Tg) (live : List (Nat × Nat)) (b : MSs) (its : List It1) (σ : Sl) (h : Hh) (i : Nat) : Option D := ((slOf (forL t live (evalSs (callN Γ k) b) its σ h))[i]?).join
/-- the loop itself, where it is not told turn by turn -/
def forAct (Γ : Prog) (k : Nat) (t : Tg) (live : List (Nat × Nat)) (b : MSs) (its : List It1) (σ : Sl) (h : Hh) : R Fl := forL t live (evalSs (callN Γ k) b) its σ h
def forM {α : Type} (F : α → R Fl) (J : Nat → Option D) (A : List Nat) (σ : Sl) (h : Hh) (act : R Fl) (xs : List α) : R Fl := match xs.findSome? fun y => outOf (F y) with
  | some .bad => act
  | some (.ok (.nx _) _) => act
  | some r => r
  | none => .ok (.nx (junk J A 0 σ)) h
def MSay (A : List Nat) (σ : Sl) (h : Hh) (L : R Fl) : Option (R Fl) → Prop
  | some .bad => True
  | some (.ok (.nx _) _) => True
  | some r => L = r
  | none => ∃ τ, L = .ok (.nx τ) h ∧ Alike A σ τ
theorem MSay.back {A : List Nat} {σ σ' : Sl} {h : Hh} {L : R Fl} {o : Option (R Fl)} (a : Alike A σ σ') (m : MSay A σ' h L o) : MSay A σ h L o := by
  unfold MSay at m ⊢
  split at m
  · trivial
  · trivial
  · exact m
  · obtain ⟨τ, h1, h2⟩ := m
    exact ⟨τ, h1, a.trans h2⟩
theorem forL_M {Γ : Prog} {k : Nat} {t : Tg} {live : List (Nat × Nat)} {b : MSs} {A : List Nat} {h : Hh} {σ0 : Sl} (hA : ∀ i ∈ tgs t ++ asgds b, i ∈ A) (pb : pureMSs Γ b = true) (hl : liveOk h live = true) :
    ∀ (xs : List D) (its : List It1) (σ : Sl), Alike A σ0 σ → optAll (It1.get h) its = some xs →
    MSay A σ h (forL t live (evalSs (callN Γ k) b) its σ h) (xs.findSome? fun y => outOf (onTg t y (wipe σ0 A) h (evalSs (callN Γ k) b)))
  | [], its, σ, al, hr => by
    cases its with
    | nil => exact ⟨σ, by unfold forL; rw [if_pos hl], Alike.refl A σ⟩
    | cons x xs =>
      unfold optAll at hr
      split at hr
      · split at hr <;> simp at hr
      · cases hr
  | y :: ys, its, σ, al, hr => by
    cases its with
    | nil => simp [optAll] at hr
    | cons x xs =>
      unfold optAll at hr
      split at hr
      · rename_i d hd
        split at hr
        · rename_i ds hds
          have e1 : d = y := (List.cons.inj (Option.some.inj hr)).1
          have e2 : ds = ys := (List.cons.inj (Option.some.inj hr)).2
          subst e1
          subst e2
          rw [List.findSome?_cons]
          have hle := le_wipe al
          unfold forL
          rw [hd]
          dsimp only
          cases hb : bindTg t d (wipe σ0 A) h with
          | none =>
            have : onTg t d (wipe σ0 A) h (evalSs (callN Γ k) b) = .bad := by unfold onTg; rw [hb]
            rw [this]
            trivial
          | some σ1 =>
            have e3 : onTg t d (wipe σ0 A) h (evalSs (callN Γ k) b) = evalSs (callN Γ k) b σ1 h := by unfold onTg; rw [hb]
            rw [e3]
            obtain ⟨τ1, e4, l1⟩ := hle.bind hb
            rw [e4]
            dsimp only
            have m := mono_Ss (callN Γ k) b σ1 τ1 h l1
            have kp := keeps_Ss Γ k b τ1 h pb
            have fr := fr_Ss (callN Γ k) b A τ1 h fun i hi => hA i (by simp [hi])
            have a1 : Alike A σ τ1 := Alike.bind e4 fun i hi => hA i (by simp [hi])
            cases hs : evalSs (callN Γ k) b σ1 h with
            | bad => trivial
            | exc c fs h' =>
              rw [hs] at m
              cases ht : evalSs (callN Γ k) b τ1 h with
              | bad => rw [ht] at m; exact m.elim
              | ok _ _ => rw [ht] at m; exact m.elim
              | exc c' fs' h2 =>
                rw [ht] at m
                obtain ⟨rfl, rfl, rfl⟩ := m
                rfl
            | ok f h' =>
              rw [hs] at m
              cases ht : evalSs (callN Γ k) b τ1 h with
              | bad => rw [ht] at m; exact m.elim
              | exc _ _ _ => rw [ht] at m; exact m.elim
              | ok g h2 =>
                rw [ht] at m
                obtain ⟨rfl, lf⟩ := m
                have := kp g h' ht
                subst this
                have fa := fr g h' ht
                rw [R.bind_ok]
                cases f <;> cases g <;> first | exact lf.elim | skip
                · have ih := forL_M (k := k) hA pb hl ds xs _ (al.trans (a1.trans fa)) hds
                  rw [outOf_nx]
                  exact ih.back (a1.trans fa)
                · have e : _ = _ := lf
                  subst e
                  rfl
                · trivial
                · have ih := forL_M (k := k) hA pb hl ds xs _ (al.trans (a1.trans fa)) hds
                  rw [outOf_ct]
                  exact ih.back (a1.trans fa)
        · cases hr
      · cases hr
theorem forL_M' {Γ : Prog} {k : Nat} {t : Tg} {live : List (Nat × Nat)} {b : MSs} {h : Hh} {σ : Sl} {xs : List D} {its : List It1} (pb : pureMSs Γ b = true) (hl : liveOk h live = true) (hr : optAll (It1.get h) its = some xs) :
    forL t live (evalSs (callN Γ k) b) its σ h = forM (fun y => onTg t y (wipe σ (tgs t ++ asgds b)) h (evalSs (callN Γ k) b)) (finJ Γ k t live b its σ h) (tgs t ++ asgds b) σ h (forAct Γ k t live b its σ h) xs := by
  have z := forL_M (k := k) (A := tgs t ++ asgds b) (fun i hi => hi) pb hl xs its σ (Alike.refl _ σ) hr
  unfold forM forAct
  generalize hq : xs.findSome? (fun y => outOf (onTg t y (wipe σ (tgs t ++ asgds b)) h (evalSs (callN Γ k) b))) = q at z
  match q, z with
  | some .bad, _ => rfl
  | some (.ok (.nx _) _), _ => rfl
  | some (.ok (.rt _) _), z => exact z
  | some (.ok (.bk _) _), z => exact z
  | some (.ok (.ct _) _), z => exact z
  | some (.exc _ _ _), z => exact z
  | none, ⟨τ, h1, h2⟩ =>
    dsimp only
    have e : finJ Γ k t live b its σ h = fun i => (τ[i]?).join := by
      funext i
      unfold finJ
      rw [h1]
      rfl
    rw [e, ← junk_of h2]
    exact h1

/-! ### the rules for simp -/
def onTgF (t : Tg) (d : D) (σ : Sl) (h : Hh) (F : Sl → Hh → R Fl) : R Fl := onTg t d σ h F
section
variable {Γ : Prog} {k : Nat} {t : Tg} {b : MSs} {σ : Sl} {h : Hh} {α : Type}
theorem forM_congr {F F' : α → R Fl} {J : Nat → Option D} {A : List Nat} {act : R Fl} {xs : List α} (hF : ∀ y ∈ xs, F y = F' y) : forM F J A σ h act xs = forM F' J A σ h act xs := by
  unfold forM
  have : xs.findSome? (fun y => outOf (F y)) = xs.findSome? (fun y => outOf (F' y)) := by
    induction xs with
    | nil => rfl
    | cons x xs ih => rw [List.findSome?_cons, List.findSome?_cons, hF x List.mem_cons_self, ih fun y hy => hF y (List.mem_cons_of_mem _ hy)]
  rw [this]
theorem forM_map (F : D → R Fl) (J : Nat → Option D) (A : List Nat) (act : R Fl) (g : α → D) (xs : List α) : forM F J A σ h act (xs.map g) = forM (fun y => F (g y)) J A σ h act xs := by
  unfold forM
  rw [List.findSome?_map]
  rfl
/-- a loop over known items, told by its parts alone -/
def forP (Γ : Prog) (k : Nat) (t : Tg) (live : List (Nat × Nat)) (its : List It1) (b : MSs) (σ : Sl) (h : Hh) (xs : List D) : R Fl :=
  forM (fun y => onTg t y (wipe σ (tgs t ++ asgds b)) h (evalSs (callN Γ k) b)) (finJ Γ k t live b its σ h) (tgs t ++ asgds b) σ h (forAct Γ k t live b its σ h) xs
@[simp] theorem forM_v (xs : List D) (pb : pureMSs Γ b = true) : forL t [] (evalSs (callN Γ k) b) (xs.map .v) σ h = forP Γ k t [] (xs.map .v) b σ h xs :=
  forL_M' pb rfl (all_v h xs)
@[simp] theorem forM_enum (n : Nat) (xs : List D) (pb : pureMSs Γ b = true) : forL t [] (evalSs (callN Γ k) b) (enumIts n (xs.map .v)) σ h = forP Γ k t [] (enumIts n (xs.map .v)) b σ h (enumD n xs) :=
  forL_M' pb rfl (all_enum h n xs)
@[simp] theorem forM_zip (xs ys : List D) (pb : pureMSs Γ b = true) : forL t [] (evalSs (callN Γ k) b) (zipIts (xs.map .v) (ys.map .v)) σ h = forP Γ k t [] (zipIts (xs.map .v) (ys.map .v)) b σ h (zipDD xs ys) :=
  forL_M' pb rfl (all_zip h xs ys)
@[simp] theorem forK_ref {n : Nat} {xs : List D} (ho : h[n]? = some (.lst xs)) (pb : pureMSs Γ b = true) : forK (seqC h n (some (.lst xs))) t (evalSs (callN Γ k) b) σ = forP Γ k t [(n, xs.length)] ((List.range xs.length).map fun i => .l n i xs.length) b σ h xs := by
  unfold seqC
  rw [forK_ok]
  exact forL_M' pb (live_one ho) (all_l ho)
@[simp] theorem forP_map {live : List (Nat × Nat)} {its : List It1} (g : α → D) (ys : List α) : forP Γ k t live its b σ h (ys.map g) = forM (fun y => @ite _ (y ∈ ys) (Classical.propDecidable _) (onTg t (g y) (wipe σ (tgs t ++ asgds b)) h (evalSs (callN Γ k) b)) .bad) (finJ Γ k t live b its σ h) (tgs t ++ asgds b) σ h (forAct Γ k t live b its σ h) ys := by
  unfold forP
  rw [forM_map]
  refine forM_congr fun y hy => ?_
  rw [if_pos hy]
@[simp] theorem forM_nil {F : α → R Fl} {J : Nat → Option D} {A : List Nat} {act : R Fl} : forM F J A σ h act [] = .ok (.nx (junk J A 0 σ)) h := rfl
@[simp] theorem forM_un {P : α → Prop} [∀ y, Decidable (P y)] {F : α → R Fl} {J : Nat → Option D} {A : List Nat} {act : R Fl} {ys : List α} (hP : ∀ y ∈ ys, P y) : forM (fun y => if P y then F y else .bad) J A σ h act ys = forM F J A σ h act ys :=
  forM_congr fun y hy => if_pos (hP y hy)
variable {J : Nat → Option D} {A : List Nat} {act : R Fl} {xs : List α} {s : α → Sl} {h' h2 : Hh}
theorem forM_some {F : α → R Fl} {o : α → Option (R Fl)} (hF : ∀ y ∈ xs, outOf (F y) = o y) : forM F J A σ h act xs = match xs.findSome? o with
  | some .bad => act
  | some (.ok (.nx _) _) => act
  | some r => r
  | none => .ok (.nx (junk J A 0 σ)) h := by
  unfold forM
  have : xs.findSome? (fun y => outOf (F y)) = xs.findSome? o := by
    induction xs with
    | nil => rfl
    | cons x xs ih => rw [List.findSome?_cons, List.findSome?_cons, hF x List.mem_cons_self, ih fun y hy => hF y (List.mem_cons_of_mem _ hy)]
  rw [this]
@[simp] theorem forM_0 : forM (fun y => .ok (.nx (s y)) h') J A σ h act xs = .ok (.nx (junk J A 0 σ)) h := by
  rw [forM_some (o := fun _ => none) (fun y _ => rfl), find_none]
@[simp] theorem forM_1 (p : α → Prop) [DecidablePred p] (d : D) : forM (fun y => if p y then .ok (.rt d) h' else .ok (.nx (s y)) h2) J A σ h act xs = if (∃ y ∈ xs, p y) then .ok (.rt d) h' else .ok (.nx (junk J A 0 σ)) h := by
  rw [forM_some (o := fun y => if p y then some (.ok (.rt d) h') else none) (fun y _ => by split <;> rfl), find_const]
  by_cases q : ∃ y ∈ xs, p y
  · rw [if_pos q, if_pos q]
  · rw [if_neg q, if_neg q]
@[simp] theorem forM_1' (p : α → Prop) [DecidablePred p] (d : D) : forM (fun y => if p y then .ok (.nx (s y)) h2 else .ok (.rt d) h') J A σ h act xs = if (∃ y ∈ xs, ¬ p y) then .ok (.rt d) h' else .ok (.nx (junk J A 0 σ)) h := by
  rw [forM_some (o := fun y => if ¬ p y then some (.ok (.rt d) h') else none) (fun y _ => by by_cases hp : p y <;> simp [hp]), find_const]
  by_cases q : ∃ y ∈ xs, ¬ p y
  · rw [if_pos q, if_pos q]
  · rw [if_neg q, if_neg q]
@[simp] theorem forM_1c (p : α → Prop) [DecidablePred p] (d : D) : forM (fun y => if p y then .ok (.rt d) h' else .ok (.ct (s y)) h2) J A σ h act xs = if (∃ y ∈ xs, p y) then .ok (.rt d) h' else .ok (.nx (junk J A 0 σ)) h := by
  rw [forM_some (o := fun y => if p y then some (.ok (.rt d) h') else none) (fun y _ => by split <;> rfl), find_const]
  by_cases q : ∃ y ∈ xs, p y
  · rw [if_pos q, if_pos q]
  · rw [if_neg q, if_neg q]
/-- the first for which p holds -/
@[simp low] theorem forM_2 (p : α → Prop) [DecidablePred p] (d : α → D) : forM (fun y => if p y then .ok (.rt (d y)) h' else .ok (.nx (s y)) h2) J A σ h act xs = (match xs.find? (fun y => decide (p y)) with
    | some y => .ok (.rt (d y)) h'
    | none => .ok (.nx (junk J A 0 σ)) h) := by
  rw [forM_some (o := fun y => if p y then some (.ok (.rt (d y)) h') else none) (fun y _ => by split <;> rfl)]
  have : xs.findSome? (fun y => if p y then some (R.ok (Fl.rt (d y)) h') else none) = (xs.find? fun y => decide (p y)).map fun y => R.ok (Fl.rt (d y)) h' := by
    induction xs with
    | nil => rfl
    | cons x xs ih =>
      rw [List.findSome?_cons, List.find?_cons]
      by_cases hp : p x
      · simp [hp]
      · simp only [hp, if_false, decide_false]
        exact ih
  rw [this]
  cases xs.find? fun y => decide (p y) <;> rfl
end
/-- ends of the same kind in a turn -/
@[simp] theorem ite_nx {p : Prop} [Decidable p] (σ τ : Sl) (h : Hh) : (if p then R.ok (Fl.nx σ) h else R.ok (Fl.nx τ) h) = R.ok (Fl.nx (if p then σ else τ)) h := by split <;> rfl
@[simp] theorem ite3_rt {p q r : Prop} [Decidable p] [Decidable q] [Decidable r] (d : D) (σ τ : Sl) (h : Hh) : (if p then (if q then R.ok (Fl.rt d) h else R.ok (Fl.nx σ) h) else (if r then R.ok (Fl.rt d) h else R.ok (Fl.nx τ) h)) = if (p ∧ q ∨ ¬ p ∧ r) then R.ok (Fl.rt d) h else R.ok (Fl.nx (if p then σ else τ)) h := by
  by_cases hp : p <;> by_cases hq : q <;> by_cases hr : r <;> simp [hp, hq, hr]
@[simp] theorem ite2a_rt {p q : Prop} [Decidable p] [Decidable q] (d : D) (σ τ : Sl) (h : Hh) : (if p then (if q then R.ok (Fl.rt d) h else R.ok (Fl.nx σ) h) else R.ok (Fl.nx τ) h) = if (p ∧ q) then R.ok (Fl.rt d) h else R.ok (Fl.nx (if p then σ else τ)) h := by
  by_cases hp : p <;> by_cases hq : q <;> simp [hp, hq]
@[simp] theorem ite2o_rt {p q : Prop} [Decidable p] [Decidable q] (d : D) (τ : Sl) (h : Hh) : (if p then R.ok (Fl.rt d) h else (if q then R.ok (Fl.rt d) h else R.ok (Fl.nx τ) h)) = if (p ∨ q) then R.ok (Fl.rt d) h else R.ok (Fl.nx τ) h := by
  by_cases hp : p <;> by_cases hq : q <;> simp [hp, hq]
@[simp] theorem ite2n_rt {p q : Prop} [Decidable p] [Decidable q] (d : D) (σ τ : Sl) (h : Hh) : (if p then R.ok (Fl.nx τ) h else (if q then R.ok (Fl.rt d) h else R.ok (Fl.nx σ) h)) = if (¬ p ∧ q) then R.ok (Fl.rt d) h else R.ok (Fl.nx (if p then τ else σ)) h := by
  by_cases hp : p <;> by_cases hq : q <;> simp [hp, hq]
@[simp] theorem tgs_var (i : Nat) : tgs (.var i) = [i] := rfl
@[simp] theorem tgs_vars (is : List Nat) : tgs (.vars is) = is := rfl
@[simp] theorem asgd_e0 {i : Nat} {e : ME} : asgd (.asg (.var i) e) = [i] := by first | rfl | (rw [asgd]) | (rw [asgds])
@[simp] theorem asgd_e1 {o i e : ME} : asgd (.asg (.ix o i) e) = [] := by first | rfl | (rw [asgd]) | (rw [asgds])
@[simp] theorem asgd_e2 {is : List Nat} {e : ME} : asgd (.unp is e) = is := by first | rfl | (rw [asgd]) | (rw [asgds])
@[simp] theorem asgd_e3 {is : List Nat} {es : MEs} : asgd (.par is es) = is := by first | rfl | (rw [asgd]) | (rw [asgds])
@[simp] theorem asgd_e4 {i : Nat} {op : Op} {e : ME} : asgd (.aug i op e) = [i] := by first | rfl | (rw [asgd]) | (rw [asgds])
@[simp] theorem asgd_e5 {o i e : ME} {op : Op} : asgd (.augIx o i op e) = [] := by first | rfl | (rw [asgd]) | (rw [asgds])
@[simp] theorem asgd_e6 {e : ME} : asgd (.expr e) = [] := by first | rfl | (rw [asgd]) | (rw [asgds])
@[simp] theorem asgd_e7 {c : ME} {a b : MSs} : asgd (.ite c a b) = asgds a ++ asgds b := by first | rfl | (rw [asgd]) | (rw [asgds])
@[simp] theorem asgd_e8 {t : Tg} {it : MI} {b : MSs} : asgd (.for_ t it b) = tgs t ++ asgds b := by first | rfl | (rw [asgd]) | (rw [asgds])
@[simp] theorem asgd_e9 {c : ME} {b : MSs} : asgd (.while_ c b) = asgds b := by first | rfl | (rw [asgd]) | (rw [asgds])
@[simp] theorem asgd_e10 {e : ME} : asgd (.ret e) = [] := by first | rfl | (rw [asgd]) | (rw [asgds])
@[simp] theorem asgd_e11  : asgd .retN = [] := by first | rfl | (rw [asgd]) | (rw [asgds])
@[simp] theorem asgd_e12  : asgd .pass = [] := by first | rfl | (rw [asgd]) | (rw [asgds])
@[simp] theorem asgd_e13  : asgd .brk = [] := by first | rfl | (rw [asgd]) | (rw [asgds])
@[simp] theorem asgd_e14  : asgd .cont = [] := by first | rfl | (rw [asgd]) | (rw [asgds])
@[simp] theorem asgd_e15  : asgd .never = [] := by first | rfl | (rw [asgd]) | (rw [asgds])
@[simp] theorem asgd_e16  : asgds .nil = [] := by first | rfl | (rw [asgd]) | (rw [asgds])
@[simp] theorem asgd_e17 {s : MS} {ss : MSs} : asgds (.cons s ss) = asgd s ++ asgds ss := by first | rfl | (rw [asgd]) | (rw [asgds])
end Mini
end
section
set_option Elab.async false
set_option linter.all false
set_option autoImplicit false
set_option maxRecDepth 100000
/-! MiniH: loops that change cells; matrices of signs; tournaments. -/
namespace Mini
/-- a loop, each turn begun with its own places empty -/
theorem forL_can {Γ : Prog} {k : Nat} {t : Tg} {b : MSs} {σ : Sl} {α : Type} (g : α → D) (I : Nat → Hh → Prop) (A : List Nat) (hA : ∀ i ∈ tgs t ++ asgds b, i ∈ A) :
    ∀ (xs : List α) (i0 : Nat) (σ1 : Sl) (h : Hh), Alike A σ σ1 → I i0 h →
    (∀ (j : Nat) (x : α) (h : Hh), xs[j]? = some x → I (i0 + j) h → ∃ τ h2, (onTg t (g x) (wipe σ A) h (evalSs (callN Γ k) b) = .ok (.nx τ) h2 ∨ onTg t (g x) (wipe σ A) h (evalSs (callN Γ k) b) = .ok (.ct τ) h2) ∧ I (i0 + j + 1) h2) →
    ∃ τ h2, forL t [] (evalSs (callN Γ k) b) ((xs.map g).map .v) σ1 h = .ok (.nx τ) h2 ∧ I (i0 + xs.length) h2 ∧ Alike A σ τ
  | [], i0, σ1, h, al, hI, _ => ⟨σ1, h, rfl, hI, al⟩
  | x :: xs, i0, σ1, h, al, hI, hs => by
    obtain ⟨τ, h2, hb, h3⟩ := hs 0 x h rfl hI
    have hle := le_wipe al
    cases hbi : bindTg t (g x) (wipe σ A) h with
    | none =>
      have : onTg t (g x) (wipe σ A) h (evalSs (callN Γ k) b) = .bad := by unfold onTg; rw [hbi]
      rw [this] at hb
      rcases hb with hb | hb <;> cases hb
    | some σ2 =>
      have e3 : onTg t (g x) (wipe σ A) h (evalSs (callN Γ k) b) = evalSs (callN Γ k) b σ2 h := by unfold onTg; rw [hbi]
      rw [e3] at hb
      obtain ⟨τ1, e4, l1⟩ := hle.bind hbi
      have m := mono_Ss (callN Γ k) b σ2 τ1 h l1
      have fr := fr_Ss (callN Γ k) b A τ1 h fun i hi => hA i (by simp [hi])
      have a1 : Alike A σ1 τ1 := Alike.bind e4 fun i hi => hA i (by simp [hi])
      have go : ∃ τ2, (evalSs (callN Γ k) b τ1 h = .ok (.nx τ2) h2 ∨ evalSs (callN Γ k) b τ1 h = .ok (.ct τ2) h2) ∧ Alike A τ1 τ2 := by
        rcases hb with hb | hb
        · rw [hb] at m
          cases ht : evalSs (callN Γ k) b τ1 h with
          | bad => rw [ht] at m; exact m.elim
          | exc _ _ _ => rw [ht] at m; exact m.elim
          | ok f h' =>
            rw [ht] at m
            obtain ⟨rfl, lf⟩ := m
            have fa := fr f h2 ht
            cases f with
            | nx τ2 => exact ⟨τ2, .inl rfl, fa⟩
            | rt _ => exact lf.elim
            | bk _ => exact lf.elim
            | ct _ => exact lf.elim
        · rw [hb] at m
          cases ht : evalSs (callN Γ k) b τ1 h with
          | bad => rw [ht] at m; exact m.elim
          | exc _ _ _ => rw [ht] at m; exact m.elim
          | ok f h' =>
            rw [ht] at m
            obtain ⟨rfl, lf⟩ := m
            have fa := fr f h2 ht
            cases f with
            | nx _ => exact lf.elim
            | rt _ => exact lf.elim
            | bk _ => exact lf.elim
            | ct τ2 => exact ⟨τ2, .inr rfl, fa⟩
      obtain ⟨τ2, hb2, fa⟩ := go
      obtain ⟨τ3, h4, q1, q2, q3⟩ := forL_can (k := k) g I A hA xs (i0 + 1) τ2 h2 (al.trans (a1.trans fa)) (by simpa using h3) fun j z h' hz hj => by
        have := hs (j + 1) z h' (by simpa using hz) (by rw [show i0 + (j + 1) = i0 + 1 + j by omega]; exact hj)
        rw [show i0 + (j + 1) = i0 + 1 + j by omega] at this
        exact this
      refine ⟨τ3, h4, ?_, by rw [List.length_cons, show i0 + (xs.length + 1) = i0 + 1 + xs.length by omega]; exact q2, q3⟩
      rw [List.map_cons, List.map_cons]
      unfold forL
      rw [It1.get_v]
      dsimp only
      rw [e4]
      dsimp only
      rcases hb2 with hb2 | hb2 <;> (rw [hb2, R.bind_ok]; exact q1)
/-- goes on with the cells h -/
def NxH (r : R Fl) (h : Hh) : Prop := ∃ τ, r = .ok (.nx τ) h
@[simp] theorem NxH_ok (τ : Sl) (h h' : Hh) : NxH (.ok (.nx τ) h) h' ↔ h = h' := ⟨fun ⟨_, e⟩ => by cases e; rfl, fun e => ⟨τ, by rw [e]⟩⟩
/-- .. whose behaviour is told from its places' content at the beginning alone -/
theorem for_can {Γ : Prog} {k : Nat} {t : Tg} {b : MSs} {σ : Sl} {h : Hh} {α : Type} {its : List It1} (g : α → D) (xs : List α) (I : Nat → Hh → Prop) (hits : its = (xs.map g).map .v) (hI : I 0 h)
    (hs : ∀ (j : Nat) (x : α) (h : Hh), xs[j]? = some x → I j h → ∃ h2, NxH (onTg t (g x) (wipe σ (tgs t ++ asgds b)) h (evalSs (callN Γ k) b)) h2 ∧ I (j + 1) h2) :
    ∃ J h2, forL t [] (evalSs (callN Γ k) b) its σ h = .ok (.nx (junk J (tgs t ++ asgds b) 0 σ)) h2 ∧ I xs.length h2 := by
  subst hits
  obtain ⟨τ, h2, e1, e2, e3⟩ := forL_can (Γ := Γ) (k := k) (t := t) (b := b) g I (tgs t ++ asgds b) (fun i hi => hi) xs 0 σ h (Alike.refl _ σ) hI fun j x h hx hj => by
    obtain ⟨h2, ⟨τ, a⟩, c⟩ := hs j x h hx (by simpa using hj)
    exact ⟨τ, h2, .inl a, by simpa using c⟩
  refine ⟨fun i => (τ[i]?).join, h2, ?_, by simpa using e2⟩
  rw [e1, ← junk_of e3]
/-- .. over a range -/
theorem for_range {Γ : Prog} {k : Nat} {t : Tg} {b : MSs} {σ : Sl} {h : Hh} {its : List It1} (a n : Nat) (I : Nat → Hh → Prop) (hits : its = ((List.range' a n).map N).map .v) (hI : I 0 h)
    (hs : ∀ (j : Nat) (h : Hh), j < n → I j h → ∃ h2, NxH (onTg t (N (a + j)) (wipe σ (tgs t ++ asgds b)) h (evalSs (callN Γ k) b)) h2 ∧ I (j + 1) h2) :
    ∃ J h2, forL t [] (evalSs (callN Γ k) b) its σ h = .ok (.nx (junk J (tgs t ++ asgds b) 0 σ)) h2 ∧ I n h2 := by
  obtain ⟨J, h2, e1, e2⟩ := for_can (Γ := Γ) (k := k) (t := t) (b := b) (σ := σ) N (List.range' a n) I hits hI fun j x h hx hj => by
    obtain ⟨q, e⟩ := List.getElem?_eq_some_iff.mp hx
    simp at q e
    subst e
    exact hs j h q hj
  exact ⟨J, h2, e1, by simpa using e2⟩
/-! ### tournaments -/
structure Tour (n : Nat) (w : Nat → Nat → Char) : Prop where
  self : ∀ i, i < n → w i i = '.'
  pair : ∀ i j, i < n → j < n → i ≠ j → (w i j = '+' ∧ w j i = '-') ∨ (w i j = '-' ∧ w j i = '+')
theorem Tour.anti {n : Nat} {w : Nat → Nat → Char} (T : Tour n w) {i j : Nat} (hi : i < n) (hj : j < n) (e : w i j = '+') : ¬ w j i = '+' := by
  intro e2
  by_cases hij : i = j
  · subst hij
    rw [T.self i hi] at e
    exact absurd e (by decide)
  · rcases T.pair i j hi hj hij with ⟨a, b⟩ | ⟨a, b⟩
    · rw [b] at e2; exact absurd e2 (by decide)
    · rw [a] at e; exact absurd e (by decide)
theorem Tour.total {n : Nat} {w : Nat → Nat → Char} (T : Tour n w) {i j : Nat} (hi : i < n) (hj : j < n) (hij : i ≠ j) : w i j = '+' ∨ w j i = '+' := by
  rcases T.pair i j hi hj hij with ⟨a, b⟩ | ⟨a, b⟩
  · exact .inl a
  · exact .inr b
theorem Tour.ne {n : Nat} {w : Nat → Nat → Char} (T : Tour n w) {i j : Nat} (hi : i < n) (hj : j < n) (e : w i j = '+') : i ≠ j := by
  intro hij
  subst hij
  rw [T.self i hi] at e
  exact absurd e (by decide)
/-- the item i of an order -/
def oat (ord : List Nat) (i : Nat) : Nat := ord.getD i 0
theorem oat_at {ord : List Nat} {i : Nat} (hi : i < ord.length) (h : Hh) : idxD h (.lst (ord.map N)) (N i) = some (N (oat ord i)) := by
  rw [idxN_lst, List.getElem?_map, List.getElem?_eq_getElem hi]
  unfold oat
  rw [List.getD_eq_getElem?_getD, List.getElem?_eq_getElem hi]
  rfl
@[simp high] theorem oat_lst {ord : List Nat} {i : Nat} {h : Hh} (hi : i < ord.length) : idxD h (.lst (ord.map N)) (N i) = some (N (oat ord i)) := oat_at hi h
@[simp high] theorem oat_tup {ord : List Nat} {i : Nat} {h : Hh} (hi : i < ord.length) : idxD h (.tup (ord.map N)) (N i) = some (N (oat ord i)) := oat_at hi h
theorem oat_mem {ord : List Nat} {i : Nat} (hi : i < ord.length) : oat ord i ∈ ord := by
  unfold oat
  rw [List.getD_eq_getElem?_getD, List.getElem?_eq_getElem hi]
  exact List.getElem_mem hi
@[simp] theorem oat_zero (x : Nat) (xs : List Nat) : oat (x :: xs) 0 = x := rfl
/-! ### a matrix of signs in cells -/
def mxR (m : Nat) (f : Nat → Nat → Char) (p : Nat) : List D := (List.range m).map fun q => .str [f p q]
def mxC (m : Nat) (f : Nat → Nat → Char) : Hh := (List.range m).map fun p => Cell.lst (mxR m f p)
def upd (f : Nat → Nat → Char) (p q : Nat) (c : Char) : Nat → Nat → Char := fun a b => if a = p ∧ b = q then c else f a b
theorem mxC_len (m : Nat) (f : Nat → Nat → Char) : (mxC m f).length = m := by simp [mxC]
theorem mx_at {H : Hh} {m p b : Nat} {f : Nat → Nat → Char} (hb : b = H.length) (hp : p < m) : (H ++ mxC m f)[b + p]? = some (.lst (mxR m f p)) := by
  subst hb
  rw [List.getElem?_append_right (by omega), Nat.add_sub_cancel_left]
  unfold mxC
  rw [List.getElem?_map, List.getElem?_range hp]
  rfl
theorem map_set' {α : Type} (g : Nat → α) (m p : Nat) (x : α) : ((List.range m).map g).set p x = (List.range m).map fun i => if i = p then x else g i := by
  refine List.ext_getElem (by simp) fun i h1 h2 => ?_
  rw [List.getElem_set, List.getElem_map, List.getElem_range, List.getElem_map, List.getElem_range]
  by_cases e : p = i
  · rw [if_pos e, if_pos e.symm]
  · rw [if_neg e, if_neg fun z => e z.symm]
theorem mx_set {H : Hh} {m p q b : Nat} {f : Nat → Nat → Char} (hb : b = H.length) (c : Char) : (H ++ mxC m f).set (b + p) (.lst ((mxR m f p).set q (.str [c]))) = H ++ mxC m (upd f p q c) := by
  subst hb
  rw [List.set_append_right _ _ (by omega), Nat.add_sub_cancel_left]
  congr 1
  unfold mxC
  rw [map_set']
  refine List.map_congr_left fun i _ => ?_
  unfold mxR
  rw [map_set']
  unfold upd
  by_cases e : i = p
  · rw [if_pos e]
    congr 1
    refine List.map_congr_left fun j _ => ?_
    by_cases e2 : j = q
    · rw [if_pos e2, if_pos ⟨e, e2⟩]
    · rw [if_neg e2, if_neg fun z => e2 z.2, e]
  · rw [if_neg e]
    congr 1
    refine List.map_congr_left fun j _ => ?_
    rw [if_neg fun z => e z.1]
/-- rows[p][q] = c -/
theorem mx_put {H : Hh} {m p q b : Nat} {f : Nat → Nat → Char} (hb : b = H.length) (hp : p < m) (hq : q < m) (c : Char) : setD (H ++ mxC m f) (.ref (b + p)) (N q) (.str [c]) = some (H ++ mxC m (upd f p q c)) := by
  rw [N_def, set_cell (mx_at hb hp) (by simp [mxR]; exact hq), mx_set hb]
theorem refs_get {m p b : Nat} (hp : p < m) (h : Hh) : idxD h (.lst ((List.range m).map fun i => .ref (b + i))) (N p) = some (.ref (b + p)) := by
  rw [idxN_lst, List.getElem?_map, List.getElem?_range hp]
  rfl
/-- the pairs before (i, j) are set -/
structure Half (m : Nat) (ord : Nat → Nat) (f : Nat → Nat → Char) (i j : Nat) : Prop where
  self : ∀ p, p < m → f p p = '.'
  pair : ∀ a b, a < b → b < m → (a < i ∨ a = i ∧ b < j) → (f (ord a) (ord b) = '+' ∧ f (ord b) (ord a) = '-') ∨ (f (ord a) (ord b) = '-' ∧ f (ord b) (ord a) = '+')
theorem Half.put {m i j : Nat} {ord : Nat → Nat} {f : Nat → Nat → Char} {s t : Char} (H : Half m ord f i j) (inj : ∀ a b, a < m → b < m → ord a = ord b → a = b) (hij : i < j) (hj : j < m) (st : (s = '+' ∧ t = '-') ∨ (s = '-' ∧ t = '+')) :
    Half m ord (upd (upd f (ord i) (ord j) s) (ord j) (ord i) t) i (j + 1) := by
  have hne : ord i ≠ ord j := fun e => by have := inj i j (by omega) hj e; omega
  constructor
  · intro p hp
    unfold upd
    rw [if_neg (fun z => hne (z.2.symm.trans z.1)), if_neg (fun z => hne (z.1.symm.trans z.2))]
    exact H.self p hp
  · intro a b hab hb hc
    by_cases e : a = i ∧ b = j
    · obtain ⟨rfl, rfl⟩ := e
      unfold upd
      rw [if_neg (fun z => hne z.1), if_pos ⟨rfl, rfl⟩, if_pos ⟨rfl, rfl⟩]
      exact st
    · have h1 : ¬ (ord a = ord j ∧ ord b = ord i) := fun z => by
        have := inj a j (by omega) hj z.1
        have := inj b i hb (by omega) z.2
        omega
      have h2 : ¬ (ord a = ord i ∧ ord b = ord j) := fun z => e ⟨inj a i (by omega) (by omega) z.1, inj b j hb hj z.2⟩
      have h3 : ¬ (ord b = ord j ∧ ord a = ord i) := fun z => h2 ⟨z.2, z.1⟩
      have h4 : ¬ (ord b = ord i ∧ ord a = ord j) := fun z => h1 ⟨z.2, z.1⟩
      unfold upd
      rw [if_neg h1, if_neg h2, if_neg h3, if_neg h4]
      refine H.pair a b hab hb ?_
      rcases hc with hc | hc
      · exact .inl hc
      · right
        refine ⟨hc.1, ?_⟩
        have := hc.2
        by_cases hbj : b = j
        · exact absurd ⟨hc.1, hbj⟩ e
        · omega
theorem Half.next {m i : Nat} {ord : Nat → Nat} {f : Nat → Nat → Char} (H : Half m ord f i m) : Half m ord f (i + 1) (i + 2) := by
  constructor
  · exact H.self
  · intro a b hab hb hc
    refine H.pair a b hab hb ?_
    by_cases h : a < i
    · exact .inl h
    · right
      omega
theorem Half.tour {m : Nat} {ord : List Nat} {f : Nat → Nat → Char} {j : Nat} (H : Half m (oat ord) f m j) (hp : ord.Perm (List.range m)) : Tour m f := by
  have hl : ord.length = m := by simpa using hp.length_eq
  have sur : ∀ p, p < m → ∃ a, a < m ∧ oat ord a = p := by
    intro p hpm
    have hm : p ∈ ord := hp.mem_iff.mpr (List.mem_range.mpr hpm)
    obtain ⟨a, ha, e⟩ := List.mem_iff_getElem.mp hm
    refine ⟨a, by omega, ?_⟩
    unfold oat
    rw [List.getD_eq_getElem?_getD, List.getElem?_eq_getElem ha]
    exact e
  constructor
  · exact H.self
  · intro p q hpm hqm hpq
    obtain ⟨a, ha, rfl⟩ := sur p hpm
    obtain ⟨b, hb, rfl⟩ := sur q hqm
    rcases Nat.lt_trichotomy a b with h | h | h
    · exact H.pair a b h hb (.inl ha)
    · subst h; exact absurd rfl hpq
    · rcases H.pair b a h ha (.inl hb) with ⟨x, y⟩ | ⟨x, y⟩
      · exact .inr ⟨y, x⟩
      · exact .inl ⟨y, x⟩
theorem perm_inj {m : Nat} {ord : List Nat} (hp : ord.Perm (List.range m)) : ∀ a b, a < m → b < m → oat ord a = oat ord b → a = b := by
  have hl : ord.length = m := by simpa using hp.length_eq
  have nd : ord.Nodup := hp.nodup_iff.mpr List.nodup_range
  intro a b ha hb e
  unfold oat at e
  rw [List.getD_eq_getElem?_getD, List.getD_eq_getElem?_getD, List.getElem?_eq_getElem (by omega), List.getElem?_eq_getElem (by omega)] at e
  have e : ord[a] = ord[b] := e
  have pw := List.pairwise_iff_getElem.mp nd
  rcases Nat.lt_trichotomy a b with h | h | h
  · exact absurd e (pw a b (by omega) (by omega) h)
  · exact h
  · exact absurd e.symm (pw b a (by omega) (by omega) h)
theorem perm_lt {m : Nat} {ord : List Nat} (hp : ord.Perm (List.range m)) {a : Nat} (ha : a < m) : oat ord a < m := by
  have hl : ord.length = m := by simpa using hp.length_eq
  unfold oat
  rw [List.getD_eq_getElem?_getD, List.getElem?_eq_getElem (by omega)]
  exact List.mem_range.mp (hp.mem_iff.mp (List.getElem_mem _))
/-- rows of one sign -/
theorem join_mx {H : Hh} {m p b : Nat} {f : Nat → Nat → Char} (hb : b = H.length) (hp : p < m) (hm : m ≤ 1000) : methD (H ++ mxC m f) .join (.str []) [.ref (b + p)] = some (rowS m f p) := by
  have e : (H ++ mxC m f)[b + p]? = some (.lst (((List.range m).map fun q => f p q).map fun ch => D.str [ch])) := by
    rw [mx_at hb hp]
    unfold mxR
    rw [List.map_map]
    rfl
  rw [join_cell e (by simp [Mini.lim]; omega)]
  rfl
end Mini
namespace Mini
/-- a loop that does nothing but append -/
theorem for_app {Γ : Prog} {k i v : Nat} {e : ME} {σ : Sl} {H : Hh} {α : Type} (g f : α → D) (ys : List α) (acc : List D) (hv : (wipe σ [i])[v]? = some (some (.ref H.length))) (hiv : i ≠ v) (hl : acc.length + ys.length ≤ 1000000)
    (he : ∀ y ∈ ys, ∀ acc', evalE (callN Γ k) e ((wipe σ [i]).set i (some (g y))) (H ++ [.lst acc']) = .ok (f y) (H ++ [.lst acc'])) :
    ∃ J, forL (.var i) [] (evalSs (callN Γ k) (.cons (.expr (.mut .append (.var v) (.cons e .nil))) .nil)) ((ys.map g).map .v) σ (H ++ [.lst acc]) = .ok (.nx (junk J [i] 0 σ)) (H ++ [.lst (acc ++ ys.map f)]) := by
  obtain ⟨J, h2, e1, e2⟩ := for_can (Γ := Γ) (k := k) (t := .var i) (b := .cons (.expr (.mut .append (.var v) (.cons e .nil))) .nil) (σ := σ) (h := H ++ [.lst acc]) g ys (fun j h => h = H ++ [.lst (acc ++ (ys.take j).map f)]) rfl (by simp) (fun j x h hj hI => by
    subst hI
    have hx : x ∈ ys := List.mem_of_getElem? hj
    have hjl : j < ys.length := (List.getElem?_eq_some_iff.mp hj).1
    refine ⟨_, ?_, rfl⟩
    have e3 := he x hx (acc ++ (ys.take j).map f)
    have hw : wipe σ (tgs (.var i) ++ asgds (.cons (.expr (.mut .append (.var v) (.cons e .nil))) .nil)) = wipe σ [i] := by simp
    rw [hw, onTg_var, es_cons, es_expr, ev_mut, ev_var]
    have hv2 : ((wipe σ [i]).set i (some (g x)))[v]? = some (some (.ref H.length)) := by rw [List.getElem?_set_ne hiv]; exact hv
    have hc : (H ++ [Cell.lst (acc ++ (ys.take j).map f)])[H.length]? = some (.lst (acc ++ (ys.take j).map f)) := by
      rw [List.getElem?_append_right (Nat.le_refl _), Nat.sub_self]; rfl
    rw [hv2, varR_some, mutK_ok, lst_cell hc]
    show NxH (seqS (bind1 (mutB true _ (evalEs _ _ _ _) _) _) _) _
    rw [ev_cons, e3, seqE_ok, ev_nil, consR_ok, mutB_ok, append_cell hc (by simp [Mini.lim]; omega), bind1_ok, seqS_nx, es_nil, NxH_ok]
    rw [List.set_append_right _ _ (Nat.le_refl _), Nat.sub_self]
    show H ++ [Cell.lst (acc ++ (ys.take j).map f ++ [f x])] = _
    rw [List.append_assoc, List.take_succ, hj]
    simp)
  refine ⟨J, ?_⟩
  rw [e1, e2, List.take_length]
  simp
end Mini
namespace Mini
/-! ### cells read -/
def cellL : Option Cell → Option (List D)
  | some (.lst xs) => some xs
  | _ => none
@[simp] theorem cellL_lst (xs : List D) : cellL (some (.lst xs)) = some xs := rfl
section
variable {h : Hh} {n : Nat}
theorem rd_ref : rdOf h (.ref n) = cellL h[n]? := by
  show (match h[n]? with
    | some (.lst xs) => some xs
    | _ => none) = _
  cases h[n]? with
  | none => rfl
  | some c => cases c <;> rfl
theorem lst_ref : lstOf h (.ref n) = cellL h[n]? := by
  show (match h[n]? with
    | some (.lst xs) => some xs
    | _ => none) = _
  cases h[n]? with
  | none => rfl
  | some c => cases c <;> rfl
theorem seqO_ref : seqOf h (.ref n) = cellL h[n]? := by
  show (match h[n]? with
    | some (.lst xs) => some xs
    | _ => none) = _
  cases h[n]? with
  | none => rfl
  | some c => cases c <;> rfl
theorem lstOf_ref' : lstOf h (.ref n) = cellL h[n]? := lst_ref
theorem tuple_ref : biD h .tuple (.ref n) = (cellL h[n]?).map D.tup := by
  show (rdOf h (.ref n)).map D.tup = _
  rw [rd_ref]
theorem list_ref : biD h .list (.ref n) = (cellL h[n]?).map D.lst := by
  show (seqOf h (.ref n)).map D.lst = _
  rw [seqO_ref]
def lenC : Option Cell → Option D
  | some (.lst xs) => some (N xs.length)
  | some (.dK kvs) => some (N kvs.length)
  | _ => none
@[simp] theorem lenC_lst (xs : List D) : lenC (some (.lst xs)) = some (N xs.length) := rfl
theorem len_ref : biD h .len (.ref n) = lenC h[n]? := by
  show (match h[n]? with
      | some (.lst xs) => some (D.int xs.length)
      | some (.dK kvs) => some (D.int kvs.length)
      | _ => none) = _
  cases h[n]? with
  | none => rfl
  | some c => cases c <;> rfl
def bi1 (f : Bi) (o : Option (List D)) : Option D := o.bind fun xs => biD [] f (.lst xs)
@[simp] theorem bi1_some (f : Bi) (xs : List D) : bi1 f (some xs) = biD [] f (.lst xs) := rfl
theorem all_ref : biD h .all (.ref n) = bi1 .all (cellL h[n]?) := by
  show (rdOf h (.ref n)).bind _ = _
  rw [rd_ref]; rfl
theorem any_ref : biD h .any (.ref n) = bi1 .any (cellL h[n]?) := by
  show (rdOf h (.ref n)).bind _ = _
  rw [rd_ref]; rfl
theorem sum_ref : biD h .sum (.ref n) = bi1 .sum (cellL h[n]?) := by
  show (rdOf h (.ref n)).bind _ = _
  rw [rd_ref]; rfl
theorem max_ref : biD h .max (.ref n) = bi1 .max (cellL h[n]?) := by
  show (rdOf h (.ref n)).bind _ = _
  rw [rd_ref]; rfl
theorem min_ref : biD h .min (.ref n) = bi1 .min (cellL h[n]?) := by
  show (rdOf h (.ref n)).bind _ = _
  rw [rd_ref]; rfl
theorem sorted_ref : biD h .sorted (.ref n) = bi1 .sorted (cellL h[n]?) := by
  show (rdOf h (.ref n)).bind _ = _
  rw [rd_ref]; rfl
def truC : Option Cell → Option Bool
  | some (.lst xs) => some (!xs.isEmpty)
  | _ => none
@[simp] theorem truC_lst (xs : List D) : truC (some (.lst xs)) = some (!xs.isEmpty) := rfl
theorem truthy_ref : truthy h (.ref n) = truC h[n]? := by
  show (match h[n]? with
    | some (.lst xs) => some (!xs.isEmpty)
    | _ => none) = _
  cases h[n]? with
  | none => rfl
  | some c => cases c <;> rfl
def idxC (i : D) : Option Cell → Option D
  | some (.lst xs) => idxD [] (.lst xs) i
  | some (.dK kvs) => match key1 i with
      | some k => findK k kvs
      | none => none
  | some (.dT kvs) => match keyT i with
      | some k => findK k kvs
      | none => none
  | none => none
@[simp] theorem idxC_lst (i : D) (xs : List D) : idxC i (some (.lst xs)) = idxD [] (.lst xs) i := rfl
theorem idx_ref {i : D} : idxD h (.ref n) i = idxC i h[n]? := by
  show (match h[n]? with
    | some (.lst xs) => match i with
      | .int i => atI xs i
      | _ => none
    | some (.dK kvs) => match key1 i with
      | some k => findK k kvs
      | none => none
    | some (.dT kvs) => match keyT i with
      | some k => findK k kvs
      | none => none
    | none => none) = _
  cases h[n]? with
  | none => rfl
  | some c =>
    cases c with
    | lst xs => cases i <;> rfl
    | dK kvs => rfl
    | dT kvs => rfl
def mutC (h : Hh) (m : Mu) (n : Nat) (as : List D) : Option Cell → R D
  | some (.lst xs) => match m, as with
      | .append, [d] => if xs.length < lim then .ok .non (h.set n (.lst (xs ++ [d]))) else .bad
      | .extend, [d] => match lstOf h d with
        | some ys => if xs.length + ys.length ≤ lim then .ok .non (h.set n (.lst (xs ++ ys))) else .bad
        | none => .bad
      | .pop, [] => match xs.getLast? with
        | some d => .ok d (h.set n (.lst xs.dropLast))
        | none => .bad
      | .pop, [.int i] => match ixN xs.length i with
        | some k => match xs[k]? with
          | some d => .ok d (h.set n (.lst (xs.eraseIdx k)))
          | none => .bad
        | none => .bad
      | _, _ => .bad
  | _ => .bad
theorem mut_ref {m : Mu} {as : List D} : mutD h m (.ref n) as = mutC h m n as h[n]? := by
  unfold mutD mutC
  (try dsimp only)
  all_goals (generalize h[n]? = o; cases o with
    | none => rfl
    | some c => cases c <;> rfl)
@[simp] theorem mutC_append {xs : List D} {d : D} (hl : xs.length < 1000000) : mutC h .append n [d] (some (.lst xs)) = .ok .non (h.set n (.lst (xs ++ [d]))) := if_pos hl
@[simp] theorem mutC_extend {xs ys : List D} (hl : xs.length + ys.length ≤ 1000000) : mutC h .extend n [.lst ys] (some (.lst xs)) = .ok .non (h.set n (.lst (xs ++ ys))) := if_pos hl
theorem isi_ref {ts : List Ty} {xs : List D} (e : h[n]? = some (.lst xs)) : isiD h (.ref n) ts = some (decide (Ty.list ∈ ts)) := by
  show (match h[n]? with
    | some (.lst _) => some (decide (Ty.list ∈ ts))
    | some _ => some (decide (Ty.dict ∈ ts))
    | none => none) = _
  rw [e]
def setC (h : Hh) (n : Nat) (i d : D) : Option Cell → Option Hh
  | some (.lst xs) => match i with
      | .int i => match ixN xs.length i with
        | some k => some (h.set n (.lst (xs.set k d)))
        | none => none
      | _ => none
  | some (.dK kvs) => match key1 i with
      | some k => if kvs.length < lim then some (h.set n (.dK (putK k d kvs))) else none
      | none => none
  | some (.dT kvs) => match keyT i with
      | some k => if kvs.length < lim then some (h.set n (.dT (putK k d kvs))) else none
      | none => none
  | none => none
theorem set_ref {i d : D} : setD h (.ref n) i d = setC h n i d h[n]? := by
  unfold setD setC
  (try dsimp only)
  all_goals (generalize h[n]? = o; cases o with
    | none => rfl
    | some c => cases c <;> rfl)
theorem setC_N {xs : List D} {i : Nat} {d : D} (hi : i < xs.length) : setC h n (N i) d (some (.lst xs)) = some (h.set n (.lst (xs.set i d))) := by
  show (match ixN xs.length ((i : Nat) : Int) with
        | some k => some (h.set n (.lst (xs.set k d)))
        | none => none) = _
  rw [ixN_nat hi]
end
section
variable {α : Type} [DecidableEq α] {m : Nat} {g : α → D} {h : Hh} {n : Nat}
theorem optAll_id {β : Type} (f : β → Option β) : ∀ xs : List β, (∀ x ∈ xs, f x = some x) → optAll f xs = some xs
  | [], _ => rfl
  | x :: xs, hx => by
    unfold optAll
    rw [hx x List.mem_cons_self]
    dsimp only
    rw [optAll_id f xs fun y hy => hx y (List.mem_cons_of_mem _ hy)]
theorem view_ref [E : EqD m g] {ys : List α} (e : h[n]? = some (.lst (ys.map g))) : view h 8 (.ref n) = some (.lst (ys.map g)) := by
  unfold view
  rw [if_neg (by simp [pureD])]
  dsimp only
  rw [e]
  dsimp only
  rw [optAll_id _ _ fun x hx => ?_]
  · rfl
  · obtain ⟨a, _, rfl⟩ := List.mem_map.mp hx
    exact view_free h 7 _ (E.pure a)
def inC (h : Hh) (x : D) (n : Nat) : Option Cell → Option Bool := fun _ => cmpD h .inn x (.ref n)
/-- x in found, a cell -/
theorem in_cell [E : EqD m g] (hm : m ≤ 50) {ys : List α} (e : h[n]? = some (.lst (ys.map g))) (a : α) : cmpD h .inn (g a) (.ref n) = some (decide (a ∈ ys)) := by
  have e1 : cmpD h .inn (g a) (.ref n) = inSeq h (g a) (.ref n) := by
    show inD h (g a) (.ref n) = _
    unfold inD
    dsimp only
    rw [e]
  rw [e1]
  have q := (in_seq (h := h) (E := E) hm a ys).2
  unfold inSeq at q ⊢
  rw [view_ref e]
  rw [view_free h 8 (.lst (ys.map g)) (free_l E hm ys).1] at q
  exact q
theorem nin_cell [E : EqD m g] (hm : m ≤ 50) {ys : List α} (e : h[n]? = some (.lst (ys.map g))) (a : α) : cmpD h .nin (g a) (.ref n) = some (!decide (a ∈ ys)) := by
  have q := in_cell (E := E) hm e a
  show (inD h (g a) (.ref n)).map _ = _
  rw [show inD h (g a) (.ref n) = some (decide (a ∈ ys)) from q]
  rfl
theorem eq_cell0 [E : EqD m g] (hm : m ≤ 50) {ys : List α} (e : h[n]? = some (.lst (ys.map g))) : cmpD h .eq (.ref n) (.lst []) = some (decide (ys = [])) := by
  have q := eq_lst0 (h := h) (E := E) ys hm
  have e1 : cmpD h .eq (.ref n) (.lst []) = (match view h 8 (.ref n), view h 8 (.lst []) with
    | some x, some y => if cmpOk x && cmpOk y then some (eqv x y) else none
    | _, _ => none) := rfl
  have e2 : cmpD h .eq (.lst (ys.map g)) (.lst []) = (match view h 8 (.lst (ys.map g)), view h 8 (.lst []) with
    | some x, some y => if cmpOk x && cmpOk y then some (eqv x y) else eqE (.lst (ys.map g)) (.lst [])
    | _, _ => eqE (.lst (ys.map g)) (.lst [])) := rfl
  have ck : (cmpOk (.lst (ys.map g)) && cmpOk (.lst [])) = true := by
    obtain ⟨_, b, c⟩ := free_l E hm ys
    have c0 : cmpOk (.lst []) = true := rfl
    rw [c0, Bool.and_true]
    unfold cmpOk
    rw [b, decide_eq_true c]
    rfl
  have v0 : view h 8 (.lst []) = some (.lst []) := rfl
  rw [e1, view_ref e, v0]
  rw [e2, view_free h 8 (.lst (ys.map g)) (free_l E hm ys).1, v0] at q
  dsimp only at q ⊢
  rw [if_pos ck] at q ⊢
  exact q
theorem ne_cell0 [E : EqD m g] (hm : m ≤ 50) {ys : List α} (e : h[n]? = some (.lst (ys.map g))) : cmpD h .ne (.ref n) (.lst []) = some (!decide (ys = [])) := by
  have q := eq_cell0 (E := E) hm e
  show (eqD h (.ref n) (.lst [])).map _ = _
  rw [show eqD h (.ref n) (.lst []) = some (decide (ys = [])) from q]
  rfl
end
end Mini
namespace Mini
theorem call_drop2 {Γ : Prog} {f : String} {fn : Fn} {k : Nat} {args : List D} {h h' : Hh} {d d' : D} (hf : Γ f = some fn) (hm : fn.mode = .drop) (hp : args.length = fn.params)
    (ev : bodyOf (evalSs (callN Γ k) fn.body (startOf fn args) h) = .ok d h') (ht : trimOk h h' = true) (hd : below h.length d = false) (hs : snap h.length h' 8 d = some d') : callN Γ (k + 1) f args h = .ok d' (h'.take h.length) := by
  unfold callN
  rw [hf]
  dsimp only
  rw [if_pos hp, hm]
  dsimp only
  rw [ev]
  dsimp only
  rw [if_pos ht, if_neg (by simp [hd]), hs]
  rfl
end Mini
end
section
set_option Elab.async false
set_option linter.all false
set_option autoImplicit false
set_option maxRecDepth 100000
/-! MiniJ: repr of tables; sums of tuples. -/
namespace Mini
theorem wtL_mapc {α : Type} (f : α → D) (c : Nat) (hf : ∀ x, wtD (f x) ≤ c) : ∀ xs : List α, wtL (xs.map f) ≤ xs.length * (c + 2)
  | [] => Nat.zero_le _
  | x :: xs => by
    have ih := wtL_mapc f c hf xs
    have h1 := hf x
    simp only [List.map_cons, wtL, List.length_cons, Nat.add_mul, Nat.one_mul]
    simp only [Nat.mul_add] at ih ⊢
    omega
theorem repr_tup {h : Hh} {xs : List D} (hp : pureD (.tup xs) = true) (hd : dataL xs = true) (hw : wtL xs + 3 < lim) (hq : depL xs ≤ 59) : biD h .repr (.tup xs) = some (.rep (.tup xs)) := by
  unfold biD
  dsimp only
  rw [view_free _ _ _ hp]
  dsimp only
  have h1 : wtD (.tup xs) < lim := hw
  have h2 : depD (.tup xs) ≤ 60 := Nat.succ_le_succ hq
  rw [hd, decide_eq_true h1, decide_eq_true h2, Bool.and_self, Bool.and_self, if_pos rfl]
@[simp] theorem repr_tab {h : Hh} {n : Nat} {w : Nat → Nat → Char} (hn : n ≤ 100) : biD h .repr (tab n w) = some (.rep (tab n w)) := by
  refine repr_tup (pu_tab) (by have := @da_tab n w; simpa [tab, dataD] using this) ?_ ?_
  · have z := wtL_mapc (fun i => D.str ((List.range n).map fun j => w i j)) (10 * n + 2) (fun i => by simp [wtD]) (List.range n)
    have : (List.range n).length * (10 * n + 2 + 2) ≤ 100 * 1004 := Nat.mul_le_mul (by simpa using hn) (by omega)
    show _ < 1000000
    omega
  · have := depL_map (fun i => D.str ((List.range n).map fun j => w i j)) 0 (fun _ => Nat.le_refl _) (List.range n)
    omega
@[simp] theorem ne_rep {h : Hh} {d : D} : cmpD h .ne (.rep d) (.rep d) = some false := by
  show (some (decide (PySem.PyData.shown (toPy d) = PySem.PyData.shown (toPy d)))).map (!·) = some false
  rw [decide_eq_true rfl]
  rfl
@[simp] theorem eq_rep {h : Hh} {d : D} : cmpD h .eq (.rep d) (.rep d) = some true := by
  show (some (decide (PySem.PyData.shown (toPy d) = PySem.PyData.shown (toPy d)))) = some true
  rw [decide_eq_true rfl]
theorem add_tups {h : Hh} {xs ys : List D} (hl : xs.length + ys.length ≤ lim) : binD h .add (.tup xs) (.tup ys) = some (.tup (xs ++ ys)) := if_pos hl
/-- plain data whose lists are not too long -/
def smq : Nat → D → Bool
  | _, .int _ => true
  | _, .str _ => true
  | _, .non => true
  | _, .bl _ => true
  | n + 1, .tup xs => decide (xs.length ≤ 1000000) && xs.all (smq n)
  | n + 1, .lst xs => decide (xs.length ≤ 1000000) && xs.all (smq n)
  | _, _ => false
theorem smq_smp : ∀ (n : Nat) (d : D), smq n d = true → smp n d = true
  | 0, .int _, _ => rfl
  | 0, .str _, _ => rfl
  | 0, .non, _ => rfl
  | 0, .bl _, _ => rfl
  | n + 1, .int _, _ => rfl
  | n + 1, .str _, _ => rfl
  | n + 1, .non, _ => rfl
  | n + 1, .bl _, _ => rfl
  | n + 1, .tup xs, h => by
    simp only [smq, Bool.and_eq_true, List.all_eq_true] at h
    simp only [smp, List.all_eq_true]
    exact fun x hx => smq_smp n x (h.2 x hx)
  | n + 1, .lst xs, h => by
    simp only [smq, Bool.and_eq_true, List.all_eq_true] at h
    simp only [smp, List.all_eq_true]
    exact fun x hx => smq_smp n x (h.2 x hx)
@[simp] theorem isi_dct {h : Hh} {kvs : List (List Char × Int)} {ts : List Ty} : isiD h (.dct kvs) ts = some (decide (Ty.dict ∈ ts)) := rfl
@[simp] theorem isi_scr {h : Hh} {xs : List D} {ts : List Ty} : isiD h (.scr xs) ts = some (decide (Ty.list ∈ ts)) := rfl
@[simp] theorem augR_N {σ : Sl} {i : Nat} {op : Op} {a b : Nat} {h : Hh} : augR σ i op (N a) (N b) h = bind1 (R.of (binD h op (N a) (N b)) h) fun z h => .ok (.nx (σ.set i (some z))) h := augR_int σ i op _ _ h
/-- the item at i -/
def nthD (xs : List D) (i : Nat) : D := xs.getD i .non
theorem idx_gd {xs : List D} {i : Nat} (h : Hh) (hi : i < xs.length) : idxD h (.tup xs) (N i) = some (nthD xs i) := by
  rw [idxN_tup, nthD, List.getD_eq_getElem?_getD, List.getElem?_eq_getElem hi]
  rfl
theorem idx_gdl {xs : List D} {i : Nat} (h : Hh) (hi : i < xs.length) : idxD h (.lst xs) (N i) = some (nthD xs i) := by
  rw [idxN_lst, nthD, List.getD_eq_getElem?_getD, List.getElem?_eq_getElem hi]
  rfl
theorem idx_gds {xs : List D} {i : Nat} (h : Hh) (hi : i < xs.length) : idxD h (.scr xs) (N i) = some (nthD xs i) := by
  rw [idxN_scr, nthD, List.getD_eq_getElem?_getD, List.getElem?_eq_getElem hi]
  rfl
theorem gd_mem {xs : List D} {i : Nat} (hi : i < xs.length) : nthD xs i ∈ xs := by
  rw [nthD, List.getD_eq_getElem?_getD, List.getElem?_eq_getElem hi]
  exact List.getElem_mem hi
theorem insJ_perm {α : Type} (lt : α → α → Bool) (x : α) : ∀ ys : List α, (ins lt x ys).Perm (x :: ys)
  | [] => List.Perm.refl _
  | y :: ys => by
    unfold ins
    split
    · exact List.Perm.refl _
    · exact ((insJ_perm lt x ys).cons y).trans (List.Perm.swap x y ys)
theorem sortBy_perm {α : Type} (lt : α → α → Bool) (xs : List α) : (sortBy lt xs).Perm xs := by
  unfold sortBy
  have : ∀ l : List α, (l.foldr (ins lt) []).Perm l := fun l => by
    induction l with
    | nil => exact List.Perm.refl _
    | cons x l ih => exact (insJ_perm lt x _).trans (ih.cons x)
  exact (this _).trans (List.reverse_perm xs)
/-- what a loop that may return hands on -/
def retO (o : Option D) (σ : Sl) (h : Hh) : R Fl := match o with
  | some d => .ok (.rt d) h
  | none => .ok (.nx σ) h
@[simp] theorem retO_some (d : D) (σ : Sl) (h : Hh) : retO (some d) σ h = .ok (.rt d) h := rfl
@[simp] theorem retO_none (σ : Sl) (h : Hh) : retO none σ h = .ok (.nx σ) h := rfl
/-- a pure loop that returns at the first turn for which r says a value -/
theorem forP_ret {Γ : Prog} {k : Nat} {t : Tg} {live : List (Nat × Nat)} {its : List It1} {b : MSs} {σ : Sl} {h : Hh} {α : Type} (g : α → D) (ys : List α) (r : α → Option D)
    (hs : ∀ y ∈ ys, ∃ τ, onTg t (g y) (wipe σ (tgs t ++ asgds b)) h (evalSs (callN Γ k) b) = retO (r y) τ h) :
    ∃ J, forP Γ k t live its b σ h (ys.map g) = retO (ys.findSome? r) (junk J (tgs t ++ asgds b) 0 σ) h := by
  refine ⟨finJ Γ k t live b its σ h, ?_⟩
  unfold forP
  rw [forM_map, forM_some (o := fun y => (r y).map fun d => R.ok (Fl.rt d) h) (fun y hy => by
    obtain ⟨τ, e⟩ := hs y hy
    rw [e]
    cases r y <;> rfl)]
  have : ∀ l : List α, l.findSome? (fun y => (r y).map fun d => R.ok (Fl.rt d) h) = (l.findSome? r).map fun d => R.ok (Fl.rt d) h := fun l => by
    induction l with
    | nil => rfl
    | cons x l ih =>
      rw [List.findSome?_cons, List.findSome?_cons, ih]
      cases r x <;> rfl
  rw [this]
  cases ys.findSome? r <;> rfl
theorem eq_tupE {h : Hh} {xs : List D} : cmpD h .eq (.tup xs) (.tup []) = some xs.isEmpty := by
  show eqD h (.tup xs) (.tup []) = _
  have e : eqD h (.tup xs) (.tup []) = match view h 8 (.tup xs), view h 8 (.tup []) with
      | some x', some y' => if cmpOk x' && cmpOk y' then some (eqv x' y') else eqE (.tup xs) (.tup [])
      | _, _ => eqE (.tup xs) (.tup []) := rfl
  rw [e]
  have ln : ∀ (f : D → Option D) (l l' : List D), optAll f l = some l' → l'.isEmpty = l.isEmpty := fun f l l' q => by
    cases l with
    | nil => cases q; rfl
    | cons x l =>
      unfold optAll at q
      split at q
      · split at q
        · cases q; rfl
        · cases q
      · cases q
  have v2 : view h 8 (.tup []) = some (.tup []) := rfl
  rw [v2]
  cases hv : view h 8 (.tup xs) with
  | none => rfl
  | some x' =>
    dsimp only
    split
    · have hv' : (if pureD (.tup xs) then some (.tup xs) else (optAll (view h 7) xs).map D.tup) = some x' := hv
      by_cases hp : pureD (.tup xs) = true
      · rw [if_pos hp] at hv'
        cases hv'
        cases xs <;> rfl
      rw [if_neg hp] at hv'
      cases hx : optAll (view h 7) xs with
      | none => rw [hx] at hv'; cases hv'
      | some l' =>
        rw [hx] at hv'
        cases hv'
        rw [← ln _ _ _ hx]
        cases l' <;> rfl
    · rfl
theorem ne_tupE {h : Hh} {xs : List D} : cmpD h .ne (.tup xs) (.tup []) = some (!xs.isEmpty) := by
  show (cmpD h .eq (.tup xs) (.tup [])).map (!·) = _
  rw [eq_tupE]
  rfl
theorem eq_lstE {h : Hh} {xs : List D} : cmpD h .eq (.lst xs) (.lst []) = some xs.isEmpty := by
  show eqD h (.lst xs) (.lst []) = _
  have e : eqD h (.lst xs) (.lst []) = match view h 8 (.lst xs), view h 8 (.lst []) with
      | some x', some y' => if cmpOk x' && cmpOk y' then some (eqv x' y') else eqE (.lst xs) (.lst [])
      | _, _ => eqE (.lst xs) (.lst []) := rfl
  rw [e]
  have ln : ∀ (f : D → Option D) (l l' : List D), optAll f l = some l' → l'.isEmpty = l.isEmpty := fun f l l' q => by
    cases l with
    | nil => cases q; rfl
    | cons x l =>
      unfold optAll at q
      split at q
      · split at q
        · cases q; rfl
        · cases q
      · cases q
  have v2 : view h 8 (.lst []) = some (.lst []) := rfl
  rw [v2]
  cases hv : view h 8 (.lst xs) with
  | none => rfl
  | some x' =>
    dsimp only
    split
    · have hv' : (if pureD (.lst xs) then some (.lst xs) else (optAll (view h 7) xs).map D.lst) = some x' := hv
      by_cases hp : pureD (.lst xs) = true
      · rw [if_pos hp] at hv'
        cases hv'
        cases xs <;> rfl
      rw [if_neg hp] at hv'
      cases hx : optAll (view h 7) xs with
      | none => rw [hx] at hv'; cases hv'
      | some l' =>
        rw [hx] at hv'
        cases hv'
        rw [← ln _ _ _ hx]
        cases l' <;> rfl
    · rfl
theorem ne_lstE {h : Hh} {xs : List D} : cmpD h .ne (.lst xs) (.lst []) = some (!xs.isEmpty) := by
  show (cmpD h .eq (.lst xs) (.lst [])).map (!·) = _
  rw [eq_lstE]
  rfl
/-- a comprehension that changes cells -/
theorem comp_inv {α : Type} {t : Tg} {own : List Nat} {c : Sl → Hh → R Bool} {e : Sl → Hh → R D} {σ : Sl} (P : Nat → Hh → Prop) (V : D → Prop) (g : α → D) : ∀ (ys : List α) (j : Nat) (h : Hh), P (j + ys.length) h →
    (∀ j y h, y ∈ ys → P (j + 1) h → ∃ σ', bindTg t (g y) (wipe σ own) h = some σ' ∧ ((∃ h1, c σ' h = .ok false h1 ∧ P j h1) ∨ ∃ h1 d h2, c σ' h = .ok true h1 ∧ e σ' h1 = .ok d h2 ∧ V d ∧ P j h2)) →
    ∃ ds h', compL t own [] c e ((ys.map g).map .v) σ h = .ok ds h' ∧ ds.length ≤ ys.length ∧ (∀ d ∈ ds, V d) ∧ P j h'
  | [], j, h, hp, _ => ⟨[], h, rfl, Nat.le_refl _, (by intro d hd; cases hd), hp⟩
  | y :: ys, j, h, hp, hs => by
    have hp' : P (j + ys.length + 1) h := by
      rw [List.length_cons] at hp
      exact hp
    obtain ⟨σ', hb, hq⟩ := hs (j + ys.length) y h List.mem_cons_self hp'
    have hs' := fun j z h (hz : z ∈ ys) => hs j z h (List.mem_cons_of_mem _ hz)
    rcases hq with ⟨h1, e1, p1⟩ | ⟨h1, d, h2, e1, e2, v, p2⟩
    · obtain ⟨ds, h', e3, l3, v3, p3⟩ := comp_inv P V g ys j h1 p1 hs'
      refine ⟨ds, h', ?_, by rw [List.length_cons]; omega, v3, p3⟩
      rw [List.map_cons, List.map_cons]
      unfold compL
      rw [show (It1.v (g y)).get h = some (g y) from rfl]
      dsimp only
      rw [hb]
      dsimp only
      rw [e1, R.bind_ok, if_neg (by decide)]
      exact e3
    · obtain ⟨ds, h', e3, l3, v3, p3⟩ := comp_inv P V g ys j h2 p2 hs'
      refine ⟨d :: ds, h', ?_, by rw [List.length_cons, List.length_cons]; omega, fun z hz => ?_, p3⟩
      · rw [List.map_cons, List.map_cons]
        unfold compL
        rw [show (It1.v (g y)).get h = some (g y) from rfl]
        dsimp only
        rw [hb]
        dsimp only
        rw [e1, R.bind_ok, if_pos rfl, e2, R.bind_ok, e3, R.bind_ok]
      · rcases List.mem_cons.mp hz with rfl | hz
        · exact v
        · exact v3 z hz
end Mini
end
section
set_option Elab.async false
set_option linter.all false
set_option autoImplicit false
set_option maxRecDepth 100000
/-! MiniE: exceptions by simp. -/
namespace Mini
abbrev Exo := Option (String × List D × Hh)
section
variable {α β : Type} {c : String} {fs : List D} {h : Hh}
@[simp] theorem bind1_exc (k : α → Hh → R β) : bind1 (.exc c fs h) k = .exc c fs h := rfl
@[simp] theorem seqS_exc (k : Sl → Hh → R Fl) : seqS (.exc c fs h) k = .exc c fs h := rfl
@[simp] theorem truK_exc (a b : Sl → Hh → R Fl) (σ : Sl) : truK (.exc c fs h) a b σ = .exc c fs h := rfl
def excK (r : R Fl) (nx : Sl → Hh → Exo) (here : Exo) : Exo := match r with
  | .ok (.nx σ) h => nx σ h
  | .exc _ _ _ => here
  | _ => none
@[simp] theorem excK_nx (σ : Sl) (h : Hh) (nx : Sl → Hh → Exo) (here : Exo) : excK (.ok (.nx σ) h) nx here = nx σ h := rfl
@[simp] theorem excK_exc (nx : Sl → Hh → Exo) (here : Exo) : excK (.exc c fs h) nx here = here := rfl
def iteX (r : R D) (a b : Sl → Hh → Exo) (σ : Sl) : Exo := match truthR r with
  | .ok k h => if k then a σ h else b σ h
  | _ => none
@[simp] theorem iteX_bl (x : Bool) (a b : Sl → Hh → Exo) (σ : Sl) : iteX (.ok (.bl x) h) a b σ = if x = true then a σ h else b σ h := rfl
def hereX (C : Oracle) : MS → Sl → Hh → Exo
  | .ite c a b, σ, h => iteX (evalE C c σ h) (excSs C a) (excSs C b) σ
  | s, σ, h => excS C s σ h
def callX (r : R D) : Exo := match r with
  | .exc c fs h => some (c, fs, h)
  | _ => none
@[simp] theorem callX_exc : callX (.exc c fs h) = some (c, fs, h) := rfl
def callE (r : R (List D)) (k : List D → Hh → R D) : Exo := match r with
  | .ok ds h => callX (k ds h)
  | _ => none
@[simp] theorem callE_ok (ds : List D) (k : List D → Hh → R D) : callE (.ok ds h) k = callX (k ds h) := rfl
variable {C : Oracle} {σ : Sl}
@[simp] theorem xs_nil : excSs C .nil σ h = none := by rw [excSs]
@[simp] theorem xs_cons {s : MS} {ss : MSs} : excSs C (.cons s ss) σ h = excK (evalS C s σ h) (excSs C ss) (hereX C s σ h) := by
  conv => lhs; unfold excSs
  cases evalS C s σ h with
  | ok f h => cases f <;> rfl
  | exc c fs h => cases s <;> rfl
  | bad => rfl
@[simp] theorem here_ite {e : ME} {a b : MSs} : hereX C (.ite e a b) σ h = iteX (evalE C e σ h) (excSs C a) (excSs C b) σ := rfl
@[simp] theorem here_raise0 {x : String} : hereX C (.raise0 x) σ h = some (x, [], h) := rfl
@[simp] theorem here_asg {i : Nat} {e : ME} : hereX C (.asg (.var i) e) σ h = excE C e σ h := rfl
@[simp] theorem here_expr {e : ME} : hereX C (.expr e) σ h = excE C e σ h := rfl
@[simp] theorem here_ret {e : ME} : hereX C (.ret e) σ h = excE C e σ h := rfl
@[simp] theorem xs_asg {i : Nat} {e : ME} : excS C (.asg (.var i) e) σ h = excE C e σ h := rfl
@[simp] theorem xs_expr {e : ME} : excS C (.expr e) σ h = excE C e σ h := rfl
@[simp] theorem xs_ret {e : ME} : excS C (.ret e) σ h = excE C e σ h := rfl
@[simp] theorem xe_call {f : String} {as : MEs} : excE C (.call f as) σ h = callE (evalEs C as σ h) (C f) := rfl
end
@[simp] theorem lcK_cell {Γ : Prog} {k : Nat} {t : Tg} {own : List Nat} {c : MO} {e : ME} {σ : Sl} {h : Hh} {n : Nat} {xs : List D} (ho : h[n]? = some (.lst xs)) (pc : pureMO Γ c = true) (pe : pureME Γ e = true) :
    lcK (seqC h n (some (.lst xs))) t own (evalC (callN Γ k) c) (evalE (callN Γ k) e) σ = lstR (compQ Γ k t own c e σ h xs) := lcK_ref (o := none) ho pc pe
theorem call_exc {Γ : Prog} {f : String} {fn : Fn} {k : Nat} {args : List D} {h h1 h2 : Hh} {c c' : String} {fs fs' : List D} (hf : Γ f = some fn) (hm : fn.mode = .pure) (hp : args.length = fn.params) (ha : noRefL args = true)
    (ev : bodyOf (evalSs (callN Γ k) fn.body (startOf fn args) []) = .exc c' fs' h1) (ex : excSs (callN Γ k) fn.body (startOf fn args) [] = some (c, fs, h2)) (hq : pureL fs = true) : callN Γ (k + 1) f args h = .exc c fs h := by
  unfold callN
  rw [hf]
  dsimp only
  rw [if_pos hp, hm]
  dsimp only
  rw [lendArgs h 8 args ha]
  dsimp only
  rw [ev]
  dsimp only
  rw [ex]
  dsimp only
  rw [if_pos hq]
end Mini
end
section
set_option Elab.async false
set_option linter.all false
set_option autoImplicit false
set_option maxRecDepth 100000
set_option maxHeartbeats 0
namespace LK
open Mini
/-! ### the deck -/
def iL (ns : List Int) : List D := ns.map .int
def Dk (gs : List Int) (wh : Int) (c : Nat) (rest : Hh) : Hh := .lst (iL gs) :: .lst [.ref 0, .int wh, .int (c : Nat)] :: rest
theorem trim_dk {gs gs' : List Int} {wh wh' : Int} {c c' : Nat} {rest : Hh} (more : Hh) : trimOk (Dk gs wh c rest) (Dk gs' wh' c' rest ++ more) = true := by
  unfold trimOk Dk
  rw [Bool.and_eq_true]
  refine ⟨decide_eq_true (by simp), ?_⟩
  simp only [List.cons_append, List.zip_cons_cons, List.all_cons, Bool.and_eq_true]
  refine ⟨?_, ?_, ?_⟩
  · rw [Bool.or_eq_true]; right
    show belowL _ (iL gs') = true
    exact belowL_ints _ _
  · rw [Bool.or_eq_true]; right
    show belowL _ [.ref 0, .int wh', .int (c' : Nat)] = true
    simp [belowL, below]
  · exact zip_app_all (fun c => by simp [sameC_refl c]) rest more
structure DkOk (gs : List Int) (wh : Int) (c : Nat) : Prop where
  lo : 0 ≤ wh
  hi : wh < 2305843009213693951
  cnt : c < 1000000000
  len : gs.length ≤ 64
def nextW : MSs := match F_law_next.body with
  | .cons (.while_ _ b) _ => b
  | _ => .nil
def nextC : ME := match F_law_next.body with
  | .cons (.while_ c _) _ => c
  | _ => .bad
theorem draw_ok0 {gs : List Int} {wh : Int} {c k : Nat} {rest : Hh} {b : Int} (o : DkOk gs wh c) (hb : 0 < b) (hb2 : b < 1073741824) :
    ∃ (d : Int) (gs' : List Int) (c' : Nat), callN Gm (k + 1) "_law_next" [.ref 1, .int b] (Dk gs wh c rest) = .ok (.int d) (Dk gs' wh c' rest) ∧ 0 ≤ d ∧ d < b ∧ gs'.length ≤ 64 ∧ c' ≤ c + 1 := by
  have i0 : ∀ gs c, idxD (Dk gs wh c rest) (.ref 1) (.int 0) = some (.ref 0) := fun _ _ => rfl
  have i1 : ∀ gs c, idxD (Dk gs wh c rest) (.ref 1) (.int 1) = some (.int wh) := fun _ _ => rfl
  have i2 : ∀ gs c, idxD (Dk gs wh c rest) (.ref 1) (.int 2) = some (.int (c : Nat)) := fun _ _ => rfl
  have ne0 : ∀ gs, cmpD (Dk gs wh c rest) .ne (.ref 0) (.lst []) = some (!decide (gs = [])) := fun gs => ne_cell0 (g := D.int) (m := 0) (by omega) rfl
  have lst0 : ∀ gs, (lstOf (Dk gs wh c rest) (.ref 0)).isSome = true := fun gs => rfl
  -- the while
  have loop : ∀ (n : Nat) (gs : List Int) (fu : Nat) (x2 : Option D), gs.length = n → n ≤ 64 → n < fu →
      (∃ (d : Int) (gs' : List Int), whileL (evalC (callN Gm k) (.some nextC)) (evalSs (callN Gm k) nextW) fu [some (.ref 1), some (.int b), x2, none] (Dk gs wh c rest) = .ok (.rt (.int d)) (Dk gs' wh c rest) ∧ 0 ≤ d ∧ d < b ∧ gs'.length ≤ 64) ∨
      ∃ x2', whileL (evalC (callN Gm k) (.some nextC)) (evalSs (callN Gm k) nextW) fu [some (.ref 1), some (.int b), x2, none] (Dk gs wh c rest) = .ok (.nx [some (.ref 1), some (.int b), x2', none]) (Dk [] wh c rest) := by
    intro n
    induction n with
    | zero =>
      intro gs fu x2 hl _ hf
      match fu, hf with
      | fu + 1, _ =>
        have : gs = [] := List.length_eq_zero_iff.mp hl
        subst this
        right
        refine ⟨x2, ?_⟩
        have e : evalC (callN Gm k) (.some nextC) [some (.ref 1), some (.int b), x2, none] (Dk [] wh c rest) = .ok false (Dk [] wh c rest) := by
          unfold nextC F_law_next
          simp -implicitDefEqProofs [-ev_cstN, i0, ne0]
        unfold whileL
        rw [e, R.bind_ok]
        simp
    | succ n ih =>
      intro gs fu x2 hl h64 hf
      match fu, hf with
      | fu + 1, hf =>
        have hne : gs ≠ [] := fun e => by rw [e] at hl; cases hl
        have e : evalC (callN Gm k) (.some nextC) [some (.ref 1), some (.int b), x2, none] (Dk gs wh c rest) = .ok true (Dk gs wh c rest) := by
          unfold nextC F_law_next
          simp -implicitDefEqProofs [-ev_cstN, i0, ne0, hne]
        obtain ⟨hs, g, rfl⟩ : ∃ hs g, gs = hs ++ [g] := ⟨gs.dropLast, gs.getLast hne, (List.dropLast_concat_getLast hne).symm⟩
        have hl' : hs.length = n := by simpa using hl
        have pop : mutD (Dk (hs ++ [g]) wh c rest) .pop (.ref 0) [] = .ok (.int g) (Dk hs wh c rest) := by
          simp [mutD, Dk, iL]
        have app : ∀ z, mutD (Dk hs wh c rest) .append (.ref 0) [.int z] = .ok .non (Dk (hs ++ [z]) wh c rest) := fun z => by
          have hc : (Dk hs wh c rest)[0]? = some (.lst (iL hs)) := rfl
          rw [append_cell hc (by simp [Mini.lim, iL]; omega)]
          simp [Dk, iL]
        by_cases hg : 0 < g
        · left
          have one : evalSs (callN Gm k) nextW [some (.ref 1), some (.int b), x2, none] (Dk (hs ++ [g]) wh c rest) = .ok (.rt (.int (g % b))) (Dk (hs ++ [g / b]) wh c rest) := by
            unfold nextW F_law_next
            simp -implicitDefEqProofs [-ev_cstN, i0, lst0, pop, app, hg, bin_mod_int hb, bin_fdiv_int hb hb2]
          refine ⟨g % b, hs ++ [g / b], ?_, Int.emod_nonneg _ (by omega), Int.emod_lt_of_pos _ hb, by simp; omega⟩
          unfold whileL
          rw [e, R.bind_ok, if_pos rfl, one, R.bind_ok]
        · have one : evalSs (callN Gm k) nextW [some (.ref 1), some (.int b), x2, none] (Dk (hs ++ [g]) wh c rest) = .ok (.nx [some (.ref 1), some (.int b), some (.int g), none]) (Dk hs wh c rest) := by
            unfold nextW F_law_next
            simp -implicitDefEqProofs [-ev_cstN, i0, lst0, pop, hg]
          unfold whileL
          rw [e, R.bind_ok, if_pos rfl, one, R.bind_ok]
          exact ih hs fu (some (.int g)) hl' (by omega) (by omega)
  have hbody : ∃ (d : Int) (gs' : List Int) (c' : Nat), bodyOf (evalSs (callN Gm k) F_law_next.body [some (.ref 1), some (.int b), none, none] (Dk gs wh c rest)) = .ok (.int d) (Dk gs' wh c' rest) ∧ 0 ≤ d ∧ d < b ∧ gs'.length ≤ 64 ∧ c' ≤ c + 1 := by
    rcases loop gs.length gs fuel none rfl o.len (by have := o.len; show _ < 1000000; omega) with ⟨d, gs', e, h1, h2, h3⟩ | ⟨x2, e⟩
    · refine ⟨d, gs', c, ?_, h1, h2, h3, by omega⟩
      unfold nextW nextC F_law_next at e
      dsimp only at e
      unfold F_law_next
      simp -implicitDefEqProofs [-ev_cstN, e]
    · unfold nextW nextC F_law_next at e
      dsimp only at e
      have hc := o.cnt
      have h1 := o.lo
      have h2 := o.hi
      have u1 : setD (Dk [] wh c rest) (.ref 1) (.int 2) (.int ((c : Int) + 1)) = some (Dk [] wh (c + 1) rest) := rfl
      obtain ⟨z, hz⟩ : ∃ z : Int, z = ((c + 1 : Nat) : Int) := ⟨_, rfl⟩
      have i2' : idxD (Dk [] wh (c + 1) rest) (.ref 1) (.int 2) = some (.int z) := by rw [hz]; exact i2 [] (c + 1)
      have v1 : ∀ h, binD h .mul (.int 69621) (.int z) = some (.int (69621 * z)) := fun h => bin_mul_l (by omega) (by omega)
      have v2 : ∀ h, binD h .mul (.int wh) (.int (48271 + 69621 * z)) = some (.int (wh * (48271 + 69621 * z))) := fun h => bin_mul_l (by omega) (by omega)
      have v3 : ∀ h, binD h .mul (.int 40692) (.int z) = some (.int (40692 * z)) := fun h => bin_mul_l (by omega) (by omega)
      have v4 : ∀ h, binD h .mod (.int (wh * (48271 + 69621 * z) + 40692 * z)) (.int 2305843009213693951) = some (.int ((wh * (48271 + 69621 * z) + 40692 * z) % 2305843009213693951)) := fun h => bin_mod_int (by omega)
      have g1 : 0 ≤ (wh * (48271 + 69621 * z) + 40692 * z) % 2305843009213693951 := Int.emod_nonneg _ (by omega)
      have g2 : (wh * (48271 + 69621 * z) + 40692 * z) % 2305843009213693951 < 2305843009213693951 := Int.emod_lt_of_pos _ (by omega)
      generalize wh * (48271 + 69621 * z) = x0 at v2 v4 g1 g2
      generalize (x0 + 40692 * z) % 2305843009213693951 = x1 at v4 g1 g2
      have v5 : ∀ h, binD h .mul (.int x1) (.int x1) = some (.int (x1 * x1)) := fun h => bin_mul_l (by omega) (by omega)
      generalize x1 * x1 = x2' at v5
      have v6 : ∀ h, binD h .mod (.int x2') (.int 2305843009213693951) = some (.int (x2' % 2305843009213693951)) := fun h => bin_mod_int (by omega)
      have g3 : 0 ≤ x2' % 2305843009213693951 := Int.emod_nonneg _ (by omega)
      have g4 : x2' % 2305843009213693951 < 2305843009213693951 := Int.emod_lt_of_pos _ (by omega)
      generalize x2' % 2305843009213693951 = x3 at v6 g3 g4
      have v7 : ∀ h, binD h .mul (.int x3) (.int x3) = some (.int (x3 * x3)) := fun h => bin_mul_l (by omega) (by omega)
      generalize x3 * x3 = x4 at v7
      have v8 : ∀ h, binD h .mod (.int x4) (.int 4611686018427387847) = some (.int (x4 % 4611686018427387847)) := fun h => bin_mod_int (by omega)
      generalize x4 % 4611686018427387847 = x5 at v8
      have v9 : ∀ h, binD h .fdiv (.int x5) (.int 16) = some (.int (x5 / 16)) := fun h => bin_fdiv_int (by omega) (by omega)
      refine ⟨x5 / 16 % b, [], c + 1, ?_, Int.emod_nonneg _ (by omega), Int.emod_lt_of_pos _ hb, by simp, by omega⟩
      unfold F_law_next
      have i2c := i2 [] c
      simp -implicitDefEqProofs [-ev_cstN, e, i0, i1, i2c, i2', u1, v1, v2, v3, v4, v5, v6, v7, v8, v9, bin_mod_int hb]
  obtain ⟨d, gs', c', e, h1, h2, h3, h4⟩ := hbody
  refine ⟨d, gs', c', ?_, h1, h2, h3, h4⟩
  have z := call_drop (Γ := Gm) (k := k) (args := [.ref 1, .int b]) (h := Dk gs wh c rest) Gm_law_next rfl rfl e (by simpa using trim_dk (gs := gs) (gs' := gs') (wh := wh) (wh' := wh) (c := c) (c' := c') (rest := rest) []) rfl
  rw [z]
  congr 1
  simp [Dk]
theorem stream_ok0 {ns : List Int} {k : Nat} (hn : ns.length ≤ 63) : ∃ (gs : List Int) (wh : Int), callN Gm (k + 1) "_law_begin" [.scr (iL ns)] [] = .ok (.ref 1) (Dk gs wh 0 []) ∧ DkOk gs wh 0 := by
  let ab : Int → Int := fun x => if x < 0 then -x else x
  let gs0 : List Int := (ns.filter fun x => decide ((10 : Int) ^ 18 ≤ ab x)).map ab
  have gl : gs0.length ≤ 63 := by
    have := List.length_filter_le (fun x => decide ((10 : Int) ^ 18 ≤ ab x)) ns
    simp only [gs0, List.length_map]
    omega
  have c1 : ∀ σ : Sl, σ = [some (.scr (iL ns)), none, none, none] → compL (.var 2) [2] [] (evalC (callN Gm k) (.some (.cmp .ge (.bi .abs (.var 2)) (.bin .pow (.cst (.int 10)) (.cst (.int 18)))))) (evalE (callN Gm k) (.bi .abs (.var 2))) ((iL ns).map .v) σ [] = .ok (iL gs0) [] := fun σ hσ => by
    subst hσ
    have p18 : ∀ h, binD h .pow (.int 10) (.int 18) = some (.int (10 ^ 18)) := fun h => bin_pow18 (by decide)
    rw [compL_of (fun x : Int => .int x) (fun x => decide ((10 : Int) ^ 18 ≤ ab x)) (fun x => .int (ab x)) ns (by simp [iL]) fun x hx => ?_]
    · simp [iL, gs0]
    · refine ⟨_, rfl, ?_, fun _ => ?_⟩
      · show evalC _ _ [some (D.scr (iL ns)), none, some (.int x), none] [] = _
        simp -implicitDefEqProofs [-ev_cstN, p18, ab]
      · show evalE _ _ [some (D.scr (iL ns)), none, some (.int x), none] [] = _
        simp -implicitDefEqProofs [-ev_cstN, ab]
  obtain ⟨σ2, h2, e1, wh, x2, rfl, rfl, w1, w2⟩ := forL_of (t := .var 2) (body := evalSs (callN Gm k) (match F_law_begin.body with
      | .cons _ (.cons _ (.cons (.for_ _ _ b) _)) => b
      | _ => .nil)) (σ := [some (.scr (iL ns)), some (.lst (iL gs0)), none, some (.int (66 + (ns.length : Int)))]) (h := []) D.int (fun j σ h => ∃ wh x2, σ = [some (.scr (iL ns)), some (.lst (iL gs0)), x2, some (.int wh)] ∧ h = [] ∧ 0 ≤ wh ∧ wh < 2305843009213693951) ns (its := (iL ns).map .v) (by simp [iL]) ⟨_, none, rfl, rfl, by omega, by omega⟩ (fun j x σ h hj hI => by
    obtain ⟨wh, x2, rfl, rfl, w1, w2⟩ := hI
    refine ⟨_, rfl, _, [], .inl ?_, (wh * 1000033 + 2 * ab x + (if x < 0 then 1 else 0)) % 2305843009213693951, some (.int x), rfl, rfl, Int.emod_nonneg _ (by omega), Int.emod_lt_of_pos _ (by omega)⟩
    have v1 : ∀ h, binD h .mul (.int wh) (.int 1000033) = some (.int (wh * 1000033)) := fun h => bin_mul_l (by omega) (by omega)
    have v2 : ∀ h, binD h .mul (.int 2) (.int (ab x)) = some (.int (2 * ab x)) := fun h => bin_mul_l (by omega) (by omega)
    have v3 : ∀ z h, binD h .mod (.int z) (.int 2305843009213693951) = some (.int (z % 2305843009213693951)) := fun z h => bin_mod_int (by omega)
    have v4 : ∀ h, biD h .abs (.int x) = some (.int (ab x)) := fun h => rfl
    unfold F_law_begin
    show evalSs _ _ [some (D.scr (iL ns)), some (.lst (iL gs0)), some (.int x), some (.int wh)] [] = _
    by_cases hx : x < 0 <;> simp -implicitDefEqProofs [-ev_cstN, v1, v2, v3, v4, hx, b01])
  refine ⟨gs0.reverse, wh, ?_, w1, w2, by omega, by rw [List.length_reverse]; omega⟩
  refine call_keep (h' := Dk gs0.reverse wh 0 []) Gm_law_begin rfl rfl ?_ ?_ rfl
  · show bodyOf (evalSs _ F_law_begin.body [some (.scr (iL ns)), none, none, none] []) = _
    unfold F_law_begin at e1 ⊢
    dsimp only at e1
    have hrev : (iL gs0).reverse = iL gs0.reverse := by simp [iL, List.map_reverse]
    have hlen : ∀ h, biD h .len (.scr (iL ns)) = some (.int (ns.length : Int)) := fun h => by
      show some (D.int ((iL ns).length : Nat)) = _
      simp [iL]
    simp -implicitDefEqProofs [-ev_cstN, -comp_v, -forM_v, c1, e1, hlen, hrev]
    rfl
  · unfold keepOk
    simp [Dk, cellBelow, belowL, below]
    first | exact belowL_ints _ _ | exact ⟨belowL_ints _ _, belowL_ints _ _⟩
/-! ### .. with a budget of draws -/
structure Dck where
  gs : List Int
  cs : Int
  c : Nat
def dk (d : Dck) (rest : Hh) : Hh := Dk d.gs d.cs d.c rest
structure Dck.Ok (d : Dck) (K : Nat) : Prop where
  lo : 0 ≤ d.cs
  hi : d.cs < 2305843009213693951
  len : d.gs.length ≤ 64
  cnt : d.c + K < 1000000000
theorem Dck.Ok.mono {d : Dck} {K L : Nat} (o : d.Ok K) (h : L ≤ K) : d.Ok L := ⟨o.lo, o.hi, o.len, by have := o.cnt; omega⟩
theorem dk_app (d : Dck) (rest more : Hh) : dk d rest ++ more = dk d (rest ++ more) := rfl
theorem dk_len (d : Dck) (rest : Hh) : (dk d rest).length = 2 + rest.length := by show rest.length + 1 + 1 = _; omega
theorem trim_d (d d' : Dck) (h : d.cs = d'.cs) (rest more : Hh) : trimOk (dk d rest) (dk d' rest ++ more) = true := trim_dk more
theorem take_d (d d' : Dck) (rest more : Hh) : (dk d' rest ++ more).take (dk d rest).length = dk d' rest := by
  rw [show (dk d rest).length = (dk d' rest).length by rw [dk_len, dk_len], List.take_left]
theorem draw_ok {d : Dck} {K k b : Nat} {rest : Hh} (o : d.Ok (K + 1)) (hb : 0 < b) (hb2 : b < 1073741824) :
    ∃ (x : Nat) (d' : Dck), callN Gm (k + 1) "_law_next" [.ref 1, N b] (dk d rest) = .ok (N x) (dk d' rest) ∧ x < b ∧ d'.Ok K ∧ d'.cs = d.cs := by
  have := o.cnt
  obtain ⟨x, gs', c', e, h1, h2, h3, h4⟩ := draw_ok0 (k := k) (rest := rest) (b := (b : Nat)) (c := d.c) (gs := d.gs) (wh := d.cs) ⟨o.lo, o.hi, by omega, o.len⟩ (by omega) (by omega)
  obtain ⟨y, rfl⟩ : ∃ y : Nat, x = (y : Nat) := ⟨x.toNat, by omega⟩
  exact ⟨y, ⟨gs', d.cs, c'⟩, e, by omega, ⟨o.lo, o.hi, h3, by show c' + K < _; omega⟩, rfl⟩
theorem stream_ok {ns : List Int} {k : Nat} (hn : ns.length ≤ 63) : ∃ d : Dck, callN Gm (k + 1) "_law_begin" [.scr (ns.map .int)] [] = .ok (.ref 1) (dk d []) ∧ d.Ok 100000000 := by
  obtain ⟨gs, wh, e, o⟩ := stream_ok0 (ns := ns) (k := k) hn
  exact ⟨⟨gs, wh, 0⟩, e, o.lo, o.hi, o.len, by show 0 + 100000000 < _; omega⟩

/-! ### a drawn order -/
theorem eraseIdx_map {α β : Type} (f : α → β) : ∀ (l : List α) (p : Nat), (l.map f).eraseIdx p = (l.eraseIdx p).map f
  | [], _ => rfl
  | _ :: l, 0 => rfl
  | x :: l, p + 1 => congrArg (f x :: ·) (eraseIdx_map f l p)
theorem perm_erase {α : Type} : ∀ (l : List α) (p : Nat) (x : α), l[p]? = some x → (x :: l.eraseIdx p).Perm l
  | [], p, x, h => by simp at h
  | y :: l, 0, x, h => by
    have h : some y = some x := h
    injection h with h
    subst h
    exact List.Perm.refl _
  | y :: l, p + 1, x, h => (List.Perm.swap y x _).trans ((perm_erase l p x (by simpa using h)).cons y)
theorem two_at (H : Hh) (x y : Cell) : (H ++ [x, y])[H.length]? = some x ∧ (H ++ [x, y])[H.length + 1]? = some y := by
  constructor
  · rw [List.getElem?_append_right (Nat.le_refl _), Nat.sub_self]; rfl
  · rw [List.getElem?_append_right (by omega), Nat.add_sub_cancel_left]; rfl
theorem two_set (H : Hh) (x y z : Cell) : (H ++ [x, y]).set H.length z = H ++ [z, y] ∧ (H ++ [x, y]).set (H.length + 1) z = H ++ [x, z] := by
  constructor
  · rw [List.set_append_right _ _ (Nat.le_refl _), Nat.sub_self]; rfl
  · rw [List.set_append_right _ _ (by omega), Nat.add_sub_cancel_left]; rfl
theorem mixed_ok {d : Dck} {K k : Nat} {xs : List Nat} {rest : Hh} {a : D} (ha : ∀ h, biD h .list a = some (.lst (xs.map N))) (o : d.Ok (K + xs.length)) (hx : xs.length ≤ 1000) :
    ∃ (ys : List Nat) (d' : Dck), callN Gm (k + 2) "_law_mixed" [.ref 1, a] (dk d rest) = .ok (.lst (ys.map N)) (dk d' rest) ∧ ys.Perm xs ∧ d'.Ok K ∧ d'.cs = d.cs := by
  let r := 2 + rest.length
  let σ : Sl := [some (.ref 1), some a, some (.ref r), some (.ref (r + 1))]
  let body := evalSs (callN Gm (k + 1)) (match F_law_mixed.body with
    | .cons _ (.cons (.while_ _ b) _) => b
    | _ => .nil)
  have hat : ∀ (dd : Dck) (x y : Cell), (dk dd (rest ++ [x, y]))[r]? = some x ∧ (dk dd (rest ++ [x, y]))[r + 1]? = some y := fun dd x y => by
    rw [← dk_app, show r = (dk dd rest).length by rw [dk_len]]
    exact two_at _ x y
  have hset : ∀ (dd : Dck) (x y z : Cell), (dk dd (rest ++ [x, y])).set r z = dk dd (rest ++ [z, y]) ∧ (dk dd (rest ++ [x, y])).set (r + 1) z = dk dd (rest ++ [x, z]) := fun dd x y z => by
    rw [← dk_app, ← dk_app, ← dk_app, show r = (dk dd rest).length by rw [dk_len]]
    exact two_set _ x y z
  have go : ∀ (q : Nat) (left found : List Nat) (d1 : Dck) (fu : Nat), left.length = q → found.length + q ≤ 1000 → q < fu → d1.Ok (K + q) → d1.cs = d.cs → ∃ (ys : List Nat) (d2 : Dck), whileL (evalC (callN Gm (k + 1)) (.some (.cmp .ne (.var 2) (.lst .nil)))) body fu σ (dk d1 (rest ++ [.lst (left.map N), .lst (found.map N)])) = .ok (.nx σ) (dk d2 (rest ++ [.lst [], .lst ((found ++ ys).map N)])) ∧ ys.Perm left ∧ d2.Ok K ∧ d2.cs = d.cs := by
    intro q
    induction q with
    | zero =>
      intro left found d1 fu hl hf hq o1 e1
      match fu, hq with
      | fu + 1, _ =>
        have : left = [] := List.length_eq_zero_iff.mp hl
        subst this
        refine ⟨[], d1, ?_, List.Perm.refl _, o1, e1⟩
        have c1 := ne_cell0 (g := N) (m := 0) (by omega) (h := dk d1 (rest ++ [.lst (List.map N []), .lst (found.map N)])) (n := r) (ys := []) (hat _ _ _).1
        have c2 : evalC (callN Gm (k + 1)) (.some (.cmp .ne (.var 2) (.lst .nil))) σ (dk d1 (rest ++ [.lst (List.map N []), .lst (found.map N)])) = .ok false (dk d1 (rest ++ [.lst (List.map N []), .lst (found.map N)])) := by
          show evalC _ _ [some (.ref 1), some a, some (.ref r), some (.ref (r + 1))] _ = _
          simp -implicitDefEqProofs only [ev_c1, ev_cmp, ev_var, ev_lst, ev_nil, List.getElem?_cons_succ, get_zero, varR_some, bindE_ok, lstR_ok, bind1_ok, c1, cmR_some, truR_ok, truthy_bl, of_some', decide_true, Bool.not_true]
        unfold whileL
        rw [c2, R.bind_ok]
        simp
    | succ q ih =>
      intro left found d1 fu hl hf hq o1 e1
      match fu, hq with
      | fu + 1, hq =>
        obtain ⟨p, d2, e2, hp, o2, c2⟩ := draw_ok (k := k) (b := left.length) (rest := rest ++ [.lst (left.map N), .lst (found.map N)]) (K := K + q) o1 (by omega) (by omega)
        have hpl : left[p]? = some left[p] := List.getElem?_eq_getElem hp
        obtain ⟨ys, d3, e3, p3, o3, c3⟩ := ih (left.eraseIdx p) (found ++ [left[p]]) d2 fu (by rw [List.length_eraseIdx_of_lt hp]; omega) (by rw [List.length_append, List.length_singleton]; omega) (by omega) o2 (c2.trans e1)
        refine ⟨left[p] :: ys, d3, ?_, (p3.cons _).trans (perm_erase left p _ hpl), o3, c3⟩
        have hne : ¬ left = [] := fun z => by rw [z] at hl; simp at hl
        have c1 := ne_cell0 (g := N) (m := 0) (by omega) (h := dk d1 (rest ++ [.lst (left.map N), .lst (found.map N)])) (n := r) (ys := left) (hat _ _ _).1
        have c2' : evalC (callN Gm (k + 1)) (.some (.cmp .ne (.var 2) (.lst .nil))) σ (dk d1 (rest ++ [.lst (left.map N), .lst (found.map N)])) = .ok true (dk d1 (rest ++ [.lst (left.map N), .lst (found.map N)])) := by
          show evalC _ _ [some (.ref 1), some a, some (.ref r), some (.ref (r + 1))] _ = _
          simp -implicitDefEqProofs only [ev_c1, ev_cmp, ev_var, ev_lst, ev_nil, List.getElem?_cons_succ, get_zero, varR_some, bindE_ok, lstR_ok, bind1_ok, c1, cmR_some, truR_ok, truthy_bl, of_some', hne, decide_false, Bool.not_false]
        have pop : mutD (dk d2 (rest ++ [.lst (left.map N), .lst (found.map N)])) .pop (.ref r) [N p] = .ok (N left[p]) (dk d2 (rest ++ [.lst ((left.eraseIdx p).map N), .lst (found.map N)])) := by
          rw [N_def, pop_cell (hat _ _ _).1 (d := N left[p]) (by rw [List.getElem?_map, hpl]; rfl), (hset _ _ _ _).1, eraseIdx_map]
        have len : biD (dk d1 (rest ++ [.lst (left.map N), .lst (found.map N)])) .len (.ref r) = some (N left.length) := by
          rw [len_cell (hat _ _ _).1, List.length_map]
          rfl
        have isl : (lstOf (dk d1 (rest ++ [.lst (left.map N), .lst (found.map N)])) (.ref r)).isSome = true := by rw [lst_cell (hat _ _ _).1]; rfl
        have isl2 : (lstOf (dk d1 (rest ++ [.lst (left.map N), .lst (found.map N)])) (.ref (r + 1))).isSome = true := by rw [lst_cell (hat _ _ _).2]; rfl
        have app : mutD (dk d2 (rest ++ [.lst ((left.eraseIdx p).map N), .lst (found.map N)])) .append (.ref (r + 1)) [N left[p]] = .ok .non (dk d2 (rest ++ [.lst ((left.eraseIdx p).map N), .lst ((found ++ [left[p]]).map N)])) := by
          rw [append_cell (hat _ _ _).2 (by simp [Mini.lim]; omega), (hset _ _ _ _).2, List.map_append]
          rfl
        have one : body σ (dk d1 (rest ++ [.lst (left.map N), .lst (found.map N)])) = .ok (.nx σ) (dk d2 (rest ++ [.lst ((left.eraseIdx p).map N), .lst ((found ++ [left[p]]).map N)])) := by
          show evalSs _ _ [some (.ref 1), some a, some (.ref r), some (.ref (r + 1))] _ = .ok (.nx [some (.ref 1), some a, some (.ref r), some (.ref (r + 1))]) _
          unfold F_law_mixed
          simp -implicitDefEqProofs [isl, isl2, len, e2, pop, app]
        unfold whileL
        rw [c2', R.bind_ok, if_pos rfl, one, R.bind_ok]
        dsimp only
        rw [e3, List.append_assoc]
        rfl
  obtain ⟨ys, d2, e, p, o2, c2⟩ := go xs.length xs [] d fuel rfl (by simpa using hx) (by show _ < 1000000; omega) o rfl
  refine ⟨ys, d2, ?_, p, o2, c2⟩
  have hr : (dk d rest).length = r := dk_len d rest
  have hr2 : (dk d (rest ++ [.lst (xs.map N)])).length = r + 1 := by rw [dk_len, List.length_append]; rfl
  have bd : bodyOf (evalSs (callN Gm (k + 1)) F_law_mixed.body [some (.ref 1), some a, none, none] (dk d rest)) = .ok (.ref (r + 1)) (dk d2 (rest ++ [.lst [], .lst (ys.map N)])) := by
    have e' : whileL (evalC (callN Gm (k + 1)) (.some (.cmp .ne (.var 2) (.lst .nil)))) (evalSs (callN Gm (k + 1)) (match F_law_mixed.body with
    | .cons _ (.cons (.while_ _ b) _) => b
    | _ => .nil)) fuel [some (.ref 1), some a, some (.ref r), some (.ref (r + 1))] (dk d (rest ++ [.lst (xs.map N), .lst []])) = .ok (.nx [some (.ref 1), some a, some (.ref r), some (.ref (r + 1))]) (dk d2 (rest ++ [.lst [], .lst (ys.map N)])) := e
    unfold F_law_mixed at e' ⊢
    dsimp only at e'
    simp -implicitDefEqProofs [ha, hr, hr2, dk_app, parR, e']
  have z := call_drop2 (Γ := Gm) (k := k + 1) (args := [.ref 1, a]) (h := dk d rest) (d' := .lst (ys.map N)) Gm_law_mixed rfl rfl bd (trim_d d d2 c2.symm rest _) (by rw [hr]; simp) (by
    rw [hr]
    unfold snap
    rw [if_neg (by simp [pureD])]
    dsimp only
    rw [if_pos (by omega), (hat _ _ _).2]
    dsimp only
    rw [optAll_id _ _ fun x hx => ?_]
    · rfl
    · obtain ⟨a, _, rfl⟩ := List.mem_map.mp hx
      exact snap_free _ _ 7 _ rfl)
  rw [z, ← dk_app, take_d]

/-! ### the table -/
theorem four {a b c d : Bool} {w : Nat} (hw : w < 4) : ∃ x, ∀ h, idxD h (.lst [.bl a, .bl b, .bl c, .bl d]) (N w) = some (.bl x) := by
  match w, hw with
  | 0, _ => exact ⟨a, fun _ => rfl⟩
  | 1, _ => exact ⟨b, fun _ => rfl⟩
  | 2, _ => exact ⟨c, fun _ => rfl⟩
  | 3, _ => exact ⟨d, fun _ => rfl⟩
def pmC (x : Bool) : Char := if x then '+' else '-'
theorem pm_ok (x : Bool) : (pmC x = '+' ∧ pmC (!x) = '-') ∨ (pmC x = '-' ∧ pmC (!x) = '+') := by cases x <;> simp [pmC]
theorem pm_1 (x : Bool) : (if x = true then '+' else '-') = pmC x := by cases x <;> rfl
theorem pm_2 (x : Bool) : (if x = true then '-' else '+') = pmC (!x) := by cases x <;> rfl
def kp (p q : Nat) : List K1 := [.inl (p : Int), .inl (q : Int)]
abbrev Kvs := List (List K1 × D)
theorem kp_ne {p q p' q' : Nat} (h : kp p q = kp p' q') : p = p' ∧ q = q' := by
  simp [kp] at h
  omega
theorem find_put (k k' : List K1) (v : D) : ∀ kvs : Kvs, findK k' (putK k v kvs) = if k = k' then some v else findK k' kvs := by
  have app : ∀ kvs : Kvs, kvs.any (fun q => decide (q.1 = k)) = false → findK k' (kvs ++ [(k, v)]) = if k = k' then some v else findK k' kvs := by
    intro kvs
    induction kvs with
    | nil => intro _; rfl
    | cons x r ih =>
      obtain ⟨q, u⟩ := x
      intro h
      rw [List.any_cons, Bool.or_eq_false_iff] at h
      have hq : q ≠ k := of_decide_eq_false h.1
      show (if q = k' then some u else findK k' (r ++ [(k, v)])) = if k = k' then some v else if q = k' then some u else findK k' r
      rw [ih h.2]
      by_cases h1 : q = k'
      · rw [if_pos h1, if_pos h1, if_neg fun e => hq (h1.trans e.symm)]
      · rw [if_neg h1, if_neg h1]
  have map : ∀ kvs : Kvs, kvs.any (fun q => decide (q.1 = k)) = true → findK k' (kvs.map fun q => if q.1 = k then (q.1, v) else q) = if k = k' then some v else findK k' kvs := by
    have none' : ∀ kvs : Kvs, k ≠ k' → findK k' (kvs.map fun q => if q.1 = k then (q.1, v) else q) = findK k' kvs := by
      intro kvs hk
      induction kvs with
      | nil => rfl
      | cons x r ih =>
        obtain ⟨q, u⟩ := x
        rw [List.map_cons]
        by_cases h1 : q = k
        · rw [if_pos h1]
          show (if q = k' then some v else findK k' _) = if q = k' then some u else findK k' r
          rw [if_neg fun e => hk (h1.symm.trans e), if_neg fun e => hk (h1.symm.trans e), ih]
        · rw [if_neg h1]
          show (if q = k' then some u else findK k' _) = if q = k' then some u else findK k' r
          rw [ih]
    intro kvs
    by_cases hk : k = k'
    · subst hk
      rw [if_pos rfl]
      induction kvs with
      | nil => intro h; cases h
      | cons x r ih =>
        obtain ⟨q, u⟩ := x
        intro h
        rw [List.map_cons]
        by_cases h1 : q = k
        · rw [if_pos h1]
          show (if q = k then some v else _) = _
          rw [if_pos h1]
        · rw [if_neg h1]
          show (if q = k then some u else findK k _) = _
          rw [if_neg h1]
          refine ih ?_
          rw [List.any_cons, Bool.or_eq_true] at h
          exact h.resolve_left fun e => h1 (of_decide_eq_true e)
    · intro _
      rw [if_neg hk, none' kvs hk]
  intro kvs
  unfold putK
  by_cases h : kvs.any (fun q => decide (q.1 = k)) = true
  · rw [if_pos h]
    exact map kvs h
  · rw [if_neg h]
    exact app kvs (by simpa only [Bool.not_eq_true] using h)
theorem put_len (k : List K1) (v : D) (kvs : Kvs) : (putK k v kvs).length ≤ kvs.length + 1 := by
  unfold putK
  split <;> simp
/-- what stands in the dict -/
def Dg (kvs : Kvs) (g : Nat → Nat → Char) (dom : Nat → Nat → Prop) : Prop := ∀ p q, dom p q → findK (kp p q) kvs = some (.str [g p q])
theorem Dg.put {kvs : Kvs} {g : Nat → Nat → Char} {dom dom' : Nat → Nat → Prop} (D0 : Dg kvs g dom) (p q : Nat) (c : Char) (h : ∀ a b, dom' a b → dom a b ∨ (a = p ∧ b = q)) : Dg (putK (kp p q) (.str [c]) kvs) (upd g p q c) dom' := by
  intro a b hd
  rw [find_put]
  unfold upd
  by_cases e : a = p ∧ b = q
  · rw [if_pos (by rw [e.1, e.2]), if_pos e]
  · rw [if_neg fun z => e ⟨(kp_ne z).1.symm, (kp_ne z).2.symm⟩, if_neg e]
    exact D0 a b ((h a b hd).resolve_right e)
def dm (m : Nat) (ord : List Nat) (i j p q : Nat) : Prop := ∃ a b, a < m ∧ b < m ∧ p = oat ord a ∧ q = oat ord b ∧ (a < i ∨ b < i ∨ (a = i ∧ i ≤ b ∧ b < j) ∨ (b = i ∧ i ≤ a ∧ a < j))
theorem cell_at (H : Hh) (x : Cell) : (H ++ [x])[H.length]? = some x := by
  rw [List.getElem?_append_right (Nat.le_refl _), Nat.sub_self]; rfl
theorem cell_set (H : Hh) (x z : Cell) : (H ++ [x]).set H.length z = H ++ [z] := by
  rw [List.set_append_right _ _ (Nat.le_refl _), Nat.sub_self]; rfl
theorem dict_put {d : Dck} {rest : Hh} {kvs : Kvs} {b p q : Nat} {v : D} (hb : b = 2 + rest.length) (hl : kvs.length ≤ 500) : setD (dk d (rest ++ [.dT kvs])) (.ref b) (.tup [N p, N q]) v = some (dk d (rest ++ [.dT (putK (kp p q) v kvs)])) := by
  have e0 : b = (dk d rest).length := by rw [dk_len, hb]
  have e1 : (dk d (rest ++ [.dT kvs]))[b]? = some (.dT kvs) := by rw [← dk_app, e0]; exact cell_at _ _
  have e2 : keyT (.tup [N p, N q]) = some (kp p q) := rfl
  unfold setD
  dsimp only
  rw [e1]
  dsimp only
  rw [e2]
  dsimp only
  rw [if_pos (by show _ < 1000000; omega), ← dk_app, ← dk_app, e0, cell_set]
theorem dict_get {d : Dck} {rest : Hh} {kvs : Kvs} {b p q : Nat} (hb : b = 2 + rest.length) : idxD (dk d (rest ++ [.dT kvs])) (.ref b) (.tup [N p, N q]) = findK (kp p q) kvs := by
  have e0 : b = (dk d rest).length := by rw [dk_len, hb]
  have e1 : (dk d (rest ++ [.dT kvs]))[b]? = some (.dT kvs) := by rw [← dk_app, e0]; exact cell_at _ _
  have e2 : keyT (.tup [N p, N q]) = some (kp p q) := rfl
  unfold idxD
  dsimp only
  rw [e1]
  dsimp only
  rw [e2]
def tabOuter : MSs := match F_law_table.body with
      | .cons _ (.cons _ (.cons (.for_ _ _ b) _)) => b
      | _ => .nil
def tabInner : MSs := match tabOuter with
      | .cons _ (.cons (.for_ _ _ b) _) => b
      | _ => .nil
theorem inner_ok {d : Dck} {K k m i j way b : Nat} {lo hi : D} {ord : List Nat} {rest : Hh} {kvs : Kvs} {x11 x12 : Option D}
    (o : d.Ok (K + 3)) (hb : b = 2 + rest.length) (hw : way < 4) (hij : i < j) (hj : j < m) (hm : m ≤ 9) (hp : ord.Perm (List.range m)) (hk : kvs.length ≤ 400) :
    ∃ (s : Bool) (d' : Dck), NxH (evalSs (callN Gm (k + 1)) tabInner [some (.ref 1), some lo, some hi, some (N m), some (N way), some (.lst (ord.map N)), some (.ref b), some (N i), some (N j), none, none, x11, x12] (dk d (rest ++ [.dT kvs])))
      (dk d' (rest ++ [.dT (putK (kp (oat ord j) (oat ord i)) (.str [pmC (!s)]) (putK (kp (oat ord i) (oat ord j)) (.str [pmC s]) kvs))])) ∧ d'.Ok K ∧ d'.cs = d.cs := by
  have hl : ord.length = m := by simpa using hp.length_eq
  have ai : ∀ h, idxD h (.lst (ord.map N)) (N i) = some (N (oat ord i)) := oat_at (by omega)
  have aj : ∀ h, idxD h (.lst (ord.map N)) (N j) = some (N (oat ord j)) := oat_at (by omega)
  have pl := put_len (kp (oat ord i) (oat ord j))
  have put1 : ∀ (dd : Dck) v, setD (dk dd (rest ++ [.dT kvs])) (.ref b) (.tup [N (oat ord i), N (oat ord j)]) v = some (dk dd (rest ++ [.dT (putK (kp (oat ord i) (oat ord j)) v kvs)])) := fun dd v => dict_put hb (by omega)
  have put2 : ∀ (dd : Dck) v u, setD (dk dd (rest ++ [.dT (putK (kp (oat ord i) (oat ord j)) u kvs)])) (.ref b) (.tup [N (oat ord j), N (oat ord i)]) v = some (dk dd (rest ++ [.dT (putK (kp (oat ord j) (oat ord i)) v (putK (kp (oat ord i) (oat ord j)) u kvs))])) := fun dd v u => dict_put hb (by have := pl u kvs; omega)
  -- the first draw
  obtain ⟨cp, d0, e0, o0, c0⟩ : ∃ (cp : Bool) (d0 : Dck), evalE (callN Gm (k + 1)) (.or (.cons (.cmp .eq (.bin .mod (.bin .sub (.var 8) (.var 7)) (.cst (.int 3))) (.cst (.int 1))) (.cons (.and (.cons (.cmp .eq (.bin .mod (.bin .sub (.var 8) (.var 7)) (.cst (.int 3))) (.cst (.int 0))) (.cons (.cmp .eq (.call "_law_next" (.cons (.var 0) (.cons (.cst (.int 2)) .nil))) (.cst (.int 0))) .nil))) .nil)))
      [some (.ref 1), some lo, some hi, some (N m), some (N way), some (.lst (ord.map N)), some (.ref b), some (N i), some (N j), none, none, x11, x12] (dk d (rest ++ [.dT kvs])) = .ok (.bl cp) (dk d0 (rest ++ [.dT kvs])) ∧ d0.Ok (K + 2) ∧ d0.cs = d.cs := by
    obtain ⟨x1, d1, e1, h1, o1, c1⟩ := draw_ok (k := k) (rest := rest ++ [.dT kvs]) (b := 2) (K := K + 2) o (by omega) (by omega)
    by_cases g1 : (j - i) % 3 = 1
    · exact ⟨true, d, by simp -implicitDefEqProofs (disch := first | assumption | omega | decide +kernel | (simp only [List.mem_filter, List.mem_range, List.mem_range'_1] at *; first | done | omega | assumption) | (intro _ hm; first | exact hm | exact List.mem_range.mp hm | exact List.mem_filter.mp hm | simpa using hm)) [-List.map_map, startOf, lstOf_ref', tuple_ref, list_ref, len_ref, all_ref, any_ref, sum_ref, max_ref, min_ref, sorted_ref, truthy_ref, idx_ref, mut_ref, isi_ref, g1], o.mono (by omega), rfl⟩
    · by_cases g0 : (j - i) % 3 = 0
      · exact ⟨decide (x1 = 0), d1, by simp -implicitDefEqProofs (disch := first | assumption | omega | decide +kernel | (simp only [List.mem_filter, List.mem_range, List.mem_range'_1] at *; first | done | omega | assumption) | (intro _ hm; first | exact hm | exact List.mem_range.mp hm | exact List.mem_filter.mp hm | simpa using hm)) [-List.map_map, startOf, lstOf_ref', tuple_ref, list_ref, len_ref, all_ref, any_ref, sum_ref, max_ref, min_ref, sorted_ref, truthy_ref, idx_ref, mut_ref, isi_ref, g0, e1], o1, c1⟩
      · exact ⟨false, d, by simp -implicitDefEqProofs (disch := first | assumption | omega | decide +kernel | (simp only [List.mem_filter, List.mem_range, List.mem_range'_1] at *; first | done | omega | assumption) | (intro _ hm; first | exact hm | exact List.mem_range.mp hm | exact List.mem_filter.mp hm | simpa using hm)) [-List.map_map, startOf, lstOf_ref', tuple_ref, list_ref, len_ref, all_ref, any_ref, sum_ref, max_ref, min_ref, sorted_ref, truthy_ref, idx_ref, mut_ref, isi_ref, g0, g1], o.mono (by omega), rfl⟩
  obtain ⟨x1, d1, e1, h1, o1, c1⟩ := draw_ok (k := k) (rest := rest ++ [.dT kvs]) (b := 2) (K := K + 1) o0 (by omega) (by omega)
  obtain ⟨x2, d2, e2, h2, o2, c2⟩ := draw_ok (k := k) (rest := rest ++ [.dT kvs]) (b := 5) (K := K) o1 (by omega) (by omega)
  obtain ⟨x, hx⟩ := four (a := decide (x1 = 0)) (b := decide (0 < x2)) (c := decide (2 * (j - i) ≤ m)) (d := cp) hw
  refine ⟨x, d2, ?_, o2, c2.trans (c1.trans c0)⟩
  unfold tabInner tabOuter F_law_table
  dsimp only
  rw [es_cons, es_var, e0]
  simp -implicitDefEqProofs (disch := first | assumption | omega | decide +kernel | (simp only [List.mem_filter, List.mem_range, List.mem_range'_1] at *; first | done | omega | assumption) | (intro _ hm; first | exact hm | exact List.mem_range.mp hm | exact List.mem_filter.mp hm | simpa using hm)) [-List.map_map, startOf, lstOf_ref', tuple_ref, list_ref, len_ref, all_ref, any_ref, sum_ref, max_ref, min_ref, sorted_ref, truthy_ref, idx_ref, mut_ref, isi_ref, e1, e2, hx, ai, aj, put1, put2, pm_1, pm_2]
theorem dm_pair {m i j p q : Nat} {ord : List Nat} (hij : i < j) (h : dm m ord i (j + 1) p q) : (dm m ord i j p q ∨ (p = oat ord i ∧ q = oat ord j)) ∨ (p = oat ord j ∧ q = oat ord i) := by
  obtain ⟨a, b, ha, hb, rfl, rfl, h⟩ := h
  by_cases e1 : a = i ∧ b = j
  · exact .inl (.inr ⟨by rw [e1.1], by rw [e1.2]⟩)
  · by_cases e2 : a = j ∧ b = i
    · exact .inr ⟨by rw [e2.1], by rw [e2.2]⟩
    · exact .inl (.inl ⟨a, b, ha, hb, rfl, rfl, by omega⟩)
theorem dm_diag {m i p q : Nat} {ord : List Nat} (h : dm m ord i (i + 1) p q) : dm m ord i i p q ∨ (p = oat ord i ∧ q = oat ord i) := by
  obtain ⟨a, b, ha, hb, rfl, rfl, h⟩ := h
  by_cases e1 : a = i ∧ b = i
  · exact .inr ⟨by rw [e1.1], by rw [e1.2]⟩
  · exact .inl ⟨a, b, ha, hb, rfl, rfl, by omega⟩
theorem dm_next {m i p q : Nat} {ord : List Nat} (h : dm m ord (i + 1) (i + 1) p q) : dm m ord i m p q := by
  obtain ⟨a, b, ha, hb, rfl, rfl, h⟩ := h
  exact ⟨a, b, ha, hb, rfl, rfl, by omega⟩
theorem upd_same {g : Nat → Nat → Char} {p : Nat} {c : Char} (h : g p p = c) : upd g p p c = g := by
  funext a b
  unfold upd
  by_cases e : a = p ∧ b = p
  · rw [if_pos e, e.1, e.2, h]
  · rw [if_neg e]
theorem table_ok {d : Dck} {K k lo hi : Nat} {rest : Hh} (o : d.Ok (K + 300)) (h1 : 1 ≤ lo) (h2 : lo ≤ hi) (h3 : hi ≤ 9) :
    ∃ (n : Nat) (w : Nat → Nat → Char) (d' : Dck), callN Gm (k + 4) "_law_table" [.ref 1, N lo, N hi] (dk d rest) = .ok (tab n w) (dk d' rest) ∧ Tour n w ∧ lo ≤ n ∧ n ≤ hi ∧ d'.Ok K ∧ d'.cs = d.cs := by
  obtain ⟨x1, d1, e1, l1, o1, c1⟩ := draw_ok (k := k + 2) (rest := rest) (b := hi - lo + 1) (K := K + 299) o (by omega) (by omega)
  obtain ⟨way, d2, e2, l2, o2, c2⟩ := draw_ok (k := k + 2) (rest := rest) (b := 4) (K := K + 298) o1 (by omega) (by omega)
  obtain ⟨m, hmx⟩ : ∃ m, lo + x1 = m := ⟨_, rfl⟩
  have hm : m ≤ 9 := by omega
  obtain ⟨ord, d3, e3, hp, o3, c3⟩ := mixed_ok (k := k + 1) (rest := rest) (xs := List.range m) (a := .lst ((List.range m).map N)) (fun h => rfl) (K := K + 280) (d := d2) (o2.mono (by simp; omega)) (by simp; omega)
  obtain ⟨b, hb⟩ : ∃ b, b = 2 + rest.length := ⟨_, rfl⟩
  have hbl : ∀ dd, (dk dd rest).length = b := fun dd => by rw [hb]; exact dk_len dd rest
  have hl : ord.length = m := by simpa using hp.length_eq
  -- a row
  have jl : ∀ (i : Nat) (x8 x11 x12 : Option D) (d4 : Dck) (g : Nat → Nat → Char) (kvs : Kvs), i < m → d4.Ok (K + 27 * (m - i)) → d4.cs = d.cs → Half m (oat ord) g i (i + 1) → Dg kvs g (dm m ord i i) → kvs.length ≤ 20 * i →
      ∃ h2, NxH (evalSs (callN Gm (k + 3)) tabOuter [some (.ref 1), some (N lo), some (N hi), some (N m), some (N way), some (.lst (ord.map N)), some (.ref b), some (N i), none, none, none, x11, x12] (dk d4 (rest ++ [.dT kvs]))) h2 ∧
        ∃ (g' : Nat → Nat → Char) (kvs' : Kvs) (d5 : Dck), h2 = dk d5 (rest ++ [.dT kvs']) ∧ Half m (oat ord) g' i m ∧ Dg kvs' g' (dm m ord i m) ∧ kvs'.length ≤ 20 * (i + 1) ∧ d5.Ok (K + 27 * (m - (i + 1))) ∧ d5.cs = d.cs := by
    intro i x8 x11 x12 d4 g kvs him o4 c4 H G hk
    have gd : g (oat ord i) (oat ord i) = '.' := H.self _ (perm_lt hp him)
    have G1 : Dg (putK (kp (oat ord i) (oat ord i)) (.str ['.']) kvs) g (dm m ord i (i + 1)) := by
      have := G.put (oat ord i) (oat ord i) '.' (dom' := dm m ord i (i + 1)) fun a b h => dm_diag h
      rwa [upd_same gd] at this
    have L1 : (putK (kp (oat ord i) (oat ord i)) (.str ['.']) kvs).length ≤ 20 * i + 1 := by
      have := put_len (kp (oat ord i) (oat ord i)) (.str ['.']) kvs
      omega
    obtain ⟨kv1, hkv1⟩ : ∃ kv1, kv1 = putK (kp (oat ord i) (oat ord i)) (.str ['.']) kvs := ⟨_, rfl⟩
    rw [← hkv1] at G1 L1
    obtain ⟨J, h5, e5, g5, kv5, d5, rfl, H5, G5, L5, o5, c5⟩ := for_range (Γ := Gm) (k := k + 3) (t := .var 8) (b := tabInner) (its := ((List.range' (i + 1) (m - (i + 1))).map N).map .v) (σ := [some (.ref 1), some (N lo), some (N hi), some (N m), some (N way), some (.lst (ord.map N)), some (.ref b), some (N i), none, none, none, x11, x12]) (h := dk d4 (rest ++ [.dT kv1])) (i + 1) (m - (i + 1))
      (fun t h => ∃ (g' : Nat → Nat → Char) (kvs' : Kvs) (d5 : Dck), h = dk d5 (rest ++ [.dT kvs']) ∧ Half m (oat ord) g' i (i + 1 + t) ∧ Dg kvs' g' (dm m ord i (i + 1 + t)) ∧ kvs'.length ≤ 20 * i + 1 + 2 * t ∧ d5.Ok (K + 27 * (m - i) - 3 * t) ∧ d5.cs = d.cs) rfl ⟨g, kv1, d4, rfl, H, G1, L1, o4, c4⟩ (fun t h ht hI => by
        obtain ⟨g', kv', d5, rfl, H5, G5, L5, o5, c5⟩ := hI
        obtain ⟨s, d6, e6, o6, c6⟩ := inner_ok (k := k + 2) (K := K + 27 * (m - i) - 3 * (t + 1)) (lo := N lo) (hi := N hi) (way := way) (kvs := kv') (x11 := x11) (x12 := x12) (b := b) (o5.mono (by omega)) hb l2 (by omega : i < i + 1 + t) (by omega) hm hp (by omega)
        refine ⟨_, e6, _, _, d6, rfl, H5.put (perm_inj hp) (by omega) (by omega) (pm_ok s), ?_, ?_, o6, c6.trans c5⟩
        · refine (G5.put (oat ord i) (oat ord (i + 1 + t)) (pmC s) (dom' := fun p q => dm m ord i (i + 1 + t) p q ∨ (p = oat ord i ∧ q = oat ord (i + 1 + t))) fun a b h => h).put _ _ _ fun a b h => ?_
          exact dm_pair (by omega) h
        · have a1 := put_len (kp (oat ord (i + 1 + t)) (oat ord i)) (.str [pmC (!s)]) (putK (kp (oat ord i) (oat ord (i + 1 + t))) (.str [pmC s]) kv')
          have a2 := put_len (kp (oat ord i) (oat ord (i + 1 + t))) (.str [pmC s]) kv'
          omega)
    rw [show i + 1 + (m - (i + 1)) = m by omega] at H5 G5
    refine ⟨_, ?_, g5, kv5, d5, rfl, H5, G5, by omega, o5.mono (by omega), c5⟩
    have put : setD (dk d4 (rest ++ [.dT kvs])) (.ref b) (.tup [N (oat ord i), N (oat ord i)]) (.str ['.']) = some (dk d4 (rest ++ [.dT kv1])) := by rw [hkv1]; exact dict_put hb (by omega)
    have ai : ∀ h, idxD h (.lst (ord.map N)) (N i) = some (N (oat ord i)) := oat_at (by omega)
    unfold tabInner at e5
    unfold tabOuter F_law_table at e5 ⊢
    dsimp only at e5
    simp -implicitDefEqProofs (disch := omega) [e5, put, ai, -List.map_map, -forM_v]
  obtain ⟨J, h5, e5, g5, kv5, d5, rfl, H5, G5, L5, o5, c5⟩ := for_range (Γ := Gm) (k := k + 3) (its := ((List.range m).map N).map .v) (t := .var 7) (b := tabOuter) (σ := [some (.ref 1), some (N lo), some (N hi), some (N m), some (N way), some (.lst (ord.map N)), some (.ref b), none, none, none, none, none, none]) (h := dk d3 (rest ++ [.dT []])) 0 m
      (fun t h => ∃ (g' : Nat → Nat → Char) (kvs' : Kvs) (d5 : Dck), h = dk d5 (rest ++ [.dT kvs']) ∧ Half m (oat ord) g' t (t + 1) ∧ Dg kvs' g' (dm m ord t t) ∧ kvs'.length ≤ 20 * t ∧ d5.Ok (K + 27 * (m - t)) ∧ d5.cs = d.cs) (by rw [List.range_eq_range'])
      ⟨fun _ _ => '.', [], d3, rfl, ⟨fun _ _ => rfl, fun a b _ _ h => by omega⟩, fun p q ⟨a, b, _, _, _, _, h⟩ => by omega, by simp, o3.mono (by omega), c3.trans (c2.trans c1)⟩ (fun t h ht hI => by
        obtain ⟨g', kv', d5, rfl, H5, G5, L5, o5, c5⟩ := hI
        obtain ⟨h2, e6, g6, kv6, d6, rfl, H6, G6, L6, o6, c6⟩ := jl t none none none d5 g' kv' ht o5 c5 H5 G5 L5
        exact ⟨_, by rw [Nat.zero_add]; exact e6, g6, kv6, d6, rfl, H6.next, fun p q h => G6 p q (dm_next h), L6, o6, c6⟩)
  refine ⟨m, g5, d5, ?_, H5.tour hp, by omega, by omega, o5.mono (by omega), c5⟩
  have bd : bodyOf (evalSs (callN Gm (k + 3)) F_law_table.body [some (.ref 1), some (N lo), some (N hi), none, none, none, none, none, none, none, none, none, none] (dk d rest)) = .ok (tab m g5) (dk d5 (rest ++ [.dT kv5])) := by
    have get : ∀ p q, p < m → q < m → idxD (dk d5 (rest ++ [.dT kv5])) (.ref b) (.tup [N p, N q]) = some (.str [g5 p q]) := fun p q hpm hqm => by
      rw [dict_get hb]
      have sur : ∀ p, p < m → ∃ a, a < m ∧ p = oat ord a := fun p hpm => by
        have hmem : p ∈ ord := hp.mem_iff.mpr (List.mem_range.mpr hpm)
        obtain ⟨a, ha, e⟩ := List.mem_iff_getElem.mp hmem
        refine ⟨a, by omega, ?_⟩
        unfold oat
        rw [List.getD_eq_getElem?_getD, List.getElem?_eq_getElem ha, e]
        rfl
      obtain ⟨a, ha, rfl⟩ := sur p hpm
      obtain ⟨c, hc, rfl⟩ := sur q hqm
      exact G5 _ _ ⟨a, c, ha, hc, rfl, rfl, .inl ha⟩
    unfold tabOuter at e5
    unfold F_law_table at e5 ⊢
    dsimp only at e5
    have e3' : callN Gm (k + 3) "_law_mixed" [.ref 1, .lst ((List.range m).map N)] (dk d2 rest) = .ok (.lst (ord.map N)) (dk d3 rest) := e3
    have en : ∀ σ h, evalE (callN Gm (k + 3)) .newT σ h = .ok (.ref h.length) (h ++ [.dT []]) := fun _ _ => by rw [evalE]
    simp -implicitDefEqProofs (disch := omega) [en, e1, e2, e3', hmx, parR, hbl, dk_app, -List.map_map, -forM_v, -comp_v]
    rw [e5]
    have lr : (List.range m).length ≤ 1000000 := by simp; omega
    simp -implicitDefEqProofs (disch := first | assumption | omega | decide +kernel | (simp only [List.mem_filter, List.mem_range, List.mem_range'_1] at *; first | done | omega | assumption) | (intro _ hm; first | exact hm | exact List.mem_range.mp hm | exact List.mem_filter.mp hm | simpa using hm)) [-List.map_map, startOf, lstOf_ref', tuple_ref, list_ref, len_ref, all_ref, any_ref, sum_ref, max_ref, min_ref, sorted_ref, truthy_ref, idx_ref, mut_ref, isi_ref, get, lr, -idx_ref]
    rfl
  have z := call_drop (Γ := Gm) (k := k + 3) (args := [.ref 1, N lo, N hi]) (h := dk d rest) Gm_law_table rfl rfl bd (trim_d d d5 c5.symm rest _) (below_tab _)
  rw [z, ← dk_app, take_d]

end LK
end
section
set_option Elab.async false
set_option linter.all false
set_option autoImplicit false
set_option maxRecDepth 100000
set_option maxHeartbeats 0
namespace LK
open Mini
/-! ### plain data as values -/
mutual
theorem dat_free : ∀ d : D, datR d = true → noRef d = true ∧ pureD d = true
  | .tup xs, h => by
    have := datL_free xs (by simpa [datR] using h)
    simp [noRef, pureD, this]
  | .lst xs, h => by
    have := datL_free xs (by simpa [datR] using h)
    simp [noRef, pureD, this]
  | .ref _, h => by simp [datR] at h
  | .scr xs, h => by simp [datR] at h
  | .non, _ => ⟨rfl, rfl⟩
  | .bl _, _ => ⟨rfl, rfl⟩
  | .int _, _ => ⟨rfl, rfl⟩
  | .str _, _ => ⟨rfl, rfl⟩
  | .dct _, _ => ⟨rfl, rfl⟩
  | .rep _, h => by simp [datR] at h
theorem datL_free : ∀ xs : List D, datRL xs = true → noRefL xs = true ∧ pureL xs = true
  | [], _ => ⟨rfl, rfl⟩
  | x :: xs, h => by
    simp only [datRL, Bool.and_eq_true] at h
    have h1 := dat_free x h.1
    have h2 := datL_free xs h.2
    simp [noRefL, pureL, h1, h2]
end
mutual
theorem below_dat (b : Nat) : ∀ d : D, datR d = true → below b d = true
  | .tup xs, h => by rw [below_tup]; exact belowL_dat b xs (by simpa [datR] using h)
  | .lst xs, h => by rw [below_lst]; exact belowL_dat b xs (by simpa [datR] using h)
  | .ref _, h => by simp [datR] at h
  | .scr xs, h => by simp [datR] at h
  | .non, _ => rfl
  | .bl _, _ => rfl
  | .int _, _ => rfl
  | .str _, _ => rfl
  | .dct _, _ => rfl
  | .rep _, h => by simp [datR] at h
theorem belowL_dat (b : Nat) : ∀ xs : List D, datRL xs = true → belowL b xs = true
  | [], _ => rfl
  | x :: xs, h => by
    simp only [datRL, Bool.and_eq_true] at h
    rw [belowL_cons, below_dat b x h.1, belowL_dat b xs h.2]
    rfl
end
/-- a datum of weight and depth at most c, p -/
structure Pd (c p : Nat) (d : D) : Prop where
  dr : datR d = true
  wt : wtD d ≤ c
  dp : depD d ≤ p
theorem Pd.mono {c p c' p' : Nat} {d : D} (E : Pd c p d) (h : c ≤ c') (h2 : p ≤ p') : Pd c' p' d := ⟨E.dr, Nat.le_trans E.wt h, Nat.le_trans E.dp h2⟩
theorem Pd.fr {c p : Nat} {d : D} (E : Pd c p d) : noRef d = true := (dat_free d E.dr).1
theorem Pd.pu {c p : Nat} {d : D} (E : Pd c p d) : pureD d = true := (dat_free d E.dr).2
theorem pd_N {i : Nat} (h : i < 2 ^ 64) : Pd 70 0 (N i) := ⟨rfl, by
  have e : wtD (N i) = if ((i : Nat) : Int).natAbs < 2 ^ 64 then 70 else if ((i : Nat) : Int).natAbs < 2 ^ 1900 then 2000 else lim := rfl
  rw [e, if_pos (by omega)]
  exact Nat.le_refl _, Nat.le_refl _⟩
theorem pd_bl (b : Bool) : Pd 5 0 (.bl b) := ⟨rfl, Nat.le_refl _, Nat.le_refl _⟩
theorem pd_non : Pd 4 0 .non := ⟨rfl, Nat.le_refl _, Nat.le_refl _⟩
theorem pd_str (s : List Char) : Pd (10 * s.length + 2) 0 (.str s) := ⟨rfl, Nat.le_refl _, Nat.le_refl _⟩
theorem pd_list {c p : Nat} : ∀ {xs : List D}, (∀ x ∈ xs, Pd c p x) → datRL xs = true ∧ wtL xs ≤ xs.length * (c + 2) ∧ depL xs ≤ p
  | [], _ => ⟨rfl, Nat.zero_le _, Nat.zero_le _⟩
  | x :: xs, h => by
    obtain ⟨h1, h2, h3⟩ := pd_list fun y hy => h y (List.mem_cons_of_mem _ hy)
    have E := h x List.mem_cons_self
    have hw := E.wt
    have hd := E.dp
    refine ⟨by rw [datRL, E.dr, h1]; rfl, ?_, ?_⟩
    · rw [wtL, List.length_cons, Nat.add_mul, Nat.one_mul]
      omega
    · rw [depL]
      omega
theorem pd_tup {c p m : Nat} {xs : List D} (hl : xs.length ≤ m) (h : ∀ x ∈ xs, Pd c p x) : Pd (m * (c + 2) + 3) (p + 1) (.tup xs) := by
  obtain ⟨h1, h2, h3⟩ := pd_list h
  have h4 : xs.length * (c + 2) ≤ m * (c + 2) := Nat.mul_le_mul hl (Nat.le_refl _)
  exact ⟨by simp [datR, h1], by rw [wtD]; omega, by rw [depD]; omega⟩
theorem pd_lst {c p m : Nat} {xs : List D} (hl : xs.length ≤ m) (h : ∀ x ∈ xs, Pd c p x) : Pd (m * (c + 2) + 3) (p + 1) (.lst xs) := by
  obtain ⟨h1, h2, h3⟩ := pd_list h
  have h4 : xs.length * (c + 2) ≤ m * (c + 2) := Nat.mul_le_mul hl (Nat.le_refl _)
  exact ⟨by simp [datR, h1], by rw [wtD]; omega, by rw [depD]; omega⟩
theorem pd_items {c p : Nat} : ∀ {xs : List D}, datRL xs = true → wtL xs ≤ c → depL xs ≤ p → xs.length * 2 ≤ c ∧ ∀ x ∈ xs, Pd c p x
  | [], _, _, _ => ⟨Nat.zero_le _, fun x hx => by cases hx⟩
  | x :: xs, h1, h2, h3 => by
    simp only [datRL, Bool.and_eq_true] at h1
    simp only [wtL] at h2
    simp only [depL] at h3
    have := pd_items (c := c - 2) (p := p) h1.2 (by omega) (by omega)
    refine ⟨by rw [List.length_cons]; omega, fun y hy => ?_⟩
    rcases List.mem_cons.mp hy with rfl | hy
    · exact ⟨h1.1, by omega, by omega⟩
    · exact (this.2 y hy).mono (by omega) (Nat.le_refl _)
theorem Pd.items {c p : Nat} {xs : List D} (E : Pd c p (.tup xs)) : xs.length * 2 ≤ c ∧ ∀ x ∈ xs, Pd c p x := by
  have h1 := E.dr
  have h2 := E.wt
  have h3 := E.dp
  rw [datR] at h1
  rw [wtD] at h2
  rw [depD] at h3
  exact pd_items h1 (by omega) (by omega)
theorem Pd.itemsL {c p : Nat} {xs : List D} (E : Pd c p (.lst xs)) : xs.length * 2 ≤ c ∧ ∀ x ∈ xs, Pd c p x := by
  have h1 := E.dr
  have h2 := E.wt
  have h3 := E.dp
  rw [datR] at h1
  rw [wtD] at h2
  rw [depD] at h3
  exact pd_items h1 (by omega) (by omega)
theorem Pd.rep {c p : Nat} {v : D} (V : Pd c p v) (hc : c < 1000000) (hp : p ≤ 60) (h : Hh) : biD h .repr v = some (.rep v) := by
  have hw : wtD v < lim := Nat.lt_of_le_of_lt V.wt hc
  have hq : depD v ≤ 60 := Nat.le_trans V.dp hp
  have hr : reprR v = some (.rep v) := by
    unfold reprR
    rw [V.dr, decide_eq_true hw, decide_eq_true hq]
    rfl
  unfold biD
  dsimp only
  rw [view_free _ _ _ V.pu]
  split
  · rename_i xs e
    cases e
    split
    · rfl
    · exact hr
  · rename_i xs e
    cases e
    split
    · rfl
    · exact hr
  · exact hr
theorem nth_map (xs : List D) : xs = (List.range xs.length).map (nthD xs) := by
  refine List.ext_getElem (by simp) fun i h1 h2 => ?_
  simp [nthD, h1]
/-- what is an alternative -/
def altB (n : Nat) : D → Bool
  | .int i => decide (0 ≤ i) && decide (i < n)
  | _ => false
theorem altB_N {n i : Nat} : altB n (N i) = decide (i < n) := by
  show (decide ((0 : Int) ≤ i) && decide ((i : Int) < n)) = _
  have : (0 : Int) ≤ i := by omega
  rw [decide_eq_true this, Bool.true_and]
  exact decide_eq_decide.mpr (by omega)
theorem altB_of {n : Nat} {x : D} (h : altB n x = true) : ∃ i, x = N i ∧ i < n := by
  cases x with
  | int i =>
    simp only [altB, Bool.and_eq_true, decide_eq_true_eq] at h
    refine ⟨i.toNat, ?_, by omega⟩
    show D.int i = D.int _
    congr 1
    omega
  | _ => cases h

/-! ### slices -/
theorem cut_from {α : Type} (xs : List α) (m : Nat) : cut xs (some ((m : Nat) : Int)) none = xs.drop m := by
  have e : sIx xs.length 0 (some (m : Int)) = min m xs.length := by
    unfold sIx
    dsimp only
    rw [if_neg (by omega), Int.toNat_natCast]
  have e2 : sIx xs.length xs.length none = xs.length := rfl
  unfold cut
  rw [e, e2]
  by_cases h : m ≤ xs.length
  · rw [Nat.min_eq_left h, List.take_of_length_le (by simp)]
  · rw [Nat.min_eq_right (by omega), List.drop_of_length_le (by omega), List.drop_of_length_le (by omega)]
    simp
theorem cut_one {α : Type} (xs : List α) (m : Nat) : cut xs (some ((m : Nat) : Int)) (some (((m + 1 : Nat)) : Int)) = (xs.drop m).take 1 := by
  have e : ∀ (m : Nat) d, sIx xs.length d (some (m : Int)) = min m xs.length := fun m d => by
    unfold sIx
    dsimp only
    rw [if_neg (by omega), Int.toNat_natCast]
  unfold cut
  rw [e, e]
  by_cases h : m < xs.length
  · rw [Nat.min_eq_left (by omega), Nat.min_eq_left (by omega)]
    congr 1
    omega
  · rw [Nat.min_eq_right (by omega), Nat.min_eq_right (by omega), List.drop_of_length_le (by omega), List.drop_of_length_le (by omega)]
    simp
section
variable {h : Hh} {xs : List D} {s : List Char} {m : Nat}
theorem slT_to : sliceD h (.tup xs) none (some ((m : Nat) : Int)) = some (.tup (xs.take m)) := by rw [← cut_to]; rfl
theorem slT_to1 : sliceD h (.tup xs) none (some 1) = some (.tup (xs.take 1)) := slT_to (m := 1)
theorem slT_from : sliceD h (.tup xs) (some ((m : Nat) : Int)) none = some (.tup (xs.drop m)) := by rw [← cut_from]; rfl
theorem slT_from1 : sliceD h (.tup xs) (some (((m : Nat) : Int) + 1)) none = some (.tup (xs.drop (m + 1))) := by
  rw [show ((m : Int) + 1) = ((m + 1 : Nat) : Int) from by omega]
  exact slT_from
theorem slT_one : sliceD h (.tup xs) (some ((m : Nat) : Int)) (some (((m : Nat) : Int) + 1)) = some (.tup ((xs.drop m).take 1)) := by
  rw [show ((m : Int) + 1) = ((m + 1 : Nat) : Int) from by omega, ← cut_one]
  rfl
end

/-! ### the same value -/
theorem same_ok : ∀ (n k : Nat) (d : D) (h : Hh), smq n d = true → callN Gm (k + n + 1) "_law_same" [d, d] h = .ok (.bl true) h := by
  intro n
  induction n with
  | zero =>
    intro k d h hs
    refine call_pure Gm_law_same rfl rfl (by have := (smp_free 0 d (smq_smp _ _ hs)).1; simp [noRefL, this]) ?_ rfl (h' := [])
    show bodyOf (evalSs _ F_law_same.body [some d, some d, none] []) = _
    unfold F_law_same
    cases d <;> first | (simp -implicitDefEqProofs; done) | cases hs
  | succ n ih =>
    intro k d h hs
    refine call_pure Gm_law_same rfl rfl (by have := (smp_free _ d (smq_smp _ _ hs)).1; simp [noRefL, this]) ?_ rfl (h' := [])
    show bodyOf (evalSs _ F_law_same.body [some d, some d, none] []) = _
    unfold F_law_same
    rw [show k + (n + 1) = k + n + 1 by omega]
    cases d with
    | tup xs =>
      simp only [smq, Bool.and_eq_true, List.all_eq_true, decide_eq_true_eq] at hs
      have hl := hs.1
      have hm : ∀ i h, i < xs.length → callN Gm (k + n + 1) "_law_same" [nthD xs i, nthD xs i] h = .ok (.bl true) h := fun i h hi => ih k _ h (hs.2 _ (gd_mem hi))
      simp -implicitDefEqProofs (disch := first | assumption | omega | decide +kernel | (simp only [List.mem_filter, List.mem_range, List.mem_range'_1] at *; first | done | omega | assumption) | (intro _ hm; first | exact hm | exact List.mem_range.mp hm | exact List.mem_filter.mp hm | simpa using hm)) [-List.map_map, startOf, lstOf_ref', tuple_ref, list_ref, len_ref, all_ref, any_ref, sum_ref, max_ref, min_ref, sorted_ref, truthy_ref, idx_ref, mut_ref, isi_ref, hm, idx_gd, ← N_def, -idxN_tup]
    | lst xs =>
      simp only [smq, Bool.and_eq_true, List.all_eq_true, decide_eq_true_eq] at hs
      have hl := hs.1
      have hm : ∀ i h, i < xs.length → callN Gm (k + n + 1) "_law_same" [nthD xs i, nthD xs i] h = .ok (.bl true) h := fun i h hi => ih k _ h (hs.2 _ (gd_mem hi))
      simp -implicitDefEqProofs (disch := first | assumption | omega | decide +kernel | (simp only [List.mem_filter, List.mem_range, List.mem_range'_1] at *; first | done | omega | assumption) | (intro _ hm; first | exact hm | exact List.mem_range.mp hm | exact List.mem_filter.mp hm | simpa using hm)) [-List.map_map, startOf, lstOf_ref', tuple_ref, list_ref, len_ref, all_ref, any_ref, sum_ref, max_ref, min_ref, sorted_ref, truthy_ref, idx_ref, mut_ref, isi_ref, hm, idx_gdl, ← N_def, -idxN_lst]
    | int i => simp -implicitDefEqProofs
    | str i => simp -implicitDefEqProofs
    | non => simp -implicitDefEqProofs
    | bl i => simp -implicitDefEqProofs
    | _ => cases hs

/-! ### orders judged -/
section
variable {n k c p : Nat} {w : Nat → Nat → Char} {h : Hh}
theorem alt_ok {x : D} (E : Pd c p x) : callN Gm (k + 1) "is_alternative" [tab n w, x] h = .ok (.bl (altB n x)) h := by
  have fr := E.fr
  have dr := E.dr
  refine call_pure Gm_is_alternative rfl rfl (by simp [noRefL, fr]) (h' := []) ?_ rfl
  cases x with
  | int i =>
    by_cases h1 : 0 ≤ i <;> by_cases h2 : i < n <;> simp -implicitDefEqProofs (disch := first | assumption | omega | decide +kernel | (simp only [List.mem_filter, List.mem_range, List.mem_range'_1] at *; first | done | omega | assumption) | (intro _ hm; first | exact hm | exact List.mem_range.mp hm | exact List.mem_filter.mp hm | simpa using hm)) [-List.map_map, startOf, lstOf_ref', tuple_ref, list_ref, len_ref, all_ref, any_ref, sum_ref, max_ref, min_ref, sorted_ref, truthy_ref, idx_ref, mut_ref, isi_ref, F_is_alternative, altB, h1, h2]
  | ref i => cases dr
  | scr i => cases dr
  | rep i => cases dr
  | _ => simp -implicitDefEqProofs (disch := first | assumption | omega | decide +kernel | (simp only [List.mem_filter, List.mem_range, List.mem_range'_1] at *; first | done | omega | assumption) | (intro _ hm; first | exact hm | exact List.mem_range.mp hm | exact List.mem_filter.mp hm | simpa using hm)) [-List.map_map, startOf, lstOf_ref', tuple_ref, list_ref, len_ref, all_ref, any_ref, sum_ref, max_ref, min_ref, sorted_ref, truthy_ref, idx_ref, mut_ref, isi_ref, F_is_alternative, altB]
theorem lalt_ok {x : D} (E : Pd c p x) : callN Gm (k + 1) "_law_is_alternative" [tab n w, x] h = .ok (.bl (altB n x)) h := by
  have fr := E.fr
  have dr := E.dr
  refine call_pure Gm_law_is_alternative rfl rfl (by simp [noRefL, fr]) (h' := []) ?_ rfl
  cases x with
  | int i =>
    by_cases h1 : 0 ≤ i <;> by_cases h2 : i < n <;> simp -implicitDefEqProofs (disch := first | assumption | omega | decide +kernel | (simp only [List.mem_filter, List.mem_range, List.mem_range'_1] at *; first | done | omega | assumption) | (intro _ hm; first | exact hm | exact List.mem_range.mp hm | exact List.mem_filter.mp hm | simpa using hm)) [-List.map_map, startOf, lstOf_ref', tuple_ref, list_ref, len_ref, all_ref, any_ref, sum_ref, max_ref, min_ref, sorted_ref, truthy_ref, idx_ref, mut_ref, isi_ref, F_law_is_alternative, altB, h1, h2]
  | ref i => cases dr
  | scr i => cases dr
  | rep i => cases dr
  | _ => simp -implicitDefEqProofs (disch := first | assumption | omega | decide +kernel | (simp only [List.mem_filter, List.mem_range, List.mem_range'_1] at *; first | done | omega | assumption) | (intro _ hm; first | exact hm | exact List.mem_range.mp hm | exact List.mem_filter.mp hm | simpa using hm)) [-List.map_map, startOf, lstOf_ref', tuple_ref, list_ref, len_ref, all_ref, any_ref, sum_ref, max_ref, min_ref, sorted_ref, truthy_ref, idx_ref, mut_ref, isi_ref, F_law_is_alternative, altB]
def tN (ys : List Nat) : D := .tup (ys.map N)
/-- what is no order by its shape -/
def NoO (n : Nat) (v : D) : Prop := (∀ xs, v ≠ .tup xs) ∨ ∃ xs, v = .tup xs ∧ ((List.range xs.length).all fun i => altB n (nthD xs i)) = false
theorem or_tN {v : D} (V : Pd c p v) : NoO n v ∨ ∃ ys, v = tN ys ∧ (∀ y ∈ ys, y < n) ∧ ys.length * 2 ≤ c := by
  cases v with
  | tup xs =>
    cases ha : (List.range xs.length).all fun i => altB n (nthD xs i) with
    | false => exact .inl (.inr ⟨xs, rfl, ha⟩)
    | true =>
      right
      have h1 : ∀ i, i < xs.length → ∃ j, nthD xs i = N j ∧ j < n := fun i hi => altB_of (List.all_eq_true.mp ha i (List.mem_range.mpr hi))
      have h2 : ∀ x ∈ xs, ∃ j, x = N j ∧ j < n := fun x hm => by
        obtain ⟨i, hi, e⟩ := List.mem_iff_getElem.mp hm
        obtain ⟨j, e2, hj⟩ := h1 i hi
        refine ⟨j, ?_, hj⟩
        rw [← e2, ← e]
        simp [nthD, hi]
      have h3 : ∀ xs : List D, (∀ x ∈ xs, ∃ j, x = N j ∧ j < n) → ∃ ys : List Nat, xs = ys.map N ∧ ∀ y ∈ ys, y < n := fun xs => by
        induction xs with
        | nil => intro _; exact ⟨[], rfl, fun y hy => by cases hy⟩
        | cons x xs ih =>
          intro hm
          obtain ⟨j, e, hj⟩ := hm x List.mem_cons_self
          obtain ⟨ys, e2, hy⟩ := ih fun y hy => hm y (List.mem_cons_of_mem _ hy)
          refine ⟨j :: ys, by rw [e, e2]; rfl, fun y hm => ?_⟩
          rcases List.mem_cons.mp hm with rfl | hm
          · exact hj
          · exact hy y hm
      obtain ⟨ys, e, hy⟩ := h3 xs h2
      refine ⟨ys, by rw [e]; rfl, hy, ?_⟩
      have := V.items.1
      rw [e, List.length_map] at this
      exact this
  | _ => exact .inl (.inl fun _ e => by cases e)
/-- an order -/
def ordB (n : Nat) (ys : List Nat) : Bool := decide (ys.length = n ∧ ys.Nodup)
theorem dedup_N : ∀ ys : List Nat, ((dedup (ys.map Int.ofNat)).length = ys.length ↔ ys.Nodup) ∧ (dedup (ys.map Int.ofNat)).length ≤ ys.length ∧ ∀ z : Nat, (Int.ofNat z) ∈ dedup (ys.map Int.ofNat) ↔ z ∈ ys
  | [] => ⟨by simp [dedup], Nat.le_refl _, fun z => by simp [dedup]⟩
  | y :: ys => by
    obtain ⟨i1, i2, i3⟩ := dedup_N ys
    have e : dedup ((y :: ys).map Int.ofNat) = if Int.ofNat y ∈ dedup (ys.map Int.ofNat) then dedup (ys.map Int.ofNat) else Int.ofNat y :: dedup (ys.map Int.ofNat) := rfl
    rw [e]
    by_cases hy : y ∈ ys
    · rw [if_pos ((i3 y).mpr hy)]
      refine ⟨⟨fun q => ?_, fun q => absurd hy (List.nodup_cons.mp q).1⟩, by rw [List.length_cons]; omega, fun z => ?_⟩
      · rw [List.length_cons] at q
        omega
      · rw [i3, List.mem_cons]
        exact ⟨.inr, fun q => q.elim (fun e => e ▸ hy) id⟩
    · rw [if_neg fun q => hy ((i3 y).mp q)]
      refine ⟨?_, by rw [List.length_cons, List.length_cons]; omega, fun z => ?_⟩
      · rw [List.length_cons, List.length_cons, List.nodup_cons, Nat.add_right_cancel_iff, i1]
        exact ⟨fun q => ⟨hy, q⟩, fun q => q.2⟩
      · rw [List.mem_cons, List.mem_cons, i3]
        exact or_congr ⟨fun e => Int.ofNat.inj e, fun e => by rw [e]⟩ Iff.rfl
theorem ints_N (ys : List Nat) : intsOf (ys.map N) = some (ys.map Int.ofNat) := by
  induction ys with
  | nil => rfl
  | cons y ys ih =>
    unfold intsOf at ih ⊢
    rw [List.map_cons]
    unfold optAll
    rw [ih]
    rfl
theorem setLen_N {ys : List Nat} (hl : ys.length ≤ 4000) : biD h .setLen (tN ys) = some (N (dedup (ys.map Int.ofNat)).length) := by
  show (some (ys.map N)).bind (fun xs => (intsOf xs).bind fun ns => if ns.length ≤ 4000 then some (D.int (dedup ns).length) else none) = _
  rw [Option.bind_some, ints_N, Option.bind_some, if_pos (by simpa using hl)]
  rfl
theorem isord_no {v : D} (V : Pd c p v) (hv : NoO n v) : callN Gm (k + 2) "is_order" [tab n w, v] h = .ok (.bl false) h := by
  have fr := V.fr
  have dr := V.dr
  refine call_pure Gm_is_order rfl rfl (by simp [noRefL, fr]) (h' := []) ?_ rfl
  rcases hv with hv | ⟨xs, rfl, hx⟩
  · cases v with
    | tup xs => exact absurd rfl (hv xs)
    | ref i => cases dr
    | scr i => cases dr
    | rep i => cases dr
    | _ => simp -implicitDefEqProofs (disch := first | assumption | omega | decide +kernel | (simp only [List.mem_filter, List.mem_range, List.mem_range'_1] at *; first | done | omega | assumption) | (intro _ hm; first | exact hm | exact List.mem_range.mp hm | exact List.mem_filter.mp hm | simpa using hm)) [-List.map_map, startOf, lstOf_ref', tuple_ref, list_ref, len_ref, all_ref, any_ref, sum_ref, max_ref, min_ref, sorted_ref, truthy_ref, idx_ref, mut_ref, isi_ref, F_is_order]
  · have a1 : ∀ i, i < xs.length → ∀ h, callN Gm (k + 1) "is_alternative" [tab n w, nthD xs i] h = .ok (.bl (altB n (nthD xs i))) h := fun i hi h => alt_ok (V.items.2 _ (gd_mem hi))
    obtain ⟨f, hf⟩ : ∃ f, f = fun i => altB n (nthD xs i) := ⟨_, rfl⟩
    have a2 : ∀ i, i < xs.length → ∀ h, callN Gm (k + 1) "is_alternative" [tab n w, nthD xs i] h = .ok (.bl (f i)) h := fun i hi h => by rw [a1 i hi h, hf]
    have hx2 : (List.range xs.length).all f = false := by rw [hf]; exact hx
    rw [nth_map xs]
    clear hf a1 hx
    by_cases hl : xs.length = n
    · subst hl
      simp -implicitDefEqProofs (disch := first | assumption | omega | decide +kernel | (simp only [List.mem_filter, List.mem_range, List.mem_range'_1] at *; first | done | omega | assumption) | (intro _ hm; first | exact hm | exact List.mem_range.mp hm | exact List.mem_filter.mp hm | simpa using hm)) [-List.map_map, startOf, lstOf_ref', tuple_ref, list_ref, len_ref, all_ref, any_ref, sum_ref, max_ref, min_ref, sorted_ref, truthy_ref, idx_ref, mut_ref, isi_ref, F_is_order, a2, hx2, -List.all_eq_true]
    · have hl' : ¬ (xs.length : Int) = (n : Int) := by omega
      simp -implicitDefEqProofs (disch := first | assumption | omega | decide +kernel | (simp only [List.mem_filter, List.mem_range, List.mem_range'_1] at *; first | done | omega | assumption) | (intro _ hm; first | exact hm | exact List.mem_range.mp hm | exact List.mem_filter.mp hm | simpa using hm)) [-List.map_map, startOf, lstOf_ref', tuple_ref, list_ref, len_ref, all_ref, any_ref, sum_ref, max_ref, min_ref, sorted_ref, truthy_ref, idx_ref, mut_ref, isi_ref, F_is_order, a2, hl, hl']
theorem isord_ok {ys : List Nat} (hn : n ≤ 9) (hy : ∀ y ∈ ys, y < n) : callN Gm (k + 2) "is_order" [tab n w, tN ys] h = .ok (.bl (ordB n ys)) h := by
  have a1 : ∀ y ∈ ys, ∀ h, callN Gm (k + 1) "is_alternative" [tab n w, N y] h = .ok (.bl true) h := fun y hm h => by
    rw [alt_ok (c := 70) (p := 0) (pd_N (by have := hy y hm; omega)), altB_N, decide_eq_true (hy y hm)]
  unfold tN
  refine call_pure Gm_is_order rfl rfl (by simp [noRefL, noRef]) (h' := []) ?_ rfl
  by_cases e : ys.length = n
  · have s1 : ∀ h, biD h .setLen (.tup (ys.map N)) = some (N (dedup (ys.map Int.ofNat)).length) := fun h => setLen_N (by omega)
    simp -implicitDefEqProofs (disch := first | assumption | omega | decide +kernel | (simp only [List.mem_filter, List.mem_range, List.mem_range'_1] at *; first | done | omega | assumption) | (intro _ hm; first | exact hm | exact List.mem_range.mp hm | exact List.mem_filter.mp hm | simpa using hm)) [-List.map_map, startOf, lstOf_ref', tuple_ref, list_ref, len_ref, all_ref, any_ref, sum_ref, max_ref, min_ref, sorted_ref, truthy_ref, idx_ref, mut_ref, isi_ref, F_is_order, a1, s1, e, ordB]
    rw [← e]
    exact Int.ofNat_inj.trans (dedup_N ys).1
  · have e' : ¬ (ys.length : Int) = (n : Int) := by omega
    simp -implicitDefEqProofs (disch := first | assumption | omega | decide +kernel | (simp only [List.mem_filter, List.mem_range, List.mem_range'_1] at *; first | done | omega | assumption) | (intro _ hm; first | exact hm | exact List.mem_range.mp hm | exact List.mem_filter.mp hm | simpa using hm)) [-List.map_map, startOf, lstOf_ref', tuple_ref, list_ref, len_ref, all_ref, any_ref, sum_ref, max_ref, min_ref, sorted_ref, truthy_ref, idx_ref, mut_ref, isi_ref, F_is_order, e, e', ordB]
theorem ord_perm {ys : List Nat} (hy : ∀ y ∈ ys, y < n) : ordB n ys = true ↔ ys.Perm (List.range n) := by
  unfold ordB
  rw [decide_eq_true_iff]
  constructor
  · rintro ⟨hl, nd⟩
    refine (List.perm_ext_iff_of_nodup nd List.nodup_range).mpr fun x => ?_
    rw [List.mem_range]
    refine ⟨fun q => hy x q, fun hx => Classical.byContradiction fun q => ?_⟩
    have l1 := List.Nodup.length_le_of_subset nd (l₂ := (List.range n).erase x) fun y hm => (List.mem_erase_of_ne (fun e : y = x => q (e ▸ hm))).mpr (List.mem_range.mpr (hy y hm))
    rw [List.length_erase_of_mem (List.mem_range.mpr hx), List.length_range] at l1
    omega
  · intro pm
    exact ⟨by simpa using pm.length_eq, pm.nodup_iff.mpr List.nodup_range⟩
theorem sort_range {ys : List Nat} (hy : ∀ y ∈ ys, y < n) : sortBy intLt (ys.map Int.ofNat) = (List.range n).map Int.ofNat ↔ ordB n ys = true := by
  rw [ord_perm hy]
  constructor
  · intro e
    have pm := sortBy_perm intLt (ys.map Int.ofNat)
    rw [e] at pm
    have pm2 := pm.map Int.toNat
    rw [List.map_map, List.map_map] at pm2
    simpa [Function.comp_def] using pm2.symm
  · intro pm
    refine (sorted_eq (pm.symm.map _) ?_).symm
    rw [List.pairwise_map]
    exact List.pairwise_lt_range.imp fun h => Int.ofNat_le.mpr (Nat.le_of_lt h)
theorem lisord_no {v : D} (V : Pd c p v) (hv : NoO n v) : callN Gm (k + 2) "_law_is_order" [tab n w, v] h = .ok (.bl false) h := by
  have fr := V.fr
  have dr := V.dr
  refine call_pure Gm_law_is_order rfl rfl (by simp [noRefL, fr]) (h' := []) ?_ rfl
  rcases hv with hv | ⟨xs, rfl, hx⟩
  · cases v with
    | tup xs => exact absurd rfl (hv xs)
    | ref i => cases dr
    | scr i => cases dr
    | rep i => cases dr
    | _ => simp -implicitDefEqProofs (disch := first | assumption | omega | decide +kernel | (simp only [List.mem_filter, List.mem_range, List.mem_range'_1] at *; first | done | omega | assumption) | (intro _ hm; first | exact hm | exact List.mem_range.mp hm | exact List.mem_filter.mp hm | simpa using hm)) [-List.map_map, startOf, lstOf_ref', tuple_ref, list_ref, len_ref, all_ref, any_ref, sum_ref, max_ref, min_ref, sorted_ref, truthy_ref, idx_ref, mut_ref, isi_ref, F_law_is_order]
  · have a1 : ∀ i, i < xs.length → ∀ h, callN Gm (k + 1) "_law_is_alternative" [tab n w, nthD xs i] h = .ok (.bl (altB n (nthD xs i))) h := fun i hi h => lalt_ok (V.items.2 _ (gd_mem hi))
    have q : ∀ h, cmpD h .ne (.lst (((List.range xs.length).filter fun i => !altB n (nthD xs i)).map (nthD xs))) (.lst []) = some true := fun h => by
      rw [ne_lstE]
      cases hf : (List.range xs.length).filter fun i => !altB n (nthD xs i) with
      | cons a l => rfl
      | nil =>
        have : ((List.range xs.length).all fun i => altB n (nthD xs i)) = true := List.all_eq_true.mpr fun i hi => by
          have := List.filter_eq_nil_iff.mp hf i hi
          simpa using this
        rw [this] at hx
        cases hx
    rw [nth_map xs]
    simp -implicitDefEqProofs (disch := first | assumption | omega | decide +kernel | (simp only [List.mem_filter, List.mem_range, List.mem_range'_1] at *; first | done | omega | assumption) | (intro _ hm; first | exact hm | exact List.mem_range.mp hm | exact List.mem_filter.mp hm | simpa using hm)) [-List.map_map, startOf, lstOf_ref', tuple_ref, list_ref, len_ref, all_ref, any_ref, sum_ref, max_ref, min_ref, sorted_ref, truthy_ref, idx_ref, mut_ref, isi_ref, F_law_is_order, a1, q]
theorem lisord_ok {ys : List Nat} (hn : n ≤ 9) (hy : ∀ y ∈ ys, y < n) : callN Gm (k + 2) "_law_is_order" [tab n w, tN ys] h = .ok (.bl (ordB n ys)) h := by
  have a1 : ∀ y ∈ ys, ∀ h, callN Gm (k + 1) "_law_is_alternative" [tab n w, N y] h = .ok (.bl true) h := fun y hm h => by
    rw [lalt_ok (c := 70) (p := 0) (pd_N (by have := hy y hm; omega)), altB_N, decide_eq_true (hy y hm)]
  have s1 : ∀ h, biD h .sorted (.tup (ys.map N)) = some (.lst ((sortBy intLt (ys.map Int.ofNat)).map D.int)) := fun h => by
    show (intsOf (ys.map N)).map (fun ns => D.lst ((sortBy intLt ns).map .int)) = _
    rw [ints_N]
    rfl
  obtain ⟨zs, hz⟩ : ∃ zs : List Nat, sortBy intLt (ys.map Int.ofNat) = zs.map Int.ofNat := by
    have pm := sortBy_perm intLt (ys.map Int.ofNat)
    refine ⟨(sortBy intLt (ys.map Int.ofNat)).map Int.toNat, ?_⟩
    rw [List.map_map]
    refine ((List.map_id _).symm.trans (List.map_congr_left fun z hzm => ?_))
    obtain ⟨y, _, rfl⟩ := List.mem_map.mp (pm.mem_iff.mp hzm)
    rfl
  have e : (sortBy intLt (ys.map Int.ofNat)).map D.int = zs.map N := by rw [hz, List.map_map]; rfl
  have q : decide (zs = List.range n) = ordB n ys := by
    rw [Bool.eq_iff_iff, decide_eq_true_iff, ← sort_range hy, hz]
    exact ⟨fun e => by rw [e], fun e => (List.map_inj_right fun a b h => Int.ofNat.inj h).mp e⟩
  rw [e] at s1
  unfold tN
  refine call_pure Gm_law_is_order rfl rfl (by simp [noRefL, noRef]) (h' := []) ?_ rfl
  simp -implicitDefEqProofs (disch := first | assumption | omega | decide +kernel | (simp only [List.mem_filter, List.mem_range, List.mem_range'_1] at *; first | done | omega | assumption) | (intro _ hm; first | exact hm | exact List.mem_range.mp hm | exact List.mem_filter.mp hm | simpa using hm)) [-List.map_map, startOf, lstOf_ref', tuple_ref, list_ref, len_ref, all_ref, any_ref, sum_ref, max_ref, min_ref, sorted_ref, truthy_ref, idx_ref, mut_ref, isi_ref, F_law_is_order, a1, s1]
  exact q
end

end LK
end
section
set_option Elab.async false
set_option linter.all false
set_option autoImplicit false
set_option maxRecDepth 100000
set_option maxHeartbeats 0
namespace LK
open Mini
/-! ### careful sequences -/
section
variable {n k c p m : Nat} {w : Nat → Nat → Char} {h : Hh}
theorem fr_tN (ys : List Nat) : noRef (tN ys) = true := by simp [tN, noRef]
def btA (w : Nat → Nat → Char) (a : Nat) (zs : List Nat) : Bool := zs.all fun z => decide (w a z = '+')
def carS (w : Nat → Nat → Char) (ts : List Nat) (a : Nat) : List Nat := if btA w a ts = true then ts ++ [a] else ts
def carW (w : Nat → Nat → Char) (ts rs : List Nat) : List Nat := rs.foldl (carS w) ts
theorem car_sub (w : Nat → Nat → Char) : ∀ (rs ts : List Nat), ∀ x ∈ carW w ts rs, x ∈ ts ∨ x ∈ rs
  | [], ts, x, hx => .inl hx
  | r :: rs, ts, x, hx => by
    have e : carW w ts (r :: rs) = carW w (carS w ts r) rs := rfl
    rw [e] at hx
    rcases car_sub w rs _ x hx with q | q
    · unfold carS at q
      split at q
      · rcases List.mem_append.mp q with q | q
        · exact .inl q
        · rw [List.mem_singleton.mp q]; exact .inr List.mem_cons_self
      · exact .inl q
    · exact .inr (List.mem_cons_of_mem _ q)
theorem car_len (w : Nat → Nat → Char) : ∀ (rs ts : List Nat), ts.length ≤ (carW w ts rs).length ∧ (carW w ts rs).length ≤ ts.length + rs.length
  | [], ts => ⟨Nat.le_refl _, Nat.le_refl _⟩
  | r :: rs, ts => by
    have e : carW w ts (r :: rs) = carW w (carS w ts r) rs := rfl
    have l : ts.length ≤ (carS w ts r).length ∧ (carS w ts r).length ≤ ts.length + 1 := by
      unfold carS
      split <;> simp
    have := car_len w rs (carS w ts r)
    rw [e, List.length_cons]
    omega
theorem car_snoc (w : Nat → Nat → Char) (ts rs : List Nat) (a : Nat) : carW w ts (rs ++ [a]) = carS w (carW w ts rs) a := by
  unfold carW
  rw [List.foldl_append]
  rfl
def lastN (ts : List Nat) : Nat := ts.getLastD 0
theorem last_at {xs : List Nat} (h0 : xs ≠ []) : atI (xs.map N) (-1) = some (N (lastN xs)) := by
  have hp : 0 < xs.length := List.length_pos_iff.mpr h0
  have e1 : ixN (xs.map N).length (-1) = some (xs.length - 1) := by
    unfold ixN
    rw [List.length_map, if_neg (by omega), if_pos (by omega)]
    congr 1
    omega
  have e : lastN xs = xs[xs.length - 1] := by
    unfold lastN
    rw [List.getLastD_eq_getLast?, List.getLast?_eq_getElem?, List.getElem?_eq_getElem (by omega)]
    rfl
  unfold atI
  rw [e1]
  dsimp only
  rw [List.getElem?_map, List.getElem?_eq_getElem (by omega), e]
  rfl
theorem beats_ref {a : Nat} {zs : List Nat} (hn : n ≤ 9) (ha : a < n) (hz : ∀ z ∈ zs, z < n) (hh : h[m]? = some (.lst (zs.map N))) : callN Gm (k + 1) "beats_all" [tab n w, N a, .ref m] h = .ok (.bl (btA w a zs)) h := by
  refine call_pureR (args' := [tab n w, N a, .scr (zs.map N)]) (h' := []) (d := .bl (btA w a zs)) Gm_beats_all rfl rfl ?_ ?_ rfl
  · have e1 : lend h 8 (.ref m) = some (.scr (zs.map N)) := by
      unfold lend
      rw [if_neg (by simp [noRef])]
      dsimp only
      rw [hh]
      dsimp only
      rw [lendArgs h 7 _ (by simp)]
      rfl
    have e0 : lend h 8 (tab n w) = some (tab n w) := lend_free h 8 _ (by simp)
    have e2 : lend h 8 (N a) = some (N a) := lend_free h 8 _ rfl
    unfold optAll
    rw [e0]
    dsimp only
    unfold optAll
    rw [e2]
    dsimp only
    unfold optAll
    rw [e1]
    rfl
  · have b1 : ∀ y ∈ zs, ∀ h, idxD h (rowS n w a) (N y) = some (.str [w a y]) := fun y hy h => idx_row (hz y hy) (by omega)
    simp -implicitDefEqProofs (disch := first | assumption | omega | decide +kernel | (simp only [List.mem_filter, List.mem_range, List.mem_range'_1] at *; first | done | omega | assumption) | (intro _ hm; first | exact hm | exact List.mem_range.mp hm | exact List.mem_filter.mp hm | simpa using hm)) [-List.map_map, startOf, lstOf_ref', tuple_ref, list_ref, len_ref, all_ref, any_ref, sum_ref, max_ref, min_ref, sorted_ref, truthy_ref, idx_ref, mut_ref, isi_ref, F_beats_all, b1, btA]
theorem check_yes {v : D} (fr : noRef v = true) (e : ∀ h, callN Gm (k + 2) "is_order" [tab n w, v] h = .ok (.bl true) h) : callN Gm (k + 3) "check_order" [tab n w, v] h = .ok .non h := by
  refine call_pure Gm_check_order rfl rfl (by simp [noRefL, fr]) (h' := []) ?_ rfl
  simp -implicitDefEqProofs (disch := first | assumption | omega | decide +kernel | (simp only [List.mem_filter, List.mem_range, List.mem_range'_1] at *; first | done | omega | assumption) | (intro _ hm; first | exact hm | exact List.mem_range.mp hm | exact List.mem_filter.mp hm | simpa using hm)) [-List.map_map, startOf, lstOf_ref', tuple_ref, list_ref, len_ref, all_ref, any_ref, sum_ref, max_ref, min_ref, sorted_ref, truthy_ref, idx_ref, mut_ref, isi_ref, F_check_order, e]
theorem check_no {v : D} (fr : noRef v = true) (e : ∀ h, callN Gm (k + 2) "is_order" [tab n w, v] h = .ok (.bl false) h) : callN Gm (k + 3) "check_order" [tab n w, v] h = .exc "NoOrder" [] h := by
  refine call_exc Gm_check_order rfl rfl (by simp [noRefL, fr]) (h1 := []) (h2 := []) (c' := "NoOrder") (fs' := []) ?_ ?_ rfl
  · simp -implicitDefEqProofs (disch := first | assumption | omega | decide +kernel | (simp only [List.mem_filter, List.mem_range, List.mem_range'_1] at *; first | done | omega | assumption) | (intro _ hm; first | exact hm | exact List.mem_range.mp hm | exact List.mem_filter.mp hm | simpa using hm)) [-List.map_map, startOf, lstOf_ref', tuple_ref, list_ref, len_ref, all_ref, any_ref, sum_ref, max_ref, min_ref, sorted_ref, truthy_ref, idx_ref, mut_ref, isi_ref, F_check_order, e]
  · simp -implicitDefEqProofs (disch := first | assumption | omega | decide +kernel | (simp only [List.mem_filter, List.mem_range, List.mem_range'_1] at *; first | done | omega | assumption) | (intro _ hm; first | exact hm | exact List.mem_range.mp hm | exact List.mem_filter.mp hm | simpa using hm)) [-List.map_map, startOf, lstOf_ref', tuple_ref, list_ref, len_ref, all_ref, any_ref, sum_ref, max_ref, min_ref, sorted_ref, truthy_ref, idx_ref, mut_ref, isi_ref, F_check_order, e]
def cwB : MSs := match F_careful_winner.body with
  | .cons _ (.cons _ (.cons (.for_ _ _ b) _)) => b
  | _ => .nil
theorem carw_ok {ys : List Nat} (hn : n ≤ 9) (h0 : ys ≠ []) (hl : ys.length ≤ 1000) (hy : ∀ y ∈ ys, y < n) (e : ∀ h, callN Gm (k + 2) "is_order" [tab n w, tN ys] h = .ok (.bl true) h) : callN Gm (k + 4) "careful_winner" [tab n w, tN ys] h = .ok (N (lastN (carW w [] ys.reverse))) h := by
  have fr : noRef (tN ys) = true := by simp [tN, noRef]
  have c1 : ∀ h, callN Gm (k + 3) "check_order" [tab n w, tN ys] h = .ok .non h := fun h => check_yes fr e
  obtain ⟨rs, hrs⟩ : ∃ rs, rs = ys.reverse := ⟨_, rfl⟩
  have hr : ∀ y ∈ rs, y < n := fun y hm => hy y (by rw [hrs] at hm; exact List.mem_reverse.mp hm)
  have hrl : rs.length ≤ 1000 := by rw [hrs]; simpa using hl
  obtain ⟨σ2, h2, e1, x3, rfl, rfl⟩ := forL_of (t := .var 3) (body := evalSs (callN Gm (k + 3)) cwB) (σ := [some (tab n w), some (tN ys), some (.ref 0), none]) (h := [.lst []]) N
    (fun j σ h => ∃ x3, σ = [some (tab n w), some (tN ys), some (.ref 0), x3] ∧ h = [.lst ((carW w [] (rs.take j)).map N)]) rs (its := (rs.map N).map .v) (by rw [List.map_map]; rfl)
    ⟨none, rfl, rfl⟩ (fun j z σ h hj hI => by
      obtain ⟨x3, rfl, rfl⟩ := hI
      have hzn : z < n := hr z (List.mem_of_getElem? hj)
      obtain ⟨ts, hts⟩ : ∃ ts, ts = carW w [] (rs.take j) := ⟨_, rfl⟩
      have ht : ∀ y ∈ ts, y < n := fun y hm => by
        rw [hts] at hm
        rcases car_sub w _ _ y hm with q | q
        · cases q
        · exact hr y (List.mem_of_mem_take q)
      have htl : ts.length ≤ 1000 := by
        have := (car_len w (rs.take j) []).2
        rw [← hts, List.length_take] at this
        simp at this
        omega
      have b1 : callN Gm (k + 3) "beats_all" [tab n w, N z, .ref 0] [.lst (ts.map N)] = .ok (.bl (btA w z ts)) [.lst (ts.map N)] := beats_ref hn hzn ht rfl
      have es : carW w [] (rs.take (j + 1)) = if btA w z ts = true then ts ++ [z] else ts := by
        rw [List.take_succ, hj, hts]
        exact car_snoc w [] _ z
      have ap : mutD [.lst (ts.map N)] .append (.ref 0) [N z] = .ok .non [.lst ((ts ++ [z]).map N)] := by
        rw [append_cell (n := 0) (xs := ts.map N) rfl (by simp [Mini.lim]; omega)]
        simp
      have isl : (lstOf [Cell.lst (ts.map N)] (.ref 0)).isSome = true := rfl
      rw [es, ← hts]
      by_cases hw : btA w z ts = true
      · rw [if_pos hw]
        rw [hw] at b1
        refine ⟨_, rfl, [some (tab n w), some (tN ys), some (.ref 0), some (N z)], [.lst ((ts ++ [z]).map N)], .inl ?_, some (N z), rfl, rfl⟩
        unfold cwB F_careful_winner
        simp -implicitDefEqProofs (disch := first | assumption | omega | decide +kernel | (simp only [List.mem_filter, List.mem_range, List.mem_range'_1] at *; first | done | omega | assumption) | (intro _ hm; first | exact hm | exact List.mem_range.mp hm | exact List.mem_filter.mp hm | simpa using hm)) [-List.map_map, startOf, lstOf_ref', tuple_ref, list_ref, len_ref, all_ref, any_ref, sum_ref, max_ref, min_ref, sorted_ref, truthy_ref, idx_ref, mut_ref, isi_ref, b1, ap, isl, -List.map_append]
      · rw [if_neg hw]
        rw [Bool.not_eq_true] at hw
        rw [hw] at b1
        refine ⟨_, rfl, [some (tab n w), some (tN ys), some (.ref 0), some (N z)], [.lst (ts.map N)], .inl ?_, some (N z), rfl, rfl⟩
        unfold cwB F_careful_winner
        simp -implicitDefEqProofs (disch := first | assumption | omega | decide +kernel | (simp only [List.mem_filter, List.mem_range, List.mem_range'_1] at *; first | done | omega | assumption) | (intro _ hm; first | exact hm | exact List.mem_range.mp hm | exact List.mem_filter.mp hm | simpa using hm)) [-List.map_map, startOf, lstOf_ref', tuple_ref, list_ref, len_ref, all_ref, any_ref, sum_ref, max_ref, min_ref, sorted_ref, truthy_ref, idx_ref, mut_ref, isi_ref, b1])
  rw [List.take_length] at e1
  unfold cwB F_careful_winner at e1
  dsimp only at e1
  have hne : carW w [] rs ≠ [] := fun q => by
    cases rs with
    | nil => exact h0 (by simpa using hrs.symm)
    | cons r rs =>
      have := (car_len w rs [r]).1
      have e : carW w [] (r :: rs) = carW w [r] rs := rfl
      rw [e] at q
      rw [q] at this
      simp at this
  have i0 : idxD [.lst ((carW w [] rs).map N)] (.ref 0) (.int (-1)) = some (N (lastN (carW w [] rs))) := last_at hne
  have rv : ∀ h, revX h (tN ys) = some (.tup (rs.map N)) := fun h => by
    show some (D.tup (ys.map N).reverse) = _
    rw [hrs, List.map_reverse]
  have fr' : noRef (N (lastN (carW w [] rs))) = true := rfl
  refine call_pure Gm_careful_winner rfl rfl (by simp [noRefL, fr]) (h' := [.lst ((carW w [] rs).map N)]) ?_ rfl
  rw [← hrs]
  simp -implicitDefEqProofs (disch := first | assumption | omega | decide +kernel | (simp only [List.mem_filter, List.mem_range, List.mem_range'_1] at *; first | done | omega | assumption) | (intro _ hm; first | exact hm | exact List.mem_range.mp hm | exact List.mem_filter.mp hm | simpa using hm)) [-List.map_map, startOf, lstOf_ref', tuple_ref, list_ref, len_ref, all_ref, any_ref, sum_ref, max_ref, min_ref, sorted_ref, truthy_ref, idx_ref, mut_ref, isi_ref, F_careful_winner, c1, rv, i0, e1, -forM_v, -idx_ref]
def lcB : MSs := match F_law_careful.body with
  | .cons _ (.cons (.for_ _ _ b) _) => b
  | _ => .nil
theorem lcar_ok {a : Nat} {zs : List Nat} (hn : n ≤ 9) (hl : zs.length ≤ 1000) (hy : ∀ y ∈ zs ++ [a], y < n) : callN Gm (k + 1) "_law_careful" [tab n w, tN (zs ++ [a])] h = .ok (N (lastN (carW w [] (zs ++ [a]).reverse))) h := by
  have fr : noRef (tN (zs ++ [a])) = true := fr_tN _
  obtain ⟨rs, hrs⟩ : ∃ rs, rs = zs.reverse := ⟨_, rfl⟩
  have hr : ∀ y ∈ rs, y < n := fun y hm => hy y (List.mem_append_left _ (by rw [hrs] at hm; exact List.mem_reverse.mp hm))
  have hrl : rs.length ≤ 1000 := by rw [hrs]; simpa using hl
  have han : a < n := hy a (by simp)
  obtain ⟨σ2, h2, e1, x3, x4, rfl, rfl⟩ := forL_of (t := .var 3) (body := evalSs (callN Gm k) lcB) (σ := [some (tab n w), some (tN (zs ++ [a])), some (.ref 0), none, none]) (h := [.lst [N a]]) N
    (fun j σ h => ∃ x3 x4, σ = [some (tab n w), some (tN (zs ++ [a])), some (.ref 0), x3, x4] ∧ h = [.lst ((carW w [a] (rs.take j)).map N)]) rs (its := (rs.map N).map .v) (by rw [List.map_map]; rfl)
    ⟨none, none, rfl, rfl⟩ (fun j z σ h hj hI => by
      obtain ⟨x3, x4, rfl, rfl⟩ := hI
      have hzn : z < n := hr z (List.mem_of_getElem? hj)
      obtain ⟨ts, hts⟩ : ∃ ts, ts = carW w [a] (rs.take j) := ⟨_, rfl⟩
      have ht : ∀ y ∈ ts, y < n := fun y hm => by
        rw [hts] at hm
        rcases car_sub w _ _ y hm with q | q
        · rw [List.mem_singleton.mp q]; exact han
        · exact hr y (List.mem_of_mem_take q)
      have htl : ts.length ≤ 1001 := by
        have := (car_len w (rs.take j) [a]).2
        rw [← hts, List.length_take] at this
        simp at this
        omega
      have es : carW w [a] (rs.take (j + 1)) = if btA w z ts = true then ts ++ [z] else ts := by
        rw [List.take_succ, hj, hts]
        exact car_snoc w [a] _ z
      have ap : mutD [.lst (ts.map N)] .append (.ref 0) [N z] = .ok .non [.lst ((ts ++ [z]).map N)] := by
        rw [append_cell (n := 0) (xs := ts.map N) rfl (by simp [Mini.lim]; omega)]
        simp
      have isl : (lstOf [Cell.lst (ts.map N)] (.ref 0)).isSome = true := rfl
      have b1 : ∀ y ∈ ts, ∀ h, idxD h (rowS n w z) (N y) = some (.str [w z y]) := fun y hy h => idx_row (ht y hy) (by omega)
      have hc0 : [Cell.lst (ts.map N)][0]? = some (.lst (ts.map N)) := rfl
      have q : btA w z ts = true ↔ ∀ x ∈ ts, w z x = '+' := by simp [btA]
      rw [es, ← hts]
      by_cases hw : ∀ x ∈ ts, w z x = '+'
      · rw [if_pos (q.mpr hw)]
        refine ⟨_, rfl, [some (tab n w), some (tN (zs ++ [a])), some (.ref 0), some (N z), x4], [.lst ((ts ++ [z]).map N)], .inl ?_, some (N z), x4, rfl, rfl⟩
        rw [List.map_append] at ap ⊢
        unfold lcB F_law_careful
        simp -implicitDefEqProofs (disch := first | assumption | omega | decide +kernel | (simp only [List.mem_filter, List.mem_range, List.mem_range'_1] at *; first | done | omega | assumption) | (intro _ hm; first | exact hm | exact List.mem_range.mp hm | exact List.mem_filter.mp hm | simpa using hm)) [-List.map_map, startOf, lstOf_ref', tuple_ref, list_ref, len_ref, all_ref, any_ref, sum_ref, max_ref, min_ref, sorted_ref, truthy_ref, idx_ref, mut_ref, isi_ref, b1, ap, isl, hw]
      · rw [if_neg fun e => hw (q.mp e)]
        refine ⟨_, rfl, [some (tab n w), some (tN (zs ++ [a])), some (.ref 0), some (N z), x4], [.lst (ts.map N)], .inl ?_, some (N z), x4, rfl, rfl⟩
        unfold lcB F_law_careful
        simp -implicitDefEqProofs (disch := first | assumption | omega | decide +kernel | (simp only [List.mem_filter, List.mem_range, List.mem_range'_1] at *; first | done | omega | assumption) | (intro _ hm; first | exact hm | exact List.mem_range.mp hm | exact List.mem_filter.mp hm | simpa using hm)) [-List.map_map, startOf, lstOf_ref', tuple_ref, list_ref, len_ref, all_ref, any_ref, sum_ref, max_ref, min_ref, sorted_ref, truthy_ref, idx_ref, mut_ref, isi_ref, b1, hw])
  rw [List.take_length] at e1
  unfold lcB F_law_careful at e1
  dsimp only at e1
  have hne : carW w [a] rs ≠ [] := fun q => by
    have := (car_len w rs [a]).1
    rw [q] at this
    simp at this
  have i0 : idxD [.lst ((carW w [a] rs).map N)] (.ref 0) (.int (-1)) = some (N (lastN (carW w [a] rs))) := last_at hne
  have i1 : ∀ h, idxD h (tN (zs ++ [a])) (.int (-1)) = some (N a) := fun h => by
    have := last_at (xs := zs ++ [a]) (by simp)
    have e : lastN (zs ++ [a]) = a := by simp [lastN]
    rw [e] at this
    exact this
  have sl : ∀ h, sliceD h (tN (zs ++ [a])) none (some (-1)) = some (.tup (zs.map N)) := fun h => by
    show some (D.tup (cut ((zs ++ [a]).map N) none (some (-1)))) = _
    congr 2
    unfold cut sIx
    simp
    have q : (-1 + ((zs.length : Int) + 1)).toNat = zs.length := by omega
    rw [q]
    exact List.take_left' (by simp)
  have rv : revD (.tup (zs.map N)) = some ⟨(rs.map N).map .v, []⟩ := by
    show some (Its.mk ((zs.map N).reverse.map .v) []) = _
    rw [hrs]
    simp [List.map_reverse]
  have ee : carW w [] (zs ++ [a]).reverse = carW w [a] rs := by rw [List.reverse_append, hrs]; rfl
  rw [ee]
  refine call_pure Gm_law_careful rfl rfl (by simp [noRefL, fr]) (h' := [.lst ((carW w [a] rs).map N)]) ?_ rfl
  simp -implicitDefEqProofs (disch := first | assumption | omega | decide +kernel | (simp only [List.mem_filter, List.mem_range, List.mem_range'_1] at *; first | done | omega | assumption) | (intro _ hm; first | exact hm | exact List.mem_range.mp hm | exact List.mem_filter.mp hm | simpa using hm)) [-List.map_map, startOf, lstOf_ref', tuple_ref, list_ref, len_ref, all_ref, any_ref, sum_ref, max_ref, min_ref, sorted_ref, truthy_ref, idx_ref, mut_ref, isi_ref, F_law_careful, i0, i1, sl, rv, e1, -forM_v, -idx_ref]
theorem carw_no {v : D} (fr : noRef v = true) (e : ∀ h, callN Gm (k + 2) "is_order" [tab n w, v] h = .ok (.bl false) h) : callN Gm (k + 4) "careful_winner" [tab n w, v] h = .exc "NoOrder" [] h := by
  have c1 : ∀ h, callN Gm (k + 3) "check_order" [tab n w, v] h = .exc "NoOrder" [] h := fun h => check_no fr e
  refine call_exc Gm_careful_winner rfl rfl (by simp [noRefL, fr]) (h1 := []) (h2 := []) (c' := "NoOrder") (fs' := []) ?_ ?_ rfl
  · simp -implicitDefEqProofs (disch := first | assumption | omega | decide +kernel | (simp only [List.mem_filter, List.mem_range, List.mem_range'_1] at *; first | done | omega | assumption) | (intro _ hm; first | exact hm | exact List.mem_range.mp hm | exact List.mem_filter.mp hm | simpa using hm)) [-List.map_map, startOf, lstOf_ref', tuple_ref, list_ref, len_ref, all_ref, any_ref, sum_ref, max_ref, min_ref, sorted_ref, truthy_ref, idx_ref, mut_ref, isi_ref, F_careful_winner, c1]
  · simp -implicitDefEqProofs (disch := first | assumption | omega | decide +kernel | (simp only [List.mem_filter, List.mem_range, List.mem_range'_1] at *; first | done | omega | assumption) | (intro _ hm; first | exact hm | exact List.mem_range.mp hm | exact List.mem_filter.mp hm | simpa using hm)) [-List.map_map, startOf, lstOf_ref', tuple_ref, list_ref, len_ref, all_ref, any_ref, sum_ref, max_ref, min_ref, sorted_ref, truthy_ref, idx_ref, mut_ref, isi_ref, F_careful_winner, c1]
def noS : List Char := ['n', 'o', ' ', 'o', 'r', 'd', 'e', 'r']
theorem found_ok {ys : List Nat} (hn : n ≤ 9) (h0 : ys ≠ []) (hl : ys.length ≤ 1000) (hy : ∀ y ∈ ys, y < n) (e : ∀ h, callN Gm (k + 2) "is_order" [tab n w, tN ys] h = .ok (.bl true) h) : callN Gm (k + 5) "_law_found" [tab n w, tN ys] h = .ok (N (lastN (carW w [] ys.reverse))) h := by
  have fr : noRef (tN ys) = true := by simp [tN, noRef]
  have c1 : ∀ h, callN Gm (k + 4) "careful_winner" [tab n w, tN ys] h = .ok (N (lastN (carW w [] ys.reverse))) h := fun h => carw_ok hn h0 hl hy e
  refine call_pure Gm_law_found rfl rfl (by simp [noRefL, fr]) (h' := []) ?_ rfl
  simp -implicitDefEqProofs (disch := first | assumption | omega | decide +kernel | (simp only [List.mem_filter, List.mem_range, List.mem_range'_1] at *; first | done | omega | assumption) | (intro _ hm; first | exact hm | exact List.mem_range.mp hm | exact List.mem_filter.mp hm | simpa using hm)) [-List.map_map, startOf, lstOf_ref', tuple_ref, list_ref, len_ref, all_ref, any_ref, sum_ref, max_ref, min_ref, sorted_ref, truthy_ref, idx_ref, mut_ref, isi_ref, F_law_found, c1]
theorem found_no {v : D} (fr : noRef v = true) (e : ∀ h, callN Gm (k + 2) "is_order" [tab n w, v] h = .ok (.bl false) h) : callN Gm (k + 5) "_law_found" [tab n w, v] h = .ok (.str noS) h := by
  have c1 : ∀ h, callN Gm (k + 4) "careful_winner" [tab n w, v] h = .exc "NoOrder" [] h := fun h => carw_no fr e
  refine call_pure Gm_law_found rfl rfl (by simp [noRefL, fr]) (h' := []) ?_ rfl
  simp -implicitDefEqProofs (disch := first | assumption | omega | decide +kernel | (simp only [List.mem_filter, List.mem_range, List.mem_range'_1] at *; first | done | omega | assumption) | (intro _ hm; first | exact hm | exact List.mem_range.mp hm | exact List.mem_filter.mp hm | simpa using hm)) [-List.map_map, startOf, lstOf_ref', tuple_ref, list_ref, len_ref, all_ref, any_ref, sum_ref, max_ref, min_ref, sorted_ref, truthy_ref, idx_ref, mut_ref, isi_ref, F_law_found, c1, handleX, evalXSs, evalXS, evalXE, unsetF, noS]
end

end LK
end
section
set_option Elab.async false
set_option linter.all false
set_option autoImplicit false
set_option maxRecDepth 100000
set_option maxHeartbeats 0
namespace LK
open Mini
/-! ### odd values -/
def oddL : List D := [.non, .bl true, .bl false, .int (-1), N 0, N 1, N 2, N 9, .int (10 ^ 29), .str [], .str ['0'], .tup [], .lst [], .dct [], .tup [N 0], .lst [N 0], .tup [.bl true], .tup [.tup [N 0]], .tup [.dct []]]
theorem odd_pd : ∀ d ∈ oddL, Pd 2100 2 d := by
  intro d hd
  simp only [oddL, List.mem_cons, List.not_mem_nil, or_false] at hd
  rcases hd with rfl | rfl | rfl | rfl | rfl | rfl | rfl | rfl | rfl | rfl | rfl | rfl | rfl | rfl | rfl | rfl | rfl | rfl | rfl <;> exact ⟨by decide +kernel, by decide +kernel, by decide +kernel⟩
theorem odd_ok {d : Dck} {K k : Nat} {rest : Hh} (o : d.Ok (K + 1)) : ∃ (x : D) (d' : Dck), callN Gm (k + 2) "_law_odd" [.ref 1] (dk d rest) = .ok x (dk d' rest) ∧ x ∈ oddL ∧ d'.Ok K ∧ d'.cs = d.cs := by
  obtain ⟨i, d1, e1, h1, o1, c1⟩ := draw_ok (k := k) (rest := rest) (b := 19) (K := K) o (by omega) (by omega)
  have hm : nthD oddL i ∈ oddL := gd_mem h1
  refine ⟨nthD oddL i, d1, ?_, hm, o1, c1⟩
  have e : bodyOf (evalSs (callN Gm (k + 1)) F_law_odd.body [some (.ref 1), none] (dk d rest)) = .ok (nthD oddL i) (dk d1 rest) := by
    have hi : ∀ h, idxD h (.lst oddL) (N i) = some (nthD oddL i) := fun h => idx_gdl h h1
    have hp : ∀ h, binD h .pow (N 10) (N 29) = some (.int (10 ^ 29)) := fun h => by
      have e : binD h .pow (.int 10) (.int 29) = some (.int (10 ^ 29)) := by
        show (if (0 : Int) ≤ 29 ∧ (29 : Int) ≤ 1000 ∧ Int.natAbs 10 < 2 ^ 64 then some (D.int (10 ^ (29 : Int).toNat)) else none) = _
        rw [if_pos (by decide)]
        rfl
      exact e
    unfold oddL at hi
    simp -implicitDefEqProofs (disch := first | assumption | omega | decide +kernel | (simp only [List.mem_filter, List.mem_range, List.mem_range'_1] at *; first | done | omega | assumption) | (intro _ hm; first | exact hm | exact List.mem_range.mp hm | exact List.mem_filter.mp hm | simpa using hm)) [-List.map_map, startOf, lstOf_ref', tuple_ref, list_ref, len_ref, all_ref, any_ref, sum_ref, max_ref, min_ref, sorted_ref, truthy_ref, idx_ref, mut_ref, isi_ref, F_law_odd, e1, hp, hi, -idxN_lst, -Int.reducePow]
    rfl
  have z := call_drop (Γ := Gm) (k := k + 1) (args := [.ref 1]) (h := dk d rest) Gm_law_odd rfl rfl e (by have := trim_d d d1 c1.symm rest []; simpa using this) (below_dat _ _ (odd_pd _ hm).dr)
  rw [z]
  have := take_d d d1 rest []
  simp only [List.append_nil] at this
  rw [this]

theorem pd_tN {ys : List Nat} (hy : ∀ y ∈ ys, y < 9) : ∀ x ∈ ys.map N, Pd 2100 2 x := fun x hx => by
  obtain ⟨y, hm, rfl⟩ := List.mem_map.mp hx
  exact (pd_N (by have := hy y hm; omega)).mono (by omega) (by omega)
theorem pd_tupN {ys : List Nat} (hy : ∀ y ∈ ys, y < 9) (hl : ys.length ≤ 21) : Pd 60000 4 (tN ys) := (pd_tup (m := 21) (by simpa using hl) (pd_tN hy)).mono (by omega) (by omega)
/-! ### orders bent -/
theorem bent_ok {d : Dck} {K k : Nat} {rest : Hh} {ys : List Nat} (o : d.Ok (K + 20)) (h0 : ys ≠ []) (hy : ∀ y ∈ ys, y < 9) (hl : ys.length ≤ 10) :
    ∃ (v : D) (d' : Dck), callN Gm (k + 4) "_law_bent" [.ref 1, tN ys] (dk d rest) = .ok v (dk d' rest) ∧ Pd 60000 4 v ∧ d'.Ok K ∧ d'.cs = d.cs := by
  have hp : 0 < ys.length := List.length_pos_iff.mpr h0
  obtain ⟨sp, d1, e1, l1, o1, c1⟩ := draw_ok (k := k + 2) (rest := rest) (b := ys.length) (K := K + 19) o hp (by omega)
  obtain ⟨x2, d2, e2, m2, o2, c2⟩ := odd_ok (k := k + 1) (rest := rest) (K := K + 18) (d := d1) o1
  obtain ⟨x3, d3, e3, l3, o3, c3⟩ := draw_ok (k := k + 2) (rest := rest) (b := 5) (K := K + 17) o2 (by omega) (by omega)
  obtain ⟨x4, d4, e4, m4, o4, c4⟩ := odd_ok (k := k + 1) (rest := rest) (K := K + 16) (d := d3) o3
  obtain ⟨x5, d5, e5, l5, o5, c5⟩ := draw_ok (k := k + 2) (rest := rest) (b := 7) (K := K) (d := d4) (o4.mono (by omega)) (by omega) (by omega)
  have hi : ∀ i h, i < ys.length → idxD h (tN ys) (N i) = some (N (oat ys i)) := fun i h hi => by
    have := oat_at (h := h) hi
    unfold tN
    rw [idxN_tup]
    rw [idxN_lst] at this
    exact this
  let L5 : List D := [x2, N (oat ys 0), .bl (decide (oat ys sp = 1)), N ys.length, .int (-1)]
  obtain ⟨ot, hot⟩ : ∃ ot, ot = nthD L5 x3 := ⟨_, rfl⟩
  have i5 : ∀ h, idxD h (.lst [x2, N (oat ys 0), .bl (decide (oat ys sp = 1)), N ys.length, .int (-1)]) (N x3) = some ot := fun h => by rw [hot]; exact idx_gdl h l3
  have o9 : ∀ i, i < ys.length → oat ys i < 9 := fun i hi => hy _ (oat_mem hi)
  have pot : Pd 2100 2 ot := by
    have hm : ot ∈ L5 := by rw [hot]; exact gd_mem l3
    simp only [L5, List.mem_cons, List.not_mem_nil, or_false] at hm
    rcases hm with rfl | rfl | rfl | rfl | rfl
    · exact odd_pd _ m2
    · exact (pd_N (by have := o9 0 hp; omega)).mono (by omega) (by omega)
    · exact (pd_bl _).mono (by omega) (by omega)
    · exact (pd_N (by omega)).mono (by omega) (by omega)
    · exact ⟨rfl, by decide +kernel, by decide +kernel⟩
  obtain ⟨xs, hxs⟩ : ∃ xs, xs = ys.map N := ⟨_, rfl⟩
  have hxl : xs.length = ys.length := by rw [hxs]; simp
  have px : ∀ x ∈ xs, Pd 2100 2 x := by rw [hxs]; exact pd_tN hy
  let L7 : List D := [.tup (xs.take sp ++ [ot] ++ xs.drop (sp + 1)), .tup (xs.take sp ++ xs.drop (sp + 1)), .tup (xs ++ [ot]), .lst xs, .tup (xs ++ xs.take 1), x4, .tup [.tup xs]]
  have hm : nthD L7 x5 ∈ L7 := gd_mem l5
  have i7 : ∀ h, idxD h (.lst [.tup (xs.take sp ++ [ot] ++ xs.drop (sp + 1)), .tup (xs.take sp ++ xs.drop (sp + 1)), .tup (xs ++ [ot]), .lst xs, .tup (xs ++ xs.take 1), x4, .tup [.tup xs]]) (N x5) = some (nthD L7 x5) := fun h => idx_gdl h l5
  have tin : ∀ {a : Nat}, ∀ x ∈ xs.take a, Pd 2100 2 x := fun x hx => px x (List.mem_of_mem_take hx)
  have din : ∀ {a : Nat}, ∀ x ∈ xs.drop a, Pd 2100 2 x := fun x hx => px x (List.mem_of_mem_drop hx)
  have app : ∀ {as bs : List D}, (∀ x ∈ as, Pd 2100 2 x) → (∀ x ∈ bs, Pd 2100 2 x) → ∀ x ∈ as ++ bs, Pd 2100 2 x := fun ha hb x hx => (List.mem_append.mp hx).elim (ha x) (hb x)
  have one : ∀ {a : D}, Pd 2100 2 a → ∀ x ∈ [a], Pd 2100 2 x := fun ha x hx => by rw [List.mem_singleton.mp hx]; exact ha
  have big : ∀ {as : List D}, as.length ≤ 21 → (∀ x ∈ as, Pd 2100 2 x) → Pd 60000 4 (.tup as) := fun hl ha => (pd_tup (m := 21) hl ha).mono (by omega) (by omega)
  have lt : ∀ a, (xs.take a).length ≤ 10 := fun a => by simp; omega
  have ld : ∀ a, (xs.drop a).length ≤ 10 := fun a => by simp; omega
  have pv : Pd 60000 4 (nthD L7 x5) := by
    simp only [L7, List.mem_cons, List.not_mem_nil, or_false] at hm
    rcases hm with e | e | e | e | e | e | e <;> rw [e]
    · exact big (by have := lt sp; have := ld (sp + 1); simp; omega) (app (app tin (one pot)) din)
    · exact big (by have := lt sp; have := ld (sp + 1); simp; omega) (app tin din)
    · exact big (by simp; omega) (app px (one pot))
    · exact (pd_lst (m := 21) (by omega) px).mono (by omega) (by omega)
    · exact big (by have := lt 1; simp; omega) (app px tin)
    · exact (odd_pd _ m4).mono (by omega) (by omega)
    · exact (pd_tup (m := 1) (xs := [.tup xs]) (by simp) (fun x hx => by
        rw [List.mem_singleton.mp hx]
        exact pd_tup (m := 10) (by omega) px)).mono (by omega) (by omega)
  refine ⟨nthD L7 x5, d5, ?_, pv, o5, by rw [c5, c4, c3, c2, c1]⟩
  · have ad : ∀ (as bs : List D) h, as.length ≤ 30 → bs.length ≤ 30 → binD h .add (.tup as) (.tup bs) = some (.tup (as ++ bs)) := fun as bs h h1 h2 => add_tups (by show _ ≤ 1000000; omega)
    have a1 : ∀ h, binD h .add (.tup (xs.take sp)) (.tup [ot]) = some (.tup (xs.take sp ++ [ot])) := fun h => ad _ _ h (by have := lt sp; omega) (by simp)
    have a2 : ∀ h, binD h .add (.tup (xs.take sp ++ [ot])) (.tup (xs.drop (sp + 1))) = some (.tup (xs.take sp ++ [ot] ++ xs.drop (sp + 1))) := fun h => ad _ _ h (by have := lt sp; simp; omega) (by have := ld (sp + 1); omega)
    have a3 : ∀ h, binD h .add (.tup (xs.take sp)) (.tup (xs.drop (sp + 1))) = some (.tup (xs.take sp ++ xs.drop (sp + 1))) := fun h => ad _ _ h (by have := lt sp; omega) (by have := ld (sp + 1); omega)
    have a4 : ∀ h, binD h .add (.tup xs) (.tup [ot]) = some (.tup (xs ++ [ot])) := fun h => ad _ _ h (by omega) (by simp)
    have a6 : ∀ h, binD h .add (.tup xs) (.tup (xs.take 1)) = some (.tup (xs ++ xs.take 1)) := fun h => ad _ _ h (by omega) (by have := lt 1; omega)
    have b1 : ∀ h a b c d e f g, binD h .add (.lst [a, b, c]) (.lst [d, e, f, g]) = some (.lst [a, b, c, d, e, f, g]) := fun h a b c d e f g => rfl
    have ln : ∀ h, biD h .len (.tup xs) = some (N ys.length) := fun h => by rw [lenN_tup, hxl]
    have h0' : ∀ h, idxD h (.tup xs) (N 0) = some (N (oat ys 0)) := fun h => by rw [hxs]; exact hi 0 h hp
    have hi' : ∀ h, idxD h (.tup xs) (N sp) = some (N (oat ys sp)) := fun h => by rw [hxs]; exact hi sp h l1
    have e2' : callN Gm (k + 3) "_law_odd" [.ref 1] (dk d1 rest) = .ok x2 (dk d2 rest) := e2
    have e4' : callN Gm (k + 3) "_law_odd" [.ref 1] (dk d3 rest) = .ok x4 (dk d4 rest) := e4
    have bd : bodyOf (evalSs (callN Gm (k + 3)) F_law_bent.body [some (.ref 1), some (tN ys), none, none, none] (dk d rest)) = .ok (nthD L7 x5) (dk d5 rest) := by
      unfold tN
      rw [← hxs]
      have ls : ∀ h, biD h .list (.tup xs) = some (.lst xs) := fun h => rfl
      simp -implicitDefEqProofs (disch := first | assumption | omega | decide +kernel | (simp only [List.mem_filter, List.mem_range, List.mem_range'_1] at *; first | done | omega | assumption) | (intro _ hm; first | exact hm | exact List.mem_range.mp hm | exact List.mem_filter.mp hm | simpa using hm)) [-List.map_map, startOf, lstOf_ref', tuple_ref, list_ref, len_ref, all_ref, any_ref, sum_ref, max_ref, min_ref, sorted_ref, truthy_ref, idx_ref, mut_ref, isi_ref, F_law_bent, parR, ln, e1, e2', e3, e4', e5, i5, i7, h0', hi', ls, slT_to, slT_to1, slT_from, slT_from1, a1, a2, a3, a4, a6, b1, -idxN_lst, -idxN_tup, -List.append_assoc, -lenN_tup, -List.cons_append, -List.singleton_append]
    have z := call_drop (Γ := Gm) (k := k + 3) (args := [.ref 1, tN ys]) (h := dk d rest) Gm_law_bent rfl rfl bd (by have := trim_d d d5 (by rw [c5, c4, c3, c2, c1]) rest []; simpa using this) (below_dat _ _ pv.dr)
    rw [z]
    have := take_d d d5 rest []
    simp only [List.append_nil] at this
    rw [this]

end LK
end
section
set_option Elab.async false
set_option linter.all false
set_option autoImplicit false
set_option maxRecDepth 100000
set_option maxHeartbeats 0
namespace LK
open Mini
theorem vl_all {n : Nat} {w : Nat → Nat → Char} {v : D} (n1 : 1 ≤ n) (hn : n ≤ 9) (V : Pd 60000 4 v) : ∃ (r : D) (b : Bool), (∀ k h, callN Gm (k + 5) "_law_found" [tab n w, v] h = .ok r h) ∧ (∀ k h, callN Gm (k + 2) "_law_is_order" [tab n w, v] h = .ok (.bl b) h) ∧
    ((b = false ∧ r = .str noS) ∨ (b = true ∧ ∀ k h, callN Gm (k + 1) "_law_careful" [tab n w, v] h = .ok r h)) ∧ smq 0 r = true := by
  rcases or_tN (n := n) V with hv | ⟨ys, rfl, hy, hl⟩
  · exact ⟨.str noS, false, fun k h => found_no V.fr fun h => isord_no V hv, fun k h => lisord_no V hv, .inl ⟨rfl, rfl⟩, rfl⟩
  · cases ho : ordB n ys with
    | false => exact ⟨.str noS, false, fun k h => found_no V.fr fun h => by rw [isord_ok hn hy, ho], fun k h => by rw [lisord_ok hn hy, ho], .inl ⟨rfl, rfl⟩, rfl⟩
    | true =>
      have hl : ys.length = n := (of_decide_eq_true ho).1
      have h0 : ys ≠ [] := fun e => by rw [e] at hl; simp at hl; omega
      refine ⟨N (lastN (carW w [] ys.reverse)), true, fun k h => found_ok hn h0 (by omega) hy fun h => by rw [isord_ok hn hy, ho], fun k h => by rw [lisord_ok hn hy, ho], .inr ⟨rfl, fun k h => ?_⟩, rfl⟩
      obtain ⟨zs, a, rfl⟩ : ∃ zs a, ys = zs ++ [a] := ⟨ys.dropLast, ys.getLast h0, (List.dropLast_concat_getLast h0).symm⟩
      exact lcar_ok hn (by simp at hl; omega) hy
/-! ### the law of sequences -/
theorem pd_tab {n : Nat} {w : Nat → Nat → Char} (hn : n ≤ 9) : Pd 60000 4 (tab n w) := by
  have := pd_tup (c := 92) (p := 0) (m := 9) (xs := (List.range n).map (rowS n w)) (by simp; omega) (fun x hx => by
    obtain ⟨i, hi, rfl⟩ := List.mem_map.mp hx
    unfold rowS
    exact (pd_str _).mono (by simp; omega) (Nat.le_refl _))
  exact this.mono (by omega) (by omega)
theorem rep_ok {n : Nat} {w : Nat → Nat → Char} {v : D} (hn : n ≤ 9) (V : Pd 60000 4 v) (h : Hh) : biD h .repr (.lst [tab n w, v]) = some (.rep (.lst [tab n w, v])) :=
  (pd_lst (m := 2) (xs := [tab n w, v]) (by simp) (fun x hx => by
    simp only [List.mem_cons, List.not_mem_nil, or_false] at hx
    rcases hx with rfl | rfl
    · exact pd_tab hn
    · exact V)).rep (by omega) (by omega) h
def outB : MSs := match F_law.body with
  | .cons _ (.cons (.for_ _ _ b) _) => b
  | _ => .nil
def midB : MSs := match outB with
  | .cons _ (.cons (.for_ _ _ b) _) => b
  | _ => .nil
def chkB : MSs := match midB with
  | .cons _ (.cons (.for_ _ _ b) _) => b
  | _ => .nil
theorem chk_one {k n : Nat} {w : Nat → Nat → Char} {d : Dck} {rest : Hh} {v s : D} {x2 x4 x5 x7 x8 x9 : Option D} (n1 : 1 ≤ n) (hn : n ≤ 9) (V : Pd 60000 4 v) :
    ∃ y7 y8 y9, evalSs (callN Gm (k + 5)) chkB [some s, some (.ref 1), x2, some (tab n w), x4, x5, some v, x7, x8, x9] (dk d rest) =
      .ok (.nx [some s, some (.ref 1), x2, some (tab n w), x4, x5, some v, y7, y8, y9]) (dk d rest) := by
  obtain ⟨r, b, q1, q2, q3, q4⟩ := vl_all (w := w) n1 hn V
  have q1' := q1 k
  have q2' := q2 (k + 3)
  have rp := rep_ok (w := w) hn V
  have sm : ∀ h, callN Gm (k + 5) "_law_same" [.lst [r, r], .lst [r, r]] h = .ok (.bl true) h := fun h => same_ok 1 (k + 3) (.lst [r, r]) h (by simp [smq, q4])
  rcases q3 with ⟨rfl, rfl⟩ | ⟨rfl, q5⟩
  · have sm' : ∀ h, callN Gm (k + 5) "_law_same" [.lst [.str noS, .str noS], .lst [.str noS, .str noS]] h = .ok (.bl true) h := sm
    refine ⟨some (.rep (.lst [tab n w, v])), some (.str noS), some (.lst [.str noS, .str noS]), ?_⟩
    unfold noS at q1' sm' ⊢
    unfold chkB midB outB F_law
    simp -implicitDefEqProofs (disch := first | assumption | omega | decide +kernel | (simp only [List.mem_filter, List.mem_range, List.mem_range'_1] at *; first | done | omega | assumption) | (intro _ hm; first | exact hm | exact List.mem_range.mp hm | exact List.mem_filter.mp hm | simpa using hm)) [-List.map_map, startOf, lstOf_ref', tuple_ref, list_ref, len_ref, all_ref, any_ref, sum_ref, max_ref, min_ref, sorted_ref, truthy_ref, idx_ref, mut_ref, isi_ref, q1', q2', rp, sm', parR]
  · have q5' := q5 (k + 4)
    refine ⟨some (.rep (.lst [tab n w, v])), some r, some (.lst [r, r]), ?_⟩
    unfold chkB midB outB F_law
    simp -implicitDefEqProofs (disch := first | assumption | omega | decide +kernel | (simp only [List.mem_filter, List.mem_range, List.mem_range'_1] at *; first | done | omega | assumption) | (intro _ hm; first | exact hm | exact List.mem_range.mp hm | exact List.mem_filter.mp hm | simpa using hm)) [-List.map_map, startOf, lstOf_ref', tuple_ref, list_ref, len_ref, all_ref, any_ref, sum_ref, max_ref, min_ref, sorted_ref, truthy_ref, idx_ref, mut_ref, isi_ref, q1', q2', q5', rp, sm, parR]
theorem mid_ok {k n : Nat} {w : Nat → Nat → Char} {d : Dck} {K : Nat} {rest : Hh} {s : D} {x2 x4 x5 x6 x7 x8 x9 : Option D} (n1 : 1 ≤ n) (hn : n ≤ 9) (o : d.Ok (K + 60)) :
    ∃ (d' : Dck) (y5 y6 y7 y8 y9 : Option D), evalSs (callN Gm (k + 5)) midB [some s, some (.ref 1), x2, some (tab n w), x4, x5, x6, x7, x8, x9] (dk d rest) =
      .ok (.nx [some s, some (.ref 1), x2, some (tab n w), x4, y5, y6, y7, y8, y9]) (dk d' rest) ∧ d'.Ok K ∧ d'.cs = d.cs := by
  obtain ⟨ord, d1, e1, hp, o1, c1⟩ := mixed_ok (k := k + 3) (rest := rest) (xs := List.range n) (a := .lst ((List.range n).map N)) (fun h => rfl) (K := K + 45) (d := d) (o.mono (by simp; omega)) (by simp; omega)
  have hl : ord.length = n := by simpa using hp.length_eq
  have ho : ∀ y ∈ ord, y < 9 := fun y hy => by have := List.mem_range.mp (hp.mem_iff.mp hy); omega
  have h0 : ord ≠ [] := fun e => by rw [e] at hl; simp at hl; omega
  obtain ⟨u1, d2, e2, V1, o2, c2⟩ := bent_ok (k := k + 1) (K := K + 25) (rest := rest) (d := d1) o1 h0 ho (by omega)
  obtain ⟨u2, d3, e3, V2, o3, c3⟩ := bent_ok (k := k + 1) (K := K + 5) (rest := rest) (d := d2) o2 h0 ho (by omega)
  have v0 : ∀ v ∈ [tN ord, .tup (ord.map N).reverse, u1, u2], Pd 60000 4 v := fun v hv => by
    simp only [List.mem_cons, List.not_mem_nil, or_false] at hv
    rcases hv with rfl | rfl | rfl | rfl
    · exact pd_tupN ho (by omega)
    · rw [← List.map_reverse]
      exact pd_tupN (ys := ord.reverse) (fun y hy => ho y (List.mem_reverse.mp hy)) (by simp; omega)
    · exact V1
    · exact V2
  obtain ⟨σ4, h4, e4, y6, y7, y8, y9, rfl, rfl⟩ := forL_of (t := .var 6) (body := evalSs (callN Gm (k + 5)) chkB) (σ := [some s, some (.ref 1), x2, some (tab n w), x4, some (tN ord), x6, x7, x8, x9]) (h := dk d3 rest) (fun x : D => x)
    (fun j σ h => ∃ x6 x7 x8 x9, σ = [some s, some (.ref 1), x2, some (tab n w), x4, some (tN ord), x6, x7, x8, x9] ∧ h = dk d3 rest) [tN ord, .tup (ord.map N).reverse, u1, u2] (its := [tN ord, .tup (ord.map N).reverse, u1, u2].map .v) rfl
    ⟨_, _, _, _, rfl, rfl⟩ (fun j z σ h hj hI => by
      obtain ⟨x6, x7, x8, x9, rfl, rfl⟩ := hI
      obtain ⟨y7, y8, y9, e⟩ := chk_one (k := k) (w := w) (d := d3) (rest := rest) (s := s) (x2 := x2) (x4 := x4) (x5 := some (tN ord)) (x7 := x7) (x8 := x8) (x9 := x9) n1 hn (v0 z (List.mem_of_getElem? hj))
      exact ⟨_, rfl, _, _, .inl e, some z, y7, y8, y9, rfl, rfl⟩)
  refine ⟨d3, some (tN ord), y6, y7, y8, y9, ?_, o3.mono (by omega), by rw [c3, c2, c1]⟩
  unfold chkB midB outB F_law at e4
  dsimp only at e4
  have e1' : callN Gm (k + 5) "_law_mixed" [.ref 1, .lst ((List.range n).map N)] (dk d rest) = .ok (.lst (ord.map N)) (dk d1 rest) := e1
  have e2' : callN Gm (k + 5) "_law_bent" [.ref 1, .tup (ord.map N)] (dk d1 rest) = .ok u1 (dk d2 rest) := e2
  have e3' : callN Gm (k + 5) "_law_bent" [.ref 1, .tup (ord.map N)] (dk d2 rest) = .ok u2 (dk d3 rest) := e3
  have tu : ∀ h, biD h .tuple (.lst (ord.map N)) = some (.tup (ord.map N)) := fun h => rfl
  have rv : ∀ h, revX h (.tup (ord.map N)) = some (.tup (ord.map N).reverse) := fun h => rfl
  unfold tN at e4 ⊢
  simp only [List.map_cons, List.map_nil] at e4
  unfold midB outB F_law
  simp -implicitDefEqProofs (disch := first | assumption | omega | decide +kernel | (simp only [List.mem_filter, List.mem_range, List.mem_range'_1] at *; first | done | omega | assumption) | (intro _ hm; first | exact hm | exact List.mem_range.mp hm | exact List.mem_filter.mp hm | simpa using hm)) [-List.map_map, startOf, lstOf_ref', tuple_ref, list_ref, len_ref, all_ref, any_ref, sum_ref, max_ref, min_ref, sorted_ref, truthy_ref, idx_ref, mut_ref, isi_ref, e1', e2', e3', tu, rv, e4, -forM_v, -List.map_reverse, -comp_v]
theorem turn_ok {d : Dck} {K k : Nat} {s : D} {rest : Hh} {x2 x3 x4 x5 x6 x7 x8 x9 : Option D} (o : d.Ok (K + 1000)) :
    ∃ (d' : Dck) (y3 y4 y5 y6 y7 y8 y9 : Option D), evalSs (callN Gm (k + 5)) outB [some s, some (.ref 1), x2, x3, x4, x5, x6, x7, x8, x9] (dk d rest) =
      .ok (.nx [some s, some (.ref 1), x2, y3, y4, y5, y6, y7, y8, y9]) (dk d' rest) ∧ d'.Ok K ∧ d'.cs = d.cs := by
  obtain ⟨n, w, d1, e1, T, n1, n9, o1, c1⟩ := table_ok (k := k + 1) (rest := rest) (K := K + 700) (lo := 1) (hi := 9) (d := d) (o.mono (by omega)) (by omega) (by omega) (by omega)
  obtain ⟨σ2, h2, e3, x4', x5', x6', x7', x8', x9', d3, rfl, rfl, o3, c3⟩ := forL_of (t := .var 4) (body := evalSs (callN Gm (k + 5)) midB) (σ := [some s, some (.ref 1), x2, some (tab n w), x4, x5, x6, x7, x8, x9]) (h := dk d1 rest) N
    (fun j σ h => ∃ x4 x5 x6 x7 x8 x9 d3, σ = [some s, some (.ref 1), x2, some (tab n w), x4, x5, x6, x7, x8, x9] ∧ h = dk d3 rest ∧ d3.Ok (K + 700 - 60 * j) ∧ d3.cs = d.cs) (List.range 8) (its := ((List.range 8).map N).map .v) (by rw [List.map_map]; rfl)
    ⟨x4, x5, x6, x7, x8, x9, d1, rfl, rfl, o1, c1⟩ (fun j z σ h hj hI => by
      obtain ⟨x4, x5, x6, x7, x8, x9, d3, rfl, rfl, o3, c3⟩ := hI
      have hj8 : j < 8 := by
        obtain ⟨q, _⟩ := List.getElem?_eq_some_iff.mp hj
        simpa using q
      obtain ⟨d4, y5, y6, y7, y8, y9, e, o4, c4⟩ := mid_ok (k := k) (w := w) (d := d3) (rest := rest) (s := s) (x2 := x2) (x4 := some (N z)) (x5 := x5) (x6 := x6) (x7 := x7) (x8 := x8) (x9 := x9) (K := K + 700 - 60 * (j + 1)) n1 n9 (o3.mono (by omega))
      exact ⟨_, rfl, _, _, .inl e, some (N z), y5, y6, y7, y8, y9, d4, rfl, rfl, o4, c4.trans c3⟩)
  rw [List.length_range] at o3
  refine ⟨d3, some (tab n w), x4', x5', x6', x7', x8', x9', ?_, o3.mono (by omega), c3⟩
  unfold midB outB F_law at e3
  dsimp only at e3
  have e1' : callN Gm (k + 5) "_law_table" [.ref 1, N 1, N 9] (dk d rest) = .ok (tab n w) (dk d1 rest) := e1
  unfold outB F_law
  simp -implicitDefEqProofs (disch := first | assumption | omega | decide +kernel | (simp only [List.mem_filter, List.mem_range, List.mem_range'_1] at *; first | done | omega | assumption) | (intro _ hm; first | exact hm | exact List.mem_range.mp hm | exact List.mem_filter.mp hm | simpa using hm)) [-List.map_map, startOf, lstOf_ref', tuple_ref, list_ref, len_ref, all_ref, any_ref, sum_ref, max_ref, min_ref, sorted_ref, truthy_ref, idx_ref, mut_ref, isi_ref, e1', e3, -forM_v]
theorem law_ok (ns : List Int) (hns : ns.length ≤ 63) (k : Nat) : ∃ h', callN Gm (k + 8) "law" [.scr (ns.map D.int)] [] = .ok (.bl true) h' := by
  obtain ⟨d0, e0, o0⟩ := stream_ok (ns := ns) (k := k + 6) hns
  obtain ⟨σ2, h2, e1, x2, x3, x4, x5, x6, x7, x8, x9, d1, rfl, rfl, o1⟩ := forL_of (t := .var 2) (body := evalSs (callN Gm (k + 7)) outB) (σ := [some (.scr (ns.map D.int)), some (.ref 1), none, none, none, none, none, none, none, none]) (h := dk d0 []) N
      (fun j σ h => ∃ x2 x3 x4 x5 x6 x7 x8 x9 d, σ = [some (.scr (ns.map D.int)), some (.ref 1), x2, x3, x4, x5, x6, x7, x8, x9] ∧ h = dk d [] ∧ d.Ok (100000000 - 1000 * j)) (List.range 6) (its := ((List.range 6).map N).map .v) (by rw [List.map_map]; rfl)
      ⟨none, none, none, none, none, none, none, none, d0, rfl, rfl, o0⟩ (fun j x σ h hj hI => by
        obtain ⟨x2, x3, x4, x5, x6, x7, x8, x9, d, rfl, rfl, o⟩ := hI
        have hj6 : j < 6 := by
          obtain ⟨q, _⟩ := List.getElem?_eq_some_iff.mp hj
          simpa using q
        obtain ⟨d', y3, y4, y5, y6, y7, y8, y9, e, o', _⟩ := turn_ok (k := k + 2) (s := .scr (ns.map D.int)) (K := 100000000 - 1000 * (j + 1)) (x2 := some (N x)) (x3 := x3) (x4 := x4) (x5 := x5) (x6 := x6) (x7 := x7) (x8 := x8) (x9 := x9) (rest := []) (d := d) (o.mono (by omega))
        exact ⟨_, rfl, _, _, .inl e, some (N x), y3, y4, y5, y6, y7, y8, y9, d', rfl, rfl, o'⟩)
  have e0' : callN Gm (k + 7) "_law_begin" [.scr (ns.map D.int)] [] = .ok (.ref 1) (dk d0 []) := e0
  unfold outB F_law at e1
  dsimp only at e1
  refine ⟨_, call_pure (h' := dk d1 []) Gm_law rfl rfl (by simp [noRefL, noRef]) ?_ rfl⟩
  unfold F_law
  simp -implicitDefEqProofs (disch := first | assumption | omega | decide +kernel | (simp only [List.mem_filter, List.mem_range, List.mem_range'_1] at *; first | done | omega | assumption) | (intro _ hm; first | exact hm | exact List.mem_range.mp hm | exact List.mem_filter.mp hm | simpa using hm)) [-List.map_map, startOf, lstOf_ref', tuple_ref, list_ref, len_ref, all_ref, any_ref, sum_ref, max_ref, min_ref, sorted_ref, truthy_ref, idx_ref, mut_ref, isi_ref, e0', e1, -forM_v]

theorem law_true : ∀ ns : List Int, ns.length ≤ 63 → ∃ h', callN Gm 30 "law" [.scr (ns.map D.int)] [] = .ok (.bl true) h' := fun ns hn => law_ok ns hn 22
end LK
end
set_option Elab.async false
set_option linter.all false
set_option autoImplicit false
set_option maxRecDepth 100000
set_option maxHeartbeats 0

open PySem PySem.W PySem.Calls PyProof.Rows
theorem PySem.Challenge.cw_duelsets_k32_careful_winners_holds : PySem.Challenge.rw_duelsets_k32_careful_winners.Holds := by
  w_on; o_law
  refine HandSHeadRun.head_any (r := OpenLaw.row PySem.Challenge.rw_duelsets_k32_careful_winners) (q := view (OpenLaw.row PySem.Challenge.rw_duelsets_k32_careful_winners).prog [26]) (H := LK.hk) (ob := LK.ob) (M := 4000) (loose := LK.loose) (d := HandSHeadRun.topDef (OpenLaw.row PySem.Challenge.rw_duelsets_k32_careful_winners).prog 26) (kwd := []) LK.ob_eq
    (by kernel_rfl) (fun s => by kernel_rfl) LK.run (by kernel_rfl) (by kernel_rfl) (by kernel_rfl) (by rfl) (by first | assumption | decide +kernel) (by decide +kernel) ⟨rfl, rfl, rfl, rfl, rfl, by decide +kernel⟩ ?hw ?hc
  case hw => w_witness2
  case hc =>
    refine Mini.law_end (l := PySem.Challenge.rw_duelsets_k32_careful_winners) (n := LK.most) (k := LK.lev) (F := Mini.callN LK.Gm LK.lev "law") rfl (by decide) (by kernel_rfl) ⟨rfl, by decide, by decide⟩ ?G LK.law_true
    intro w mg fa h Y G hmg0
    obtain ⟨K, KX, c, hsy, hxf⟩ := Y
    have hmg : mg (PySem.Str.ofString "law") = some (.ref fa) := by
      have e : (HandSHeadRun.topDef (OpenLaw.row PySem.Challenge.rw_duelsets_k32_careful_winners).prog 26).name = PySem.Str.ofString "law" := by kernel_rfl
      rw [← e]
      exact hmg0
    refine ⟨K, KX, fun base hb hg => ?_⟩
    obtain ⟨a, h1, _, h2⟩ := Mini.all_g (P := (PySem.Challenge.rw_duelsets_k32_careful_winners).prog) (w := w) (base := base) (LK.all_ok KX G c) (LK.all_free KX G c) (LK.all_gvs KX G c) hsy (Mini.xfacts_of KX G hxf) LK.lev "law" (by decide)
    have e : a = fa := by
      have z := h1.symm.trans hmg
      injection z with z
      injection z
    rw [← e]
    exact h2
