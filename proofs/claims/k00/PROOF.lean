import PyProof.Rows.All
import HandS.ForMost
import HandS.Deep
import HandS.DictComp
import HandS.TupAny
import HandS.TupMul
import HandS.Wide
import HandS.Zip
import HandS.Conv
import HandS.Small
import HandS.Codes
import HandS.CallSlots
import HandS.Exc
import HandS.IterVal
import HandS.IsInst
import HandS.TupLe
import HandS.TupLen
import HandS.Lambda
import PyProof.ListMulRoad
import PyProof.FactsAll.tuple_2
import KE.LtData
import HandS.WordsDict
import HandS.Flow
import HandS.ExcOwn
import HandS.Walk
import KE.GoesMore
import KE.KDictPairs
import KE.SortData
import HandS.Nested
import KE.SortKeyHeap
import HandS.Defaults
import HandS.Head0
import HandS.Head1
import HandS.Head2
import HandS.HeadEnd
import HandS.HeadHook1
import HandS.HeadHook2
import HandS.EndTab
import HandS.HeadWalk
import KE.KStateDown
import PySem.Challenge.RW_matchtrees_k00_whole_programs
set_option Elab.async false
section
set_option linter.all false
set_option autoImplicit false
/-! MtEv: a small syntax for the defs of the program, its data, its memory of mutable cells, its evaluator. -/
namespace Mt

/-- a datum: lists told as lst never change; a list or a dict that changes is a cell of the memory, told by its number -/
inductive D where
  | non
  | bl (b : Bool)
  | int (i : Int)
  | str (x : List Nat)
  | tup (xs : List D)
  | lst (xs : List D)
  /-- the script: a list that nobody may write -/
  | scr (xs : List D)
  /-- a tuple that nobody may write, its object told -/
  | ptp (xs : List D)
  | ref (n : Nat)

/-- a flat key -/
inductive Ky where
  | i (n : Int)
  | s (x : List Nat)
  deriving DecidableEq

inductive Ob where
  | lst (xs : List D)
  | dK (kvs : List (Ky × D))
  | dT (kvs : List (List Ky × D))
  | ins (c : Nat) (fs : List (List Nat × D))
  /-- an iterator that nobody has asked yet: what it will give -/
  | it (xs : List D)
  /-- the table of a def's code objects: where it lies, the name that they bear -/
  | tab (p : Nat) (q : List Nat)

/-- none: a cell that is not to be used any more -/
abbrev Mem := List (Option Ob)
abbrev Env := List (Option D)

inductive R (α : Type) where
  | ok (a : α) (m : Mem)
  | exc (c : Nat) (fs : List D) (m : Mem)
  | bad (w : Nat)

def R.bind {α β : Type} (r : R α) (f : α → Mem → R β) : R β :=
  match r with
  | .ok a m => f a m
  | .exc c fs m => .exc c fs m
  | .bad w => .bad w

def lineN : Nat := 16777216

/-! ### equality, order -/
def b2i (b : Bool) : Int := match b with
  | true => 1
  | false => 0
def natsEq : List Nat → List Nat → Bool
  | [], [] => true
  | x :: xs, y :: ys => match Nat.beq x y with
    | true => natsEq xs ys
    | false => false
  | [], _ :: _ => false
  | _ :: _, [] => false
def natsLt : List Nat → List Nat → Bool
  | [], [] => false
  | [], _ :: _ => true
  | _ :: _, [] => false
  | x :: xs, y :: ys => match Nat.beq x y with
    | true => natsLt xs ys
    | false => Nat.blt x y
def intEq (a b : Int) : Bool := decide (a = b)
mutual
def eqv : D → D → Bool
  | .non, .non => true
  | .bl a, .bl b => a == b
  | .bl a, .int j => intEq (b2i a) j
  | .int i, .bl b => intEq i (b2i b)
  | .int i, .int j => intEq i j
  | .str x, .str y => natsEq x y
  | .tup xs, .tup ys => eqvs xs ys
  | .lst xs, .lst ys => eqvs xs ys
  | _, _ => false
def eqvs : List D → List D → Bool
  | [], [] => true
  | x :: xs, y :: ys => match eqv x y with
    | true => eqvs xs ys
    | false => false
  | [], _ :: _ => false
  | _ :: _, [] => false
end
mutual
/-- data that == may be asked of: no cells, texts of lawful length -/
def plain : D → Bool
  | .ref _ => false
  | .scr _ => false
  | .ptp _ => false
  | .tup xs => plains xs
  | .lst xs => plains xs
  | .non => true
  | .bl _ => true
  | .int _ => true
  | .str x => x.all (fun c => Nat.blt c 1114112) && Nat.ble x.length 1000
def plains : List D → Bool
  | [] => true
  | x :: xs => match plain x with
    | true => plains xs
    | false => false
end
mutual
def deep : D → Nat
  | .tup xs => deeps xs + 1
  | .lst xs => deeps xs + 1
  | _ => 0
def deeps : List D → Nat
  | [] => 0
  | x :: xs => Nat.max (deep x) (deeps xs)
end
def fit (d : D) : Bool := plain d && Nat.ble (deep d) 64
mutual
/-- data that < may be asked of: each place of one sort -/
def alikeD : D → D → Bool
  | .bl _, .bl _ => true
  | .int _, .int _ => true
  | .str _, .str _ => true
  | .tup xs, .tup ys => alikesD xs ys
  | _, _ => false
def alikesD : List D → List D → Bool
  | x :: xs, y :: ys => alikeD x y && alikesD xs ys
  | [], _ => true
  | _ :: _, [] => true
end
mutual
def ltD : D → D → Bool
  | .bl a, .bl b => !a && b
  | .int a, .int b => decide (a < b)
  | .str a, .str b => natsLt a b
  | .tup a, .tup b => ltsD a b
  | _, _ => false
def ltsD : List D → List D → Bool
  | [], [] => false
  | [], _ :: _ => true
  | _ :: _, [] => false
  | x :: xs, y :: ys => match eqv x y with
    | true => ltsD xs ys
    | false => ltD x y
end
mutual
/-- all cells told are below n -/
def below (n : Nat) : D → Bool
  | .ref k => Nat.blt k n
  | .tup xs => belows n xs
  | .lst xs => belows n xs
  | .scr xs => belows n xs
  | .ptp xs => belows n xs
  | _ => true
def belows (n : Nat) : List D → Bool
  | [] => true
  | x :: xs => match below n x with
    | true => belows n xs
    | false => false
end
def belowO (n : Nat) : Option Ob → Bool
  | none => true
  | some (.lst xs) => belows n xs
  | some (.dK kvs) => kvs.all fun kv => below n kv.2
  | some (.dT kvs) => kvs.all fun kv => below n kv.2
  | some (.ins _ fs) => fs.all fun kv => below n kv.2
  | some (.it xs) => belows n xs
  | some (.tab _ _) => true

/-! ### stable sorting by insertion -/
def insK (p : D × D) : List (D × D) → List (D × D)
  | [] => [p]
  | q :: r => match ltD q.1 p.1 with
    | true => q :: insK p r
    | false => p :: q :: r
/-- pairs (key, item), the last one put in first -/
def isortK : List (D × D) → List (D × D)
  | [] => []
  | p :: r => insK p (isortK r)
def allAlike (ks : List D) : Bool := ks.all fun a => ks.all fun b => alikeD a b
def sortableD : D → Bool
  | .tup (_ :: _) => true
  | _ => false
def sortableA : D → Bool
  | .tup _ => false
  | .non => false
  | _ => true
def sortOk (ks : List D) : Bool := allAlike ks && (ks.all sortableD || ks.all sortableA) && ks.all fit && Nat.ble ks.length lineN

/-! ### the syntax of expressions -/
inductive Bop where
  | add | sub | mul | fdiv | mod | pow
  deriving DecidableEq
inductive Cop where
  | eq | ne | lt | le | gt | ge | isin | notin | isnone | notnone
  deriving DecidableEq
inductive Ty where
  | int | bool | str | tuple | list | dict
  deriving DecidableEq
/-- built-in functions of values -/
inductive Bl where
  | len | sum | any | all | tuple | list | int | str | min | max | sorted | dict | ptuple
  deriving DecidableEq
/-- methods of built-in types -/
inductive Bm where
  | append | pop | pop1 | index | upper | count
  deriving DecidableEq

inductive A where
  | con (d : D)
  /-- a constant of the module -/
  | glo (i : Nat) (d : D)
  | var (i : Nat)
  | nil
  | cons (a b : A)
  | tup (a : A)
  | lst (a : A)
  /-- lists that will change: a display, a sum or a product, a comprehension -/
  | cellL (a : A)
  | cellB (op : Bop) (a b : A)
  | cellC (el : A) (tg it c : A) (tg2 it2 c2 : A)
  | dnK
  | dnT
  | bin (op : Bop) (a b : A)
  | neg (a : A)
  | not (a : A)
  | and (a b : A)
  | or (a b : A)
  | ite (c a b : A)
  | cmp (op : Cop) (a b : A)
  | chain (op op' : Cop) (a b c : A)
  | idx (a b : A)
  /-- of dicts: d[k], k in d, k not in d -/
  | dget (a b : A)
  | din (a b : A)
  | dnin (a b : A)
  /-- a[lo:hi], a[lo:], a[:hi] -/
  | sl (a lo hi : A)
  | slL (a lo : A)
  | slU (a hi : A)
  | call (f : Nat) (a : A)
  | blt (b : Bl) (a : A)
  | isi (a : A) (ts : List Ty)
  | bm (m : Bm) (o a : A)
  /-- walked things: range, enumerate, zip -/
  | rng1 (hi : A)
  | rng (lo hi : A)
  | enm (a : A)
  | zp (a b : A)
  /-- list(range(lo, hi)) -/
  | lrng (lo hi : A)
  /-- comprehensions: element, target (slots), walked, test (nil: none) -/
  | lc (el : A) (tg : A) (it : A) (c : A)
  | lc2 (el : A) (tg it c : A) (tg2 it2 c2 : A)
  | dc (k v : A) (tg it c : A)
  /-- targets -/
  | tgN (i : Nat)
  | tgT (a : A)
  /-- sorted(a, key=lambda x: b): frees are the slots handed in behind x; own: how many slots the lambda has -/
  | sortK (a : A) (frees : List Nat) (b : A)
  | frz (a : A)

/-! ### what the operators do -/
/-- a list or a tuple as what it holds; true: a tuple -/
def seqOf (m : Mem) : D → Option (List D)
  | .tup xs => some xs
  | .ptp xs => some xs
  | .lst xs => some xs
  | .scr xs => some xs
  | .ref n => match m[n]? with
    | some (some (.lst xs)) => some xs
    | _ => none
  | _ => none
def listOf (m : Mem) : D → Option (List D)
  | .lst xs => some xs
  | .ref n => match m[n]? with
    | some (some (.lst xs)) => some xs
    | _ => none
  | _ => none
/-- a cell of a list told as a list, for == -/
def flatD (m : Mem) : D → D
  | .ref n => match m[n]? with
    | some (some (.lst xs)) => .lst xs
    | _ => .ref n
  | d => d
def bit64 (i : Int) : Bool := decide (-(18446744073709551616) < i) && decide (i < 18446744073709551616)
def bit4000 (i : Int) : Bool := decide (i.natAbs < 2 ^ 4000)
def ix (n : Nat) (i : Int) : Option Nat :=
  match i with
  | .ofNat k => if Nat.blt k n then some k else none
  | .negSucc k => if Nat.blt k n then some (n - 1 - k) else none
def small63 (i : Int) : Bool := decide (-(4611686018427387904) ≤ i) && decide (i < 4611686018427387904)

def rep {α : Type} (xs : List α) : Nat → List α
  | 0 => []
  | n + 1 => xs ++ rep xs n
def bAdd (m : Mem) (x y : D) : R D :=
  match x, y with
  | .int i, .int j => .ok (.int (i + j)) m
  | .str i, .str j => if Nat.ble (i.length + j.length) lineN then .ok (.str (i ++ j)) m else .bad 1
  | .tup i, .tup j => if Nat.ble (i.length + j.length) lineN then .ok (.tup (i ++ j)) m else .bad 1
  | x, y => match listOf m x, listOf m y with
    | some i, some j => if Nat.ble (i.length + j.length) lineN then .ok (.lst (i ++ j)) m else .bad 1
    | _, _ => .bad 2
def bSub (m : Mem) (x y : D) : R D :=
  match x, y with
  | .int i, .int j => .ok (.int (i - j)) m
  | _, _ => .bad 3
def bMul (m : Mem) (x y : D) : R D :=
  match y with
  | .int j => match x with
    | .int i => if bit64 i || bit64 j || (bit4000 i && bit4000 j) then .ok (.int (i * j)) m else .bad 4
    | .tup i => if decide (-1000 ≤ j) && decide (j ≤ 1000) && Nat.ble i.length 1000 then .ok (.tup (rep i j.toNat)) m else .bad 4
    | .str _ => .bad 4
    | x => match listOf m x with
      | some i => if small63 j && Nat.ble (i.length * j.toNat) lineN then .ok (.lst (rep i j.toNat)) m else .bad 4
      | none => .bad 4
  | _ => .bad 4
def bDiv (m : Mem) (x y : D) : R D :=
  match x, y with
  | .int i, .int j => if decide (0 < j) && decide (j < 1073741824) then .ok (.int (i / j)) m else .bad 5
  | _, _ => .bad 5
def bMod (m : Mem) (x y : D) : R D :=
  match x, y with
  | .int i, .int j => if decide (0 < j) then .ok (.int (i % j)) m else .bad 6
  | _, _ => .bad 6
def bPow (m : Mem) (x y : D) : R D :=
  match x, y with
  | .int i, .int j => if decide (0 ≤ j) && decide (j ≤ 1000) && bit64 i then .ok (.int (i ^ j.toNat)) m else .bad 7
  | _, _ => .bad 7
def bop (op : Bop) : Mem → D → D → R D :=
  match op with
  | .add => bAdd
  | .sub => bSub
  | .mul => bMul
  | .fdiv => bDiv
  | .mod => bMod
  | .pow => bPow

def kyOf : D → Option Ky
  | .int i => some (.i i)
  | .str x => some (.s x)
  | _ => none
def kysOf : List D → Option (List Ky)
  | [] => some []
  | x :: xs => match kyOf x, kysOf xs with
    | some k, some ks => some (k :: ks)
    | _, _ => none
def kyEq : Ky → Ky → Bool
  | .i a, .i b => intEq a b
  | .s a, .s b => natsEq a b
  | _, _ => false
def kysEq : List Ky → List Ky → Bool
  | [], [] => true
  | a :: as, b :: bs => match kyEq a b with
    | true => kysEq as bs
    | false => false
  | [], _ :: _ => false
  | _ :: _, [] => false
def findK (k : Ky) : List (Ky × D) → Option D
  | [] => none
  | p :: r => match kyEq p.1 k with
    | true => some p.2
    | false => findK k r
def findT (k : List Ky) : List (List Ky × D) → Option D
  | [] => none
  | p :: r => match kysEq p.1 k with
    | true => some p.2
    | false => findT k r
def hasK (k : Ky) : List (Ky × D) → Bool
  | [] => false
  | p :: r => match kyEq p.1 k with
    | true => true
    | false => hasK k r
def setK (k : Ky) (d : D) : List (Ky × D) → List (Ky × D)
  | [] => []
  | p :: r => match kyEq p.1 k with
    | true => (p.1, d) :: setK k d r
    | false => p :: setK k d r
def putK (k : Ky) (d : D) (l : List (Ky × D)) : List (Ky × D) :=
  match hasK k l with
  | true => setK k d l
  | false => l ++ [(k, d)]
def hasT (k : List Ky) : List (List Ky × D) → Bool
  | [] => false
  | p :: r => match kysEq p.1 k with
    | true => true
    | false => hasT k r
def setT (k : List Ky) (d : D) : List (List Ky × D) → List (List Ky × D)
  | [] => []
  | p :: r => match kysEq p.1 k with
    | true => (p.1, d) :: setT k d r
    | false => p :: setT k d r
def putT (k : List Ky) (d : D) (l : List (List Ky × D)) : List (List Ky × D) :=
  match hasT k l with
  | true => setT k d l
  | false => l ++ [(k, d)]
/-- d[k], or none -/
def getD? (o : Ob) (k : D) : Option (Option D) :=
  match o with
  | .dK kvs => match kyOf k with
    | some q => some (findK q kvs)
    | none => none
  | .dT kvs => match k with
    | .tup ks => match kysOf ks with
      | some q => some (findT q kvs)
      | none => none
    | _ => none
  | _ => none
def memEq (x : D) : List D → Bool
  | [] => false
  | y :: r => match eqv y x with
    | true => true
    | false => memEq x r
def flatData : D → Bool
  | .non => true
  | .bl _ => true
  | .int _ => true
  | .str _ => true
  | _ => false
def isinR (m : Mem) (x y : D) : Option Bool :=
  match y with
  | .str z => match x with
    | .str [c] => some (z.any fun b => Nat.beq b c)
    | _ => none
  | .tup xs => if flatData x && xs.all flatData then some (memEq x xs) else none
  | y => match listOf m y with
    | some xs => if fit x && fit (.lst xs) then some (memEq x xs) else none
    | none => none
/-- the dict at a cell -/
def dictOf (m : Mem) : D → Option Ob
  | .ref n => match m[n]? with
    | some (some (.dK l)) => some (.dK l)
    | some (some (.dT l)) => some (.dT l)
    | _ => none
  | _ => none
def dgetR (m : Mem) (o k : D) : R D :=
  match dictOf m o with
  | some b => match getD? b k with
    | some (some d) => .ok d m
    | _ => .bad 14
  | none => .bad 14
def dinR (m : Mem) (k o : D) : R D :=
  match dictOf m o with
  | some b => match getD? b k with
    | some r => .ok (.bl r.isSome) m
    | none => .bad 15
  | none => .bad 15
def dninR (m : Mem) (k o : D) : R D :=
  match dictOf m o with
  | some b => match getD? b k with
    | some r => .ok (.bl (!r.isSome)) m
    | none => .bad 15
  | none => .bad 15
def cEq (m : Mem) (x y : D) : R D := if fit (flatD m x) && fit (flatD m y) then .ok (.bl (eqv (flatD m x) (flatD m y))) m else .bad 10
def cNe (m : Mem) (x y : D) : R D := if fit (flatD m x) && fit (flatD m y) then .ok (.bl (!eqv (flatD m x) (flatD m y))) m else .bad 10
def cLt (m : Mem) (x y : D) : R D :=
  match x, y with
  | .int i, .int j => .ok (.bl (decide (i < j))) m
  | x, y => if alikeD x y && fit x && fit y then .ok (.bl (ltD x y)) m else .bad 11
def cLe (m : Mem) (x y : D) : R D :=
  match x, y with
  | .int i, .int j => .ok (.bl (decide (i ≤ j))) m
  | _, _ => .bad 11
def cGt (m : Mem) (x y : D) : R D :=
  match x, y with
  | .int i, .int j => .ok (.bl (decide (j < i))) m
  | _, _ => .bad 11
def cGe (m : Mem) (x y : D) : R D :=
  match x, y with
  | .int i, .int j => .ok (.bl (decide (j ≤ i))) m
  | _, _ => .bad 11
def cIn (m : Mem) (x y : D) : R D :=
  match isinR m x y with
  | some b => .ok (.bl b) m
  | none => .bad 12
def cNotin (m : Mem) (x y : D) : R D :=
  match isinR m x y with
  | some b => .ok (.bl (!b)) m
  | none => .bad 12
def isNon : D → Bool
  | .non => true
  | _ => false
def cIsN (m : Mem) (x y : D) : R D :=
  match y with
  | .non => .ok (.bl (isNon x)) m
  | _ => .bad 13
def cNotN (m : Mem) (x y : D) : R D :=
  match y with
  | .non => .ok (.bl (!isNon x)) m
  | _ => .bad 13
def cop (op : Cop) : Mem → D → D → R D :=
  match op with
  | .eq => cEq
  | .ne => cNe
  | .lt => cLt
  | .le => cLe
  | .gt => cGt
  | .ge => cGe
  | .isin => cIn
  | .notin => cNotin
  | .isnone => cIsN
  | .notnone => cNotN
def atL (m : Mem) (xs : List D) (i : D) : R D :=
  match i with
  | .int j => match ix xs.length j with
    | some k => match xs[k]? with
      | some d => .ok d m
      | none => .bad 20
    | none => .bad 20
  | _ => .bad 20
def idxR (m : Mem) (x i : D) : R D :=
  match x with
  | .str z => match i with
    | .int j => match ix z.length j with
      | some k => match z[k]? with
        | some c => if Nat.ble z.length lineN then .ok (.str [c]) m else .bad 20
        | none => .bad 20
      | none => .bad 20
    | _ => .bad 20
  | x => match seqOf m x with
    | some xs => atL m xs i
    | none => .bad 20
/-- an end of a slice among n -/
def sIx (n : Nat) (i : Int) : Nat :=
  match i with
  | .ofNat k => Nat.min k n
  | .negSucc k => n - (k + 1)
def sIxO (n d : Nat) : Option Int → Nat
  | none => d
  | some i => sIx n i
def cutL {α : Type} (xs : List α) (lo hi : Option Int) : List α := (xs.drop (sIxO xs.length 0 lo)).take (sIxO xs.length xs.length hi - sIxO xs.length 0 lo)
def slG (m : Mem) (x : D) (lo hi : Option Int) : R D :=
  match x with
  | .str z => if Nat.ble z.length lineN then .ok (.str (cutL z lo hi)) m else .bad 21
  | .tup z => .ok (.tup (cutL z lo hi)) m
  | .ptp z => if Nat.beq (cutL z lo hi).length z.length then .ok (.ptp z) m else .ok (.tup (cutL z lo hi)) m
  | x => match listOf m x with
    | some z => .ok (.lst (cutL z lo hi)) m
    | none => .bad 21
def slLR (m : Mem) (x y : D) : R D :=
  match y with
  | .int a => slG m x (some a) none
  | _ => .bad 21
def slUR (m : Mem) (x y : D) : R D :=
  match y with
  | .int a => slG m x none (some a)
  | _ => .bad 21
def allInts : List D → Option (List Int)
  | [] => some []
  | .int i :: r => match allInts r with
    | some is => some (i :: is)
    | none => none
  | _ => none
def allBools : List D → Option (List Bool)
  | [] => some []
  | .bl i :: r => match allBools r with
    | some is => some (i :: is)
    | none => none
  | _ => none
def sumI : List Int → Int
  | [] => 0
  | i :: r => i + sumI r
def pairK : List D → Option (List (Ky × D))
  | [] => some []
  | .tup [k, v] :: r => match kyOf k, pairK r with
    | some q, some s => some ((q, v) :: s)
    | _, _ => none
  | _ => none
def mergeK (acc : List (Ky × D)) : List (Ky × D) → List (Ky × D)
  | [] => acc
  | p :: r => mergeK (putK p.1 p.2 acc) r
def one : List D → Option D
  | [x] => some x
  | _ => none
def oLen (m : Mem) (xs : List D) : R D :=
  match one xs with
  | some (.str z) => if Nat.ble z.length lineN then .ok (.int z.length) m else .bad 30
  | some (.lst z) => .ok (.int z.length) m
  | some (.tup z) => .ok (.int z.length) m
  | some (.scr z) => .ok (.int z.length) m
  | some (.ptp z) => .ok (.int z.length) m
  | some (.ref n) => match m[n]? with
    | some (some (.lst z)) => .ok (.int z.length) m
    | some (some (.dK z)) => .ok (.int z.length) m
    | some (some (.dT z)) => .ok (.int z.length) m
    | _ => .bad 30
  | _ => .bad 30
def listOf1 (m : Mem) (xs : List D) : Option (List D) :=
  match one xs with
  | some x => listOf m x
  | none => none
def seqOf1 (m : Mem) (xs : List D) : Option (List D) :=
  match one xs with
  | some x => seqOf m x
  | none => none
def oSum (m : Mem) (xs : List D) : R D :=
  match listOf1 m xs with
  | some z => match allInts z with
    | some is => .ok (.int (sumI is)) m
    | none => .bad 31
  | none => .bad 31
def oAny (m : Mem) (xs : List D) : R D :=
  match listOf1 m xs with
  | some z => match allBools z with
    | some is => .ok (.bl (is.any id)) m
    | none => .bad 32
  | none => .bad 32
def oAll (m : Mem) (xs : List D) : R D :=
  match listOf1 m xs with
  | some z => match allBools z with
    | some is => .ok (.bl (is.all id)) m
    | none => .bad 32
  | none => .bad 32
def isPtp : Option D → Bool
  | some (.ptp _) => true
  | _ => false
def oTuple (m : Mem) (xs : List D) : R D :=
  if isPtp (one xs) then .bad 33 else match seqOf1 m xs with
  | some z => .ok (.tup z) m
  | none => .bad 33
def oList (m : Mem) (xs : List D) : R D :=
  match seqOf1 m xs with
  | some z => .ok (.lst z) m
  | none => .bad 34
def oInt (m : Mem) (xs : List D) : R D :=
  match one xs with
  | some (.int i) => .ok (.int i) m
  | some (.bl i) => .ok (.int (b2i i)) m
  | _ => .bad 37
def two : List D → Option (Int × Int)
  | [.int i, .int j] => some (i, j)
  | _ => none
def oMin (m : Mem) (xs : List D) : R D :=
  match two xs with
  | some (i, j) => .ok (.int (if j < i then j else i)) m
  | none => .bad 38
def oMax (m : Mem) (xs : List D) : R D :=
  match two xs with
  | some (i, j) => .ok (.int (if j > i then j else i)) m
  | none => .bad 38
def oSorted (m : Mem) (xs : List D) : R D :=
  match listOf1 m xs with
  | some z => if sortOk z then .ok (.lst ((isortK (z.map fun d => (d, d))).map (·.2))) m else .bad 35
  | none => .bad 35
def ptpOf : D → Option (List D)
  | .ptp xs => some xs
  | _ => none
def dictC (m : Mem) (z : List D) : R D :=
  match pairK z with
  | some kvs => if Nat.ble kvs.length lineN then .ok (.ref m.length) (m ++ [some (.dK (mergeK [] kvs))]) else .bad 36
  | none => .bad 36
def oDict (m : Mem) (xs : List D) : R D :=
  match one xs with
  | some x => match ptpOf x with
    | some z => dictC m z
    | none => .bad 36
  | none => .bad 36
def oPtp (m : Mem) (xs : List D) : R D :=
  match listOf1 m xs with
  | some z => .ok (.ptp z) m
  | none => .bad 36
def oBad (_ : Mem) (_ : List D) : R D := .bad 39
def blR (b : Bl) : Mem → List D → R D :=
  match b with
  | .len => oLen
  | .sum => oSum
  | .any => oAny
  | .all => oAll
  | .tuple => oTuple
  | .list => oList
  | .int => oInt
  | .str => oBad
  | .min => oMin
  | .max => oMax
  | .sorted => oSorted
  | .dict => oDict
  | .ptuple => oPtp
def isTy (m : Mem) : D → Ty → Option Bool
  | .non, _ => some false
  | .bl _, .bool => some true
  | .bl _, .int => some true
  | .bl _, _ => some false
  | .int _, .int => some true
  | .int _, _ => some false
  | .str _, .str => some true
  | .str _, _ => some false
  | .tup _, .tuple => some true
  | .tup _, _ => some false
  | .lst _, .list => some true
  | .lst _, _ => some false
  | .scr _, .list => some true
  | .scr _, _ => some false
  | .ptp _, .tuple => some true
  | .ptp _, _ => some false
  | .ref n, t => match m[n]? with
    | some (some (.lst _)) => some (decide (t = .list))
    | some (some (.dK _)) => some (decide (t = .dict))
    | some (some (.dT _)) => some (decide (t = .dict))
    | _ => none
def isTys (m : Mem) (d : D) : List Ty → Option Bool
  | [] => some false
  | t :: r => match isTy m d t with
    | some true => some true
    | some false => isTys m d r
    | none => none
def upper1 (c : Nat) : Nat := if Nat.ble 97 c && Nat.ble c 122 then c - 32 else c
def findIx (x : D) : List D → Nat → Option Nat
  | [], _ => none
  | y :: r, n => match eqv y x with
    | true => some n
    | false => findIx x r (n + 1)
def mAppend (m : Mem) (o : D) (xs : List D) : R D :=
  match o with
  | .ref n => match m[n]? with
    | some (some (.lst z)) => match one xs with
      | some x => if Nat.blt z.length lineN then .ok .non (m.set n (some (.lst (z ++ [x])))) else .bad 40
      | none => .bad 40
    | _ => .bad 40
  | _ => .bad 40
def mPop (m : Mem) (o : D) (xs : List D) : R D :=
  match o with
  | .ref n => match m[n]? with
    | some (some (.lst z)) => match xs with
      | [] => match z.getLast? with
        | some d => .ok d (m.set n (some (.lst z.dropLast)))
        | none => .bad 41
      | _ => .bad 41
    | _ => .bad 41
  | _ => .bad 41
def mIndex (m : Mem) (o : D) (xs : List D) : R D :=
  match listOf m o with
  | some z => match one xs with
    | some x => if fit x && fit (.lst z) then (match findIx x z 0 with
      | some k => .ok (.int k) m
      | none => .bad 42) else .bad 42
    | none => .bad 42
  | none => .bad 42
def mUpper (m : Mem) (o : D) (xs : List D) : R D :=
  match o with
  | .str z => match xs with
    | [] => if z.all (fun c => Nat.blt c 128) && Nat.ble z.length 1000 then .ok (.str (z.map upper1)) m else .bad 43
    | _ => .bad 43
  | _ => .bad 43
def mBad (_ : Mem) (_ : D) (_ : List D) : R D := .bad 49
def bmR (b : Bm) : Mem → D → List D → R D :=
  match b with
  | .append => mAppend
  | .pop => mPop
  | .pop1 => mBad
  | .index => mIndex
  | .upper => mUpper
  | .count => mBad

/-! ### targets -/
mutual
def assign : A → D → Env → Option Env
  | .tgN i, d, e => if Nat.blt i e.length then some (e.set i (some d)) else none
  | .tgT a, .tup ds, e => assigns a ds e
  | _, _, _ => none
def assigns : A → List D → Env → Option Env
  | .nil, [], e => some e
  | .cons t r, d :: ds, e => match assign t d e with
    | some e' => assigns r ds e'
    | none => none
  | _, _, _ => none
end

/-! ### expressions -/
def rngL (lo : Int) : Nat → List D
  | 0 => []
  | n + 1 => .int lo :: rngL (lo + 1) n
def enmL (n : Int) : List D → List D
  | [] => []
  | d :: r => .tup [.int n, d] :: enmL (n + 1) r
def zipL : List D → List D → List D
  | a :: as, b :: bs => .tup [a, b] :: zipL as bs
  | _, _ => []

/-- the truth of a value -/
def truth (m : Mem) : D → Option Bool
  | .bl b => some b
  | .non => some false
  | .int i => some (!intEq i 0)
  | .str x => if Nat.ble x.length lineN then some (!x.isEmpty) else none
  | .tup x => some (!x.isEmpty)
  | .lst x => some (!x.isEmpty)
  | .scr x => some (!x.isEmpty)
  | .ptp x => some (!x.isEmpty)
  | .ref n => match m[n]? with
    | some (some (.lst x)) => some (!x.isEmpty)
    | _ => none

/-- what is walked; a cell is no cell any more behind it -/
def itOf (m : Mem) : D → Option (List D × Mem)
  | .tup xs => some (xs, m)
  | .ptp xs => some (xs, m)
  | .lst xs => some (xs, m)
  | .str xs => some (xs.map fun c => .str [c], m)
  | .ref n => match m[n]? with
    | some (some (.lst xs)) => some (xs, m.set n none)
    | _ => none
  | _ => none
/-- a walk of a comprehension: f what is done with an item -/
def lcGo (f : D → Mem → R (List D)) : List D → List D → Mem → R (List D)
  | [], acc, m => .ok acc m
  | d :: r, acc, m => match f d m with
    | .ok xs m' => if Nat.ble (acc.length + xs.length) lineN then lcGo f r (acc ++ xs) m' else .bad 50
    | .exc _ _ _ => .bad 51
    | .bad w => .bad w
def mapR (f : D → Mem → R D) : List D → Mem → R (List D)
  | [], m => .ok [] m
  | d :: r, m => match f d m with
    | .ok x m' => match mapR f r m' with
      | .ok xs m'' => .ok (x :: xs) m''
      | .exc c fs m'' => .exc c fs m''
      | .bad w => .bad w
    | .exc _ _ _ => .bad 51
    | .bad w => .bad w
def packOf : D → Option (List D)
  | .tup xs => some xs
  | _ => none
def slots (e : Env) : List Nat → Option (List (Option D))
  | [] => some []
  | i :: r => match e[i]?, slots e r with
    | some (some d), some ds => some (some d :: ds)
    | _, _ => none

structure Ctx where
  /-- the call of def f with these -/
  call : Nat → List D → Mem → R D
  /-- the call of a key: a body, its names' values -/
  key : A → Env → Mem → R D
  /-- the table of the def's code objects -/
  tab : Nat × List Nat

/-- what an expression does -/
abbrev X := Env → Mem → R D
def xCon (d : D) : X := fun _ m => .ok d m
def xVar (i : Nat) : X := fun e m => match e[i]? with
  | some (some d) => .ok d m
  | _ => .bad 60
def xCons (a b : X) : X := fun e m => (a e m).bind fun x m => (b e m).bind fun y m => match y with
  | .tup ys => .ok (.tup (x :: ys)) m
  | _ => .bad 61
def xTup (a : X) : X := fun e m => (a e m).bind fun x m => match x with
  | .tup xs => if Nat.ble xs.length lineN then .ok (.tup xs) m else .bad 61
  | _ => .bad 61
def xLst (a : X) : X := fun e m => (a e m).bind fun x m => match x with
  | .tup xs => if Nat.ble xs.length lineN then .ok (.lst xs) m else .bad 61
  | _ => .bad 61
def xCell (a : X) : X := fun e m => (a e m).bind fun x m => match x with
  | .lst xs => .ok (.ref m.length) (m ++ [some (.lst xs)])
  | _ => .bad 62
def xNewK : X := fun _ m => .ok (.ref m.length) (m ++ [some (.dK [])])
def xNewT : X := fun _ m => .ok (.ref m.length) (m ++ [some (.dT [])])
def x2 (f : Mem → D → D → R D) (a b : X) : X := fun e m => (a e m).bind fun x m => (b e m).bind fun y m => f m x y
def xNeg (a : X) : X := fun e m => (a e m).bind fun x m => match x with
  | .int i => .ok (.int (-i)) m
  | _ => .bad 63
def xNot (a : X) : X := fun e m => (a e m).bind fun x m => match truth m x with
  | some b => .ok (.bl (!b)) m
  | none => .bad 64
def xAnd (a b : X) : X := fun e m => (a e m).bind fun x m => match x with
  | .bl true => b e m
  | .bl false => .ok (.bl false) m
  | _ => .bad 65
def xOr (a b : X) : X := fun e m => (a e m).bind fun x m => match x with
  | .bl true => .ok (.bl true) m
  | .bl false => b e m
  | _ => .bad 65
def xIte (t a b : X) : X := fun e m => (t e m).bind fun x m => match truth m x with
  | some true => a e m
  | some false => b e m
  | none => .bad 66
def xChain (f g : Mem → D → D → R D) (a b d : X) : X := fun e m => (a e m).bind fun x m => (b e m).bind fun y m => (f m x y).bind fun z m => match z with
  | .bl true => (d e m).bind fun w m => g m y w
  | .bl false => .ok (.bl false) m
  | _ => .bad 67
def xSl (a lo hi : X) : X := fun e m => (a e m).bind fun x m => (lo e m).bind fun y m => match y with
  | .int i => (hi e m).bind fun z m => match z with
    | .int j => slG m x (some i) (some j)
    | _ => .bad 21
  | _ => .bad 21
def xPack (f : Mem → List D → R D) (a : X) : X := fun e m => (a e m).bind fun x m => match x with
  | .tup xs => f m xs
  | _ => .bad 61
def xCall (f : List D → Mem → R D) (a : X) : X := fun e m => (a e m).bind fun x m => match x with
  | .tup xs => f xs m
  | _ => .bad 61
def xIsi (a : X) (ts : List Ty) : X := fun e m => (a e m).bind fun x m => match isTys m x ts with
  | some b => .ok (.bl b) m
  | none => .bad 68
def xBm (k : Mem → D → Bool) (f : Mem → D → List D → R D) (o a : X) : X := fun e m => (o e m).bind fun x m => match k m x with
  | true => (a e m).bind fun y m => match y with
    | .tup ys => f m x ys
    | _ => .bad 61
  | false => .bad 48
def isL (m : Mem) (d : D) : Bool := (listOf m d).isSome
def isS (_ : Mem) : D → Bool
  | .str _ => true
  | _ => false
def bmK (b : Bm) : Mem → D → Bool :=
  match b with
  | .append => isL
  | .pop => isL
  | .pop1 => isL
  | .index => isL
  | .upper => isS
  | .count => isL
def rng1R (m : Mem) (y : D) : R D :=
  match y with
  | .int b => if small63 b then .ok (.tup (rngL 0 b.toNat)) m else .bad 69
  | _ => .bad 69
def x1 (f : Mem → D → R D) (a : X) : X := fun e m => (a e m).bind fun x m => f m x
def rngR (m : Mem) (x y : D) : R D :=
  match x, y with
  | .int a, .int b => if small63 a && small63 b then .ok (.tup (rngL a (b - a).toNat)) m else .bad 69
  | _, _ => .bad 69
def lrngR (m : Mem) (x y : D) : R D :=
  match x, y with
  | .int a, .int b => if small63 a && small63 b && Nat.ble (b - a).toNat lineN then .ok (.lst (rngL a (b - a).toNat)) m else .bad 69
  | _, _ => .bad 69
def enmR (m : Mem) (x : D) : R D :=
  match x with
  | .tup xs => .ok (.tup (enmL 0 xs)) m
  | .ptp xs => .ok (.tup (enmL 0 xs)) m
  | .lst xs => .ok (.tup (enmL 0 xs)) m
  | _ => .bad 70
def zpR (m : Mem) (x y : D) : R D :=
  match x, y with
  | .tup xs, .tup ys => .ok (.tup (zipL xs ys)) m
  | .lst xs, .lst ys => .ok (.tup (zipL xs ys)) m
  | _, _ => .bad 70
/-- the slots of a target -/
def tgSlots : A → List Nat
  | .tgN i => [i]
  | .tgT a => tgSlots a
  | .cons a b => tgSlots a ++ tgSlots b
  | _ => []
def wipeE (e : Env) : List Nat → Env
  | [] => e
  | i :: r => (wipeE e r).set i none
/-- a turn of a comprehension: the target is told, then the test, then f -/
def turn (tg : A) (t : X) (f : Env → Mem → R (List D)) (e : Env) (d : D) (m : Mem) : R (List D) :=
  match assign tg d e with
  | some e' => (t e' m).bind fun b m => match truth m b with
    | some true => f e' m
    | some false => .ok [] m
    | none => .bad 71
  | none => .bad 72
def give1 (el : X) (e : Env) (m : Mem) : R (List D) := (el e m).bind fun y m => .ok [y] m
def xLc (el : X) (tg : A) (it t : X) : X := fun e m => (it e m).bind fun x m => match itOf m x with
  | some (xs, m) => (lcGo (turn tg t (give1 el) (wipeE e (tgSlots tg))) xs [] m).bind fun ys m => .ok (.lst ys) m
  | none => .bad 73
def inner (el : X) (tg : A) (it t : X) (e : Env) (m : Mem) : R (List D) := (it e m).bind fun x m => match itOf m x with
  | some (xs, m) => lcGo (turn tg t (give1 el) (wipeE e (tgSlots tg))) xs [] m
  | none => .bad 73
def xLc2 (el : X) (tg : A) (it t : X) (tg2 : A) (it2 t2 : X) : X := fun e m => (it e m).bind fun x m => match itOf m x with
  | some (xs, m) => (lcGo (turn tg t (inner el tg2 it2 t2) (wipeE e (tgSlots tg ++ tgSlots tg2))) xs [] m).bind fun ys m => .ok (.lst ys) m
  | none => .bad 73
def give2 (k v : X) (e : Env) (m : Mem) : R (List D) := (k e m).bind fun y m => (v e m).bind fun z m => match kyOf y with
  | some _ => .ok [.tup [y, z]] m
  | none => .bad 74
def xDc (k v : X) (tg : A) (it t : X) : X := fun e m => (it e m).bind fun x m => match itOf m x with
  | some (xs, m) => (lcGo (turn tg t (give2 k v) (wipeE e (tgSlots tg))) xs [] m).bind fun ys m => match pairK ys with
    | some kvs => .ok (.ref m.length) (m ++ [some (.dK (mergeK [] kvs))])
    | none => .bad 74
  | none => .bad 73
def isTab (t : Nat × List Nat) : Option Ob → Bool
  | some (.tab p q) => Nat.beq p t.1 && natsEq q t.2 && !q.isEmpty
  | _ => false
def xSortK (tb : Nat × List Nat) (key : Env → Mem → R D) (a : X) (fr : List Nat) : X := fun e m => (a e m).bind fun x m => match listOf m x with
  | some xs => match (if m.any (isTab tb) then slots e fr else none) with
    | some fs => (mapR (fun d m => key (some d :: fs) m) xs m).bind fun ks m =>
        if sortOk ks then .ok (.lst ((isortK (ks.zip xs)).map (·.2))) m else .bad 76
    | none => .bad 77
  | none => .bad 78
def frzR (m : Mem) (x : D) : R D :=
  match x with
  | .ref n => match m[n]? with
    | some (some (.lst xs)) => .ok (.lst xs) (m.set n none)
    | _ => .bad 79
  | _ => .bad 79
def xBad : X := fun _ _ => .bad 75

def ev (c : Ctx) : A → X
  | .con d => xCon d
  | .glo _ d => xCon d
  | .var i => xVar i
  | .nil => xCon (.tup [])
  | .cons a b => xCons (ev c a) (ev c b)
  | .tup a => xTup (ev c a)
  | .lst a => xLst (ev c a)
  | .cellL a => xCell (xLst (ev c a))
  | .cellB op a b => xCell (x2 (bop op) (ev c a) (ev c b))
  | .cellC el tg it t tg2 it2 t2 => xCell (xLc2 (ev c el) tg (ev c it) (ev c t) tg2 (ev c it2) (ev c t2))
  | .dnK => xNewK
  | .dnT => xNewT
  | .bin op a b => x2 (bop op) (ev c a) (ev c b)
  | .neg a => xNeg (ev c a)
  | .not a => xNot (ev c a)
  | .and a b => xAnd (ev c a) (ev c b)
  | .or a b => xOr (ev c a) (ev c b)
  | .ite t a b => xIte (ev c t) (ev c a) (ev c b)
  | .cmp op a b => x2 (cop op) (ev c a) (ev c b)
  | .chain op op' a b d => xChain (cop op) (cop op') (ev c a) (ev c b) (ev c d)
  | .idx a b => x2 idxR (ev c a) (ev c b)
  | .dget a b => x2 dgetR (ev c a) (ev c b)
  | .din a b => x2 dinR (ev c a) (ev c b)
  | .dnin a b => x2 dninR (ev c a) (ev c b)
  | .sl a lo hi => xSl (ev c a) (ev c lo) (ev c hi)
  | .slL a lo => x2 slLR (ev c a) (ev c lo)
  | .slU a hi => x2 slUR (ev c a) (ev c hi)
  | .call f a => xCall (c.call f) (ev c a)
  | .blt b a => xPack (blR b) (ev c a)
  | .isi a ts => xIsi (ev c a) ts
  | .bm b o a => xBm (bmK b) (bmR b) (ev c o) (ev c a)
  | .rng1 hi => x1 rng1R (ev c hi)
  | .rng lo hi => x2 rngR (ev c lo) (ev c hi)
  | .lrng lo hi => x2 lrngR (ev c lo) (ev c hi)
  | .enm a => x1 enmR (ev c a)
  | .zp a b => x2 zpR (ev c a) (ev c b)
  | .lc el tg it t => xLc (ev c el) tg (ev c it) (ev c t)
  | .lc2 el tg it t tg2 it2 t2 => xLc2 (ev c el) tg (ev c it) (ev c t) tg2 (ev c it2) (ev c t2)
  | .dc k v tg it t => xDc (ev c k) (ev c v) tg (ev c it) (ev c t)
  | .tgN _ => xBad
  | .tgT _ => xBad
  | .sortK a fr b => xSortK c.tab (c.key b) (ev c a) fr
  | .frz a => x1 frzR (ev c a)

/-! ### statements -/
inductive S where
  | skip
  | seq (s t : S)
  | expr (a : A)
  | asg (tg a : A)
  /-- o[i] = a -/
  | put (o i a : A)
  /-- .. of a dict -/
  | putD (o i a : A)
  | aug (i : Nat) (op : Bop) (a : A)
  | augAt (o i : A) (op : Bop) (a : A)
  | ret (a : A)
  | ite (t : A) (a b : S)
  | loop (tg it : A) (b : S)
  | whl (t : A) (b : S)
  | brk
  | cnt
  /-- a list that is a cell becomes a value that does not change -/
  | frz (i : Nat)
  /-- code that is never reached -/
  | dead
  | raise (c : Nat) (a : A)
  /-- name k = zip(a, b); return (name i, tuple([el for tg in name k])) -/
  | zret (k i : Nat) (a b el tg : A)

inductive F where
  | nx (e : Env) (m : Mem)
  | rt (d : D) (m : Mem)
  | bk (e : Env) (m : Mem)
  | ct (e : Env) (m : Mem)
  | exc (c : Nat) (fs : List D) (e : Env) (m : Mem)
  | bad (w : Nat)

def F.bind (f : F) (g : Env → Mem → F) : F :=
  match f with
  | .nx e m => g e m
  | .rt d m => .rt d m
  | .bk e m => .bk e m
  | .ct e m => .ct e m
  | .exc c fs e m => .exc c fs e m
  | .bad w => .bad w
def R.toF {α : Type} (r : R α) (e : Env) (f : α → Mem → F) : F :=
  match r with
  | .ok a m => f a m
  | .exc c fs m => .exc c fs e m
  | .bad w => .bad w
def forGo (tg : A) (b : Env → Mem → F) : List D → Env → Mem → F
  | [], e, m => .nx e m
  | d :: r, e, m => match assign tg d e with
    | none => .bad 80
    | some e' => match b e' m with
      | .nx e2 m2 => forGo tg b r e2 m2
      | .ct e2 m2 => forGo tg b r e2 m2
      | .bk e2 m2 => .nx e2 m2
      | .rt d2 m2 => .rt d2 m2
      | .exc c fs e2 m2 => .exc c fs e2 m2
      | .bad w => .bad w
def whlGo (t : Env → Mem → R D) (b : Env → Mem → F) : Nat → Env → Mem → F
  | 0, _, _ => .bad 81
  | n + 1, e, m => (t e m).toF e fun x m => match truth m x with
    | some false => .nx e m
    | some true => match b e m with
      | .nx e2 m2 => whlGo t b n e2 m2
      | .ct e2 m2 => whlGo t b n e2 m2
      | .bk e2 m2 => .nx e2 m2
      | .rt d2 m2 => .rt d2 m2
      | .exc c fs e2 m2 => .exc c fs e2 m2
      | .bad w => .bad w
    | none => .bad 82
def setL (m : Mem) (o i d : D) : Option Mem :=
  match o with
  | .ref n => match m[n]? with
    | some (some (.lst xs)) => match i with
      | .int j => match ix xs.length j with
        | some k => some (m.set n (some (.lst (xs.set k d))))
        | none => none
      | _ => none
    | _ => none
  | _ => none
def setD (m : Mem) (o i d : D) : Option Mem :=
  match o with
  | .ref n => match m[n]? with
    | some (some (.dK kvs)) => match kyOf i with
      | some k => if Nat.blt kvs.length lineN then some (m.set n (some (.dK (putK k d kvs)))) else none
      | none => none
    | some (some (.dT kvs)) => match i with
      | .tup ks => match kysOf ks with
        | some k => if Nat.blt kvs.length lineN then some (m.set n (some (.dT (putT k d kvs)))) else none
        | none => none
      | _ => none
    | _ => none
  | _ => none

/-- what a statement does -/
abbrev Y := Env → Mem → F
def ySkip : Y := fun e m => .nx e m
def ySeq (s t : Y) : Y := fun e m => (s e m).bind t
def yExpr (a : X) : Y := fun e m => (a e m).toF e fun _ m => .nx e m
def yAsg (tg : A) (a : X) : Y := fun e m => (a e m).toF e fun x m => match assign tg x e with
  | some e' => .nx e' m
  | none => .bad 83
def yPut (f : Mem → D → D → D → Option Mem) (o i a : X) : Y := fun e m => (a e m).toF e fun x m => (o e m).toF e fun y m => (i e m).toF e fun z m => match f m y z x with
  | some m' => .nx e m'
  | none => .bad 84
def isInt : D → Bool
  | .int _ => true
  | _ => false
def augIx (m : Mem) (x y : D) : R D :=
  match x with
  | .ref n => match y with
    | .int (.ofNat k) => match m[n]? with
      | some (some (.lst xs)) => match xs[k]? with
        | some d => .ok d m
        | none => .bad 86
      | _ => .bad 86
    | _ => .bad 86
  | _ => .bad 86
def yAug (i : Nat) (f : Mem → D → D → R D) (a : X) : Y := fun e m => match e[i]? with
  | some (some x) => (a e m).toF e fun y m => if isInt x && isInt y then (f m x y).toF e fun z m => .nx (e.set i (some z)) m else .bad 85
  | _ => .bad 85
def yAugAt (o i : X) (f : Mem → D → D → R D) (a : X) : Y := fun e m => (o e m).toF e fun x m => (i e m).toF e fun y m => (augIx m x y).toF e fun z m => (a e m).toF e fun w m =>
  if isInt z && isInt w then (f m z w).toF e fun v m => match setL m x y v with
    | some m' => .nx e m'
    | none => .bad 86
  else .bad 86
def yRet (a : X) : Y := fun e m => (a e m).toF e fun x m => .rt x m
def yIte (t : X) (a b : Y) : Y := fun e m => (t e m).toF e fun x m => match truth m x with
  | some true => a e m
  | some false => b e m
  | none => .bad 87
def yLoop (tg : A) (it : X) (b : Y) : Y := fun e m => (it e m).toF e fun x m => match itOf m x with
  | some (xs, m) => forGo tg b xs e m
  | none => .bad 88
def yWhl (t : X) (b : Y) : Y := fun e m => whlGo t b 100000 e m
def yBrk : Y := fun e m => .bk e m
def yCnt : Y := fun e m => .ct e m
def yFrz (i : Nat) : Y := fun e m => match e[i]? with
  | some (some (.ref n)) => match m[n]? with
    | some (some (.lst xs)) => .nx (e.set i (some (.lst xs))) (m.set n none)
    | _ => .bad 89
  | _ => .bad 89
def yDead : Y := fun _ _ => .bad 90
def yRaise (k : Nat) (a : X) : Y := fun e m => (a e m).toF e fun x m => match x with
  | .tup xs => .exc k xs e m
  | _ => .bad 61
/-- zip of two tuples, held in a name -/
def zpT (m : Mem) (x y : D) : R (List D) :=
  match x, y with
  | .tup xs, .tup ys => .ok (zipL xs ys) m
  | _, _ => .bad 99
def zget (e : Env) (k i : Nat) : Option D :=
  match e[k]?, e[i]? with
  | some _, some (some p) => some p
  | _, _ => none
def yZret (k i : Nat) (a b el : X) (tg : A) : Y := fun e m => (a e m).toF e fun x m => (b e m).toF e fun y m => (zpT m x y).toF e fun zs m => match zget e k i with
  | some p => (lcGo (turn tg (xCon (.bl true)) (give1 el) (wipeE (e.set k none) (tgSlots tg))) zs [] m).toF e fun ys m => .rt (.tup [p, .tup ys]) m
  | none => .bad 98
def es (c : Ctx) : S → Y
  | .skip => ySkip
  | .seq s t => ySeq (es c s) (es c t)
  | .expr a => yExpr (ev c a)
  | .asg tg a => yAsg tg (ev c a)
  | .put o i a => yPut setL (ev c o) (ev c i) (ev c a)
  | .putD o i a => yPut setD (ev c o) (ev c i) (ev c a)
  | .aug i op a => yAug i (bop op) (ev c a)
  | .augAt o i op a => yAugAt (ev c o) (ev c i) (bop op) (ev c a)
  | .ret a => yRet (ev c a)
  | .ite t a b => yIte (ev c t) (es c a) (es c b)
  | .loop tg it b => yLoop tg (ev c it) (es c b)
  | .whl t b => yWhl (ev c t) (es c b)
  | .brk => yBrk
  | .cnt => yCnt
  | .frz i => yFrz i
  | .dead => yDead
  | .raise k a => yRaise k (ev c a)
  | .zret k i a b el tg => yZret k i (ev c a) (ev c b) (ev c el) tg

/-! ### defs -/
structure Fn where
  /-- how many parameters, how many names -/
  ps : Nat
  ns : Nat
  body : S
  /-- the cells that it makes are gone behind it -/
  drop : Bool
  /-- the table of its code objects, the name that they bear (of a def that makes lambdas) -/
  tab : Nat × List Nat

def dropTo (n : Nat) (r : R D) : R D :=
  match r with
  | .ok d m => if Nat.ble m.length n then .ok d m else if below n d && (m.take n).all (belowO n) then .ok d (m.take n) else .bad 91
  | r => r
def runF (c : Ctx) (f : Fn) (xs : List D) (m : Mem) : R D :=
  if Nat.beq xs.length f.ps then
    match es c f.body (xs.map some ++ List.replicate (f.ns - f.ps) none) m with
    | .nx _ m' => (if f.drop then dropTo m.length else id) (.ok .non m')
    | .rt d m' => (if f.drop then dropTo m.length else id) (.ok d m')
    | .exc k fs _ m' => .exc k fs m'
    | .bad w => .bad w
    | .bk _ _ => .bad 92
    | .ct _ _ => .bad 92
  else .bad 93

/-- the tables' places put in -/
def withTabs (P : List Nat) (fs : List Fn) : List Fn := fs.map fun f => { f with tab := (P.getD f.tab.1 0, f.tab.2) }
/-- lambdas want three levels -/
def tabAt : Nat → Nat × List Nat → Nat × List Nat
  | 0, _ => (0, [])
  | 1, _ => (0, [])
  | 2, _ => (0, [])
  | _ + 3, t => t
/-- k: how deep calls may lie in one another -/
def run (fs : List Fn) : Nat → Nat → List D → Mem → R D
  | 0, _, _, _ => .bad 94
  | k + 1, f, xs, m => match fs[f]? with
    | some fn => runF ⟨run fs k, fun b e m => match k with
        | 0 => .bad 95
        | k + 1 => match k with
          | 0 => .bad 95
          | k + 1 => match k with
            | 0 => .bad 95
            | k + 1 => ev ⟨run fs k, fun _ _ _ => .bad 96, (0, [])⟩ b e m, tabAt k fn.tab⟩ fn xs m
    | none => .bad 97
end Mt
end
section
set_option linter.all false
set_option autoImplicit false
set_option maxRecDepth 100000
/-! MtS1: how data lie in the abstract heap; what an expression's reading is. -/
namespace Mt
open PySem PySem.Spec PyProof.Rows L2

abbrev SS (l : List Nat) : Str := ⟨l.toArray⟩
theorem SS_inj {a b : List Nat} (h : SS a = SS b) : a = b := by
  have := congrArg (fun x : Str => x.cps.toList) h
  simpa using this
theorem SS_len (a : List Nat) : (SS a).length = a.length := by simp [Str.length]

/-- where the cells lie -/
structure Rho where
  c : List (Option Addr)
  /-- objects that are being made: no datum is told by them -/
  b : List Addr
def live (ρ : Rho) (a : Addr) : Prop := (∃ n : Nat, ρ.c[n]? = some (some a)) ∨ a ∈ ρ.b
abbrev Rho.push (ρ : Rho) (p : Addr) : Rho := ⟨ρ.c ++ [some p], ρ.b⟩
abbrev Rho.kill (ρ : Rho) (n : Nat) : Rho := ⟨ρ.c.set n none, ρ.b⟩
abbrev Rho.cut (ρ : Rho) (n : Nat) : Rho := ⟨ρ.c.take n, ρ.b⟩

mutual
inductive Rep (ρ : Rho) (H : Hp) : D → V → Prop where
  | non : Rep ρ H .non .non
  | bl (b : Bool) : Rep ρ H (.bl b) (.bl b)
  | int (i : Int) : Rep ρ H (.int i) (.int i)
  | str (x : List Nat) : Rep ρ H (.str x) (.str (SS x))
  | tup {a : Addr} {vs : List V} {xs : List D} : H a = some (.tup vs) → ¬ live ρ a → Reps ρ H xs vs → Rep ρ H (.tup xs) (.ref a)
  | lst {a : Addr} {vs : List V} {xs : List D} : H a = some (.lst vs) → ¬ live ρ a → Reps ρ H xs vs → Rep ρ H (.lst xs) (.ref a)
  | scr {a : Addr} {vs : List V} {xs : List D} : Rd H a (.lst vs) → ¬ live ρ a → Reps ρ H xs vs → Rep ρ H (.scr xs) (.ref a)
  | ptp {a : Addr} {o : Obj} {vs : List V} {xs : List D} : H a = some (.frz o (.tup vs)) → o.dict = none → ¬ live ρ a → Reps ρ H xs vs → Rep ρ H (.ptp xs) (.ref a)
  | ref {n : Nat} {a : Addr} : n < ρ.c.length → (∀ b, ρ.c[n]? = some (some b) → b = a) → Rep ρ H (.ref n) (.ref a)
inductive Reps (ρ : Rho) (H : Hp) : List D → List V → Prop where
  | nil : Reps ρ H [] []
  | cons {d : D} {v : V} {ds : List D} {vs : List V} : Rep ρ H d v → Reps ρ H ds vs → Reps ρ H (d :: ds) (v :: vs)
end

/-- what stands stays, but for the cells; new cells may come, cells may die -/
structure Sub (ρ : Rho) (H : Hp) (ρ' : Rho) (H' : Hp) : Prop where
  len : ρ.c.length ≤ ρ'.c.length
  old : ∀ (n : Nat) (b : Addr), n < ρ.c.length → ρ'.c[n]? = some (some b) → ρ.c[n]? = some (some b)
  keep : ∀ (a : Addr) (o : HO), H a = some o → ¬ live ρ a → H' a = some o ∧ ¬ live ρ' a
/-- .. what is being made stays, too -/
structure Ext (ρ : Rho) (H : Hp) (ρ' : Rho) (H' : Hp) : Prop extends Sub ρ H ρ' H' where
  ban : ρ'.b = ρ.b
  bk : ∀ (a : Addr), a ∈ ρ.b → H' a = H a
theorem Sub.refl (ρ : Rho) (H : Hp) : Sub ρ H ρ H := ⟨Nat.le_refl _, fun _ _ _ h => h, fun _ _ h n => ⟨h, n⟩⟩
theorem Sub.trans {ρ ρ1 ρ2 : Rho} {H H1 H2 : Hp} (a : Sub ρ H ρ1 H1) (b : Sub ρ1 H1 ρ2 H2) : Sub ρ H ρ2 H2 :=
  ⟨Nat.le_trans a.len b.len, fun n c hn h => a.old n c hn (b.old n c (Nat.lt_of_lt_of_le hn a.len) h), fun c o h n => let ⟨h1, n1⟩ := a.keep c o h n; b.keep c o h1 n1⟩
theorem Ext.refl (ρ : Rho) (H : Hp) : Ext ρ H ρ H := ⟨Sub.refl _ _, rfl, fun _ _ => rfl⟩
theorem Ext.trans {ρ ρ1 ρ2 : Rho} {H H1 H2 : Hp} (a : Ext ρ H ρ1 H1) (b : Ext ρ1 H1 ρ2 H2) : Ext ρ H ρ2 H2 :=
  ⟨a.toSub.trans b.toSub, b.ban.trans a.ban, fun x h => (b.bk x (by rw [a.ban]; exact h)).trans (a.bk x h)⟩
theorem Sub.rd {ρ ρ' : Rho} {H H' : Hp} (e : Sub ρ H ρ' H') {a : Addr} {u : HO} (h : Rd H a u) (n : ¬ live ρ a) : Rd H' a u ∧ ¬ live ρ' a := by
  rcases h with h | ⟨o, h⟩
  · exact ⟨.inl (e.keep a _ h n).1, (e.keep a _ h n).2⟩
  · exact ⟨.inr ⟨o, (e.keep a _ h n).1⟩, (e.keep a _ h n).2⟩
theorem Ext.rd {ρ ρ' : Rho} {H H' : Hp} (e : Ext ρ H ρ' H') {a : Addr} {u : HO} (h : Rd H a u) (n : ¬ live ρ a) : Rd H' a u ∧ ¬ live ρ' a := by
  rcases h with h | ⟨o, h⟩
  · exact ⟨.inl (e.keep a _ h n).1, (e.keep a _ h n).2⟩
  · exact ⟨.inr ⟨o, (e.keep a _ h n).1⟩, (e.keep a _ h n).2⟩
mutual
theorem Rep.sub {ρ ρ' : Rho} {H H' : Hp} (e : Sub ρ H ρ' H') : ∀ {d : D} {v : V}, Rep ρ H d v → Rep ρ' H' d v
  | _, _, .non => .non
  | _, _, .bl b => .bl b
  | _, _, .int i => .int i
  | _, _, .str x => .str x
  | _, _, .tup h n r => .tup (e.keep _ _ h n).1 (e.keep _ _ h n).2 (Reps.sub e r)
  | _, _, .lst h n r => .lst (e.keep _ _ h n).1 (e.keep _ _ h n).2 (Reps.sub e r)
  | _, _, .scr h n r => .scr (e.rd h n).1 (e.rd h n).2 (Reps.sub e r)
  | _, _, .ptp h d n r => .ptp (e.keep _ _ h n).1 d (e.keep _ _ h n).2 (Reps.sub e r)
  | _, _, .ref h k => .ref (Nat.lt_of_lt_of_le h e.len) fun b q => k b (e.old _ b h q)
theorem Reps.sub {ρ ρ' : Rho} {H H' : Hp} (e : Sub ρ H ρ' H') : ∀ {ds : List D} {vs : List V}, Reps ρ H ds vs → Reps ρ' H' ds vs
  | _, _, .nil => .nil
  | _, _, .cons r t => .cons (r.sub e) (t.sub e)
end
theorem Rep.mono {ρ ρ' : Rho} {H H' : Hp} (e : Ext ρ H ρ' H') {d : D} {v : V} (r : Rep ρ H d v) : Rep ρ' H' d v := r.sub e.toSub
theorem Reps.mono {ρ ρ' : Rho} {H H' : Hp} (e : Ext ρ H ρ' H') {d : List D} {v : List V} (r : Reps ρ H d v) : Reps ρ' H' d v := r.sub e.toSub
section
variable {ρ : Rho} {H : Hp}
theorem Reps.length : ∀ {ds : List D} {vs : List V}, Reps ρ H ds vs → ds.length = vs.length
  | _, _, .nil => rfl
  | _, _, .cons _ t => congrArg (· + 1) t.length
theorem Reps.get : ∀ {ds : List D} {vs : List V} {i : Nat} {d : D}, Reps ρ H ds vs → ds[i]? = some d → ∃ v, vs[i]? = some v ∧ Rep ρ H d v
  | _, _, _, _, .nil, e => by simp at e
  | _, _, 0, _, .cons r _, e => by simp at e; subst e; exact ⟨_, rfl, r⟩
  | _, _, i + 1, d, .cons _ t, e => by
    obtain ⟨v, h1, h2⟩ := Reps.get (i := i) (d := d) t (by simpa using e)
    exact ⟨v, by simpa using h1, h2⟩
theorem Reps.getV : ∀ {ds : List D} {vs : List V} {i : Nat} {v : V}, Reps ρ H ds vs → vs[i]? = some v → ∃ d, ds[i]? = some d ∧ Rep ρ H d v
  | _, _, _, _, .nil, e => by simp at e
  | _, _, 0, _, .cons r _, e => by simp at e; subst e; exact ⟨_, rfl, r⟩
  | _, _, i + 1, d, .cons _ t, e => by
    obtain ⟨v, h1, h2⟩ := Reps.getV (i := i) (v := d) t (by simpa using e)
    exact ⟨v, by simpa using h1, h2⟩
theorem Reps.append : ∀ {ds es : List D} {vs ws : List V}, Reps ρ H ds vs → Reps ρ H es ws → Reps ρ H (ds ++ es) (vs ++ ws)
  | _, _, _, _, .nil, s => s
  | _, _, _, _, .cons r t, s => .cons r (t.append s)
theorem Reps.take : ∀ {ds : List D} {vs : List V} (n : Nat), Reps ρ H ds vs → Reps ρ H (ds.take n) (vs.take n)
  | _, _, 0, _ => by simpa using Reps.nil
  | _, _, _ + 1, .nil => by simpa using Reps.nil
  | _, _, n + 1, .cons r t => by simpa using Reps.cons r (t.take n)
theorem Reps.drop : ∀ {ds : List D} {vs : List V} (n : Nat), Reps ρ H ds vs → Reps ρ H (ds.drop n) (vs.drop n)
  | _, _, 0, r => by simpa using r
  | _, _, _ + 1, .nil => by simpa using Reps.nil
  | _, _, n + 1, .cons _ t => by simpa using t.drop n
theorem Reps.set {d : D} {v : V} (r : Rep ρ H d v) : ∀ {ds : List D} {vs : List V} (i : Nat), Reps ρ H ds vs → Reps ρ H (ds.set i d) (vs.set i v)
  | _, _, _, .nil => .nil
  | _, _, 0, .cons _ t => .cons r t
  | _, _, i + 1, .cons q t => .cons q (t.set r i)
theorem Reps.one {d : D} {v : V} (r : Rep ρ H d v) : Reps ρ H [d] [v] := .cons r .nil
theorem Reps.dropLast {ds : List D} {vs : List V} (r : Reps ρ H ds vs) : Reps ρ H ds.dropLast vs.dropLast := by
  rw [List.dropLast_eq_take, List.dropLast_eq_take, r.length]
  exact r.take _
end

/-! ### what stands in the memory -/
def kyTo : Ky → Key
  | .i n => .inl n
  | .s x => .inr (SS x)
theorem kyTo_inj {a b : Ky} (h : kyTo a = kyTo b) : a = b := by
  cases a with
  | i n => cases b with
    | i k => simp [kyTo] at h; rw [h]
    | s x => simp [kyTo] at h
  | s x => cases b with
    | i k => simp [kyTo] at h
    | s y => simp [kyTo] at h; rw [h]
def KvR (ρ : Rho) (H : Hp) : List (Ky × D) → List (Key × V) → Prop := Paired fun p q => kyTo p.1 = q.1 ∧ Rep ρ H p.2 q.2
def TvR (ρ : Rho) (H : Hp) : List (List Ky × D) → List (List Key × V) → Prop := Paired fun p q => p.1.map kyTo = q.1 ∧ Rep ρ H p.2 q.2
/-- an iterator that stands ready; told by file MtZip -/
def ItAt (ρ : Rho) (H : Hp) (a : Addr) (xs : List D) : Prop := False
def ObR (ρ : Rho) (H : Hp) (a : Addr) : Ob → Prop
  | .lst xs => ∃ vs, H a = some (.lst vs) ∧ Reps ρ H xs vs
  | .dK kvs => ∃ ws, H a = some (.dK ws) ∧ KvR ρ H kvs ws
  | .dT kvs => ∃ ws, H a = some (.dT ws) ∧ TvR ρ H kvs ws
  | .ins _ _ => False
  | .it xs => ItAt ρ H a xs
  | .tab p q => a = p ∧ ∃ ps, H a = some (.tbl ps) ∧ PySem.TriplesOk ps.toList ∧ ∀ (pos : Pos) (cv : Value), codeAmong pos ps.toList = some cv → ∃ c, cv = .ref c ∧ ¬ live ρ c ∧ H c = some (LamX.CodeO c (SS q))
theorem Paired.imp {α β : Type} {F G : α → β → Prop} (f : ∀ a b, F a b → G a b) : ∀ {l : List α} {l' : List β}, Paired F l l' → Paired G l l'
  | _, _, .nil => .nil
  | _, _, .cons r t => .cons (f _ _ r) (Paired.imp f t)
structure HR (ρ : Rho) (m : Mem) (H : Hp) : Prop where
  len : ρ.c.length = m.length
  inj : ∀ (i j : Nat) (a : Addr), ρ.c[i]? = some (some a) → ρ.c[j]? = some (some a) → i = j
  obj : ∀ (i : Nat) (o : Ob), m[i]? = some (some o) → ∃ a, ρ.c[i]? = some (some a) ∧ ObR ρ H a o
  dead : ∀ (i : Nat), m[i]? = some none → ρ.c[i]? = some none
  bt : ∀ (a : Addr), a ∈ ρ.b → H a ≠ none
  bn : ∀ (i : Nat) (a : Addr), ρ.c[i]? = some (some a) → a ∉ ρ.b
theorem ObR.there {ρ : Rho} {H : Hp} {a : Addr} {o : Ob} (h : ObR ρ H a o) : H a ≠ none := by
  cases o with
  | lst xs => obtain ⟨_, e, _⟩ := h; rw [e]; simp
  | dK xs => obtain ⟨_, e, _⟩ := h; rw [e]; simp
  | dT xs => obtain ⟨_, e, _⟩ := h; rw [e]; simp
  | ins _ _ => exact h.elim
  | it _ => exact False.elim h
  | tab _ _ => obtain ⟨_, _, e, _⟩ := h; rw [e]; simp
/-- a cell lies at something that is tracked -/
theorem HR.tracked {ρ : Rho} {m : Mem} {H : Hp} (h : HR ρ m H) {a : Addr} (l : live ρ a) : H a ≠ none := by
  rcases l with ⟨n, hn⟩ | hb
  case inr => exact h.bt a hb
  have hl : n < m.length := by rw [← h.len]; exact (List.getElem?_eq_some_iff.mp hn).1
  cases e : m[n]? with
  | none => rw [List.getElem?_eq_none_iff] at e; omega
  | some o =>
    cases o with
    | none => rw [h.dead n e] at hn; cases hn
    | some o =>
      obtain ⟨b, hb, ho⟩ := h.obj n o e
      rw [hn] at hb; cases hb
      exact ho.there
theorem HR.fresh {ρ : Rho} {m : Mem} {H : Hp} (h : HR ρ m H) {a : Addr} (n : H a = none) : ¬ live ρ a := fun l => h.tracked l n

/-- a new object that is no cell -/
theorem Ext.new {ρ : Rho} {m : Mem} {H : Hp} (h : HR ρ m H) {p : Addr} {o : HO} (hp : H p = none) : Ext ρ H ρ (upd H p o) :=
  ⟨⟨Nat.le_refl _, fun _ _ _ q => q, fun a u e n => ⟨by rw [upd_ne (ne_of_none e hp)]; exact e, n⟩⟩, rfl, fun a ha => upd_ne fun z => h.bt a ha (z ▸ hp)⟩
theorem ObR.sub {ρ ρ' : Rho} {H H' : Hp} (e : Sub ρ H ρ' H') {a : Addr} {o : Ob} (ha : H' a = H a) (h : ObR ρ H a o) : ObR ρ' H' a o := by
  cases o with
  | lst xs => obtain ⟨vs, h1, h2⟩ := h; exact ⟨vs, ha.trans h1, h2.sub e⟩
  | dK xs => obtain ⟨vs, h1, h2⟩ := h; exact ⟨vs, ha.trans h1, Paired.imp (fun _ _ q => ⟨q.1, q.2.sub e⟩) h2⟩
  | dT xs => obtain ⟨vs, h1, h2⟩ := h; exact ⟨vs, ha.trans h1, Paired.imp (fun _ _ q => ⟨q.1, q.2.sub e⟩) h2⟩
  | ins _ _ => exact h.elim
  | it _ => exact False.elim h
  | tab _ _ =>
    obtain ⟨h1, ps, h2, h3, h4⟩ := h
    exact ⟨h1, ps, ha.trans h2, h3, fun pos cv q => let ⟨c, k1, k2, k3⟩ := h4 pos cv q; ⟨c, k1, (e.keep c _ k3 k2).2, (e.keep c _ k3 k2).1⟩⟩
theorem ObR.mono {ρ ρ' : Rho} {H H' : Hp} (e : Ext ρ H ρ' H') {a : Addr} {o : Ob} (ha : H' a = H a) (h : ObR ρ H a o) : ObR ρ' H' a o := h.sub e.toSub ha
theorem HR.new {ρ : Rho} {m : Mem} {H : Hp} (h : HR ρ m H) {p : Addr} {o : HO} (hp : H p = none) : HR ρ m (upd H p o) :=
  ⟨h.len, h.inj, fun i ob e => by
    obtain ⟨a, h1, h2⟩ := h.obj i ob e
    refine ⟨a, h1, h2.mono (Ext.new h hp) (upd_ne fun z => ?_)⟩
    subst z
    exact h2.there hp, h.dead, fun a ha => by
    rw [upd_ne (show a ≠ p from fun z => h.bt a ha (z ▸ hp))]
    exact h.bt a ha, h.bn⟩
/-- a new cell -/
theorem get_append_one {α : Type} {l : List α} {x y : α} {i : Nat} (h : (l ++ [x])[i]? = some y) : l[i]? = some y ∨ (i = l.length ∧ y = x) := by
  by_cases hi : i < l.length
  · left; rw [List.getElem?_append_left hi] at h; exact h
  · right
    rw [List.getElem?_append_right (by omega)] at h
    have : i - l.length < 1 := by
      have := (List.getElem?_eq_some_iff.mp h).1
      simpa using this
    have e : i = l.length := by omega
    subst e
    simp at h
    exact ⟨rfl, h.symm⟩
theorem live_append {ρ : Rho} {p a : Addr} (h : live (ρ.push p) a) : live ρ a ∨ p = a := by
  rcases h with ⟨n, hn⟩ | hb
  · rcases get_append_one hn with h | ⟨_, h⟩
    · exact .inl (.inl ⟨n, h⟩)
    · cases h; exact .inr rfl
  · exact .inl (.inr hb)
theorem Ext.cell {ρ : Rho} {m : Mem} {H : Hp} (h : HR ρ m H) {p : Addr} {o : HO} (hp : H p = none) : Ext ρ H (ρ.push p) (upd H p o) := by
  refine ⟨⟨by simp [Rho.push], fun n b hn q => ?_, fun a u e n => ⟨by rw [upd_ne (ne_of_none e hp)]; exact e, fun l => ?_⟩⟩, rfl, fun a ha => upd_ne fun z => h.bt a ha (z ▸ hp)⟩
  · rw [List.getElem?_append_left hn] at q; exact q
  · rcases live_append l with l | l
    · exact n l
    · cases l; rw [hp] at e; cases e
theorem HR.cell {ρ : Rho} {m : Mem} {H : Hp} (h : HR ρ m H) {p : Addr} {o : HO} {ob : Ob} (hp : H p = none) (ho : ObR (ρ.push p) (upd H p o) p ob) : HR (ρ.push p) (m ++ [some ob]) (upd H p o) := by
  have nl : ¬ live ρ p := h.fresh hp
  refine ⟨by simp [Rho.push, h.len], fun i j a h1 h2 => ?_, fun i ob' e => ?_, fun i e => ?_, fun a ha => ?_, fun i a h1 h2 => ?_⟩
  · rcases get_append_one h1 with h1 | ⟨h1, e1⟩
    · rcases get_append_one h2 with h2 | ⟨h2, e2⟩
      · exact h.inj i j a h1 h2
      · cases e2; exact absurd (.inl ⟨i, h1⟩) nl
    · rcases get_append_one h2 with h2 | ⟨h2, e2⟩
      · cases e1; exact absurd (.inl ⟨j, h2⟩) nl
      · omega
  · rcases get_append_one e with e | ⟨hi, e⟩
    · obtain ⟨a, h1, h2⟩ := h.obj i ob' e
      refine ⟨a, ?_, h2.mono (Ext.cell h hp) (upd_ne fun z => ?_)⟩
      · show (ρ.c ++ [some p])[i]? = _
        rw [List.getElem?_append_left (List.getElem?_eq_some_iff.mp h1).1]; exact h1
      · subst z; exact h2.there hp
    · cases e
      refine ⟨p, ?_, ho⟩
      rw [hi, ← h.len]
      simp [Rho.push]
  · rcases get_append_one e with e | ⟨hi, e⟩
    · have h1 := h.dead i e
      show (ρ.c ++ [some p])[i]? = _
      rw [List.getElem?_append_left (List.getElem?_eq_some_iff.mp h1).1]; exact h1
    · cases e
  · rw [upd_ne (show a ≠ p from fun z => h.bt a ha (z ▸ hp))]
    exact h.bt a ha
  · rcases get_append_one h1 with h1 | ⟨_, e1⟩
    · exact h.bn i a h1 h2
    · cases e1
      exact nl (.inr h2)
/-- a cell is written -/
theorem Ext.write {ρ : Rho} {m : Mem} {H : Hp} (hm : HR ρ m H) {n : Nat} {a : Addr} {o : HO} (h : ρ.c[n]? = some (some a)) : Ext ρ H ρ (upd H a o) :=
  ⟨⟨Nat.le_refl _, fun _ _ _ q => q, fun b u e nl => ⟨by rw [upd_ne fun z => nl (by subst z; exact .inl ⟨n, h⟩)]; exact e, nl⟩⟩, rfl, fun b hb => upd_ne fun z => hm.bn n a h (z ▸ hb)⟩
theorem HR.write {ρ : Rho} {m : Mem} {H : Hp} (h : HR ρ m H) {n : Nat} {a : Addr} {o : HO} {ob : Ob} (hn : ρ.c[n]? = some (some a)) (ho : ObR ρ (upd H a o) a ob) : HR ρ (m.set n (some ob)) (upd H a o) := by
  have hl : n < m.length := by rw [← h.len]; exact (List.getElem?_eq_some_iff.mp hn).1
  refine ⟨by simp [h.len], h.inj, fun i ob' e => ?_, fun i e => ?_, fun b hb => ?_, h.bn⟩
  · by_cases hi : n = i
    · subst hi
      rw [List.getElem?_set_self hl] at e
      cases e
      exact ⟨a, hn, ho⟩
    · rw [List.getElem?_set_ne hi] at e
      obtain ⟨b, h1, h2⟩ := h.obj i ob' e
      exact ⟨b, h1, h2.mono (Ext.write h hn) (upd_ne fun z => hi (h.inj n i a hn (z ▸ h1)))⟩
  · by_cases hi : n = i
    · subst hi
      rw [List.getElem?_set_self hl] at e
      cases e
    · rw [List.getElem?_set_ne hi] at e
      exact h.dead i e
  · rw [upd_ne (show b ≠ a from fun z => h.bn n a hn (z ▸ hb))]
    exact h.bt b hb
/-- a cell dies: what lies there changes no more -/
theorem live_set {ρ : Rho} {n : Nat} {a : Addr} (h : live (ρ.kill n) a) : live ρ a := by
  rcases h with ⟨i, hi⟩ | hb
  · by_cases e : n = i
    · subst e
      by_cases hl : n < ρ.c.length
      · rw [List.getElem?_set_self hl] at hi; cases hi
      · rw [List.getElem?_eq_none (by simpa using hl)] at hi; cases hi
    · rw [List.getElem?_set_ne e] at hi; exact .inl ⟨i, hi⟩
  · exact .inr hb
theorem Ext.kill {ρ : Rho} {H : Hp} {n : Nat} : Ext ρ H (ρ.kill n) H := by
  refine ⟨⟨by simp [Rho.kill], fun i b hi q => ?_, fun a u e nl => ⟨e, fun l => nl (live_set l)⟩⟩, rfl, fun _ _ => rfl⟩
  by_cases e : n = i
  · subst e; rw [List.getElem?_set_self hi] at q; cases q
  · rw [List.getElem?_set_ne e] at q; exact q
theorem HR.kill {ρ : Rho} {m : Mem} {H : Hp} (h : HR ρ m H) {n : Nat} : HR (ρ.kill n) (m.set n none) H := by
  refine ⟨by simp [Rho.kill, h.len], fun i j a h1 h2 => ?_, fun i ob e => ?_, fun i e => ?_, h.bt, fun i a h1 h2 => ?_⟩
  · by_cases e : n = i
    · subst e
      have hl := (List.getElem?_eq_some_iff.mp h1).1
      rw [List.getElem?_set_self (by simpa using hl)] at h1; cases h1
    · by_cases e2 : n = j
      · subst e2
        have hl := (List.getElem?_eq_some_iff.mp h2).1
        rw [List.getElem?_set_self (by simpa using hl)] at h2; cases h2
      · rw [List.getElem?_set_ne e] at h1
        rw [List.getElem?_set_ne e2] at h2
        exact h.inj i j a h1 h2
  · by_cases hi : n = i
    · subst hi
      have hl := (List.getElem?_eq_some_iff.mp e).1
      rw [List.getElem?_set_self (by simpa using hl)] at e; cases e
    · rw [List.getElem?_set_ne hi] at e
      obtain ⟨b, h1, h2⟩ := h.obj i ob e
      exact ⟨b, by show (ρ.c.set n none)[i]? = _; rw [List.getElem?_set_ne hi]; exact h1, h2.mono Ext.kill rfl⟩
  · show (ρ.c.set n none)[i]? = _
    by_cases hi : n = i
    · subst hi
      have hl := (List.getElem?_eq_some_iff.mp e).1
      rw [List.getElem?_set_self (by rw [h.len]; simpa using hl)]
    · rw [List.getElem?_set_ne hi] at e ⊢
      exact h.dead i e
  · by_cases e : n = i
    · subst e
      have hl := (List.getElem?_eq_some_iff.mp h1).1
      rw [List.getElem?_set_self (by simpa using hl)] at h1; cases h1
    · rw [List.getElem?_set_ne e] at h1
      exact h.bn i a h1 h2
/-- the last cells are forgotten -/
theorem live_take {ρ : Rho} {n : Nat} {a : Addr} (l : live (ρ.cut n) a) : live ρ a := by
  rcases l with ⟨i, hi⟩ | hb
  · by_cases h2 : i < n
    · rw [List.getElem?_take_of_lt h2] at hi; exact .inl ⟨i, hi⟩
    · rw [List.getElem?_eq_none (by simp; omega)] at hi; cases hi
  · exact .inr hb
theorem Ext.take {ρ ρ' : Rho} {H H' : Hp} (e : Ext ρ H ρ' H') : Ext ρ H (ρ'.cut ρ.c.length) H' := by
  refine ⟨⟨by simp [Rho.cut, e.len], fun i b hi q => ?_, fun a u h nl => ⟨(e.keep a u h nl).1, fun l => (e.keep a u h nl).2 (live_take l)⟩⟩, e.ban, e.bk⟩
  rw [List.getElem?_take_of_lt hi] at q; exact e.old i b hi q
mutual
theorem Rep.cut {ρ : Rho} {H : Hp} {n : Nat} (hn : n ≤ ρ.c.length) : ∀ {d : D} {v : V}, Rep ρ H d v → below n d = true → Rep (ρ.cut n) H d v
  | _, _, .non, _ => .non
  | _, _, .bl b, _ => .bl b
  | _, _, .int i, _ => .int i
  | _, _, .str x, _ => .str x
  | _, _, .tup h nl r, b => by
    unfold below at b
    exact .tup h (fun l => nl (live_take l)) (Reps.cut hn r b)
  | _, _, .lst h nl r, b => by
    unfold below at b
    exact .lst h (fun l => nl (live_take l)) (Reps.cut hn r b)
  | _, _, .scr h nl r, b => by
    unfold below at b
    exact .scr h (fun l => nl (live_take l)) (Reps.cut hn r b)
  | _, _, .ptp h d nl r, b => by
    unfold below at b
    exact .ptp h d (fun l => nl (live_take l)) (Reps.cut hn r b)
  | _, _, .ref (n := k) h q, b => by
    unfold below at b
    have hk : k < n := by simpa [Nat.blt_eq] using b
    exact .ref (by simp; omega) fun c e => q c (by rw [List.getElem?_take_of_lt hk] at e; exact e)
theorem Reps.cut {ρ : Rho} {H : Hp} {n : Nat} (hn : n ≤ ρ.c.length) : ∀ {ds : List D} {vs : List V}, Reps ρ H ds vs → belows n ds = true → Reps (ρ.cut n) H ds vs
  | _, _, .nil, _ => .nil
  | _, _, .cons (d := d) r t, b => by
    unfold belows at b
    cases e : Mt.below n d with
    | true => rw [e] at b; exact .cons (Rep.cut hn r e) (Reps.cut hn t b)
    | false => rw [e] at b; cases b
end
theorem Paired.all {α β : Type} {F G : α → β → Prop} {p : α → Bool} (f : ∀ a b, p a = true → F a b → G a b) : ∀ {l : List α} {l' : List β}, l.all p = true → Paired F l l' → Paired G l l'
  | _, _, _, .nil => .nil
  | _, _, h, .cons r t => by
    rw [List.all_cons, Bool.and_eq_true] at h
    exact .cons (f _ _ h.1 r) (Paired.all f h.2 t)
theorem ObR.cut {ρ : Rho} {H : Hp} {n : Nat} (hn : n ≤ ρ.c.length) {a : Addr} {o : Ob} (h : ObR ρ H a o) (b : belowO n (some o) = true) : ObR (ρ.cut n) H a o := by
  cases o with
  | lst xs => obtain ⟨vs, h1, h2⟩ := h; exact ⟨vs, h1, Reps.cut hn h2 b⟩
  | dK xs => obtain ⟨vs, h1, h2⟩ := h; exact ⟨vs, h1, Paired.all (fun _ _ q r => ⟨r.1, Rep.cut hn r.2 q⟩) b h2⟩
  | dT xs => obtain ⟨vs, h1, h2⟩ := h; exact ⟨vs, h1, Paired.all (fun _ _ q r => ⟨r.1, Rep.cut hn r.2 q⟩) b h2⟩
  | ins _ _ => exact h.elim
  | it _ => exact False.elim h
  | tab _ _ =>
    obtain ⟨h1, ps, h2, h3, h4⟩ := h
    exact ⟨h1, ps, h2, h3, fun pos cv q => let ⟨c, k1, k2, k3⟩ := h4 pos cv q; ⟨c, k1, fun l => k2 (live_take l), k3⟩⟩
theorem HR.take {ρ : Rho} {m : Mem} {H : Hp} (h : HR ρ m H) {n : Nat} (hn : n ≤ ρ.c.length) (b : (m.take n).all (belowO n) = true) : HR (ρ.cut n) (m.take n) H := by
  refine ⟨by simp [h.len], fun i j a h1 h2 => ?_, fun i ob e => ?_, fun i e => ?_, h.bt, fun i a h1 h2 => ?_⟩
  · have hi : i < n := by have := (List.getElem?_eq_some_iff.mp h1).1; simp at this; omega
    have hj : j < n := by have := (List.getElem?_eq_some_iff.mp h2).1; simp at this; omega
    rw [List.getElem?_take_of_lt hi] at h1
    rw [List.getElem?_take_of_lt hj] at h2
    exact h.inj i j a h1 h2
  · have hi : i < n := by have := (List.getElem?_eq_some_iff.mp e).1; simp at this; omega
    have hb := List.all_eq_true.mp b _ (List.mem_of_getElem? e)
    rw [List.getElem?_take_of_lt hi] at e
    obtain ⟨a, h1, h2⟩ := h.obj i ob e
    exact ⟨a, by show (ρ.c.take n)[i]? = _; rw [List.getElem?_take_of_lt hi]; exact h1, h2.cut hn hb⟩
  · show (ρ.c.take n)[i]? = _
    have hi : i < n := by have := (List.getElem?_eq_some_iff.mp e).1; simp at this; omega
    rw [List.getElem?_take_of_lt hi] at e ⊢
    exact h.dead i e
  · have hi : i < n := by have := (List.getElem?_eq_some_iff.mp h1).1; simp at this; omega
    rw [List.getElem?_take_of_lt hi] at h1
    exact h.bn i a h1 h2
/-- something is being made -/
abbrev Rho.ban (ρ : Rho) (D : Addr) : Rho := ⟨ρ.c, D :: ρ.b⟩

/-! ### the names -/
def EnvR (ρ : Rho) (H : Hp) (e : Env) (σ : L2.St) : Prop := e.length = σ.length ∧ ∀ (i : Nat) (d : D), e[i]? = some (some d) → ∃ v, σ[i]? = some (some v) ∧ Rep ρ H d v
theorem EnvR.mono {ρ ρ' : Rho} {H H' : Hp} {e : Env} {σ : L2.St} (x : Ext ρ H ρ' H') (h : EnvR ρ H e σ) : EnvR ρ' H' e σ := ⟨h.1, fun i d q => let ⟨v, h1, h2⟩ := h.2 i d q; ⟨v, h1, h2.mono x⟩⟩
theorem EnvR.sub {ρ ρ' : Rho} {H H' : Hp} {e : Env} {σ : L2.St} (x : Sub ρ H ρ' H') (h : EnvR ρ H e σ) : EnvR ρ' H' e σ := ⟨h.1, fun i d q => let ⟨v, h1, h2⟩ := h.2 i d q; ⟨v, h1, h2.sub x⟩⟩
theorem EnvR.set {ρ : Rho} {H : Hp} {e : Env} {σ : L2.St} {i : Nat} {d : D} {v : V} (h : EnvR ρ H e σ) (r : Rep ρ H d v) : EnvR ρ H (e.set i (some d)) (σ.set i (some v)) := by
  refine ⟨by simp [h.1], fun j d' q => ?_⟩
  by_cases hi : i = j
  · subst hi
    have hl : i < e.length := by have := (List.getElem?_eq_some_iff.mp q).1; simpa using this
    rw [List.getElem?_set_self hl] at q
    cases q
    exact ⟨v, List.getElem?_set_self (by rw [← h.1]; exact hl), r⟩
  · rw [List.getElem?_set_ne hi] at q ⊢
    exact h.2 j d' q

/-! ### readings -/
/-- an exception of the class c with these fields -/
def ExcR (cls : Nat → Value) (fns : Nat → List Str) (ρ : Rho) (H : Hp) (c : Nat) (fs : List D) (cv : Value) (d : Option Addr) : Prop :=
  cv = cls c ∧ match d with
    | none => fs = []
    | some a => ∃ vs : List (Str × V), H a = some (.xd vs) ∧ vs.map (·.1) = fns c ∧ Reps ρ H fs (vs.map (·.2))
/-- the classes of the text -/
structure Cls where
  cls : Nat → Value
  fns : Nat → List Str
def Post (C : Cls) (ρ : Rho) (H : Hp) (r : R D) (Q : VK) (E : XK) : Prop :=
  match r with
  | .ok d m => ∀ ρ' H' v, Ext ρ H ρ' H' → HR ρ' m H' → Rep ρ' H' d v → Q v H'
  | .exc c fs m => ∀ ρ' H' cv d, Ext ρ H ρ' H' → HR ρ' m H' → ExcR C.cls C.fns ρ' H' c fs cv d → E cv d H'
  | .bad _ => False
def tX (C : Cls) (W : WX) (f : X) : TE := fun σ H Q => ∃ ρ e m, EnvR ρ H e σ ∧ HR ρ m H ∧ Post C ρ H (f e m) Q fun cv d H' => W cv d σ H'
theorem Post.imp {C : Cls} {ρ : Rho} {H : Hp} {r : R D} {Q Q' : VK} {E : XK} (h : Post C ρ H r Q E) (k : ∀ v H', Q v H' → Q' v H') : Post C ρ H r Q' E := by
  cases r with
  | ok d m => exact fun ρ' H' v a b c => k _ _ (h ρ' H' v a b c)
  | exc c fs m => exact h
  | bad w => exact h
/-- what follows -/
theorem Post.bind {C : Cls} {ρ : Rho} {H : Hp} {r : R D} {f : D → Mem → R D} {Q : VK} {E : XK} (h : Post C ρ H (r.bind f) Q E) :
    Post C ρ H r (fun v H' => ∃ ρ' d m', Ext ρ H ρ' H' ∧ HR ρ' m' H' ∧ Rep ρ' H' d v ∧ Post C ρ' H' (f d m') Q E) E := by
  cases r with
  | ok d m =>
    intro ρ' H' v a b c
    refine ⟨ρ', d, m, a, b, c, ?_⟩
    have h' : Post C ρ H (f d m) Q E := h
    revert h'
    cases f d m with
    | ok d' m' => exact fun h' ρ2 H2 v2 x y z => h' ρ2 H2 v2 (a.trans x) y z
    | exc k fs m' => exact fun h' ρ2 H2 cv dd x y z => h' ρ2 H2 cv dd (a.trans x) y z
    | bad w => exact fun h' => h'
  | exc c fs m => exact h
  | bad w => exact h
end Mt
end
section
set_option linter.all false
set_option autoImplicit false
set_option maxRecDepth 100000
set_option maxHeartbeats 4000000
/-! MtMul: a tuple times a number: none, once, often. -/
namespace Mt
open PySem PySem.Spec PyProof.Rows L2
theorem tmul_same (l : Addr) (items : Array Value) (n : Nat) (dd : Option Addr) (sl : Array (Option Value)) (x : Int) (u : Tok) (c0 : (decide (x < -(2 ^ 63)) || decide (x ≥ 2 ^ 63)) = false) (c1 : (items.isEmpty || x == 1) = true) :
    Meets (Builtin.«tuple.__mul__» ⟨[.ref l, .int x u], []⟩) (fun _ R s => s.heap.get? l = some { cls := .type "tuple", dict := dd, data := .seq items n, slots := sl } ∧ R (.ok (.ret (Value.ref l))) s) :=
  .of_wp fun prog w A R s h => by
    obtain ⟨hp, g, d, tk, os⟩ := s
    obtain ⟨hl, h⟩ := h
    have f1 := AutoSeq1.idx_int
    wp_walk using PySem.AutoSeq1.wpAny_loadPart' hl
    repeat (first
      | (refine wpAny_ite_false (decide_eq_false (by rw [c0]; exact Bool.false_ne_true)) ?_; wp_walk using PySem.AutoSeq1.wpAny_loadPart' hl)
      | (refine wpAny_ite_true (decide_eq_true (by rw [c1])) ?_; wp_walk using PySem.AutoSeq1.wpAny_loadPart' hl))
    exact ⟨_, rfl, h⟩
theorem tmul_none (l : Addr) (items : Array Value) (n : Nat) (dd : Option Addr) (sl : Array (Option Value)) (x : Int) (u : Tok) (c0 : (decide (x < -(2 ^ 63)) || decide (x ≥ 2 ^ 63)) = false) (c1 : (items.isEmpty || x == 1) = false) (c2 : (decide (x ≤ 0) || items.isEmpty) = true) :
    Meets (Builtin.«tuple.__mul__» ⟨[.ref l, .int x u], []⟩) (fun _ R s => s.heap.get? l = some { cls := .type "tuple", dict := dd, data := .seq items n, slots := sl } ∧
      R (.ok (.ret (Value.ref s.heap.objs.size))) { s with heap := s.heap.push { cls := Value.type "tuple", data := Data.seq #[] }, toks := s.toks }) :=
  .of_wp fun prog w A R s h => by
    obtain ⟨hp, g, d, tk, os⟩ := s
    obtain ⟨hl, h⟩ := h
    have f1 := AutoSeq1.idx_int
    wp_walk using PySem.AutoSeq1.wpAny_loadPart' hl
    repeat (first
      | (refine wpAny_ite_false (decide_eq_false (by rw [c0]; exact Bool.false_ne_true)) ?_; wp_walk using PySem.AutoSeq1.wpAny_loadPart' hl)
      | (refine wpAny_ite_false (decide_eq_false (by rw [c1]; exact Bool.false_ne_true)) ?_; wp_walk using PySem.AutoSeq1.wpAny_loadPart' hl)
      | (refine wpAny_ite_true (decide_eq_true (by rw [c2])) ?_; wp_walk using PySem.AutoSeq1.wpAny_loadPart' hl))
    exact ⟨_, rfl, h⟩
def rRepA (K : PySem.W.Frag) : R2 := fun x y H Q => ∃ l k xs, x = .ref l ∧ y = .int k ∧ SqT K H l xs ∧ -(2 ^ 63) ≤ k ∧ k < 2 ^ 63 ∧ ((xs = [] ∨ k = 1) ∧ Q (.ref l) H ∨ (xs ≠ [] ∧ k ≤ 0 ∧ ∀ p, H p = none → Q (.ref p) (upd H p (.tup []))))
section
variable {X : Cx}
theorem op_repSmall : OpR X (binaryOp .Mult) (rRepA X.K) := by
  intro pins s σ H x y v u Q I rx ry h
  obtain ⟨l, k, xs, rfl, rfl, hT, hlo, hhi, h⟩ := h
  cases rx
  obtain ⟨t, rfl⟩ := ry
  obtain ⟨its, r, ⟨⟨cls, dd, data, sl⟩, ho, hc, n, hd⟩, hs⟩ := I.tuple hT
  simp only at hc hd
  subst hc hd
  have hle : its.length = xs.length := r.length.symm
  have c0 : (decide (k < -(2 ^ 63)) || decide (k ≥ 2 ^ 63)) = false := by
    rw [decide_eq_false (by omega), decide_eq_false (by omega)] <;> rfl
  rcases h with ⟨h1, q⟩ | ⟨h1, h2, q⟩
  · have c1 : (its.toArray.isEmpty || k == 1) = true := by
      rcases h1 with e | e
      · subst e
        have : its = [] := List.eq_nil_of_length_eq_zero hle
        subst this; rfl
      · subst e; simp
    refine wpAny_binaryOp_repeat_ref (T := "tuple") (U := "int") (by decide) ⟨_, ho, rfl⟩ (fun s' => typeIs_int s' k t) noFill_tuple_mul F.fills_int_mul F.slot_int_rmul repeat_tuple F.slot_int_index.lookup
      (call_meets F.slot_int_rmul (typeIs_int s k t) F.entry_int_rmul (F.args_int_rmul_2 _ _) (int_rmul_tuple k t l its.toArray n dd sl)
        ⟨ho, rfl, ⟨_, ho, rfl⟩, call_meets F.slot_tuple_mul ⟨_, ho, rfl⟩ F.entry_tuple_mul (F.args_tuple_mul_2 _ _) (tmul_same l its.toArray n dd sl k t c0 c1) ⟨ho, ?_⟩⟩)
    exact ⟨.ref l, H, I, rfl, q⟩
  · have hn : its ≠ [] := fun e => h1 (by
      rw [e] at hle
      exact List.eq_nil_of_length_eq_zero hle.symm)
    have hi : its.toArray.isEmpty = false := by
      cases its with
      | nil => exact absurd rfl hn
      | cons a b => rfl
    have c1 : (its.toArray.isEmpty || k == 1) = false := by
      rw [hi, Bool.false_or]
      exact beq_eq_false_iff_ne.mpr (by omega)
    have c2 : (decide (k ≤ 0) || its.toArray.isEmpty) = true := by
      rw [decide_eq_true h2]; rfl
    refine wpAny_binaryOp_repeat_ref (T := "tuple") (U := "int") (by decide) ⟨_, ho, rfl⟩ (fun s' => typeIs_int s' k t) noFill_tuple_mul F.fills_int_mul F.slot_int_rmul repeat_tuple F.slot_int_index.lookup
      (call_meets F.slot_int_rmul (typeIs_int s k t) F.entry_int_rmul (F.args_int_rmul_2 _ _) (int_rmul_tuple k t l its.toArray n dd sl)
        ⟨ho, rfl, ⟨_, ho, rfl⟩, call_meets F.slot_tuple_mul ⟨_, ho, rfl⟩ F.entry_tuple_mul (F.args_tuple_mul_2 _ _) (tmul_none l its.toArray n dd sl k t c0 c1 c2) ⟨ho, ?_⟩⟩)
    refine ⟨.ref s.heap.objs.size, _, I.laid (t' := s.toks) (o := .tup []) (fun b ob q => Heap.get?_push_of_some _ q) (Nat.le_refl _) ?_, rfl, q _ (I.hok.fresh (Nat.le_refl _))⟩
    exact ⟨Nat.zero_le _, [], .nil, IsTup.new _ _⟩
end
end Mt
end
section
set_option linter.all false
set_option autoImplicit false
set_option maxRecDepth 100000
set_option maxHeartbeats 1000000
/-! MtS2: what the evaluator's operators do is what the model's do. -/
namespace Mt
open PySem PySem.Spec PyProof.Rows L2

section
variable {C : Cls} {ρ : Rho} {H : Hp} {m : Mem} {Q : VK} {E : XK}
theorem Post.val {d : D} {v : V} (hm : HR ρ m H) (h : Post C ρ H (.ok d m) Q E) (r : Rep ρ H d v) : Q v H := h ρ H v (Ext.refl _ _) hm r
theorem Post.newTup {xs : List D} {vs : List V} {p : Addr} (hm : HR ρ m H) (h : Post C ρ H (.ok (.tup xs) m) Q E) (r : Reps ρ H xs vs) (hp : H p = none) : Q (.ref p) (upd H p (.tup vs)) :=
  h ρ _ _ (Ext.new hm hp) (hm.new hp) (.tup upd_same (hm.fresh hp) (r.mono (Ext.new hm hp)))
theorem Post.newLst {xs : List D} {vs : List V} {p : Addr} (hm : HR ρ m H) (h : Post C ρ H (.ok (.lst xs) m) Q E) (r : Reps ρ H xs vs) (hp : H p = none) : Q (.ref p) (upd H p (.lst vs)) :=
  h ρ _ _ (Ext.new hm hp) (hm.new hp) (.lst upd_same (hm.fresh hp) (r.mono (Ext.new hm hp)))
theorem Post.newCell {ob : Ob} {o : HO} {p : Addr} (hm : HR ρ m H) (h : Post C ρ H (.ok (.ref m.length) (m ++ [some ob])) Q E) (hp : H p = none) (ho : ObR (ρ.push p) (upd H p o) p ob) : Q (.ref p) (upd H p o) := by
  refine h _ _ _ (Ext.cell hm hp) (hm.cell hp ho) (.ref (by simp [Rho.push, hm.len]) fun b hb => ?_)
  rw [← hm.len] at hb
  simpa using hb.symm
/-- a cell is written, a value comes -/
theorem Post.write {ob : Ob} {o : HO} {n : Nat} {a : Addr} {d : D} {v : V} (hm : HR ρ m H) (h : Post C ρ H (.ok d (m.set n (some ob))) Q E) (hn : ρ.c[n]? = some (some a)) (ho : ObR ρ (upd H a o) a ob) (r : Rep ρ H d v) : Q v (upd H a o) :=
  h _ _ _ (Ext.write hm hn) (hm.write hn ho) (r.mono (Ext.write hm hn))

theorem cell_at {n : Nat} {o : Ob} {v : V} (hm : HR ρ m H) (r : Rep ρ H (.ref n) v) (e : m[n]? = some (some o)) : ∃ a, v = .ref a ∧ ρ.c[n]? = some (some a) ∧ ObR ρ H a o := by
  obtain ⟨a, h1, h2⟩ := hm.obj n o e
  cases r with
  | ref hn k => exact ⟨a, by rw [k a h1], h1, h2⟩
theorem list_of {d : D} {v : V} {xs : List D} (hm : HR ρ m H) (r : Rep ρ H d v) (e : listOf m d = some xs) : ∃ a vs, v = .ref a ∧ H a = some (.lst vs) ∧ Reps ρ H xs vs := by
  cases r with
  | lst h n rs => simp only [listOf] at e; cases e; exact ⟨_, _, rfl, h, rs⟩
  | @ref k a hk hq =>
    simp only [listOf] at e
    split at e
    · rename_i ys q
      cases e
      obtain ⟨a', e1, _, vs, h1, h2⟩ := cell_at hm (.ref hk hq) q
      cases e1
      exact ⟨_, vs, rfl, h1, h2⟩
    · cases e
  | _ => simp [listOf] at e
theorem seq_of {d : D} {v : V} {xs : List D} (hm : HR ρ m H) (r : Rep ρ H d v) (e : seqOf m d = some xs) : ∃ a vs, v = .ref a ∧ (Rd H a (.lst vs) ∨ Rd H a (.tup vs)) ∧ Reps ρ H xs vs := by
  cases r with
  | tup h n rs => simp only [seqOf] at e; cases e; exact ⟨_, _, rfl, .inr (.of h), rs⟩
  | ptp h d n rs => simp only [seqOf] at e; cases e; exact ⟨_, _, rfl, .inr (.inr ⟨_, h⟩), rs⟩
  | lst h n rs => simp only [seqOf] at e; cases e; exact ⟨_, _, rfl, .inl (.inl h), rs⟩
  | scr h n rs => simp only [seqOf] at e; cases e; exact ⟨_, _, rfl, .inl h, rs⟩
  | @ref k a hk hq =>
    simp only [seqOf] at e
    split at e
    · rename_i ys q
      cases e
      obtain ⟨a', e1, _, vs, h1, h2⟩ := cell_at hm (.ref hk hq) q
      cases e1
      exact ⟨_, vs, rfl, .inl (.inl h1), h2⟩
    · cases e
  | _ => simp [seqOf] at e
theorem sq_of (K : PySem.W.Frag) {a : Addr} {vs : List V} (h : Rd H a (.lst vs) ∨ Rd H a (.tup vs)) : SqL K H a vs ∨ SqT K H a vs := h.elim (fun h => .inl (.inl h)) fun h => .inr (.inl h)
end

/-! ### operators with two operands -/
def rOp (C : Cls) (E : XK) (f : Mem → D → D → R D) : R2 := fun x y H Q => ∃ ρ m dx dy, HR ρ m H ∧ Rep ρ H dx x ∧ Rep ρ H dy y ∧ Post C ρ H (f m dx dy) Q E
section
variable {X : Cx} {C : Cls} {E : XK}
theorem SS_app (a b : List Nat) : SS a ++ SS b = SS (a ++ b) := SX.S_cat a b
theorem ok_add : OpR X (binaryOp .Add) (rOp C E bAdd) := by
  intro pins s σ H x y v u Q I rx ry h
  obtain ⟨ρ, m, dx, dy, hm, ra, rb, h⟩ := h
  unfold bAdd at h
  split at h
  · cases ra; cases rb
    exact op_add pins s σ H _ _ v u Q I rx ry ⟨_, _, rfl, rfl, h.val hm (.int _)⟩
  · cases ra; cases rb
    split at h
    · rename_i hl
      refine op_add_str pins s σ H _ _ v u Q I rx ry ⟨_, _, rfl, rfl, ?_, ?_⟩
      · rw [SS_len, SS_len, sizeLine_eq]; simpa [lineN] using hl
      · rw [SS_app]; exact h.val hm (.str _)
    · exact h.elim
  · cases ra with
    | tup h1 n1 r1 =>
      cases rb with
      | tup h2 n2 r2 =>
        split at h
        · rename_i hl
          refine op_catA pins s σ H _ _ v u Q I rx ry ⟨_, _, _, _, rfl, rfl, .of h1, .of h2, ?_, fun e => ?_, fun e1 e => ?_, fun e1 e2 p hp => ?_⟩
          · rw [← r1.length, ← r2.length, sizeLine_eq]; simpa [lineN] using hl
          · subst e
            cases r1
            exact h.val hm (.tup h2 n2 r2)
          · subst e
            cases r2
            rw [List.append_nil] at h
            exact h.val hm (.tup h1 n1 r1)
          · exact h.newTup hm (r1.append r2) hp
        · exact h.elim
  · split at h
    · rename_i xs ys e1 e2
      obtain ⟨a, vs, rfl, h1, r1⟩ := list_of hm ra e1
      obtain ⟨b, ws, rfl, h2, r2⟩ := list_of hm rb e2
      split at h
      · rename_i hl
        refine op_cat pins s σ H _ _ v u Q I rx ry ⟨a, b, vs, ws, rfl, rfl, h1, h2, ?_, fun p hp => ?_⟩
        · rw [← r1.length, ← r2.length, sizeLine_eq]; simpa [lineN] using hl
        · exact h.newLst hm (r1.append r2) hp
      · exact h.elim
    · exact h.elim
theorem ok_sub : OpR X (binaryOp .Sub) (rOp C E bSub) := by
  intro pins s σ H x y v u Q I rx ry h
  obtain ⟨ρ, m, dx, dy, hm, ra, rb, h⟩ := h
  unfold bSub at h
  split at h
  · cases ra; cases rb
    exact op_sub pins s σ H _ _ v u Q I rx ry ⟨_, _, rfl, rfl, h.val hm (.int _)⟩
  · exact h.elim
theorem ok_fdiv : OpR X (binaryOp .FloorDiv) (rOp C E bDiv) := by
  intro pins s σ H x y v u Q I rx ry h
  obtain ⟨ρ, m, dx, dy, hm, ra, rb, h⟩ := h
  unfold bDiv at h
  split at h
  · cases ra; cases rb
    split at h
    · rename_i hl
      simp only [Bool.and_eq_true, decide_eq_true_eq] at hl
      exact op_fdiv pins s σ H _ _ v u Q I rx ry ⟨_, _, rfl, rfl, hl, h.val hm (.int _)⟩
    · exact h.elim
  · exact h.elim
theorem ok_mod : OpR X (binaryOp .Mod) (rOp C E bMod) := by
  intro pins s σ H x y v u Q I rx ry h
  obtain ⟨ρ, m, dx, dy, hm, ra, rb, h⟩ := h
  unfold bMod at h
  split at h
  · cases ra; cases rb
    split at h
    · rename_i hl
      simp only [decide_eq_true_eq] at hl
      exact op_mod pins s σ H _ _ v u Q I rx ry ⟨_, _, rfl, rfl, hl, h.val hm (.int _)⟩
    · exact h.elim
  · exact h.elim
theorem ok_pow : OpR X (binaryOp .Pow) (rOp C E bPow) := by
  intro pins s σ H x y v u Q I rx ry h
  obtain ⟨ρ, m, dx, dy, hm, ra, rb, h⟩ := h
  unfold bPow at h
  split at h
  · cases ra; cases rb
    split at h
    · rename_i hl
      simp only [bit64, Bool.and_eq_true, decide_eq_true_eq] at hl
      refine op_pow pins s σ H _ _ v u Q I rx ry ⟨_, _, rfl, rfl, ⟨hl.1.1, by omega, ?_⟩, h.val hm (.int _)⟩
      have e : (2 ^ 64 : Nat) = 18446744073709551616 := by decide
      omega
    · exact h.elim
  · exact h.elim
theorem bit64_of {i : Int} (h : bit64 i = true) : -(2 ^ 64) < i ∧ i < 2 ^ 64 := by
  simp only [bit64, Bool.and_eq_true, decide_eq_true_eq] at h
  exact ⟨by omega, by omega⟩
theorem rep_reps {ρ : Rho} {H : Hp} {xs : List D} {vs : List V} (r : Reps ρ H xs vs) : ∀ n : Nat, Reps ρ H (rep xs n) (List.replicate n vs).flatten
  | 0 => by simpa [rep] using Reps.nil
  | n + 1 => by
    rw [List.replicate_succ, List.flatten_cons]
    exact r.append (rep_reps r n)
theorem ok_mul : OpR X (binaryOp .Mult) (rOp C E bMul) := by
  intro pins s σ H x y v u Q I rx ry h
  obtain ⟨ρ, m, dx, dy, hm, ra, rb, h⟩ := h
  unfold bMul at h
  split at h
  · rename_i j
    cases rb
    split at h
    · rename_i i
      cases ra
      split at h
      · rename_i hl
        have fin := h.val hm (.int _)
        by_cases h1 : bit64 i = true
        · exact op_mul pins s σ H _ _ v u Q I rx ry ⟨_, _, rfl, rfl, .inl (bit64_of h1), fin⟩
        · by_cases h2 : bit64 j = true
          · exact op_mul pins s σ H _ _ v u Q I rx ry ⟨_, _, rfl, rfl, .inr (bit64_of h2), fin⟩
          · have h3 : bit4000 i = true ∧ bit4000 j = true := by
              simpa [h1, h2] using hl
            simp only [bit4000, decide_eq_true_eq] at h3
            exact op_mulW pins s σ H _ _ v u Q I rx ry ⟨_, _, rfl, rfl, wide_mul h3.1 h3.2 (by decide) (by decide) (by decide), fin⟩
      · exact h.elim
    · rename_i xs
      cases ra with
      | @tup a vs _ h1 n1 r1 =>
        split at h
        · rename_i hl
          simp only [Bool.and_eq_true, decide_eq_true_eq, Nat.ble_eq] at hl
          have hv := r1.length
          by_cases c1 : vs = [] ∨ j = 1
          · refine op_repSmall pins s σ H _ _ v u Q I rx ry ⟨_, _, _, rfl, rfl, .of h1, by omega, by omega, .inl ⟨c1, ?_⟩⟩
            have e : rep xs j.toNat = xs := by
              rcases c1 with e | e
              · subst e
                have : xs = [] := List.eq_nil_of_length_eq_zero hv
                subst this
                have : ∀ n : Nat, rep ([] : List D) n = [] := fun n => by
                  induction n with
                  | zero => rfl
                  | succ n ih => rw [rep, ih]; rfl
                exact this _
              · subst e
                show xs ++ [] = xs
                rw [List.append_nil]
            rw [e] at h
            exact h.val hm (.tup h1 n1 r1)
          · have c2 : vs ≠ [] := fun e => c1 (.inl e)
            have c3 : j ≠ 1 := fun e => c1 (.inr e)
            by_cases c4 : j ≤ 0
            · refine op_repSmall pins s σ H _ _ v u Q I rx ry ⟨_, _, _, rfl, rfl, .of h1, by omega, by omega, .inr ⟨c2, c4, fun p hp => ?_⟩⟩
              have e : j.toNat = 0 := by omega
              rw [e] at h
              exact h.newTup hm .nil hp
            · exact op_repT pins s σ H _ _ v u Q I rx ry ⟨_, _, _, rfl, rfl, .of h1, c2, by omega, by omega, by omega, fun p hp => h.newTup hm (rep_reps r1 _) hp⟩
        · exact h.elim
    · exact h.elim
    · split at h
      · rename_i e
        obtain ⟨a, vs, rfl, h1, r1⟩ := list_of hm ra e
        split at h
        · rename_i hl
          simp only [small63, Bool.and_eq_true, decide_eq_true_eq, Nat.ble_eq, lineN] at hl
          refine op_rep pins s σ H _ _ v u Q I rx ry ⟨_, _, _, rfl, rfl, h1, by omega, by omega, ?_, fun p hp => h.newLst hm (rep_reps r1 _) hp⟩
          rw [← r1.length, sizeLine_eq]
          exact hl.2
        · exact h.elim
      · exact h.elim
  · exact h.elim

/-! ### comparisons -/
theorem intEq_iff {a b : Int} : intEq a b = decide (a = b) := rfl
theorem natsEq_iff : ∀ {a b : List Nat}, natsEq a b = true ↔ a = b
  | [], [] => by simp [natsEq]
  | [], _ :: _ => by simp [natsEq]
  | _ :: _, [] => by simp [natsEq]
  | x :: xs, y :: ys => by
    unfold natsEq
    cases e : Nat.beq x y with
    | true =>
      have := Nat.eq_of_beq_eq_true e
      subst this
      simpa using natsEq_iff (a := xs) (b := ys)
    | false =>
      have : x ≠ y := Nat.ne_of_beq_eq_false e
      simp [this]
mutual
def toPy : D → PyData
  | .non => .none
  | .bl b => .bool b
  | .int i => .int i
  | .str x => .str (SS x)
  | .tup xs => .tuple (toPys xs)
  | .lst xs => .list (toPys xs)
  | .scr _ => .none
  | .ptp _ => .none
  | .ref _ => .none
def toPys : List D → List PyData
  | [] => []
  | x :: xs => toPy x :: toPys xs
end
mutual
theorem dp_of (K : PySem.W.Frag) {ρ : Rho} {H : Hp} : ∀ {d : D} {v : V}, Rep ρ H d v → plain d = true → Dp K H v (toPy d)
  | _, _, .non, _ => by rw [toPy]; exact .non
  | _, _, .bl b, _ => by rw [toPy]; exact .bl b
  | _, _, .int i, _ => by rw [toPy]; exact .int i
  | _, _, .str x, _ => by rw [toPy]; exact .str _
  | _, _, .tup h n r, p => by
    rw [toPy]
    rw [plain] at p
    exact .tup (.of h) (dps_of K r p)
  | _, _, .lst h n r, p => by
    rw [toPy]
    rw [plain] at p
    exact .lst (.of h) (dps_of K r p)
  | _, _, .scr h n r, p => by
    rw [plain] at p; cases p
  | _, _, .ptp h d n r, p => by
    rw [plain] at p; cases p
  | _, _, .ref h n, p => by
    rw [plain] at p; cases p
theorem dps_of (K : PySem.W.Frag) {ρ : Rho} {H : Hp} : ∀ {ds : List D} {vs : List V}, Reps ρ H ds vs → plains ds = true → DpAll K H vs (toPys ds)
  | _, _, .nil, _ => by rw [toPys]; exact .nil
  | _, _, .cons (d := d) r t, p => by
    rw [toPys]
    rw [plains] at p
    cases e : plain d with
    | true => rw [e] at p; exact .cons (dp_of K r e) (dps_of K t p)
    | false => rw [e] at p; cases p
end
theorem b2i_if (b : Bool) : (if b then (1 : Int) else 0) = Mt.b2i b := by cases b <;> rfl
theorem SS_beq (a b : List Nat) : (SS a == SS b) = natsEq a b := by
  rw [Bool.eq_iff_iff, natsEq_iff, beq_iff_eq]
  exact ⟨SS_inj, fun e => by rw [e]⟩
theorem int_beq (a b : Int) : (a == b) = intEq a b := by
  rw [Bool.eq_iff_iff, beq_iff_eq]
  simp [intEq]
mutual
theorem eqv_py : ∀ (a b : D), plain a = true → plain b = true → PyData.eqv (toPy a) (toPy b) = eqv a b
  | .non, b, _, pb => by
    cases b with
    | scr _ => rw [plain] at pb; cases pb
    | ptp _ => rw [plain] at pb; cases pb
    | ref _ => rw [plain] at pb; cases pb
    | _ => simp only [toPy, PyData.eqv, eqv]
  | .bl a, b, _, pb => by
    cases b with
    | scr _ => rw [plain] at pb; cases pb
    | ptp _ => rw [plain] at pb; cases pb
    | ref _ => rw [plain] at pb; cases pb
    | int j => simp only [toPy, PyData.eqv, eqv, b2i_if, int_beq]
    | _ => simp only [toPy, PyData.eqv, eqv]
  | .int a, b, _, pb => by
    cases b with
    | scr _ => rw [plain] at pb; cases pb
    | ptp _ => rw [plain] at pb; cases pb
    | ref _ => rw [plain] at pb; cases pb
    | _ => simp only [toPy, PyData.eqv, eqv, b2i_if, int_beq]
  | .str a, b, _, pb => by
    cases b with
    | scr _ => rw [plain] at pb; cases pb
    | ptp _ => rw [plain] at pb; cases pb
    | ref _ => rw [plain] at pb; cases pb
    | _ => simp only [toPy, PyData.eqv, eqv, SS_beq]
  | .tup a, b, pa, pb => by
    rw [plain] at pa
    cases b with
    | scr _ => rw [plain] at pb; cases pb
    | ptp _ => rw [plain] at pb; cases pb
    | ref _ => rw [plain] at pb; cases pb
    | tup b => rw [plain] at pb; simp only [toPy, PyData.eqv, eqv]; exact eqvs_py a b pa pb
    | _ => simp only [toPy, PyData.eqv, eqv]
  | .lst a, b, pa, pb => by
    rw [plain] at pa
    cases b with
    | scr _ => rw [plain] at pb; cases pb
    | ptp _ => rw [plain] at pb; cases pb
    | ref _ => rw [plain] at pb; cases pb
    | lst b => rw [plain] at pb; simp only [toPy, PyData.eqv, eqv]; exact eqvs_py a b pa pb
    | _ => simp only [toPy, PyData.eqv, eqv]
  | .scr _, _, pa, _ => by rw [plain] at pa; cases pa
  | .ptp _, _, pa, _ => by rw [plain] at pa; cases pa
  | .ref _, _, pa, _ => by rw [plain] at pa; cases pa
theorem eqvs_py : ∀ (a b : List D), plains a = true → plains b = true → PyData.eqvAll (toPys a) (toPys b) = eqvs a b
  | [], [], _, _ => by simp only [toPys, PyData.eqvAll, eqvs]
  | [], _ :: _, _, _ => by simp only [toPys, PyData.eqvAll, eqvs]
  | _ :: _, [], _, _ => by simp only [toPys, PyData.eqvAll, eqvs]
  | x :: xs, y :: ys, pa, pb => by
    rw [plains] at pa pb
    cases e1 : plain x with
    | false => rw [e1] at pa; cases pa
    | true =>
      cases e2 : plain y with
      | false => rw [e2] at pb; cases pb
      | true =>
        rw [e1] at pa
        rw [e2] at pb
        simp only [toPys, PyData.eqvAll, eqvs]
        rw [eqv_py x y e1 e2, eqvs_py xs ys pa pb]
        cases eqv x y <;> rfl
end
mutual
theorem can_py : ∀ d : D, plain d = true → PyData.canLay0 (toPy d) = true
  | .non, _ => by simp only [toPy, PyData.canLay0]
  | .bl _, _ => by simp only [toPy, PyData.canLay0]
  | .int _, _ => by simp only [toPy, PyData.canLay0]
  | .str x, p => by
    rw [plain, Bool.and_eq_true] at p
    simp only [toPy, PyData.canLay0, PyData.strOk]
    have h := p.1
    rw [List.all_eq_true] at h
    simp only [List.all_toArray, List.all_eq_true]
    intro c hc
    have := h c hc
    simpa [Nat.blt_eq] using this
  | .tup xs, p => by
    rw [plain] at p
    simp only [toPy, PyData.canLay0]
    exact cans_py xs p
  | .lst xs, p => by
    rw [plain] at p
    simp only [toPy, PyData.canLay0]
    exact cans_py xs p
  | .scr _, p => by rw [plain] at p; cases p
  | .ref _, p => by rw [plain] at p; cases p
theorem cans_py : ∀ ds : List D, plains ds = true → PyData.canLayAll0 (toPys ds) = true
  | [], _ => by simp only [toPys, PyData.canLayAll0]
  | d :: ds, p => by
    rw [plains] at p
    cases e : plain d with
    | false => rw [e] at p; cases p
    | true =>
      rw [e] at p
      simp only [toPys, PyData.canLayAll0, Bool.and_eq_true]
      exact ⟨can_py d e, cans_py ds p⟩
end
mutual
theorem deep_py : ∀ d : D, PyData.depth (toPy d) = deep d
  | .non => by simp only [toPy, PyData.depth, deep]
  | .bl _ => by simp only [toPy, PyData.depth, deep]
  | .int _ => by simp only [toPy, PyData.depth, deep]
  | .str x => by simp only [toPy, PyData.depth, deep]
  | .tup xs => by simp only [toPy, PyData.depth, deep, deeps_py xs]
  | .lst xs => by simp only [toPy, PyData.depth, deep, deeps_py xs]
  | .scr _ => by simp only [toPy, PyData.depth, deep]
  | .ptp _ => by simp only [toPy, PyData.depth, deep]
  | .ref _ => by simp only [toPy, PyData.depth, deep]
theorem deeps_py : ∀ ds : List D, PyData.depthAll (toPys ds) = deeps ds
  | [] => by simp only [toPys, PyData.depthAll, deeps]
  | d :: ds => by
    simp only [toPys, PyData.depthAll, deeps, deep_py d, deeps_py ds]
end
theorem fit_of {d : D} (h : fit d = true) : plain d = true ∧ SeqAt.shaped (toPy d) = true := by
  unfold fit at h
  rw [Bool.and_eq_true, Nat.ble_eq] at h
  refine ⟨h.1, ?_⟩
  unfold SeqAt.shaped
  rw [Bool.and_eq_true, decide_eq_true_eq, deep_py]
  exact ⟨can_py d h.1, h.2⟩
/-- a cell of a list lies as the list -/
theorem flat_dp (K : PySem.W.Frag) {ρ : Rho} {H : Hp} {m : Mem} {d : D} {v : V} (hm : HR ρ m H) (r : Rep ρ H d v) (p : plain (flatD m d) = true) : Dp K H v (toPy (flatD m d)) := by
  cases r with
  | @ref n a hn hq =>
    simp only [flatD] at p ⊢
    split at p
    · rename_i xs e
      obtain ⟨a', e1, _, vs, h1, h2⟩ := cell_at hm (.ref hn hq) e
      cases e1
      rw [plain] at p
      rw [toPy]
      exact .lst (.of h1) (dps_of K h2 p)
    · simp [plain] at p
  | non => exact dp_of (ρ := ρ) K .non p
  | bl b => exact dp_of (ρ := ρ) K (.bl b) p
  | int b => exact dp_of (ρ := ρ) K (.int b) p
  | str b => exact dp_of (ρ := ρ) K (.str b) p
  | tup h n r => exact dp_of K (.tup h n r) p
  | lst h n r => exact dp_of K (.lst h n r) p
  | scr h n r => exact dp_of K (.scr h n r) p
  | ptp h d n r => exact dp_of K (.ptp h d n r) p
theorem ok_eq (hu : X.A.units + 64 < cLine) : OpR X (compareOp .Eq) (rOp C E cEq) := by
  intro pins s σ H x y v u Q I rx ry h
  obtain ⟨ρ, m, dx, dy, hm, ra, rb, h⟩ := h
  unfold cEq at h
  split at h
  · rename_i hl
    rw [Bool.and_eq_true] at hl
    obtain ⟨p1, s1⟩ := fit_of hl.1
    obtain ⟨p2, s2⟩ := fit_of hl.2
    refine op_eqD hu pins s σ H x y v u Q I rx ry ⟨_, _, flat_dp X.K hm ra p1, flat_dp X.K hm rb p2, s1, s2, ?_⟩
    rw [eqv_py _ _ p1 p2]
    exact h.val hm (.bl _)
  · exact h.elim
theorem ok_ne (hu : X.A.units + 64 < cLine) : OpR X (compareOp .NotEq) (rOp C E cNe) := by
  intro pins s σ H x y v u Q I rx ry h
  obtain ⟨ρ, m, dx, dy, hm, ra, rb, h⟩ := h
  unfold cNe at h
  split at h
  · rename_i hl
    rw [Bool.and_eq_true] at hl
    obtain ⟨p1, s1⟩ := fit_of hl.1
    obtain ⟨p2, s2⟩ := fit_of hl.2
    refine op_neD hu pins s σ H x y v u Q I rx ry ⟨_, _, flat_dp X.K hm ra p1, flat_dp X.K hm rb p2, s1, s2, ?_⟩
    rw [eqv_py _ _ p1 p2]
    exact h.val hm (.bl _)
  · exact h.elim
theorem ok_le : OpR X (compareOp .LtE) (rOp C E cLe) := by
  intro pins s σ H x y v u Q I rx ry h
  obtain ⟨ρ, m, dx, dy, hm, ra, rb, h⟩ := h
  unfold cLe at h
  split at h
  · cases ra; cases rb
    exact op_le pins s σ H _ _ v u Q I rx ry ⟨_, _, rfl, rfl, h.val hm (.bl _)⟩
  · exact h.elim
theorem ok_gt : OpR X (compareOp .Gt) (rOp C E cGt) := by
  intro pins s σ H x y v u Q I rx ry h
  obtain ⟨ρ, m, dx, dy, hm, ra, rb, h⟩ := h
  unfold cGt at h
  split at h
  · cases ra; cases rb
    exact op_gt pins s σ H _ _ v u Q I rx ry ⟨_, _, rfl, rfl, h.val hm (.bl _)⟩
  · exact h.elim
theorem ok_ge : OpR X (compareOp .GtE) (rOp C E cGe) := by
  intro pins s σ H x y v u Q I rx ry h
  obtain ⟨ρ, m, dx, dy, hm, ra, rb, h⟩ := h
  unfold cGe at h
  split at h
  · cases ra; cases rb
    exact op_ge pins s σ H _ _ v u Q I rx ry ⟨_, _, rfl, rfl, h.val hm (.bl _)⟩
  · exact h.elim
theorem isNon_of {ρ : Rho} {H : Hp} {d : D} {v : V} (r : Rep ρ H d v) : decide (v = V.non) = isNon d := by
  cases r <;> simp [isNon]
theorem ok_isN : OpR X (compareOp .Is) (rOp C E cIsN) := by
  intro pins s σ H x y v u Q I rx ry h
  obtain ⟨ρ, m, dx, dy, hm, ra, rb, h⟩ := h
  unfold cIsN at h
  split at h
  · cases rb
    refine op_isN pins s σ H _ _ v u Q I rx ry ⟨rfl, ?_⟩
    rw [isNon_of ra]
    exact h.val hm (.bl _)
  · exact h.elim
theorem ok_notN : OpR X (compareOp .IsNot) (rOp C E cNotN) := by
  intro pins s σ H x y v u Q I rx ry h
  obtain ⟨ρ, m, dx, dy, hm, ra, rb, h⟩ := h
  unfold cNotN at h
  split at h
  · cases rb
    refine op_notN pins s σ H _ _ v u Q I rx ry ⟨rfl, ?_⟩
    rw [isNon_of ra]
    exact h.val hm (.bl _)
  · exact h.elim
end
end Mt
end
section
set_option linter.all false
set_option autoImplicit false
set_option maxRecDepth 100000
set_option maxHeartbeats 1000000
/-! MtS3: order, membership, items, slices, dicts. -/
namespace Mt
open PySem PySem.Spec PyProof.Rows L2
section
variable {X : Cx} {C : Cls} {E : XK}

/-! ### < of data -/
mutual
theorem alike_py : ∀ a b : D, alikeD a b = true → PySem.W.alike (toPy a) (toPy b) = true
  | .bl _, .bl _, _ => by simp only [toPy, PySem.W.alike]
  | .int _, .int _, _ => by simp only [toPy, PySem.W.alike]
  | .str _, .str _, _ => by simp only [toPy, PySem.W.alike]
  | .tup a, .tup b, h => by
    simp only [alikeD] at h
    simp only [toPy, PySem.W.alike]
    exact alikes_py a b h
  | .non, b, h => by cases b <;> simp [alikeD] at h
  | .lst _, b, h => by cases b <;> simp [alikeD] at h
  | .scr _, b, h => by cases b <;> simp [alikeD] at h
  | .ref _, b, h => by cases b <;> simp [alikeD] at h
  | .bl _, .non, h => by simp [alikeD] at h
  | .bl _, .int _, h => by simp [alikeD] at h
  | .bl _, .str _, h => by simp [alikeD] at h
  | .bl _, .tup _, h => by simp [alikeD] at h
  | .bl _, .lst _, h => by simp [alikeD] at h
  | .bl _, .scr _, h => by simp [alikeD] at h
  | .bl _, .ref _, h => by simp [alikeD] at h
  | .int _, .non, h => by simp [alikeD] at h
  | .int _, .bl _, h => by simp [alikeD] at h
  | .int _, .str _, h => by simp [alikeD] at h
  | .int _, .tup _, h => by simp [alikeD] at h
  | .int _, .lst _, h => by simp [alikeD] at h
  | .int _, .scr _, h => by simp [alikeD] at h
  | .int _, .ref _, h => by simp [alikeD] at h
  | .str _, .non, h => by simp [alikeD] at h
  | .str _, .bl _, h => by simp [alikeD] at h
  | .str _, .int _, h => by simp [alikeD] at h
  | .str _, .tup _, h => by simp [alikeD] at h
  | .str _, .lst _, h => by simp [alikeD] at h
  | .str _, .scr _, h => by simp [alikeD] at h
  | .str _, .ref _, h => by simp [alikeD] at h
  | .tup _, .non, h => by simp [alikeD] at h
  | .tup _, .bl _, h => by simp [alikeD] at h
  | .tup _, .int _, h => by simp [alikeD] at h
  | .tup _, .str _, h => by simp [alikeD] at h
  | .tup _, .lst _, h => by simp [alikeD] at h
  | .tup _, .scr _, h => by simp [alikeD] at h
  | .tup _, .ref _, h => by simp [alikeD] at h
theorem alikes_py : ∀ a b : List D, alikesD a b = true → PySem.W.alikeAll (toPys a) (toPys b) = true
  | [], _, _ => by simp only [toPys, PySem.W.alikeAll]
  | _ :: _, [], _ => by simp only [toPys, PySem.W.alikeAll]
  | x :: xs, y :: ys, h => by
    simp only [alikesD, Bool.and_eq_true] at h
    simp only [toPys, PySem.W.alikeAll, Bool.and_eq_true]
    exact ⟨alike_py x y h.1, alikes_py xs ys h.2⟩
end
theorem natsLt_iff : ∀ a b : List Nat, natsLt a b = decide (a < b)
  | [], [] => by simp [natsLt]
  | [], _ :: _ => by simp [natsLt]
  | _ :: _, [] => by simp [natsLt]
  | x :: xs, y :: ys => by
    unfold natsLt
    cases e : Nat.beq x y with
    | true =>
      have := Nat.eq_of_beq_eq_true e
      subst this
      simp only [natsLt_iff xs ys]
      rw [Bool.eq_iff_iff]
      simp [List.cons_lt_cons_iff]
    | false =>
      have hne : x ≠ y := Nat.ne_of_beq_eq_false e
      rw [Bool.eq_iff_iff]
      simp [List.cons_lt_cons_iff, Nat.blt_eq, hne]
mutual
theorem lt_py : ∀ a b : D, alikeD a b = true → plain a = true → plain b = true → PySem.W.dataLt (toPy a) (toPy b) = ltD a b
  | .bl a, b, h, _, _ => by
    cases b with
    | bl b =>
      simp only [toPy, ltD]
      rw [PySem.W.dataLt_bool]
      cases a <;> cases b <;> rfl
    | _ => simp [alikeD] at h
  | .int a, b, h, _, _ => by
    cases b with
    | int b => simp only [toPy, ltD]; exact PySem.W.dataLt_int a b
    | _ => simp [alikeD] at h
  | .str a, b, h, _, _ => by
    cases b with
    | str b => simp only [toPy, ltD]; rw [PySem.W.dataLt_str, natsLt_iff]
    | _ => simp [alikeD] at h
  | .tup a, b, h, pa, pb => by
    cases b with
    | tup b =>
      simp only [alikeD] at h
      rw [plain] at pa pb
      simp only [toPy, ltD]
      rw [PySem.W.dataLt_tuple]
      exact lts_py a b h pa pb
    | _ => simp [alikeD] at h
  | .non, b, h, _, _ => by cases b <;> simp [alikeD] at h
  | .lst _, b, h, _, _ => by cases b <;> simp [alikeD] at h
  | .scr _, b, h, _, _ => by cases b <;> simp [alikeD] at h
  | .ref _, b, h, _, _ => by cases b <;> simp [alikeD] at h
theorem lts_py : ∀ a b : List D, alikesD a b = true → plains a = true → plains b = true → PyProof.Rows.lexLt PyProof.Rows.itemOrd (PySem.W.keyToksAll (toPys a)) (PySem.W.keyToksAll (toPys b)) = ltsD a b
  | [], [], _, _, _ => by simp only [toPys, ltsD, PySem.W.keyToksAll]; decide +kernel
  | [], y :: ys, _, _, _ => by
    simp only [toPys, ltsD, PySem.W.keyToksAll]
    rw [PyProof.Rows.lex_diff (O := PyProof.Rows.itemOrd) (by simp)]
    decide +kernel
  | x :: xs, [], _, _, _ => by
    simp only [toPys, ltsD, PySem.W.keyToksAll]
    rw [PyProof.Rows.lex_diff (O := PyProof.Rows.itemOrd) (by simp)]
    decide +kernel
  | x :: xs, y :: ys, h, pa, pb => by
    simp only [alikesD, Bool.and_eq_true] at h
    rw [plains] at pa pb
    cases e1 : plain x with
    | false => rw [e1] at pa; cases pa
    | true =>
      cases e2 : plain y with
      | false => rw [e2] at pb; cases pb
      | true =>
        rw [e1] at pa
        rw [e2] at pb
        have ee := eqv_py x y e1 e2
        have al := alike_py x y h.1
        simp only [toPys, ltsD]
        cases e : eqv x y with
        | true => rw [PySem.W.dataLt_all_yes al (ee.trans e)]; exact lts_py xs ys h.2 pa pb
        | false => rw [PySem.W.dataLt_all_no al (ee.trans e)]; exact lt_py x y h.1 e1 e2
end
theorem ok_lt (hu : X.A.units + 64 < cLine) : OpR X (compareOp .Lt) (rOp C E cLt) := by
  intro pins s σ H x y v u Q I rx ry h
  obtain ⟨ρ, m, dx, dy, hm, ra, rb, h⟩ := h
  unfold cLt at h
  split at h
  · cases ra; cases rb
    exact op_lt pins s σ H _ _ v u Q I rx ry ⟨_, _, rfl, rfl, h.val hm (.bl _)⟩
  · split at h
    · rename_i hl
      simp only [Bool.and_eq_true] at hl
      obtain ⟨p1, s1⟩ := fit_of hl.1.2
      obtain ⟨p2, s2⟩ := fit_of hl.2
      obtain ⟨as, r1⟩ := Dp.reads I _ x v (dp_of X.K ra p1) rx
      obtain ⟨bs, r2⟩ := Dp.reads I _ y u (dp_of X.K rb p2) ry
      have al := alike_py dx dy hl.1.1
      have hn : toPy dx ≠ .none := fun e => by
        rw [e] at al
        have hh := hl.1.1
        cases dx <;> first
          | (simp [toPy] at e; done)
          | (cases dy <;> simp [alikeD] at hh)
      have hd : min (PyData.depth (toPy dx)) (PyData.depth (toPy dy)) ≤ 64 := by
        have := hl.1.2
        unfold fit at this
        rw [Bool.and_eq_true, Nat.ble_eq] at this
        rw [deep_py]
        exact Nat.le_trans (Nat.min_le_left _ _) this.2
      have rc := PySem.W.rcLt_alike (toPy dx) (toPy dy) X.A s v u as bs r1 r2 al hn (by omega)
      rw [lt_py dx dy hl.1.1 p1 p2] at rc
      exact rc X.prog X.w X.xe _ ⟨.bl _, H, I, rfl, h.val hm (.bl _)⟩
    · exact h.elim

/-! ### membership -/
theorem memEq_any (x : D) : ∀ xs : List D, plain x = true → plains xs = true → (toPys xs).any (fun z => PyData.eqv z (toPy x)) = memEq x xs
  | [], _, _ => by simp only [toPys, memEq, List.any_nil]
  | y :: ys, px, ps => by
    rw [plains] at ps
    cases e : plain y with
    | false => rw [e] at ps; cases ps
    | true =>
      rw [e] at ps
      simp only [toPys, memEq, List.any_cons]
      rw [eqv_py y x e px, memEq_any x ys px ps]
      cases eqv y x <;> rfl
theorem flat_V {ρ : Rho} {H : Hp} {d : D} {v : V} (r : Rep ρ H d v) (h : flatData d = true) : flatV v = true := by
  cases r <;> first | rfl | (simp [flatData] at h)
theorem flat_Vs {ρ : Rho} {H : Hp} : ∀ {ds : List D} {vs : List V}, Reps ρ H ds vs → ds.all flatData = true → vs.all flatV = true
  | _, _, .nil, _ => rfl
  | _, _, .cons r t, h => by
    rw [List.all_cons, Bool.and_eq_true] at h ⊢
    exact ⟨flat_V r h.1, flat_Vs t h.2⟩
theorem eqV_of {ρ : Rho} {H : Hp} {a b : D} {x y : V} (ra : Rep ρ H a x) (rb : Rep ρ H b y) (fa : flatData a = true) (fb : flatData b = true) : eqV x y = eqv a b := by
  cases ra <;> first | (simp [flatData] at fa; done) | (cases rb <;> first | (simp [flatData] at fb; done) | (simp only [eqV, eqv, b2i_if, int_beq, SS_beq]; done))
theorem inV_of {ρ : Rho} {H : Hp} {a : D} {x : V} (ra : Rep ρ H a x) (fa : flatData a = true) : ∀ {ds : List D} {vs : List V}, Reps ρ H ds vs → ds.all flatData = true → inV x vs = memEq a ds
  | _, _, .nil, _ => rfl
  | _, _, .cons r t, h => by
    rw [List.all_cons, Bool.and_eq_true] at h
    have := inV_of ra fa t h.2
    unfold inV at this ⊢
    rw [List.any_cons, this, eqV_of r ra h.1 fa, memEq]
    cases eqv _ a <;> rfl
theorem anyBeq (c : Nat) : ∀ z : List Nat, (z.any fun b => Nat.beq b c) = decide (c ∈ z)
  | [] => by simp
  | b :: z => by
    rw [List.any_cons, anyBeq c z]
    cases e : Nat.beq b c with
    | true => have := Nat.eq_of_beq_eq_true e; subst this; simp
    | false =>
      have : b ≠ c := Nat.ne_of_beq_eq_false e
      rw [Bool.eq_iff_iff]
      simp [Ne.symm this]
/-- what in answers, for both signs -/
theorem in_cases {ρ : Rho} {H : Hp} {m : Mem} {K : PySem.W.Frag} {dx dy : D} {x y : V} {b : Bool} (hm : HR ρ m H) (ra : Rep ρ H dx x) (rb : Rep ρ H dy y) (h : isinR m dx dy = some b) :
    (∃ c z, x = .str ⟨#[c]⟩ ∧ y = .str z ∧ b = decide (c ∈ z.cps.toList)) ∨ (∃ p vs, y = .ref p ∧ SqT K H p vs ∧ flatV x = true ∧ vs.all flatV = true ∧ b = inV x vs) ∨
      (∃ d ds, Dp K H x d ∧ Dp K H y (.list ds) ∧ SeqAt.shaped d = true ∧ SeqAt.shaped (.list ds) = true ∧ b = ds.any fun z => PyData.eqv z d) := by
  unfold isinR at h
  split at h
  · cases rb
    split at h
    · cases ra
      cases h
      exact .inl ⟨_, _, rfl, rfl, anyBeq _ _⟩
    · cases h
  · cases rb with
    | tup h1 n1 r1 =>
      split at h
      · rename_i hl
        rw [Bool.and_eq_true] at hl
        cases h
        exact .inr (.inl ⟨_, _, rfl, .of h1, flat_V ra hl.1, flat_Vs r1 hl.2, (inV_of ra hl.1 r1 hl.2).symm⟩)
      · cases h
  · split at h
    · rename_i xs e
      split at h
      · rename_i hl
        rw [Bool.and_eq_true] at hl
        cases h
        obtain ⟨p1, s1⟩ := fit_of hl.1
        obtain ⟨p2, s2⟩ := fit_of hl.2
        obtain ⟨a, vs, rfl, h1, r1⟩ := list_of hm rb e
        rw [toPy] at s2
        rw [plain] at p2
        exact .inr (.inr ⟨_, _, dp_of K ra p1, .lst (.of h1) (dps_of K r1 p2), s1, s2, (memEq_any dx xs p1 p2).symm⟩)
      · cases h
    · cases h
theorem ok_in (hu : X.A.units + 65 < cLine) : OpR X (compareOp .In) (rOp C E cIn) := by
  intro pins s σ H x y v u Q I rx ry h
  obtain ⟨ρ, m, dx, dy, hm, ra, rb, h⟩ := h
  unfold cIn at h
  split at h
  · rename_i b e
    have fin := h.val hm (.bl b)
    rcases in_cases (K := X.K) hm ra rb e with ⟨c, z, rfl, rfl, eb⟩ | ⟨p, vs, rfl, h1, h2, h3, eb⟩ | ⟨d, ds, h1, h2, h3, h4, eb⟩
    · exact op_in_sign pins s σ H _ _ v u Q I rx ry ⟨c, z, rfl, rfl, by rw [← eb]; exact fin⟩
    · exact op_in_seq pins s σ H _ _ v u Q I rx ry ⟨p, vs, rfl, .inr h1, h2, h3, by rw [← eb]; exact fin⟩
    · exact op_inD hu pins s σ H _ _ v u Q I rx ry ⟨d, ds, h1, h2, h3, h4, by rw [← eb]; exact fin⟩
  · exact h.elim
theorem ok_notin (hu : X.A.units + 65 < cLine) : OpR X (compareOp .NotIn) (rOp C E cNotin) := by
  intro pins s σ H x y v u Q I rx ry h
  obtain ⟨ρ, m, dx, dy, hm, ra, rb, h⟩ := h
  unfold cNotin at h
  split at h
  · rename_i b e
    have fin := h.val hm (.bl (!b))
    rcases in_cases (K := X.K) hm ra rb e with ⟨c, z, rfl, rfl, eb⟩ | ⟨p, vs, rfl, h1, h2, h3, eb⟩ | ⟨d, ds, h1, h2, h3, h4, eb⟩
    · exact op_notIn_sign pins s σ H _ _ v u Q I rx ry ⟨c, z, rfl, rfl, by rw [← eb]; exact fin⟩
    · exact op_notIn_seq pins s σ H _ _ v u Q I rx ry ⟨p, vs, rfl, .inr h1, h2, h3, by rw [← eb]; exact fin⟩
    · exact op_notInD hu pins s σ H _ _ v u Q I rx ry ⟨d, ds, h1, h2, h3, h4, by rw [← eb]; exact fin⟩
  · exact h.elim

/-! ### items -/
theorem ix_eq (n : Nat) (i : Int) : ix n i = ixN n i := by
  cases i with
  | ofNat k =>
    have h0 : (0 : Int) ≤ Int.ofNat k := Int.natCast_nonneg k
    show (if Nat.blt k n then some k else none) = ixN n (Int.ofNat k)
    unfold ixN
    rw [if_pos h0]
    by_cases h : k < n
    · have h2 : Int.ofNat k < (n : Int) := Int.ofNat_lt.mpr h
      rw [if_pos (by simpa [Nat.blt_eq] using h), if_pos h2]; rfl
    · have h2 : ¬ Int.ofNat k < (n : Int) := fun z => h (Int.ofNat_lt.mp z)
      rw [if_neg (by simpa [Nat.blt_eq] using h), if_neg h2]
  | negSucc k =>
    have e : Int.negSucc k = -((k : Int) + 1) := Int.negSucc_eq k
    show (if Nat.blt k n then some (n - 1 - k) else none) = ixN n (Int.negSucc k)
    unfold ixN
    rw [e, if_neg (show ¬ (0 : Int) ≤ -((k : Int) + 1) by omega)]
    by_cases h : k < n
    · rw [if_pos (by simpa [Nat.blt_eq] using h), if_pos (show -(n : Int) ≤ -((k : Int) + 1) by omega)]
      congr 1
      omega
    · rw [if_neg (by simpa [Nat.blt_eq] using h), if_neg (show ¬ -(n : Int) ≤ -((k : Int) + 1) by omega)]
theorem at_of {ρ : Rho} {H : Hp} {m : Mem} {xs : List D} {vs : List V} {di : D} {y : V} {Q : VK} (hm : HR ρ m H) (r : Reps ρ H xs vs) (ri : Rep ρ H di y) (h : Post C ρ H (atL m xs di) Q E) : ∃ i v, y = .int i ∧ atI vs i = some v ∧ Q v H := by
  unfold atL at h
  split at h
  · rename_i j
    cases ri
    split at h
    · rename_i k e
      split at h
      · rename_i d e2
        obtain ⟨v, h1, h2⟩ := r.get e2
        refine ⟨j, v, rfl, ?_, h.val hm h2⟩
        unfold atI
        rw [← r.length, ← ix_eq, e]
        exact h1
      · exact h.elim
    · exact h.elim
  · exact h.elim
theorem ok_idx : IxR X (rOp C E idxR) := by
  intro value slice pins s σ H x y v u Q I rx ry h hs
  obtain ⟨ρ, m, dx, dy, hm, ra, rb, h⟩ := h
  unfold idxR at h
  split at h
  · cases ra
    split at h
    · rename_i z j
      cases rb
      split at h
      · rename_i k e
        split at h
        · rename_i c e2
          split at h
          · rename_i hl
            refine ix_seq value slice pins s σ H _ _ v u Q I rx ry (.inr (.inr ⟨_, _, c, rfl, rfl, ?_, ?_, h.val hm (.str [c])⟩)) hs
            · rw [SS_len, sizeLine_eq]; simpa [lineN] using hl
            · unfold atI
              simp only [List.toList_toArray]
              rw [← ix_eq, e]
              exact e2
          · exact h.elim
        · exact h.elim
      · exact h.elim
    · exact h.elim
  · split at h
    · rename_i xs e
      obtain ⟨a, vs, rfl, h1, r1⟩ := seq_of hm ra e
      obtain ⟨i, w, rfl, h2, q⟩ := at_of hm r1 rb h
      rcases sq_of X.K h1 with h1 | h1
      · exact ix_seq value slice pins s σ H _ _ v u Q I rx ry (.inl ⟨a, vs, i, w, rfl, rfl, h1, h2, q⟩) hs
      · exact ix_seq value slice pins s σ H _ _ v u Q I rx ry (.inr (.inl ⟨a, vs, i, w, rfl, rfl, h1, h2, q⟩)) hs
    · exact h.elim

/-! ### slices -/
theorem sIx_eq (n d : Nat) (o : Option Int) : sIxO n d o = HT.sIx n d o := by
  cases o with
  | none => rfl
  | some i =>
    cases i with
    | ofNat k =>
      show min k n = if Int.ofNat k < 0 then (Int.ofNat k + (n : Int)).toNat else min (Int.ofNat k).toNat n
      rw [if_neg (show ¬ Int.ofNat k < 0 from Int.not_lt.mpr (Int.natCast_nonneg k))]
      rfl
    | negSucc k =>
      show n - (k + 1) = if Int.negSucc k < 0 then (Int.negSucc k + (n : Int)).toNat else min (Int.negSucc k).toNat n
      have e : Int.negSucc k = -((k : Int) + 1) := Int.negSucc_eq k
      rw [e, if_pos (by omega)]
      omega
theorem cut_reps {ρ : Rho} {H : Hp} {xs : List D} {vs : List V} (r : Reps ρ H xs vs) (lo hi : Option Int) : Reps ρ H (cutL xs lo hi) (cutV vs lo hi) := by
  unfold cutL cutV
  rw [sIx_eq, sIx_eq, r.length]
  exact (r.drop _).take _
theorem cut_str (z : List Nat) (lo hi : Option Int) : cutS (SS z) lo hi = SS (cutL z lo hi) := by
  unfold cutS cutL
  rw [sIx_eq, sIx_eq, SS_len]
theorem sIxO_le {n d : Nat} {i : Option Int} (h : d ≤ n) : sIxO n d i ≤ n := by
  cases i with
  | none => exact h
  | some i =>
    cases i with
    | ofNat k => exact Nat.min_le_right _ _
    | negSucc k => exact Nat.sub_le _ _
def rSlD (C : Cls) (E : XK) : V → Option Int → Option Int → Hp → VK → Prop := fun x lo hi H Q => ∃ ρ m dx, HR ρ m H ∧ Rep ρ H dx x ∧ Post C ρ H (slG m dx lo hi) Q E
theorem ok_sl : SlR X (rSlD C E) := by
  intro pins s σ H x v vl vu lo hi sl Q I rx hs pl pu h
  obtain ⟨ρ, m, dx, hm, ra, h⟩ := h
  unfold slG at h
  split at h
  · cases ra
    split at h
    · rename_i hl
      refine sl_str pins s σ H _ v vl vu lo hi sl Q I rx hs pl pu ⟨_, rfl, ?_, ?_⟩
      · rw [SS_len, sizeLine_eq]; simpa [lineN] using hl
      · rw [cut_str]; exact h.val hm (.str _)
    · exact h.elim
  · cases ra with
    | tup h1 n1 r1 =>
      refine sl_tupA pins s σ H _ v vl vu lo hi sl Q I rx hs pl pu ⟨_, _, rfl, .of h1, fun e => ?_, fun e p hp => h.newTup hm (cut_reps r1 lo hi) hp⟩
      rename_i zs _ ws
      have e2 : cutL zs lo hi = zs := by
        unfold cutL
        rw [sIx_eq, sIx_eq, r1.length, e.1, e.2, List.drop_zero, Nat.sub_zero, ← r1.length, List.take_length]
      rw [e2] at h
      exact h.val hm (.tup h1 n1 r1)
  · rename_i zs
    cases ra with
    | @ptp _ _ ws _ h1 d1 n1 r1 =>
      have cl : (cutL zs lo hi).length = min (HT.sIx ws.length ws.length hi - HT.sIx ws.length 0 lo) (ws.length - HT.sIx ws.length 0 lo) := by
        unfold cutL
        rw [sIx_eq, sIx_eq, r1.length, List.length_take, List.length_drop, r1.length]
      have l1 : HT.sIx ws.length 0 lo ≤ ws.length := by rw [← sIx_eq]; exact sIxO_le (Nat.zero_le _)
      have l2 : HT.sIx ws.length ws.length hi ≤ ws.length := by rw [← sIx_eq]; exact sIxO_le (Nat.le_refl _)
      refine sl_tupA pins s σ H _ v vl vu lo hi sl Q I rx hs pl pu ⟨_, _, rfl, .inl (.inr ⟨_, h1⟩), fun e => ?_, fun e p hp => ?_⟩
      · have : Nat.beq (cutL zs lo hi).length zs.length = true := by
          rw [Nat.beq_eq, cl, r1.length, e.1, e.2]
          omega
        rw [if_pos this] at h
        exact h.val hm (.ptp h1 d1 n1 r1)
      · have : ¬ Nat.beq (cutL zs lo hi).length zs.length = true := by
          rw [Nat.beq_eq, cl, r1.length]
          intro z
          apply e
          constructor <;> omega
        rw [if_neg this] at h
        exact h.newTup hm (cut_reps r1 lo hi) hp
  · split at h
    · rename_i xs e
      obtain ⟨a, vs, rfl, h1, r1⟩ := list_of hm ra e
      exact sl_list pins s σ H _ v vl vu lo hi sl Q I rx hs pl pu ⟨_, _, rfl, .of h1, fun p hp => h.newLst hm (cut_reps r1 lo hi) hp⟩
    · exact h.elim

/-! ### dicts -/
theorem kyEq_iff {a b : Ky} : kyEq a b = decide (kyTo a = kyTo b) := by
  cases a with
  | i n => cases b with
    | i k => simp [kyEq, kyTo, intEq]
    | s x => simp [kyEq, kyTo]
  | s x => cases b with
    | i k => simp [kyEq, kyTo]
    | s y =>
      rw [Bool.eq_iff_iff, decide_eq_true_iff]
      show natsEq x y = true ↔ _
      rw [natsEq_iff]
      exact ⟨fun e => by rw [e], fun e => SS_inj (Sum.inr.inj e)⟩
theorem kysEq_iff : ∀ {a b : List Ky}, kysEq a b = decide (a.map kyTo = b.map kyTo)
  | [], [] => by simp [kysEq]
  | [], _ :: _ => by simp [kysEq]
  | _ :: _, [] => by simp [kysEq]
  | x :: xs, y :: ys => by
    unfold kysEq
    rw [kyEq_iff]
    by_cases h : kyTo x = kyTo y
    · rw [decide_eq_true h]
      simp only [kysEq_iff (a := xs) (b := ys)]
      rw [Bool.eq_iff_iff]
      simp [h]
    · rw [decide_eq_false h]
      simp [h]
def OptR (ρ : Rho) (H : Hp) : Option D → Option V → Prop
  | some d, some v => Rep ρ H d v
  | none, none => True
  | _, _ => False
theorem find_K {ρ : Rho} {H : Hp} (k : Ky) : ∀ {kvs : List (Ky × D)} {ws : List (Key × V)}, KvR ρ H kvs ws → OptR ρ H (findK k kvs) (valV ws (kyTo k))
  | _, _, .nil => True.intro
  | _, _, .cons (a := p) (b := q) r t => by
    unfold findK valV
    rw [kyEq_iff, List.find?_cons, r.1]
    by_cases h : q.1 = kyTo k
    · rw [decide_eq_true h]; exact r.2
    · rw [decide_eq_false h]; exact find_K k t
theorem find_T {ρ : Rho} {H : Hp} (k : List Ky) : ∀ {kvs : List (List Ky × D)} {ws : List (List Key × V)}, TvR ρ H kvs ws → OptR ρ H (findT k kvs) (valV ws (k.map kyTo))
  | _, _, .nil => True.intro
  | _, _, .cons (a := p) (b := q) r t => by
    unfold findT valV
    rw [kysEq_iff, List.find?_cons, r.1]
    by_cases h : q.1 = k.map kyTo
    · rw [decide_eq_true h]; exact r.2
    · rw [decide_eq_false h]; exact find_T k t
theorem kv_of {ρ : Rho} {H : Hp} {d : D} {v : V} {k : Ky} (r : Rep ρ H d v) (h : kyOf d = some k) : v = kV (kyTo k) := by
  cases r <;> first | (simp [kyOf] at h; done) | (simp [kyOf] at h; subst h; rfl)
theorem kvs_of {ρ : Rho} {H : Hp} : ∀ {ds : List D} {vs : List V} {ks : List Ky}, Reps ρ H ds vs → kysOf ds = some ks → vs = (ks.map kyTo).map kV
  | _, _, _, .nil, h => by simp [kysOf] at h; subst h; rfl
  | _, _, _, .cons (d := d) (ds := ds) r t, h => by
    unfold kysOf at h
    cases e1 : kyOf d with
    | none => rw [e1] at h; cases h
    | some k =>
      cases e2 : kysOf ds with
      | none => rw [e1, e2] at h; cases h
      | some ks =>
        rw [e1, e2] at h
        cases h
        rw [kv_of r e1, kvs_of t e2]
        rfl
theorem dict_of {ρ : Rho} {H : Hp} {m : Mem} {d : D} {v : V} {o : Ob} (hm : HR ρ m H) (r : Rep ρ H d v) (h : dictOf m d = some o) : ∃ n a, d = .ref n ∧ v = .ref a ∧ ρ.c[n]? = some (some a) ∧ m[n]? = some (some o) ∧ ObR ρ H a o := by
  unfold dictOf at h
  split at h
  · rename_i n
    split at h
    · rename_i l e
      cases h
      obtain ⟨a, h1, h2, h3⟩ := cell_at hm r e
      exact ⟨n, a, rfl, h1, h2, e, h3⟩
    · rename_i l e
      cases h
      obtain ⟨a, h1, h2, h3⟩ := cell_at hm r e
      exact ⟨n, a, rfl, h1, h2, e, h3⟩
    · cases h
  · cases h
theorem dget_of {ρ : Rho} {H : Hp} {a : Addr} {o : Ob} {k : D} {y : V} {r : Option D} (ho : ObR ρ H a o) (rk : Rep ρ H k y) (h : getD? o k = some r) : ∃ rv, DGet H a y rv ∧ OptR ρ H r rv := by
  unfold getD? at h
  split at h
  · obtain ⟨ws, h1, h2⟩ := ho
    split at h
    · rename_i q e
      cases h
      rw [kv_of rk e]
      exact ⟨_, .k h1, find_K q h2⟩
    · cases h
  · obtain ⟨ws, h1, h2⟩ := ho
    split at h
    · split at h
      · rename_i q e
        cases h
        cases rk with
        | tup h3 n3 r3 =>
          rw [kvs_of r3 e] at h3
          exact ⟨_, .t h1 h3, find_T q h2⟩
      · cases h
    · cases h
  · cases h
theorem OptR.isSome {ρ : Rho} {H : Hp} {r : Option D} {rv : Option V} (h : OptR ρ H r rv) : rv.isSome = r.isSome := by
  cases r <;> cases rv <;> first | rfl | exact h.elim
end
end Mt
end
section
set_option linter.all false
set_option autoImplicit false
set_option maxRecDepth 100000
set_option maxHeartbeats 1000000
/-! MtS4: built-in functions and methods by values. -/
namespace Mt
open PySem PySem.Spec PyProof.Rows L2
def rBl (C : Cls) (E : XK) (f : Mem → List D → R D) : List V → Hp → VK → Prop := fun vs H Q => ∃ ρ m ds, HR ρ m H ∧ Reps ρ H ds vs ∧ Post C ρ H (f m ds) Q E
def rBm (C : Cls) (E : XK) (f : Mem → D → List D → R D) : V → List V → Hp → VK → Prop := fun x vs H Q => ∃ ρ m d ds, HR ρ m H ∧ Rep ρ H d x ∧ Reps ρ H ds vs ∧ Post C ρ H (f m d ds) Q E
section
variable {X : Cx} {C : Cls} {E : XK}
theorem one_of {ρ : Rho} {H : Hp} {ds : List D} {vs : List V} {d : D} (r : Reps ρ H ds vs) (h : one ds = some d) : ∃ v, vs = [v] ∧ Rep ρ H d v := by
  unfold one at h
  split at h
  · cases h
    cases r with
    | cons r t => cases t; exact ⟨_, rfl, r⟩
  · cases h
theorem seq1_of {ρ : Rho} {H : Hp} {m : Mem} {ds : List D} {vs : List V} {xs : List D} (hm : HR ρ m H) (r : Reps ρ H ds vs) (h : seqOf1 m ds = some xs) : ∃ a ws, vs = [.ref a] ∧ (Rd H a (.lst ws) ∨ Rd H a (.tup ws)) ∧ Reps ρ H xs ws := by
  unfold seqOf1 at h
  split at h
  · rename_i d e
    obtain ⟨v, rfl, r1⟩ := one_of r e
    obtain ⟨a, ws, rfl, h1, h2⟩ := seq_of hm r1 h
    exact ⟨a, ws, rfl, h1, h2⟩
  · cases h
theorem list1_of {ρ : Rho} {H : Hp} {m : Mem} {ds : List D} {vs : List V} {xs : List D} (hm : HR ρ m H) (r : Reps ρ H ds vs) (h : listOf1 m ds = some xs) : ∃ a ws, vs = [.ref a] ∧ H a = some (.lst ws) ∧ Reps ρ H xs ws := by
  unfold listOf1 at h
  split at h
  · rename_i d e
    obtain ⟨v, rfl, r1⟩ := one_of r e
    obtain ⟨a, ws, rfl, h1, h2⟩ := list_of hm r1 h
    exact ⟨a, ws, rfl, h1, h2⟩
  · cases h
theorem ok_len : CallR X (.builtin "len") (rBl C E oLen) := by
  intro pins s σ H xs us Q I r h
  obtain ⟨ρ, m, ds, hm, rs, h⟩ := h
  unfold oLen at h
  split at h
  · rename_i z e
    obtain ⟨v, rfl, r1⟩ := one_of rs e
    cases r1
    split at h
    · rename_i hl
      refine call_len_str pins s σ H _ us Q I r ⟨_, rfl, ?_, ?_⟩
      · rw [SS_len, sizeLine_eq]; simpa [lineN] using hl
      · rw [SS_len]; exact h.val hm (.int _)
    · exact h.elim
  · rename_i z e
    obtain ⟨v, rfl, r1⟩ := one_of rs e
    cases r1 with
    | lst h1 n1 r1 => exact call_len_seq pins s σ H _ us Q I r ⟨_, _, rfl, .inl (.of h1), by rw [← r1.length]; exact h.val hm (.int _)⟩
  · rename_i z e
    obtain ⟨v, rfl, r1⟩ := one_of rs e
    cases r1 with
    | tup h1 n1 r1 => exact call_len_seq pins s σ H _ us Q I r ⟨_, _, rfl, .inr (.of h1), by rw [← r1.length]; exact h.val hm (.int _)⟩
  · rename_i z e
    obtain ⟨v, rfl, r1⟩ := one_of rs e
    cases r1 with
    | scr h1 n1 r1 => exact call_len_seq pins s σ H _ us Q I r ⟨_, _, rfl, .inl (.inl h1), by rw [← r1.length]; exact h.val hm (.int _)⟩
  · rename_i z e
    obtain ⟨v, rfl, r1⟩ := one_of rs e
    cases r1 with
    | ptp h1 d1 n1 r1 => exact call_len_seq pins s σ H _ us Q I r ⟨_, _, rfl, .inr (.inl (.inr ⟨_, h1⟩)), by rw [← r1.length]; exact h.val hm (.int _)⟩
  · rename_i n e
    obtain ⟨v, rfl, r1⟩ := one_of rs e
    split at h
    · rename_i z e2
      obtain ⟨a, rfl, h1, ws, h2, h3⟩ := cell_at hm r1 e2
      exact call_len_seq pins s σ H _ us Q I r ⟨_, _, rfl, .inl (.of h2), by rw [← h3.length]; exact h.val hm (.int _)⟩
    · rename_i z e2
      obtain ⟨a, rfl, h1, ws, h2, h3⟩ := cell_at hm r1 e2
      exact call_lenD pins s σ H _ us Q I r ⟨_, _, rfl, h2, by rw [← Paired.length h3]; exact h.val hm (.int _)⟩
    · rename_i z e2
      obtain ⟨a, rfl, h1, ws, h2, h3⟩ := cell_at hm r1 e2
      exact call_len_dT pins s σ H _ us Q I r ⟨_, _, rfl, h2, by rw [← Paired.length h3]; exact h.val hm (.int _)⟩
    · exact h.elim
  · exact h.elim
theorem ints_of {ρ : Rho} {H : Hp} : ∀ {ds : List D} {vs : List V} {is : List Int}, Reps ρ H ds vs → allInts ds = some is → vs = is.map V.int
  | _, _, _, .nil, h => by simp [allInts] at h; subst h; rfl
  | _, _, _, .cons (d := d) (ds := ds) r t, h => by
    cases r with
    | int i =>
      simp only [allInts] at h
      cases e : allInts ds with
      | none => rw [e] at h; cases h
      | some is => rw [e] at h; cases h; rw [ints_of t e]; rfl
    | _ => simp [allInts] at h
theorem bools_of {ρ : Rho} {H : Hp} : ∀ {ds : List D} {vs : List V} {is : List Bool}, Reps ρ H ds vs → allBools ds = some is → vs = is.map V.bl
  | _, _, _, .nil, h => by simp [allBools] at h; subst h; rfl
  | _, _, _, .cons (d := d) (ds := ds) r t, h => by
    cases r with
    | bl i =>
      simp only [allBools] at h
      cases e : allBools ds with
      | none => rw [e] at h; cases h
      | some is => rw [e] at h; cases h; rw [bools_of t e]; rfl
    | _ => simp [allBools] at h
theorem sumI_eq : ∀ is : List Int, sumI is = is.sum
  | [] => rfl
  | i :: r => by rw [sumI, sumI_eq r]; rfl
theorem ok_sum (hc : X.calm = true) : CallR X (.builtin "sum") (rBl C E oSum) := by
  intro pins s σ H xs us Q I r h
  obtain ⟨ρ, m, ds, hm, rs, h⟩ := h
  unfold oSum at h
  split at h
  · rename_i z e
    obtain ⟨a, ws, rfl, h1, r1⟩ := list1_of hm rs e
    split at h
    · rename_i is e2
      rw [ints_of r1 e2] at h1
      exact cr_sum hc pins s σ H _ us Q I r ⟨a, is, rfl, .of h1, by rw [← sumI_eq]; exact h.val hm (.int _)⟩
    · exact h.elim
  · exact h.elim
theorem ok_any (hc : X.calm = true) : CallR X (.builtin "any") (rBl C E oAny) := by
  intro pins s σ H xs us Q I r h
  obtain ⟨ρ, m, ds, hm, rs, h⟩ := h
  unfold oAny at h
  split at h
  · rename_i z e
    obtain ⟨a, ws, rfl, h1, r1⟩ := list1_of hm rs e
    split at h
    · rename_i is e2
      rw [bools_of r1 e2] at h1
      exact cr_any hc pins s σ H _ us Q I r ⟨a, is, rfl, .of h1, h.val hm (.bl _)⟩
    · exact h.elim
  · exact h.elim
theorem ok_all (hc : X.calm = true) : CallR X (.builtin "all") (rBl C E oAll) := by
  intro pins s σ H xs us Q I r h
  obtain ⟨ρ, m, ds, hm, rs, h⟩ := h
  unfold oAll at h
  split at h
  · rename_i z e
    obtain ⟨a, ws, rfl, h1, r1⟩ := list1_of hm rs e
    split at h
    · rename_i is e2
      rw [bools_of r1 e2] at h1
      exact cr_all hc pins s σ H _ us Q I r ⟨a, is, rfl, .of h1, h.val hm (.bl _)⟩
    · exact h.elim
  · exact h.elim
theorem ok_list : CallR X (.type "list") (rBl C E oList) := by
  intro pins s σ H xs us Q I r h
  obtain ⟨ρ, m, ds, hm, rs, h⟩ := h
  unfold oList at h
  split at h
  · rename_i z e
    obtain ⟨a, ws, rfl, h1, r1⟩ := seq1_of hm rs e
    exact call_list_of pins s σ H _ us Q I r ⟨a, ws, rfl, sq_of X.K h1, fun p hp => h.newLst hm r1 hp⟩
  · exact h.elim
/-- a tuple of a tuple is that tuple -/
theorem ok_tuple : CallR X (.type "tuple") (rBl C E oTuple) := by
  intro pins s σ H xs us Q I r h
  obtain ⟨ρ, m, ds, hm, rs, h⟩ := h
  unfold oTuple at h
  split at h
  · exact h.elim
  rename_i np
  split at h
  · rename_i z e
    have key : ∀ {d : D} {v : V}, Rep ρ H d v → (∀ ys, d ≠ .ptp ys) → seqOf m d = some z → ∃ a ws, v = .ref a ∧ ((SqL X.K H a ws ∧ Reps ρ H z ws) ∨ (SqT X.K H a ws ∧ Rep ρ H (.tup z) (.ref a))) := by
      intro d v r np e
      cases r with
      | ptp _ _ _ _ => exact absurd rfl (np _)
      | tup h n rs => simp only [seqOf] at e; cases e; exact ⟨_, _, rfl, .inr ⟨.of h, .tup h n rs⟩⟩
      | lst h n rs => simp only [seqOf] at e; cases e; exact ⟨_, _, rfl, .inl ⟨.of h, rs⟩⟩
      | scr h n rs => simp only [seqOf] at e; cases e; exact ⟨_, _, rfl, .inl ⟨.inl h, rs⟩⟩
      | @ref k a hk hq =>
        simp only [seqOf] at e
        split at e
        · rename_i ys q
          cases e
          obtain ⟨a', e1, _, vs, h1, h2⟩ := cell_at hm (.ref hk hq) q
          cases e1
          exact ⟨_, vs, rfl, .inl ⟨.of h1, h2⟩⟩
        · cases e
      | _ => simp [seqOf] at e
    unfold seqOf1 at e
    split at e
    · rename_i d e1
      obtain ⟨v, rfl, r1⟩ := one_of rs e1
      obtain ⟨a, ws, rfl, ⟨h1, h2⟩ | ⟨h1, h2⟩⟩ := key r1 (fun ys ey => np (by rw [e1, ey]; rfl)) e
      · exact call_tuple_of pins s σ H _ us Q I r ⟨a, ws, rfl, .inl ⟨h1, fun l hl => h.newTup hm h2 hl⟩⟩
      · exact call_tuple_of pins s σ H _ us Q I r ⟨a, ws, rfl, .inr ⟨h1, h.val hm h2⟩⟩
    · cases e
  · exact h.elim
theorem ok_int : CallR X (.type "int") (rBl C E oInt) := by
  intro pins s σ H xs us Q I r h
  obtain ⟨ρ, m, ds, hm, rs, h⟩ := h
  unfold oInt at h
  split at h
  · rename_i i e
    obtain ⟨v, rfl, r1⟩ := one_of rs e
    cases r1
    exact call_int1 pins s σ H _ us Q I r (.inl ⟨_, rfl, h.val hm (.int _)⟩)
  · rename_i i e
    obtain ⟨v, rfl, r1⟩ := one_of rs e
    cases r1
    exact call_int1 pins s σ H _ us Q I r (.inr ⟨_, rfl, by rw [b2i_if]; exact h.val hm (.int _)⟩)
  · exact h.elim
theorem two_of {ρ : Rho} {H : Hp} {ds : List D} {vs : List V} {i j : Int} (r : Reps ρ H ds vs) (h : two ds = some (i, j)) : vs = [.int i, .int j] := by
  unfold two at h
  split at h
  · cases h
    cases r with
    | cons r t =>
      cases t with
      | cons r2 t2 => cases t2; cases r; cases r2; rfl
  · cases h
theorem ok_min (hc : X.calm = true) : CallR X (.builtin "min") (rBl C E oMin) := by
  intro pins s σ H xs us Q I r h
  obtain ⟨ρ, m, ds, hm, rs, h⟩ := h
  unfold oMin at h
  split at h
  · rename_i i j e
    cases two_of rs e
    exact call_min2 hc pins s σ H _ us Q I r ⟨i, j, rfl, h.val hm (.int _)⟩
  · exact h.elim
theorem ok_max (hc : X.calm = true) : CallR X (.builtin "max") (rBl C E oMax) := by
  intro pins s σ H xs us Q I r h
  obtain ⟨ρ, m, ds, hm, rs, h⟩ := h
  unfold oMax at h
  split at h
  · rename_i i j e
    cases two_of rs e
    exact call_max2 hc pins s σ H _ us Q I r ⟨i, j, rfl, h.val hm (.int _)⟩
  · exact h.elim

/-! ### methods -/
theorem ok_append : MtR X "list.append" (rBm C E mAppend) := by
  intro pins s σ H x xs v us Q I rx r h
  obtain ⟨ρ, m, d, ds, hm, rd, rs, h⟩ := h
  unfold mAppend at h
  split at h
  · split at h
    · rename_i z e
      obtain ⟨a, rfl, h1, ws, h2, h3⟩ := cell_at hm rd e
      split at h
      · rename_i y e2
        obtain ⟨w, rfl, r1⟩ := one_of rs e2
        split at h
        · rename_i hl
          refine mt_append pins s σ H _ _ v us Q I rx r ⟨a, ws, w, rfl, rfl, h2, ?_, ?_⟩
          · rw [← h3.length, sizeLine_eq]; simpa [lineN, Nat.blt_eq] using hl
          · exact h.write hm h1 ⟨_, upd_same, (h3.append (.one r1)).mono (Ext.write hm h1)⟩ .non
        · exact h.elim
      · exact h.elim
    · exact h.elim
  · exact h.elim
theorem ok_pop : MtR X "list.pop" (rBm C E mPop) := by
  intro pins s σ H x xs v us Q I rx r h
  obtain ⟨ρ, m, d, ds, hm, rd, rs, h⟩ := h
  unfold mPop at h
  split at h
  · split at h
    · rename_i z e
      obtain ⟨a, rfl, h1, ws, h2, h3⟩ := cell_at hm rd e
      split at h
      · cases rs
        split at h
        · rename_i y e2
          rw [List.getLast?_eq_getElem?] at e2
          obtain ⟨w, h4, r4⟩ := h3.get e2
          rw [h3.length] at h4
          refine mt_pop pins s σ H _ _ v us Q I rx r ⟨a, ws, w, rfl, rfl, h2, h4, ?_⟩
          exact h.write hm h1 ⟨_, upd_same, h3.dropLast.mono (Ext.write hm h1)⟩ r4
        · exact h.elim
      · exact h.elim
    · exact h.elim
  · exact h.elim
theorem upper_eq (z : List Nat) (h : z.all (fun c => Nat.blt c 128) = true) : Txt.upper (SS z) = SS (z.map upper1) := by
  have e : z.all (· < 128) = true := by
    rw [List.all_eq_true] at h ⊢
    intro c hc
    have := h c hc
    simpa [Nat.blt_eq] using this
  have q := SX.upper_S e
  refine q.trans ?_
  congr 2
  funext c
  unfold PyProof.Rows.up1 upper1
  simp only [Nat.ble_eq, Bool.and_eq_true]
theorem ok_upper : MtR X "str.upper" (rBm C E mUpper) := by
  intro pins s σ H x xs v us Q I rx r h
  obtain ⟨ρ, m, d, ds, hm, rd, rs, h⟩ := h
  unfold mUpper at h
  split at h
  · cases rd
    split at h
    · cases rs
      split at h
      · rename_i hl
        rw [Bool.and_eq_true, Nat.ble_eq] at hl
        refine mt_upper pins s σ H _ _ v us Q I rx r ⟨_, rfl, rfl, ?_, ?_⟩
        · rw [SS_len]; omega
        · rw [upper_eq _ hl.1]; exact h.val hm (.str _)
      · exact h.elim
    · exact h.elim
  · exact h.elim
theorem findIx_spec (x : D) : ∀ (xs : List D) (n k : Nat), plain x = true → plains xs = true → findIx x xs n = some k →
    ∃ j z, k = n + j ∧ (toPys xs)[j]? = some z ∧ PyData.eqv z (toPy x) = true ∧ ∀ (i : Nat) (z' : PyData), i < j → (toPys xs)[i]? = some z' → PyData.eqv z' (toPy x) = false
  | [], _, _, _, _, h => by simp [findIx] at h
  | y :: ys, n, k, px, ps, h => by
    rw [plains] at ps
    cases e : plain y with
    | false => rw [e] at ps; cases ps
    | true =>
      rw [e] at ps
      unfold findIx at h
      have ey := eqv_py y x e px
      cases e2 : eqv y x with
      | true =>
        rw [e2] at h
        cases h
        exact ⟨0, toPy y, rfl, by simp [toPys], ey.trans e2, fun i _ hi => absurd hi (Nat.not_lt_zero _)⟩
      | false =>
        rw [e2] at h
        obtain ⟨j, z, h1, h2, h3, h4⟩ := findIx_spec x ys (n + 1) k px ps h
        refine ⟨j + 1, z, by omega, by simpa [toPys] using h2, h3, fun i z' hi hz => ?_⟩
        cases i with
        | zero => simp [toPys] at hz; subst hz; exact ey.trans e2
        | succ i => exact h4 i z' (by omega) (by simpa [toPys] using hz)
theorem ok_index (hu : X.A.units + 65 < cLine) : MtR X "list.index" (rBm C E mIndex) := by
  intro pins s σ H x xs v us Q I rx r h
  obtain ⟨ρ, m, d, ds, hm, rd, rs, h⟩ := h
  unfold mIndex at h
  split at h
  · rename_i z e
    obtain ⟨a, ws, rfl, h1, r1⟩ := list_of hm rd e
    split at h
    · rename_i y e2
      obtain ⟨w, rfl, r2⟩ := one_of rs e2
      split at h
      · rename_i hl
        rw [Bool.and_eq_true] at hl
        obtain ⟨p1, s1⟩ := fit_of hl.1
        obtain ⟨p2, s2⟩ := fit_of hl.2
        rw [plain] at p2
        rw [toPy] at s2
        split at h
        · rename_i k e3
          obtain ⟨j, q, e4, h4, h5, h6⟩ := findIx_spec y z 0 k p1 p2 e3
          rw [Nat.zero_add] at e4
          subst e4
          exact mt_indexD hu pins s σ H _ _ v us Q I rx r ⟨a, w, _, _, k, q, rfl, rfl, .lst (.of h1) (dps_of X.K r1 p2), dp_of X.K r2 p1, s2, s1, h4, h5, h6, h.val hm (.int _)⟩
        · exact h.elim
      · exact h.elim
    · exact h.elim
  · exact h.elim
end
end Mt
end
section
set_option linter.all false
set_option autoImplicit false
set_option maxRecDepth 100000
set_option maxHeartbeats 1000000
/-! MtX1: the rules of expressions, one a combinator. -/
namespace Mt
open PySem PySem.Spec PyProof.Rows L2

end Mt
namespace L2
open PySem PySem.Spec PyProof.Rows
theorem PE.imp {X : Cx} {e : Expr} {t t' : TE} (h : PE X e t) (k : ∀ σ H Q, t' σ H Q → t σ H Q) : PE X e t' := ⟨fun pins s σ H Q I q => h.run pins s σ H Q I (k _ _ _ q)⟩
theorem PT.imp {X : Cx} {e : Expr} {t t' : TT} (h : PT X e t) (k : ∀ σ H Q, t' σ H Q → t σ H Q) : PT X e t' := ⟨fun pins s σ H Q I q => h.run pins s σ H Q I (k _ _ _ q)⟩
theorem PW.imp {X : Cx} {e : Expr} {t t' : TT} (h : PW X e t) (k : ∀ σ H Q, t' σ H Q → t σ H Q) : PW X e t' := ⟨fun wh pins s σ H Q I q => h.run wh pins s σ H Q I (k _ _ _ q)⟩
theorem PA.imp {X : Cx} {es : List Expr} {t t' : TA} (h : PA X es t) (k : ∀ σ H Q, t' σ H Q → t σ H Q) : PA X es t' := ⟨fun pos pins s σ H Q I q => h.run pos pins s σ H Q I (k _ _ _ q)⟩

end L2
namespace Mt
open PySem PySem.Spec PyProof.Rows L2

/-! ### tame syntax -/
def tame : Expr → Bool
  | .Name .. => true
  | .Constant .. => true
  | .BinOp .. => true
  | .UnaryOp .. => true
  | .BoolOp .. => true
  | .Compare .. => true
  | .IfExp .. => true
  | .Call .. => true
  | .Attribute .. => true
  | .Subscript .. => true
  | .List .. => true
  | .Tuple .. => true
  | .Dict .. => true
  | .ListComp .. => true
  | .DictComp .. => true
  | .Lambda .. => true
  | _ => false
theorem tame_star {e : Expr} (h : tame e = true) (es : List Expr) (env : PySem.Env) : starEach (e :: es) env = (false, eval e env) :: starEach es env := by
  cases e <;> first | rfl | (simp [tame] at h)
theorem tame_marks {e : Expr} (h : tame e = true) (op : CmpOp) : behindInMarks op e = false := by
  cases e <;> first | rfl | (simp [tame] at h)
theorem tame_ix {e : Expr} (h : tame e = true) : PlainIx e := by
  intro o i
  cases e <;> first | rfl | (simp [tame] at h)
theorem tame_folded {e : Expr} (h : tame e = true) (env : PySem.Env) (x : Value) : foldedSetIterable e env x = pure x := by
  cases e <;> first | rfl | (simp [tame] at h)
def tames : List Expr → Bool
  | [] => true
  | e :: es => tame e && tames es
theorem tames_plain {pos : Pos} {env : PySem.Env} : ∀ {es : List Expr}, tames es = true → (backTo pos (starEach es env)).any (·.1) = false
  | [], _ => rfl
  | e :: es, h => by
    simp only [tames, Bool.and_eq_true] at h
    rw [tame_star h.1]
    have := tames_plain (pos := pos) (env := env) h.2
    simpa [backTo] using this

/-! ### exceptions told without the slots -/
def rOpE (C : Cls) (f : Mem → D → D → R D) : R2 := fun x y H Q => ∃ E, rOp C E f x y H Q
theorem opE {X : Cx} {C : Cls} {F : Value → Value → Sem Value} {f : Mem → D → D → R D} (h : ∀ E, OpR X F (rOp C E f)) : OpR X F (rOpE C f) := fun pins s σ H x y v u Q I rx ry q => let ⟨E, q⟩ := q; h E pins s σ H x y v u Q I rx ry q
theorem ixE {X : Cx} {C : Cls} {f : Mem → D → D → R D} (h : ∀ E, IxR X (rOp C E f)) : IxR X (rOpE C f) := fun a b pins s σ H x y v u Q I rx ry q => let ⟨E, q⟩ := q; h E a b pins s σ H x y v u Q I rx ry q
def rBlE (C : Cls) (f : Mem → List D → R D) : List V → Hp → VK → Prop := fun vs H Q => ∃ E, rBl C E f vs H Q
theorem blE {X : Cx} {C : Cls} {F : Value} {f : Mem → List D → R D} (h : ∀ E, CallR X F (rBl C E f)) : CallR X F (rBlE C f) := fun pins s σ H xs us Q I r q => let ⟨E, q⟩ := q; h E pins s σ H xs us Q I r q
def rBmE (C : Cls) (f : Mem → D → List D → R D) : V → List V → Hp → VK → Prop := fun x vs H Q => ∃ E, rBm C E f x vs H Q
theorem bmE {X : Cx} {C : Cls} {id : String} {f : Mem → D → List D → R D} (h : ∀ E, MtR X id (rBm C E f)) : MtR X id (rBmE C f) := fun pins s σ H x xs v us Q I rx r q => let ⟨E, q⟩ := q; h E pins s σ H x xs v us Q I rx r q
def rSlE (C : Cls) : V → Option Int → Option Int → Hp → VK → Prop := fun x lo hi H Q => ∃ E, rSlD C E x lo hi H Q
theorem slE {X : Cx} {C : Cls} : SlR X (rSlE C) := fun pins s σ H x v vl vu lo hi sl Q I rx hs pl pu q => let ⟨E, q⟩ := q; ok_sl pins s σ H x v vl vu lo hi sl Q I rx hs pl pu q

/-! ### the other readings -/
section
variable (C : Cls) (W : WX)
/-- a list of arguments -/
def PostL (ρ : Rho) (H : Hp) (r : R D) (Q : List V → Hp → Prop) (E : XK) : Prop :=
  match r with
  | .ok d m => ∃ ds, d = .tup ds ∧ ∀ ρ' H' vs, Ext ρ H ρ' H' → HR ρ' m H' → Reps ρ' H' ds vs → Q vs H'
  | .exc c fs m => ∀ ρ' H' cv d, Ext ρ H ρ' H' → HR ρ' m H' → ExcR C.cls C.fns ρ' H' c fs cv d → E cv d H'
  | .bad _ => False
def tXs (f : Mt.X) : TA := fun σ H Q => ∃ ρ e m, EnvR ρ H e σ ∧ HR ρ m H ∧ PostL C ρ H (f e m) Q fun cv d H' => W cv d σ H'
def PostT (ρ : Rho) (H : Hp) (r : R D) (Q : Bool → Hp → Prop) (E : XK) : Prop :=
  match r with
  | .ok d m => ∃ b, truth m d = some b ∧ ∀ ρ' H', Ext ρ H ρ' H' → HR ρ' m H' → Q b H'
  | .exc c fs m => ∀ ρ' H' cv d, Ext ρ H ρ' H' → HR ρ' m H' → ExcR C.cls C.fns ρ' H' c fs cv d → E cv d H'
  | .bad _ => False
def tT (f : Mt.X) : TT := fun σ H Q => ∃ ρ e m, EnvR ρ H e σ ∧ HR ρ m H ∧ PostT C ρ H (f e m) Q fun cv d H' => W cv d σ H'
end
section
variable {C : Cls} {W : WX} {σ : L2.St} {H : Hp}
/-- behind the first part -/
theorem tX.bind {fa : Mt.X} {g : Env → D → Mem → R D} {Q : VK} (h : tX C W (fun e m => (fa e m).bind (g e)) σ H Q) :
    tX C W fa σ H fun v H' => ∃ ρ e d m, EnvR ρ H' e σ ∧ HR ρ m H' ∧ Rep ρ H' d v ∧ Post C ρ H' (g e d m) Q fun cv d H'' => W cv d σ H'' := by
  obtain ⟨ρ, e, m, he, hm, h⟩ := h
  exact ⟨ρ, e, m, he, hm, h.bind.imp fun v H' ⟨ρ', d, m', a, b, c, q⟩ => ⟨ρ', e, d, m', he.mono a, b, c, q⟩⟩
/-- .. a list of arguments -/
theorem tX.bindL {fa : Mt.X} {g : Env → List D → Mem → R D} {Q : VK} (h : tX C W (fun e m => (fa e m).bind fun d m => match d with
    | .tup ds => g e ds m
    | _ => .bad 61) σ H Q) :
    tXs C W fa σ H fun vs H' => ∃ ρ e ds m, EnvR ρ H' e σ ∧ HR ρ m H' ∧ Reps ρ H' ds vs ∧ Post C ρ H' (g e ds m) Q fun cv d H'' => W cv d σ H'' := by
  obtain ⟨ρ, e, m, he, hm, h⟩ := h
  dsimp only at h
  refine ⟨ρ, e, m, he, hm, ?_⟩
  cases e1 : fa e m with
  | ok d m' =>
    rw [e1] at h
    unfold R.bind at h
    simp only at h
    split at h
    · rename_i ds
      refine ⟨ds, rfl, fun ρ' H' vs a b c => ⟨ρ', e, ds, m', he.mono a, b, c, ?_⟩⟩
      revert h
      cases g e ds m' with
      | ok d' m' => exact fun h' ρ2 H2 v2 x y z => h' ρ2 H2 v2 (a.trans x) y z
      | exc k fs m' => exact fun h' ρ2 H2 cv dd x y z => h' ρ2 H2 cv dd (a.trans x) y z
      | bad w => exact fun h' => h'
    · exact h.elim
  | exc c fs m' => rw [e1] at h; exact h
  | bad w => rw [e1] at h; exact h
/-- a later part, from what stands -/
theorem tX.of {f : Mt.X} {ρ : Rho} {e : Env} {m : Mem} {Q : VK} (he : EnvR ρ H e σ) (hm : HR ρ m H) (h : Post C ρ H (f e m) Q fun cv d H' => W cv d σ H') : tX C W f σ H Q := ⟨ρ, e, m, he, hm, h⟩
theorem tX.mono {f : Mt.X} {Q Q' : VK} (h : tX C W f σ H Q) (k : ∀ v H', Q v H' → Q' v H') : tX C W f σ H Q' := let ⟨ρ, e, m, he, hm, h⟩ := h; ⟨ρ, e, m, he, hm, h.imp k⟩
theorem tXs.mono {f : Mt.X} {Q Q' : List V → Hp → Prop} (h : tXs C W f σ H Q) (k : ∀ v H', Q v H' → Q' v H') : tXs C W f σ H Q' := by
  obtain ⟨ρ, e, m, he, hm, h⟩ := h
  refine ⟨ρ, e, m, he, hm, ?_⟩
  cases e1 : f e m with
  | ok d m' =>
    rw [e1] at h
    obtain ⟨ds, rfl, h⟩ := h
    exact ⟨ds, rfl, fun ρ' H' vs a b c => k _ _ (h ρ' H' vs a b c)⟩
  | exc c fs m' => rw [e1] at h; exact h
  | bad w => rw [e1] at h; exact h
/-- a value and its truth -/
theorem truth_of {K : PySem.W.Frag} {ρ : Rho} {m : Mem} {d : D} {v : V} {b : Bool} (hm : HR ρ m H) (r : Rep ρ H d v) (h : truth m d = some b) : TruV K v H b := by
  cases r with
  | non => simp [truth] at h; subst h; rfl
  | bl c => simp [truth] at h; subst h; rfl
  | int i =>
    simp only [truth, Option.some.injEq] at h
    subst h
    show (!intEq i 0) = (i != 0)
    rw [bne, int_beq]
  | str x =>
    simp only [truth] at h
    split at h
    · rename_i hl
      cases h
      refine ⟨by rw [SS_len, sizeLine_eq]; simpa [lineN] using hl, ?_⟩
      rw [SS_len]
      cases x <;> simp
      omega
    · cases h
  | tup h1 n1 r1 =>
    simp only [truth, Option.some.injEq] at h
    subst h
    refine .inr (.inl ⟨_, .of h1, ?_⟩)
    cases r1 <;> rfl
  | lst h1 n1 r1 =>
    simp only [truth, Option.some.injEq] at h
    subst h
    refine .inl ⟨_, .of h1, ?_⟩
    cases r1 <;> rfl
  | scr h1 n1 r1 =>
    simp only [truth, Option.some.injEq] at h
    subst h
    refine .inl ⟨_, .inl h1, ?_⟩
    cases r1 <;> rfl
  | ptp h1 d1 n1 r1 =>
    simp only [truth, Option.some.injEq] at h
    subst h
    refine .inr (.inl ⟨_, .inl (.inr ⟨_, h1⟩), ?_⟩)
    cases r1 <;> rfl
  | @ref n a hn hq =>
    simp only [truth] at h
    split at h
    · rename_i x e
      cases h
      obtain ⟨a', e1, _, vs, h2, h3⟩ := cell_at hm (.ref hn hq) e
      cases e1
      refine .inl ⟨_, .of h2, ?_⟩
      cases h3 <;> rfl
    · cases h
/-- a test is a value and its truth -/
theorem tT.val {f : Mt.X} {Q : Bool → Hp → Prop} (K : PySem.W.Frag) (h : tT C W f σ H Q) : tX C W f σ H fun v H' => ∃ k, TruV K v H' k ∧ Q k H' := by
  obtain ⟨ρ, e, m, he, hm, h⟩ := h
  refine ⟨ρ, e, m, he, hm, ?_⟩
  cases e1 : f e m with
  | ok d m' =>
    rw [e1] at h
    obtain ⟨b, hb, h⟩ := h
    exact fun ρ' H' v a b' c => ⟨b, truth_of b' c hb, h ρ' H' a b'⟩
  | exc c fs m' => rw [e1] at h; exact h
  | bad w => rw [e1] at h; exact h
theorem PostT.up {ρ ρ' : Rho} {H H' : Hp} {r : R D} {Q : Bool → Hp → Prop} {E : XK} (x : Ext ρ H ρ' H') (h : PostT C ρ H r Q E) : PostT C ρ' H' r Q E := by
  cases r with
  | ok d m => exact let ⟨b, hb, h⟩ := h; ⟨b, hb, fun ρ2 H2 a => h ρ2 H2 (x.trans a)⟩
  | exc c fs m => exact fun ρ2 H2 cv d a => h ρ2 H2 cv d (x.trans a)
  | bad w => exact h
theorem Post.up {ρ ρ' : Rho} {H H' : Hp} {r : R D} {Q : VK} {E : XK} (x : Ext ρ H ρ' H') (h : Post C ρ H r Q E) : Post C ρ' H' r Q E := by
  cases r with
  | ok d m => exact fun ρ2 H2 v a => h ρ2 H2 v (x.trans a)
  | exc c fs m => exact fun ρ2 H2 cv d a => h ρ2 H2 cv d (x.trans a)
  | bad w => exact h
end

/-! ### one rule a combinator -/
section
variable {X : Cx} {C : Cls} {W : WX} {a b c : Expr} {es : List Expr} {fa fb fc : Mt.X} {pos : Pos}
theorem tCon_of {d : D} {v : V} (r : ∀ ρ H, Rep ρ H d v) : ∀ σ H Q, tX C W (xCon d) σ H Q → Q v H := fun σ H Q ⟨ρ, e, m, he, hm, h⟩ => Post.val hm h (r ρ H)
theorem px_non {j : Nat} : PE X (.Constant .none j pos) (tX C W (xCon .non)) := pe_non.imp (tCon_of fun _ _ => .non)
theorem px_bl {b : Bool} {j : Nat} : PE X (.Constant (.bool b) j pos) (tX C W (xCon (.bl b))) := pe_bl.imp (tCon_of fun _ _ => .bl _)
theorem px_int {i : Int} {j : Nat} : PE X (.Constant (.int i) j pos) (tX C W (xCon (.int i))) := pe_int.imp (tCon_of fun _ _ => .int _)
theorem px_str {x : List Nat} {j : Nat} : PE X (.Constant (.str (SS x)) j pos) (tX C W (xCon (.str x))) := pe_str.imp (tCon_of fun _ _ => .str _)
theorem px_var {i : Nat} {x : Str} (hN : X.N[i]? = some x) (hv : Vis X.env.scope x) (hd : (x == ("__debug__" : Str)) = false) (hcd : (x == ("__classdict__" : Str)) = false) : PE X (.Name x pos) (tX C W (xVar i)) :=
  (pe_var hN hv hd hcd).imp fun σ H Q ⟨ρ, e, m, he, hm, h⟩ => by
    unfold xVar at h
    split at h
    · rename_i d e1
      obtain ⟨v, h1, h2⟩ := he.2 i d e1
      exact ⟨v, h1, h.val hm h2⟩
    · exact h.elim
theorem px_glob {x : Str} {d : D} {v : V} {u : Value} (hg : Gl X x) (hm : X.mg x = some u) (r : RelV v u) (rd : ∀ ρ H, Rep ρ H d v) (hd : (x == ("__debug__" : Str)) = false) : PE X (.Name x pos) (tX C W (xCon d)) := (pe_glob hg hm r hd).imp (tCon_of rd)
/-- arguments -/
theorem pl_nil : PA X [] (tXs C W (xCon (.tup []))) := pa_nil.imp fun σ H Q ⟨ρ, e, m, he, hm, h⟩ => by
  obtain ⟨ds, e1, h⟩ := h
  cases e1
  exact h ρ H [] (Ext.refl _ _) hm .nil
theorem pl_cons (ha : PE X a (tX C W fa)) (hb : PA X es (tXs C W fb)) (ht : tame a = true) : PA X (a :: es) (tXs C W (xCons fa fb)) :=
  (pa_cons ha hb (tame_star ht _ _)).imp fun σ H Q ⟨ρ, e, m, he, hm, h⟩ => by
    refine ⟨ρ, e, m, he, hm, ?_⟩
    unfold xCons at h
    cases e1 : fa e m with
    | bad w => rw [e1] at h; exact h
    | exc k fs m' => rw [e1] at h; exact h
    | ok d m1 =>
      rw [e1] at h
      intro ρ1 H1 v x1 y1 z1
      refine ⟨ρ1, e, m1, he.mono x1, y1, ?_⟩
      unfold R.bind at h
      simp only at h
      cases e2 : fb e m1 with
      | bad w => rw [e2] at h; exact h
      | exc k fs m' => rw [e2] at h; exact fun ρ2 H2 cv dd x2 y2 z2 => h ρ2 H2 cv dd (x1.trans x2) y2 z2
      | ok d2 m2 =>
        rw [e2] at h
        simp only at h
        split at h
        · rename_i ys
          obtain ⟨ds, e3, h⟩ := h
          cases e3
          exact ⟨ys, rfl, fun ρ2 H2 vs x2 y2 z2 => h ρ2 H2 (v :: vs) (x1.trans x2) y2 (.cons (z1.mono x2) z2)⟩
        · exact h.elim
theorem px_tup {k : Nat} (h : PA X es (tXs C W fa)) : PE X (.Tuple es k pos) (tX C W (xTup fa)) := (pe_tup h).imp fun σ H Q h => by
  refine (tX.bindL (g := fun _ xs m => if Nat.ble xs.length lineN then .ok (.tup xs) m else .bad 61) h).mono fun vs H' ⟨ρ, e, ds, m, he, hm, r, q⟩ => ?_
  split at q
  · rename_i hl
    exact ⟨by rw [← r.length, sizeLine_eq]; simpa [lineN] using hl, fun p hp => q.newTup hm r hp⟩
  · exact q.elim
theorem px_lst (h : PA X es (tXs C W fa)) : PE X (.List es pos) (tX C W (xLst fa)) := (pe_lst h).imp fun σ H Q h => by
  refine (tX.bindL (g := fun _ xs m => if Nat.ble xs.length lineN then .ok (.lst xs) m else .bad 61) h).mono fun vs H' ⟨ρ, e, ds, m, he, hm, r, q⟩ => ?_
  split at q
  · rename_i hl
    exact ⟨by rw [← r.length, sizeLine_eq]; simpa [lineN] using hl, fun p hp => q.newLst hm r hp⟩
  · exact q.elim
theorem px_newK : PE X (.Dict [] [] pos) (tX C W xNewK) := pe_dnewK.imp fun σ H Q ⟨ρ, e, m, he, hm, h⟩ p hp => Post.newCell hm h hp ⟨[], upd_same, .nil⟩
theorem px_newT : PE X (.Dict [] [] pos) (tX C W xNewT) := pe_dnewT.imp fun σ H Q ⟨ρ, e, m, he, hm, h⟩ p hp => Post.newCell hm h hp ⟨[], upd_same, .nil⟩
/-- two operands -/
theorem tOp_of {g : Mem → D → D → R D} : ∀ σ H Q, tX C W (x2 g fa fb) σ H Q → tOp (rOpE C g) (tX C W fa) (tX C W fb) σ H Q := fun σ H Q h => by
  refine (tX.bind (g := fun e x m => (fb e m).bind fun y m => g m x y) h).mono fun v H' ⟨ρ, e, d, m, he, hm, r, q⟩ => ?_
  exact ⟨ρ, e, m, he, hm, q.bind.imp fun v2 H2 ⟨ρ2, d2, m2, a2, b2, c2, q2⟩ => ⟨_, ρ2, m2, d, d2, b2, r.mono a2, c2, q2⟩⟩
theorem px_bin {op : Operator} {g : Mem → D → D → R D} (ho : OpR X (binaryOp op) (rOpE C g)) (ha : PE X a (tX C W fa)) (hb : PE X b (tX C W fb)) : PE X (.BinOp a op b pos) (tX C W (x2 g fa fb)) := (pe_op ho ha hb).imp tOp_of
theorem px_cmp {op : CmpOp} {g : Mem → D → D → R D} (ho : OpR X (compareOp op) (rOpE C g)) (ha : PE X a (tX C W fa)) (hb : PE X b (tX C W fb)) (ht : tame b = true) : PE X (.Compare a [op] [b] pos) (tX C W (x2 g fa fb)) := (pe_cmpR ho ha hb (tame_marks ht _)).imp tOp_of
theorem px_idx (ho : IxR X (rOpE C idxR)) (ha : PE X a (tX C W fa)) (hb : PE X b (tX C W fb)) (ht : tame b = true) : PE X (.Subscript a b pos) (tX C W (x2 idxR fa fb)) := (pe_ix ho ha hb (tame_ix ht)).imp tOp_of
theorem px_neg (ha : PE X a (tX C W fa)) : PE X (.UnaryOp .USub a pos) (tX C W (xNeg fa)) := (pe_un un_neg ha).imp fun σ H Q h => by
  refine (tX.bind (g := fun _ x m => match x with
    | .int i => .ok (.int (-i)) m
    | _ => .bad 63) h).mono fun v H' ⟨ρ, e, d, m, he, hm, r, q⟩ => ?_
  split at q
  · cases r
    exact ⟨_, rfl, q.val hm (.int _)⟩
  · exact q.elim
theorem px_not (ha : PE X a (tX C W fa)) : PE X (.UnaryOp .Not a pos) (tX C W (xNot fa)) := (pe_notT ha).imp fun σ H Q h => by
  refine (tX.bind (g := fun _ x m => match truth m x with
    | some b => .ok (.bl (!b)) m
    | none => .bad 64) h).mono fun v H' ⟨ρ, e, d, m, he, hm, r, q⟩ => ?_
  split at q
  · rename_i b e1
    exact ⟨b, truth_of hm r e1, q.val hm (.bl _)⟩
  · exact q.elim
theorem px_and (ha : PE X a (tX C W fa)) (hb : PE X (.BoolOp .And (b :: es) pos) (tX C W fb)) : PE X (.BoolOp .And (a :: b :: es) pos) (tX C W (xAnd fa fb)) := (pe_and ha hb).imp fun σ H Q h => by
  refine (tX.bind (g := fun e x m => match x with
    | .bl true => fb e m
    | .bl false => .ok (.bl false) m
    | _ => .bad 65) h).mono fun v H' ⟨ρ, e, d, m, he, hm, r, q⟩ => ?_
  split at q
  · cases r
    exact ⟨true, rfl, ρ, e, m, he, hm, q⟩
  · cases r
    exact ⟨false, rfl, q.val hm (.bl _)⟩
  · exact q.elim
theorem px_or (ha : PE X a (tX C W fa)) (hb : PE X (.BoolOp .Or (b :: es) pos) (tX C W fb)) : PE X (.BoolOp .Or (a :: b :: es) pos) (tX C W (xOr fa fb)) := (pe_or ha hb).imp fun σ H Q h => by
  refine (tX.bind (g := fun e x m => match x with
    | .bl true => .ok (.bl true) m
    | .bl false => fb e m
    | _ => .bad 65) h).mono fun v H' ⟨ρ, e, d, m, he, hm, r, q⟩ => ?_
  split at q
  · cases r
    exact ⟨true, rfl, q.val hm (.bl _)⟩
  · cases r
    exact ⟨false, rfl, ρ, e, m, he, hm, q⟩
  · exact q.elim
/-- a test, then what hangs on it -/
theorem tT.bind {g : Env → Bool → Mem → R D} {σ : L2.St} {H : Hp} {Q : VK} (h : tX C W (fun e m => (fa e m).bind fun x m => match truth m x with
    | some b => g e b m
    | none => .bad 66) σ H Q) : tT C W fa σ H fun b H' => ∃ ρ e m, EnvR ρ H' e σ ∧ HR ρ m H' ∧ Post C ρ H' (g e b m) Q fun cv d H'' => W cv d σ H'' := by
  obtain ⟨ρ, e, m, he, hm, h⟩ := h
  dsimp only at h
  refine ⟨ρ, e, m, he, hm, ?_⟩
  cases e1 : fa e m with
  | bad w => rw [e1] at h; exact h
  | exc k fs m' => rw [e1] at h; exact h
  | ok d m1 =>
    rw [e1] at h
    unfold R.bind at h
    simp only at h
    split at h
    · rename_i b e2
      exact ⟨b, e2, fun ρ' H' x y => ⟨ρ', e, m1, he.mono x, y, h.up x⟩⟩
    · exact h.elim
theorem px_ite (hc : PT X c (tT C W fc)) (ha : PE X a (tX C W fa)) (hb : PE X b (tX C W fb)) : PE X (.IfExp c a b pos) (tX C W (xIte fc fa fb)) := (pe_ifExp hc ha hb).imp fun σ H Q h => by
  have h' : tX C W (fun e m => (fc e m).bind fun x m => match truth m x with
    | some k => (match k with
      | true => fa e m
      | false => fb e m)
    | none => .bad 66) σ H Q := by
    obtain ⟨ρ, e, m, he, hm, h⟩ := h
    refine ⟨ρ, e, m, he, hm, ?_⟩
    have : xIte fc fa fb e m = (fc e m).bind fun x m => match truth m x with
      | some k => (match k with
        | true => fa e m
        | false => fb e m)
      | none => .bad 66 := by
      unfold xIte
      congr
      funext x m
      cases truth m x with
      | none => rfl
      | some k => cases k <;> rfl
    dsimp only
    rw [← this]
    exact h
  obtain ⟨ρ, e, m, he, hm, h⟩ := tT.bind (g := fun e k m => match k with
      | true => fa e m
      | false => fb e m) h'
  refine ⟨ρ, e, m, he, hm, ?_⟩
  cases e1 : fc e m with
  | bad w => rw [e1] at h; exact h
  | exc k fs m' => rw [e1] at h; exact h
  | ok d m1 =>
    rw [e1] at h
    obtain ⟨k, e2, h⟩ := h
    refine ⟨k, e2, fun ρ' H' x y => ?_⟩
    obtain ⟨ρ2, e3, m3, he3, hm3, q⟩ := h ρ' H' x y
    cases k with
    | true => exact ⟨ρ2, e3, m3, he3, hm3, q⟩
    | false => exact ⟨ρ2, e3, m3, he3, hm3, q⟩
end
end Mt
end
section
set_option linter.all false
set_option autoImplicit false
set_option maxRecDepth 100000
set_option maxHeartbeats 1000000
/-! MtX2: chains, slices, dicts, calls, tests. -/
namespace Mt
open PySem PySem.Spec PyProof.Rows L2
section
variable {X : Cx} {C : Cls} {W : WX} {a b c : Expr} {es : List Expr} {fa fb fc : Mt.X} {pos : Pos}

theorem tChain_of {f g : Mem → D → D → R D} : ∀ σ H Q, tX C W (xChain f g fa fb fc) σ H Q → tChain (rOpE C f) (rOpE C g) (tX C W fa) (tX C W fb) (tX C W fc) σ H Q := fun σ H Q h => by
  refine (tX.bind (g := fun e x m => (fb e m).bind fun y m => (f m x y).bind fun z m => match z with
    | .bl true => (fc e m).bind fun w m => g m y w
    | .bl false => .ok (.bl false) m
    | _ => .bad 67) h).mono fun v H1 ⟨ρ, e, d, m, he, hm, r, q⟩ => ?_
  refine ⟨ρ, e, m, he, hm, q.bind.imp fun v2 H2 ⟨ρ2, d2, m2, a2, b2, c2, q2⟩ => ?_⟩
  refine ⟨_, ρ2, m2, d, d2, b2, r.mono a2, c2, q2.bind.imp fun v3 H3 ⟨ρ3, d3, m3, a3, b3, c3, q3⟩ => ?_⟩
  have he3 := (he.mono a2).mono a3
  split at q3
  · cases c3
    refine ⟨true, rfl, ?_⟩
    rw [if_pos rfl]
    exact ⟨ρ3, e, m3, he3, b3, q3.bind.imp fun v4 H4 ⟨ρ4, d4, m4, a4, b4, c4, q4⟩ => ⟨_, ρ4, m4, d2, d4, b4, (c2.mono a3).mono a4, c4, q4⟩⟩
  · cases c3
    refine ⟨false, rfl, ?_⟩
    rw [if_neg Bool.false_ne_true]
    exact q3.val b3 (.bl _)
  · exact q3.elim
theorem px_chain {op op' : CmpOp} {f g : Mem → D → D → R D} (ho : OpR X (compareOp op) (rOpE C f)) (ho' : OpR X (compareOp op') (rOpE C g)) (ha : PE X a (tX C W fa)) (hb : PE X b (tX C W fb)) (hc : PE X c (tX C W fc)) (ht : tame c = true) :
    PE X (.Compare a [op, op'] [b, c] pos) (tX C W (xChain f g fa fb fc)) := (pe_chain ho ho' ha hb hc (tame_marks ht _)).imp tChain_of

/-! ### slices -/
theorem part_of {D1 : Prop} {fl : Mt.X} {σ : L2.St} {H : Hp} {Q : Option Int → Hp → Prop} (h : tX C W fl σ H fun v H' => ∃ i, v = .int i ∧ Q (some i) H') : tPart (tX C W fl) σ H Q := h
theorem px_slL {lo : Expr} {p2 : Pos} (ha : PE X a (tX C W fa)) (hl : PE X lo (tX C W fb)) : PE X (.Subscript a (.Slice (some lo) none none p2) pos) (tX C W (x2 slLR fa fb)) := (pe_slice slE ha (po_some hl) po_none).imp fun σ H Q h => by
  refine (tX.bind (g := fun e x m => (fb e m).bind fun y m => slLR m x y) h).mono fun v H' ⟨ρ, e, d, m, he, hm, r, q⟩ => ?_
  refine ⟨ρ, e, m, he, hm, q.bind.imp fun v2 H2 ⟨ρ2, d2, m2, a2, b2, c2, q2⟩ => ?_⟩
  unfold slLR at q2
  split at q2
  · cases c2
    exact ⟨_, rfl, _, ρ2, m2, d, b2, r.mono a2, q2⟩
  · exact q2.elim
theorem px_slU {hi : Expr} {p2 : Pos} (ha : PE X a (tX C W fa)) (hl : PE X hi (tX C W fb)) : PE X (.Subscript a (.Slice none (some hi) none p2) pos) (tX C W (x2 slUR fa fb)) := (pe_slice slE ha po_none (po_some hl)).imp fun σ H Q h => by
  refine (tX.bind (g := fun e x m => (fb e m).bind fun y m => slUR m x y) h).mono fun v H' ⟨ρ, e, d, m, he, hm, r, q⟩ => ?_
  refine ⟨ρ, e, m, he, hm, q.bind.imp fun v2 H2 ⟨ρ2, d2, m2, a2, b2, c2, q2⟩ => ?_⟩
  unfold slUR at q2
  split at q2
  · cases c2
    exact ⟨_, rfl, _, ρ2, m2, d, b2, r.mono a2, q2⟩
  · exact q2.elim
theorem px_sl {lo hi : Expr} {p2 : Pos} (ha : PE X a (tX C W fa)) (hl : PE X lo (tX C W fb)) (hh : PE X hi (tX C W fc)) : PE X (.Subscript a (.Slice (some lo) (some hi) none p2) pos) (tX C W (xSl fa fb fc)) := (pe_slice slE ha (po_some hl) (po_some hh)).imp fun σ H Q h => by
  refine (tX.bind (g := fun e x m => (fb e m).bind fun y m => match y with
    | .int i => (fc e m).bind fun z m => match z with
      | .int j => slG m x (some i) (some j)
      | _ => .bad 21
    | _ => .bad 21) h).mono fun v H' ⟨ρ, e, d, m, he, hm, r, q⟩ => ?_
  refine ⟨ρ, e, m, he, hm, q.bind.imp fun v2 H2 ⟨ρ2, d2, m2, a2, b2, c2, q2⟩ => ?_⟩
  split at q2
  · cases c2
    refine ⟨_, rfl, ρ2, e, m2, he.mono a2, b2, q2.bind.imp fun v3 H3 ⟨ρ3, d3, m3, a3, b3, c3, q3⟩ => ?_⟩
    split at q3
    · cases c3
      exact ⟨_, rfl, _, ρ3, m3, d, b3, (r.mono a2).mono a3, q3⟩
    · exact q3.elim
  · exact q2.elim

/-! ### dicts -/
theorem px_dget (hu : X.A.units + 1 < cLine) (ha : PE X a (tX C W fa)) (hb : PE X b (tX C W fb)) (ht : tame b = true) : PE X (.Subscript a b pos) (tX C W (x2 dgetR fa fb)) := (pe_dget hu ha hb (tame_ix ht)).imp fun σ H Q h => by
  refine (tX.bind (g := fun e x m => (fb e m).bind fun y m => dgetR m x y) h).mono fun v H' ⟨ρ, e, d, m, he, hm, r, q⟩ => ?_
  refine ⟨ρ, e, m, he, hm, q.bind.imp fun v2 H2 ⟨ρ2, d2, m2, a2, b2, c2, q2⟩ => ?_⟩
  unfold dgetR at q2
  split at q2
  · rename_i o eo
    obtain ⟨n, ad, e1, rfl, e3, e4, ho⟩ := dict_of b2 (r.mono a2) eo
    split at q2
    · rename_i dv ev
      obtain ⟨rv, h1, h2⟩ := dget_of ho c2 ev
      cases rv with
      | none => exact h2.elim
      | some w => exact ⟨ad, w, rfl, h1, q2.val b2 h2⟩
    · exact q2.elim
  · exact q2.elim
theorem px_din (hu : X.A.units + 1 < cLine) (ha : PE X a (tX C W fa)) (hb : PE X b (tX C W fb)) (ht : tame b = true) : PE X (.Compare a [.In] [b] pos) (tX C W (x2 dinR fa fb)) := (pe_cmp (pc_din hu ha hb) (tame_marks ht _)).imp fun σ H Q h => by
  refine (tX.bind (g := fun e x m => (fb e m).bind fun y m => dinR m x y) h).mono fun v H' ⟨ρ, e, d, m, he, hm, r, q⟩ => ?_
  refine ⟨ρ, e, m, he, hm, q.bind.imp fun v2 H2 ⟨ρ2, d2, m2, a2, b2, c2, q2⟩ => ?_⟩
  unfold dinR at q2
  split at q2
  · rename_i o eo
    obtain ⟨n, ad, e1, rfl, e3, e4, ho⟩ := dict_of b2 c2 eo
    split at q2
    · rename_i dv ev
      obtain ⟨rv, h1, h2⟩ := dget_of ho (r.mono a2) ev
      exact ⟨ad, rv, rfl, h1, by rw [h2.isSome]; exact q2.val b2 (.bl _)⟩
    · exact q2.elim
  · exact q2.elim
theorem px_dnin (hu : X.A.units + 1 < cLine) (ha : PE X a (tX C W fa)) (hb : PE X b (tX C W fb)) (ht : tame b = true) : PE X (.Compare a [.NotIn] [b] pos) (tX C W (x2 dninR fa fb)) := (pe_cmp (pc_dnotin hu ha hb) (tame_marks ht _)).imp fun σ H Q h => by
  refine (tX.bind (g := fun e x m => (fb e m).bind fun y m => dninR m x y) h).mono fun v H' ⟨ρ, e, d, m, he, hm, r, q⟩ => ?_
  refine ⟨ρ, e, m, he, hm, q.bind.imp fun v2 H2 ⟨ρ2, d2, m2, a2, b2, c2, q2⟩ => ?_⟩
  unfold dninR at q2
  split at q2
  · rename_i o eo
    obtain ⟨n, ad, e1, rfl, e3, e4, ho⟩ := dict_of b2 c2 eo
    split at q2
    · rename_i dv ev
      obtain ⟨rv, h1, h2⟩ := dget_of ho (r.mono a2) ev
      exact ⟨ad, rv, rfl, h1, by rw [h2.isSome]; exact q2.val b2 (.bl _)⟩
    · exact q2.elim
  · exact q2.elim

/-! ### calls -/
/-- the promise of a def that does f -/
def spec (C : Cls) (f : List D → Mem → R D) : Sp := fun vs H Q E => ∃ ρ m ds, HR ρ m H ∧ Reps ρ H ds vs ∧ Post C ρ H (f ds m) Q E
theorem tCall_of {f : List D → Mem → R D} : ∀ σ H Q, tX C W (xCall f fa) σ H Q → tXs C W fa σ H fun vs H1 => spec C f vs H1 Q (WE W σ) := fun σ H Q h => by
  exact (tX.bindL (g := fun _ xs m => f xs m) h).mono fun vs H' ⟨ρ, e, ds, m, he, hm, r, q⟩ => ⟨ρ, m, ds, hm, r, q⟩
theorem px_call {k : Nat} {f : Addr} {fd : FuncData} {ps : List Str} {g : List D → Mem → R D} {x : Str} {p : Pos} (tk : Takes X W) (F : FnOk X.prog X.w X.K X.mg X.base (L2.CX X.prog X.w) k f fd ps (spec C g)) (hr : Room k X.A) (hg : Gl X x) (hm : X.mg x = some (.ref f))
    (hk : PySem.W.keepIn X.K (.ref f) = true) (hb : Binds X.K fd ps []) (ha : PA X (a :: es) (tXs C W fa)) (ht : tames (a :: es) = true) (hdb : (x == ("__debug__" : Str)) = false) : PE X (.Call (.Name x p) (a :: es) [] pos) (tX C W (xCall g fa)) := by
  simp only [tames, Bool.and_eq_true] at ht
  refine (pe_callSD (dvs := []) (E := WE W) F hr hg hm hk hb .nil (fun σ => passAt tk σ) ha hdb (tame_star ht.1 _ _) (tames_plain ht.2)).imp fun σ H Q h => ?_
  refine (tCall_of σ H Q h).mono fun vs H' q => ?_
  rw [List.append_nil]
  exact q
theorem px_call0 {k : Nat} {f : Addr} {fd : FuncData} {ps : List Str} {g : List D → Mem → R D} {x : Str} {p : Pos} (tk : Takes X W) (F : FnOk X.prog X.w X.K X.mg X.base (L2.CX X.prog X.w) k f fd ps (spec C g)) (hr : Room k X.A) (hg : Gl X x) (hm : X.mg x = some (.ref f))
    (hk : PySem.W.keepIn X.K (.ref f) = true) (hb : Binds X.K fd ps []) (hdb : (x == ("__debug__" : Str)) = false) : PE X (.Call (.Name x p) [] [] pos) (tX C W (xCall g (xCon (.tup [])))) := by
  refine ⟨fun pins s σ H Q I h => ?_⟩
  refine wpAny_Call_Name_kw (ld_glob I hg hm ?_ hdb)
  obtain ⟨ρ, e, m, he, hm', h⟩ := h
  refine PySem.W.callWith_K0 I.kIn hk (run_fnSD (us := []) (vs := []) (dvs := []) (E := WE W) F hr hb .nil (passAt tk σ) I .nil ?_)
  exact ⟨ρ, m, [], hm', .nil, h⟩
/-- built-in functions, built-in types -/
theorem tCB_of {g : Mem → List D → R D} : ∀ σ H Q, tX C W (xPack g fa) σ H Q → tCB (rBlE C g) (tXs C W fa) σ H Q := fun σ H Q h => by
  exact (tX.bindL (g := fun _ xs m => g m xs) h).mono fun vs H' ⟨ρ, e, ds, m, he, hm, r, q⟩ => ⟨_, ρ, m, ds, hm, r, q⟩
theorem px_blt {id : String} {g : Mem → List D → R D} {x : Str} {p : Pos} (hc : CallR X (.builtin id) (rBlE C g)) (hg : Gl X x) (hm : X.mg x = none) (hv : bootBuiltins x = some (.builtin id)) (ha : PA X (a :: es) (tXs C W fa)) (ht : tames (a :: es) = true) (hn : x ≠ "__name__")
    (hdb : (x == ("__debug__" : Str)) = false) : PE X (.Call (.Name x p) (a :: es) [] pos) (tX C W (xPack g fa)) := by
  simp only [tames, Bool.and_eq_true] at ht
  exact (pe_callB hc hg hm hv ha hn hdb (tame_star ht.1 _ _) (tames_plain ht.2)).imp tCB_of
theorem px_bty {T : String} {g : Mem → List D → R D} {x : Str} {p : Pos} (hc : CallR X (.type T) (rBlE C g)) (hg : Gl X x) (hm : X.mg x = none) (hv : bootBuiltins x = some (.type T)) (ha : PA X (a :: es) (tXs C W fa)) (ht : tames (a :: es) = true) (hn : x ≠ "__name__")
    (hdb : (x == ("__debug__" : Str)) = false) : PE X (.Call (.Name x p) (a :: es) [] pos) (tX C W (xPack g fa)) := by
  simp only [tames, Bool.and_eq_true] at ht
  exact (pe_callTy hc hg hm hv ha hn hdb (tame_star ht.1 _ _) (tames_plain ht.2)).imp tCB_of
/-- methods of built-in types -/
theorem tBM_of {k : Mem → D → Bool} {T : String} {g : Mem → D → List D → R D} (hk : ∀ (ρ : Rho) (H : Hp) (m : Mem) (d : D) (v : V), HR ρ m H → Rep ρ H d v → k m d = true → tyV X.K T v H) :
    ∀ σ H Q, tX C W (xBm k g fa fb) σ H Q → tBM X.K T (rBmE C g) (tX C W fa) (tXs C W fb) σ H Q := fun σ H Q h => by
  refine (tX.bind (g := fun e x m => match k m x with
    | true => (fb e m).bind fun y m => match y with
      | .tup ys => g m x ys
      | _ => .bad 61
    | false => .bad 48) h).mono fun v H' ⟨ρ, e, d, m, he, hm, r, q⟩ => ?_
  split at q
  · rename_i ek
    refine ⟨hk ρ H' m d v hm r ek, ?_⟩
    obtain ⟨ρ1, e1, m1, he1, hm1, q1⟩ := tX.bindL (C := C) (W := W) (σ := σ) (H := H') (fa := fb) (g := fun _ ys m => g m d ys) (Q := Q) ⟨ρ, e, m, he, hm, q⟩
    refine ⟨ρ, e, m, he, hm, ?_⟩
    cases e2 : fb e m with
    | bad w => rw [e2] at q; exact q
    | exc k fs m' => rw [e2] at q; exact q
    | ok d2 m2 =>
      rw [e2] at q
      have q : Post C ρ H' (match (generalizing := false) d2 with
        | .tup ys => g m2 d ys
        | _ => .bad 61) Q fun cv d H'' => W cv d σ H'' := q
      clear h
      split at q
      · rename_i ys _
        exact ⟨ys, rfl, fun ρ2 H2 vs x y z => ⟨_, ρ2, m2, d, ys, y, r.mono x, z, q.up x⟩⟩
      · exact q.elim
  · exact q.elim
theorem isL_ty {ρ : Rho} {H : Hp} {m : Mem} {d : D} {v : V} (hm : HR ρ m H) (r : Rep ρ H d v) (h : isL m d = true) : tyV X.K "list" v H := by
  unfold isL at h
  obtain ⟨xs, e⟩ := Option.isSome_iff_exists.mp h
  obtain ⟨a, vs, rfl, h1, _⟩ := list_of hm r e
  exact .inl ⟨rfl, vs, .of h1⟩
theorem isS_ty {ρ : Rho} {H : Hp} {m : Mem} {d : D} {v : V} (hm : HR ρ m H) (r : Rep ρ H d v) (h : isS m d = true) : tyV X.K "str" v H := by
  cases r <;> first | (simp [isS] at h; done) | rfl

/-! ### tests -/
theorem pt_plain {f : Mt.X} (h : PE X a (tX C W f)) (he : ∀ whole, isTrue a X.env whole = (do let v ← whole; standAt a.pos; holding [v] (truthy v))) : PT X a (tT C W f) := (pt_truth h he).imp fun σ H Q q => tT.val X.K q
/-- a test whose value is a truth value -/
theorem tTest_of {t : TE} {f : Mt.X} (hf : ∀ e m d m', f e m = .ok d m' → ∃ b, d = .bl b) (k : ∀ σ H Q, tX C W f σ H Q → t σ H Q) : ∀ σ H Q, tT C W f σ H Q → tTest t σ H Q := fun σ H Q h => by
  refine k σ H _ ?_
  obtain ⟨ρ, e, m, he, hm, h⟩ := h
  refine ⟨ρ, e, m, he, hm, ?_⟩
  cases e1 : f e m with
  | ok d m' =>
    rw [e1] at h
    obtain ⟨b, hb, h⟩ := h
    obtain ⟨b', rfl⟩ := hf _ _ _ _ e1
    intro ρ' H' v x y z
    cases z
    cases hb
    exact ⟨_, rfl, h ρ' H' x y⟩
  | exc c fs m' => rw [e1] at h; exact h
  | bad w => rw [e1] at h; exact h
theorem cop_bl (op : Cop) (m : Mem) (x y d : D) (m' : Mem) (h : cop op m x y = .ok d m') : ∃ b, d = .bl b := by
  cases op <;> simp only [cop, cEq, cNe, cLt, cLe, cGt, cGe, cIn, cNotin, cIsN, cNotN] at h <;> (repeat' split at h) <;> first | (cases h; exact ⟨_, rfl⟩) | (cases h; done)
theorem bind_ok {r : R D} {f : D → Mem → R D} {d : D} {m : Mem} (h : r.bind f = .ok d m) : ∃ x m', r = .ok x m' ∧ f x m' = .ok d m := by
  cases r with
  | ok x m' => exact ⟨x, m', rfl, h⟩
  | exc c fs m' => cases h
  | bad w => cases h
theorem x2_bl {g : Mem → D → D → R D} (hg : ∀ m x y d m', g m x y = .ok d m' → ∃ b, d = .bl b) : ∀ e m d m', x2 g fa fb e m = .ok d m' → ∃ b, d = .bl b := fun e m d m' h => by
  obtain ⟨x, m1, _, h⟩ := bind_ok h
  obtain ⟨y, m2, _, h⟩ := bind_ok h
  exact hg _ _ _ _ _ h
theorem pq_cmp {op : CmpOp} {g : Mem → D → D → R D} (hg : ∀ m x y d m', g m x y = .ok d m' → ∃ b, d = .bl b) (ho : OpR X (compareOp op) (rOpE C g)) (ha : PE X a (tX C W fa)) (hb : PE X b (tX C W fb)) (ht : tame b = true) : PT X (.Compare a [op] [b] pos) (tT C W (x2 g fa fb)) :=
  (pt_cmpR ho ha hb (tame_marks ht _)).imp (tTest_of (x2_bl hg) tOp_of)
theorem pq_chain {op op' : CmpOp} {f g : Mem → D → D → R D} (hg : ∀ m x y d m', g m x y = .ok d m' → ∃ b, d = .bl b) (ho : OpR X (compareOp op) (rOpE C f)) (ho' : OpR X (compareOp op') (rOpE C g)) (ha : PE X a (tX C W fa)) (hb : PE X b (tX C W fb)) (hc : PE X c (tX C W fc)) (ht : tame c = true) :
    PT X (.Compare a [op, op'] [b, c] pos) (tT C W (xChain f g fa fb fc)) := (pt_chain ho ho' ha hb hc (tame_marks ht _)).imp (tTest_of (fun e m d m' h => by
    obtain ⟨x, m1, _, h⟩ := bind_ok h
    obtain ⟨y, m2, _, h⟩ := bind_ok h
    obtain ⟨z, m3, _, h⟩ := bind_ok h
    split at h
    · obtain ⟨w, m4, _, h⟩ := bind_ok h
      exact hg _ _ _ _ _ h
    · cases h; exact ⟨_, rfl⟩
    · cases h) tChain_of)
theorem pq_din (hu : X.A.units + 1 < cLine) (ha : PE X a (tX C W fa)) (hb : PE X b (tX C W fb)) (ht : tame b = true) : PT X (.Compare a [.In] [b] pos) (tT C W (x2 dinR fa fb)) := by
  have bl : ∀ m x y d m', dinR m x y = .ok d m' → ∃ b, d = .bl b := fun m x y d m' h => by
    unfold dinR at h
    (repeat' split at h) <;> first | (cases h; exact ⟨_, rfl⟩) | (cases h; done)
  refine (pt_cmp (pc_din hu ha hb) (tame_marks ht _)).imp (tTest_of (t := tDIn (tX C W fa) (tX C W fb)) (x2_bl bl) fun σ H Q h => ?_)
  refine (tX.bind (g := fun e x m => (fb e m).bind fun y m => dinR m x y) h).mono fun v H' ⟨ρ, e, d, m, he, hm, r, q⟩ => ?_
  refine ⟨ρ, e, m, he, hm, q.bind.imp fun v2 H2 ⟨ρ2, d2, m2, a2, b2, c2, q2⟩ => ?_⟩
  unfold dinR at q2
  split at q2
  · rename_i o eo
    obtain ⟨n, ad, e1, rfl, e3, e4, ho⟩ := dict_of b2 c2 eo
    split at q2
    · rename_i dv ev
      obtain ⟨rv, h1, h2⟩ := dget_of ho (r.mono a2) ev
      exact ⟨ad, rv, rfl, h1, by rw [h2.isSome]; exact q2.val b2 (.bl _)⟩
    · exact q2.elim
  · exact q2.elim
theorem pq_dnin (hu : X.A.units + 1 < cLine) (ha : PE X a (tX C W fa)) (hb : PE X b (tX C W fb)) (ht : tame b = true) : PT X (.Compare a [.NotIn] [b] pos) (tT C W (x2 dninR fa fb)) := by
  have bl : ∀ m x y d m', dninR m x y = .ok d m' → ∃ b, d = .bl b := fun m x y d m' h => by
    unfold dninR at h
    (repeat' split at h) <;> first | (cases h; exact ⟨_, rfl⟩) | (cases h; done)
  refine (pt_cmp (pc_dnotin hu ha hb) (tame_marks ht _)).imp (tTest_of (t := tDNotIn (tX C W fa) (tX C W fb)) (x2_bl bl) fun σ H Q h => ?_)
  refine (tX.bind (g := fun e x m => (fb e m).bind fun y m => dninR m x y) h).mono fun v H' ⟨ρ, e, d, m, he, hm, r, q⟩ => ?_
  refine ⟨ρ, e, m, he, hm, q.bind.imp fun v2 H2 ⟨ρ2, d2, m2, a2, b2, c2, q2⟩ => ?_⟩
  unfold dninR at q2
  split at q2
  · rename_i o eo
    obtain ⟨n, ad, e1, rfl, e3, e4, ho⟩ := dict_of b2 c2 eo
    split at q2
    · rename_i dv ev
      obtain ⟨rv, h1, h2⟩ := dget_of ho (r.mono a2) ev
      exact ⟨ad, rv, rfl, h1, by rw [h2.isSome]; exact q2.val b2 (.bl _)⟩
    · exact q2.elim
  · exact q2.elim
theorem pq_not (ha : PT X a (tT C W fa)) : PT X (.UnaryOp .Not a pos) (tT C W (xNot fa)) := (pt_not ha).imp fun σ H Q ⟨ρ, e, m, he, hm, h⟩ => by
  refine ⟨ρ, e, m, he, hm, ?_⟩
  unfold xNot at h
  cases e1 : fa e m with
  | bad w => rw [e1] at h; exact h
  | exc k fs m' => rw [e1] at h; exact h
  | ok d m1 =>
    rw [e1] at h
    have h : PostT C ρ H (match (generalizing := false) truth m1 d with
      | some b => .ok (.bl (!b)) m1
      | none => .bad 64) Q fun cv d H' => W cv d σ H' := h
    split at h
    · rename_i b eb
      obtain ⟨b', e2, h⟩ := h
      cases e2
      exact ⟨b, eb, h⟩
    · exact h.elim
theorem pq_and (ha : PT X a (tT C W fa)) (hb : PW X (.BoolOp .And (b :: es) pos) (tT C W fb)) : PW X (.BoolOp .And (a :: b :: es) pos) (tT C W (xAnd fa fb)) := (pw_and ha hb).imp fun σ H Q ⟨ρ, e, m, he, hm, h⟩ => by
  refine ⟨ρ, e, m, he, hm, ?_⟩
  unfold xAnd at h
  cases e1 : fa e m with
  | bad w => rw [e1] at h; exact h
  | exc k fs m' => rw [e1] at h; exact h
  | ok d m1 =>
    rw [e1] at h
    have h : PostT C ρ H (match (generalizing := false) d with
      | .bl true => fb e m1
      | .bl false => .ok (.bl false) m1
      | _ => .bad 65) Q fun cv d H' => W cv d σ H' := h
    split at h
    · refine ⟨true, rfl, fun ρ' H' x y => ?_⟩
      dsimp only
      rw [if_pos rfl]
      exact ⟨ρ', e, m1, he.mono x, y, h.up x⟩
    · refine ⟨false, rfl, fun ρ' H' x y => ?_⟩
      dsimp only
      rw [if_neg Bool.false_ne_true]
      obtain ⟨b', e2, h⟩ := h
      cases e2
      exact h ρ' H' x y
    · exact h.elim
theorem pq_or (ha : PT X a (tT C W fa)) (hb : PW X (.BoolOp .Or (b :: es) pos) (tT C W fb)) : PW X (.BoolOp .Or (a :: b :: es) pos) (tT C W (xOr fa fb)) := (pw_or ha hb).imp fun σ H Q ⟨ρ, e, m, he, hm, h⟩ => by
  refine ⟨ρ, e, m, he, hm, ?_⟩
  unfold xOr at h
  cases e1 : fa e m with
  | bad w => rw [e1] at h; exact h
  | exc k fs m' => rw [e1] at h; exact h
  | ok d m1 =>
    rw [e1] at h
    have h : PostT C ρ H (match (generalizing := false) d with
      | .bl true => .ok (.bl true) m1
      | .bl false => fb e m1
      | _ => .bad 65) Q fun cv d H' => W cv d σ H' := h
    split at h
    · refine ⟨true, rfl, fun ρ' H' x y => ?_⟩
      dsimp only
      rw [if_pos rfl]
      obtain ⟨b', e2, h⟩ := h
      cases e2
      exact h ρ' H' x y
    · refine ⟨false, rfl, fun ρ' H' x y => ?_⟩
      dsimp only
      rw [if_neg Bool.false_ne_true]
      exact ⟨ρ', e, m1, he.mono x, y, h.up x⟩
    · exact h.elim
end
end Mt
end
section
set_option linter.all false
set_option autoImplicit false
set_option maxRecDepth 100000
set_option maxHeartbeats 2000000
/-! MtW1: what is walked. -/
namespace Mt
open PySem PySem.Spec PyProof.Rows L2

/-- the walk J gives xs as long as what stands stays -/
structure WalkR (ρ : Rho) (H : Hp) (J : It) (xs : List D) : Prop where
  go : ∀ (i : Nat) (ρ1 : Rho) (H1 : Hp), i < xs.length → Sub ρ H ρ1 H1 → J.go i H1
  stop : ∀ (ρ1 : Rho) (H1 : Hp), Sub ρ H ρ1 H1 → J.stop xs.length H1
  yld : ∀ (i : Nat) (d : D) (ρ1 : Rho) (H1 : Hp) (m : Mem) (x : V) (H2 : Hp), xs[i]? = some d → Sub ρ H ρ1 H1 → HR ρ1 m H1 → J.yld i H1 x H2 → Ext ρ1 H1 ρ1 H2 ∧ HR ρ1 m H2 ∧ Rep ρ1 H2 d x
theorem Reps.at {ρ : Rho} {H : Hp} : ∀ {ds : List D} {vs : List V} {i : Nat} {d : D}, Reps ρ H ds vs → ds[i]? = some d → ∃ v, vs[i]? = some v ∧ Rep ρ H d v
  | _, _, 0, d, .cons r t, h => by simp at h; subst h; exact ⟨_, rfl, r⟩
  | _, _, i + 1, d, .cons r t, h => by
    simp only [List.getElem?_cons_succ] at h ⊢
    exact Reps.at t h
theorem walk_l {K : PySem.W.Frag} {ρ : Rho} {H : Hp} {a : Addr} {vs : List V} {xs : List D} (h : H a = some (.lst vs)) (n : ¬ live ρ a) (r : Reps ρ H xs vs) : WalkR ρ H (Itl K a) xs := by
  have sq : ∀ ρ1 H1, Sub ρ H ρ1 H1 → SqL K H1 a vs := fun ρ1 H1 e => .inl (.inl (e.keep _ _ h n).1)
  refine ⟨fun i ρ1 H1 hi e => ⟨vs, vs[i]'(by rw [← r.length]; exact hi), sq _ _ e, by simp⟩, fun ρ1 H1 e => ⟨vs, sq _ _ e, by rw [r.length]; exact Nat.le_refl _⟩, fun i d ρ1 H1 m x H2 hd e hm y => ?_⟩
  obtain ⟨rfl, y⟩ := y
  obtain ⟨v, h1, h2⟩ := r.at hd
  have := y vs (sq _ _ e)
  rw [h1] at this
  cases this
  exact ⟨Ext.refl _ _, hm, h2.sub e⟩
theorem walk_t {K : PySem.W.Frag} {ρ : Rho} {H : Hp} {a : Addr} {vs : List V} {xs : List D} (h : Rd H a (.tup vs)) (n : ¬ live ρ a) (r : Reps ρ H xs vs) : WalkR ρ H (Itt K a) xs := by
  have sq : ∀ ρ1 H1, Sub ρ H ρ1 H1 → SqT K H1 a vs := fun ρ1 H1 e => .inl (e.rd h n).1
  refine ⟨fun i ρ1 H1 hi e => ⟨vs, vs[i]'(by rw [← r.length]; exact hi), sq _ _ e, by simp⟩, fun ρ1 H1 e => ⟨vs, sq _ _ e, by rw [r.length]; exact Nat.le_refl _⟩, fun i d ρ1 H1 m x H2 hd e hm y => ?_⟩
  obtain ⟨rfl, y⟩ := y
  obtain ⟨v, h1, h2⟩ := r.at hd
  have := y vs (sq _ _ e)
  rw [h1] at this
  cases this
  exact ⟨Ext.refl _ _, hm, h2.sub e⟩
theorem walk_s {ρ : Rho} {H : Hp} {x : List Nat} : WalkR ρ H (Its (SS x)) (x.map fun c => .str [c]) := by
  refine ⟨fun i ρ1 H1 hi e => ?_, fun ρ1 H1 e => ?_, fun i d ρ1 H1 m v H2 hd e hm y => ?_⟩
  · show i < x.toArray.size
    simpa using hi
  · show x.toArray.size ≤ _
    simp
  · obtain ⟨rfl, c, h1, rfl⟩ := y
    have h1 : x.toArray[i]? = some c := h1
    rw [List.getElem?_toArray] at h1
    rw [List.getElem?_map, h1] at hd
    cases hd
    exact ⟨Ext.refl _ _, hm, .str [c]⟩
theorem rngL_len : ∀ (lo : Int) (n : Nat), (rngL lo n).length = n
  | _, 0 => rfl
  | lo, n + 1 => by simp [rngL, rngL_len (lo + 1) n]
theorem rngL_at : ∀ (n : Nat) (lo : Int) (i : Nat) (d : D), (rngL lo n)[i]? = some d → d = .int (lo + i)
  | 0, _, _, _, h => by simp [rngL] at h
  | n + 1, lo, 0, d, h => by
    simp [rngL] at h
    rw [← h]
    congr
    omega
  | n + 1, lo, i + 1, d, h => by
    simp only [rngL, List.getElem?_cons_succ] at h
    rw [rngL_at n (lo + 1) i d h]
    congr 1
    omega
theorem walk_r {ρ : Rho} {H : Hp} {lo : Int} {n : Nat} : WalkR ρ H (Itr lo n) (rngL lo n) := by
  refine ⟨fun i ρ1 H1 hi e => ?_, fun ρ1 H1 e => ?_, fun i d ρ1 H1 m v H2 hd e hm y => ?_⟩
  · rw [rngL_len] at hi; exact hi
  · rw [rngL_len]; exact Nat.le_refl _
  · obtain ⟨rfl, rfl⟩ := y
    rw [rngL_at _ _ _ _ hd]
    exact ⟨Ext.refl _ _, hm, .int _⟩
/-- a new pair -/
theorem pair_ok {ρ : Rho} {H : Hp} {m : Mem} {T : Addr} {x y : V} {d e : D} (hm : HR ρ m H) (hT : H T = none) (rx : Rep ρ H d x) (ry : Rep ρ H e y) :
    Ext ρ H ρ (upd H T (.tup [x, y])) ∧ HR ρ m (upd H T (.tup [x, y])) ∧ Rep ρ (upd H T (.tup [x, y])) (.tup [d, e]) (.ref T) :=
  have E := Ext.new (o := .tup [x, y]) hm hT
  ⟨E, hm.new hT, .tup upd_same (hm.fresh hT) (.cons (rx.mono E) (.cons (ry.mono E) .nil))⟩
theorem enmL_len : ∀ (n : Int) (xs : List D), (enmL n xs).length = xs.length
  | _, [] => rfl
  | n, x :: xs => by simp [enmL, enmL_len (n + 1) xs]
theorem enmL_at : ∀ (xs : List D) (n : Int) (i : Nat) (d : D), (enmL n xs)[i]? = some d → ∃ x, xs[i]? = some x ∧ d = .tup [.int (n + i), x]
  | [], _, _, _, h => by simp [enmL] at h
  | x :: xs, n, 0, d, h => by
    simp [enmL] at h
    refine ⟨x, rfl, ?_⟩
    rw [← h]
    congr
    omega
  | x :: xs, n, i + 1, d, h => by
    simp only [enmL, List.getElem?_cons_succ] at h
    obtain ⟨z, h1, h2⟩ := enmL_at xs (n + 1) i d h
    refine ⟨z, by simpa using h1, ?_⟩
    rw [h2]
    congr 3
    omega
theorem walk_el {K : PySem.W.Frag} {ρ : Rho} {H : Hp} {a : Addr} {vs : List V} {xs : List D} (h : H a = some (.lst vs)) (n : ¬ live ρ a) (r : Reps ρ H xs vs) : WalkR ρ H (Ite K a) (enmL 0 xs) := by
  have sq : ∀ ρ1 H1, Sub ρ H ρ1 H1 → SqL K H1 a vs := fun ρ1 H1 e => .inl (.inl (e.keep _ _ h n).1)
  refine ⟨fun i ρ1 H1 hi e => ⟨vs, vs[i]'(by rw [← r.length]; rw [enmL_len] at hi; exact hi), sq _ _ e, by simp⟩, fun ρ1 H1 e => ⟨vs, sq _ _ e, by rw [enmL_len, r.length]; exact Nat.le_refl _⟩, fun i d ρ1 H1 m x H2 hd e hm y => ?_⟩
  obtain ⟨T, z, rfl, hT, rfl, y⟩ := y
  obtain ⟨w, hw, rfl⟩ := enmL_at _ _ _ _ hd
  obtain ⟨v, h1, h2⟩ := r.at hw
  have := y vs (sq _ _ e)
  rw [h1] at this
  cases this
  have e0 : (0 : Int) + (i : Int) = i := by omega
  rw [e0]
  exact pair_ok hm hT (.int _) (h2.sub e)
/-- the tuple at a as it stands at each turn, each item in a new pair -/
def IteT (K : PySem.W.Frag) (a : Addr) : It :=
  ⟨fun i H => ∃ (xs : List V) (x : V), SqT K H a xs ∧ xs[i]? = some x, fun i H v H' => ∃ T x, v = .ref T ∧ H T = none ∧ H' = upd H T (.tup [.int (i : Nat), x]) ∧ ∀ xs, SqT K H a xs → xs[i]? = some x, fun i H => ∃ xs : List V, SqT K H a xs ∧ xs.length ≤ i⟩
theorem walk_et {K : PySem.W.Frag} {ρ : Rho} {H : Hp} {a : Addr} {vs : List V} {xs : List D} (h : Rd H a (.tup vs)) (n : ¬ live ρ a) (r : Reps ρ H xs vs) : WalkR ρ H (IteT K a) (enmL 0 xs) := by
  have sq : ∀ ρ1 H1, Sub ρ H ρ1 H1 → SqT K H1 a vs := fun ρ1 H1 e => .inl (e.rd h n).1
  refine ⟨fun i ρ1 H1 hi e => ⟨vs, vs[i]'(by rw [← r.length]; rw [enmL_len] at hi; exact hi), sq _ _ e, by simp⟩, fun ρ1 H1 e => ⟨vs, sq _ _ e, by rw [enmL_len, r.length]; exact Nat.le_refl _⟩, fun i d ρ1 H1 m x H2 hd e hm y => ?_⟩
  obtain ⟨T, z, rfl, hT, rfl, y⟩ := y
  obtain ⟨w, hw, rfl⟩ := enmL_at _ _ _ _ hd
  obtain ⟨v, h1, h2⟩ := r.at hw
  have := y vs (sq _ _ e)
  rw [h1] at this
  cases this
  have e0 : (0 : Int) + (i : Int) = i := by omega
  rw [e0]
  exact pair_ok hm hT (.int _) (h2.sub e)
theorem zipL_len : ∀ (xs ys : List D), (zipL xs ys).length = min xs.length ys.length
  | [], ys => by cases ys <;> simp [zipL]
  | x :: xs, [] => by simp [zipL]
  | x :: xs, y :: ys => by simp [zipL, zipL_len xs ys]
theorem zipL_at : ∀ (xs ys : List D) (i : Nat) (d : D), (zipL xs ys)[i]? = some d → ∃ x y, xs[i]? = some x ∧ ys[i]? = some y ∧ d = .tup [x, y]
  | [], ys, _, _, h => by cases ys <;> simp [zipL] at h
  | x :: xs, [], _, _, h => by simp [zipL] at h
  | x :: xs, y :: ys, 0, d, h => by
    simp [zipL] at h
    exact ⟨x, y, rfl, rfl, h.symm⟩
  | x :: xs, y :: ys, i + 1, d, h => by
    simp only [zipL, List.getElem?_cons_succ] at h ⊢
    exact zipL_at xs ys i d h
theorem walk_zl {K : PySem.W.Frag} {ρ : Rho} {H : Hp} {a b : Addr} {vs ws : List V} {xs ys : List D} (h : H a = some (.lst vs)) (n : ¬ live ρ a) (r : Reps ρ H xs vs) (h' : H b = some (.lst ws)) (n' : ¬ live ρ b) (r' : Reps ρ H ys ws) : WalkR ρ H (Itz K a b) (zipL xs ys) := by
  have sq : ∀ ρ1 H1, Sub ρ H ρ1 H1 → SqL K H1 a vs := fun ρ1 H1 e => .inl (.inl (e.keep _ _ h n).1)
  have sq' : ∀ ρ1 H1, Sub ρ H ρ1 H1 → SqL K H1 b ws := fun ρ1 H1 e => .inl (.inl (e.keep _ _ h' n').1)
  have l1 := r.length
  have l2 := r'.length
  refine ⟨fun i ρ1 H1 hi e => ⟨vs, ws, vs[i]'(by rw [zipL_len] at hi; omega), ws[i]'(by rw [zipL_len] at hi; omega), sq _ _ e, sq' _ _ e, by simp, by simp⟩, fun ρ1 H1 e => ⟨vs, ws, sq _ _ e, sq' _ _ e, by rw [zipL_len]; omega⟩, fun i d ρ1 H1 m x H2 hd e hm y => ?_⟩
  obtain ⟨T, z, z2, rfl, hT, rfl, y, y2⟩ := y
  obtain ⟨w, w2, hw, hw2, rfl⟩ := zipL_at _ _ _ _ hd
  obtain ⟨v, h1, h2⟩ := r.at hw
  obtain ⟨v2, h3, h4⟩ := r'.at hw2
  have e1 := y vs (sq _ _ e)
  rw [h1] at e1
  cases e1
  have e2 := y2 ws (sq' _ _ e)
  rw [h3] at e2
  cases e2
  exact pair_ok hm hT (h2.sub e) (h4.sub e)
theorem walk_zt {K : PySem.W.Frag} {ρ : Rho} {H : Hp} {a b : Addr} {vs ws : List V} {xs ys : List D} (h : H a = some (.tup vs)) (n : ¬ live ρ a) (r : Reps ρ H xs vs) (h' : H b = some (.tup ws)) (n' : ¬ live ρ b) (r' : Reps ρ H ys ws) : WalkR ρ H (RZ.ItzT K a b) (zipL xs ys) := by
  have sq : ∀ ρ1 H1, Sub ρ H ρ1 H1 → SqT K H1 a vs := fun ρ1 H1 e => .inl (.inl (e.keep _ _ h n).1)
  have sq' : ∀ ρ1 H1, Sub ρ H ρ1 H1 → SqT K H1 b ws := fun ρ1 H1 e => .inl (.inl (e.keep _ _ h' n').1)
  have l1 := r.length
  have l2 := r'.length
  refine ⟨fun i ρ1 H1 hi e => ⟨vs, ws, vs[i]'(by rw [zipL_len] at hi; omega), ws[i]'(by rw [zipL_len] at hi; omega), sq _ _ e, sq' _ _ e, by simp, by simp⟩, fun ρ1 H1 e => ⟨vs, ws, sq _ _ e, sq' _ _ e, by rw [zipL_len]; omega⟩, fun i d ρ1 H1 m x H2 hd e hm y => ?_⟩
  obtain ⟨T, z, z2, rfl, hT, rfl, y, y2⟩ := y
  obtain ⟨w, w2, hw, hw2, rfl⟩ := zipL_at _ _ _ _ hd
  obtain ⟨v, h1, h2⟩ := r.at hw
  obtain ⟨v2, h3, h4⟩ := r'.at hw2
  have e1 := y vs (sq _ _ e)
  rw [h1] at e1
  cases e1
  have e2 := y2 ws (sq' _ _ e)
  rw [h3] at e2
  cases e2
  exact pair_ok hm hT (h2.sub e) (h4.sub e)

/-! ### the reading of what is walked -/
def PostI (C : Cls) (ρ : Rho) (H : Hp) (r : R D) (Q : It → Hp → Prop) (E : XK) : Prop :=
  match r with
  | .ok d m => ∃ xs m', itOf m d = some (xs, m') ∧ ∀ ρ' H' J, Ext ρ H ρ' H' → HR ρ' m' H' → WalkR ρ' H' J xs → Q J H'
  | .exc c fs m => ∀ ρ' H' cv d, Ext ρ H ρ' H' → HR ρ' m H' → ExcR C.cls C.fns ρ' H' c fs cv d → E cv d H'
  | .bad _ => False
def tI (C : Cls) (W : WX) (f : Mt.X) : TI := fun σ H Q => ∃ ρ e m, EnvR ρ H e σ ∧ HR ρ m H ∧ PostI C ρ H (f e m) Q fun cv d H' => W cv d σ H'
theorem PostI.up {C : Cls} {ρ ρ' : Rho} {H H' : Hp} {r : R D} {Q : It → Hp → Prop} {E : XK} (x : Ext ρ H ρ' H') (h : PostI C ρ H r Q E) : PostI C ρ' H' r Q E := by
  cases r with
  | ok d m => exact let ⟨xs, m', e, h⟩ := h; ⟨xs, m', e, fun ρ2 H2 J a => h ρ2 H2 J (x.trans a)⟩
  | exc c fs m => exact fun ρ2 H2 cv d a => h ρ2 H2 cv d (x.trans a)
  | bad w => exact h
/-- what a PE told by tX is walked as -/
def iAny (K : PySem.W.Frag) (tl : TE) : TI := fun σ H Q => tl σ H fun x H1 => (∃ a xs, x = .ref a ∧ SqL K H1 a xs ∧ Q (Itl K a) H1) ∨ (∃ a xs, x = .ref a ∧ SqT K H1 a xs ∧ Q (Itt K a) H1) ∨ ∃ z, x = .str z ∧ Q (Its z) H1
theorem pi_any {X : Cx} {tg l : Expr} {tl : TE} (hl : PE X l tl) : PI X tg l (iAny X.K tl) := by
  refine ⟨fun pins s σ H R I h => ?_⟩
  refine thn (hl.run pins s σ H _ I h) fun v s1 ⟨x, H1, I1, r1, q1⟩ => ?_
  rcases q1 with ⟨a, xs, rfl, hq, q⟩ | ⟨a, xs, rfl, hq, q⟩ | ⟨z, rfl, q⟩
  · cases r1
    obtain ⟨its, rv, p, hz⟩ := I1.list hq
    refine wpAny_pyIter_list p.isList ?_
    exact pi_one (tk := s1.toks) I1 _ (turn_list a _) ⟨_, Heap.get?_push_size _ rfl, rfl, rfl⟩ q
  · cases r1
    obtain ⟨its, rv, p, hz⟩ := I1.tuple hq
    refine wpAny_pyIter_tuple (show s1.heap.IsTuple a its.toArray from p) ?_
    exact pi_one (tk := s1.toks) I1 _ (turn_tuple a _) ⟨_, Heap.get?_push_size _ rfl, rfl, rfl⟩ q
  · obtain ⟨t, rfl⟩ := r1
    cases ha : z.cps.all (· < 128)
    · exact wpAny_pyIter_wide ha (pi_one (tk := s1.toks) I1 _ (turn_str _ z t "str_iterator" (.inr rfl)) ⟨_, Heap.get?_push_size _ rfl, rfl, rfl⟩ q)
    · exact wpAny_pyIter_ascii ha (pi_one (tk := s1.toks) I1 _ (turn_str _ z t "str_ascii_iterator" (.inl rfl)) ⟨_, Heap.get?_push_size _ rfl, rfl, rfl⟩ q)
section
variable {X : Cx} {C : Cls} {W : WX} {a b : Expr} {tg : Expr} {fa fb : Mt.X} {pos p : Pos}
theorem pi_val (ha : PE X a (tX C W fa)) : PI X tg a (tI C W fa) := by
  have k := pi_any (tg := tg) ha
  refine ⟨fun pins s σ H R I h => k.run pins s σ H R I ?_⟩
  obtain ⟨ρ, e, m, he, hm, h⟩ := h
  refine ⟨ρ, e, m, he, hm, ?_⟩
  cases e1 : fa e m with
  | bad w => rw [e1] at h; exact h
  | exc c fs m' => rw [e1] at h; exact h
  | ok d m' =>
    rw [e1] at h
    obtain ⟨xs, m2, e2, h⟩ := h
    intro ρ' H' v x hm' r
    cases r with
    | tup h1 n1 r1 =>
      simp only [itOf, Option.some.injEq, Prod.mk.injEq] at e2
      obtain ⟨rfl, rfl⟩ := e2
      exact .inr (.inl ⟨_, _, rfl, .inl (.inl h1), h _ _ _ x hm' (walk_t (.of h1) n1 r1)⟩)
    | ptp h1 d1 n1 r1 =>
      simp only [itOf, Option.some.injEq, Prod.mk.injEq] at e2
      obtain ⟨rfl, rfl⟩ := e2
      exact .inr (.inl ⟨_, _, rfl, .inl (.inr ⟨_, h1⟩), h _ _ _ x hm' (walk_t (.inr ⟨_, h1⟩) n1 r1)⟩)
    | lst h1 n1 r1 =>
      simp only [itOf, Option.some.injEq, Prod.mk.injEq] at e2
      obtain ⟨rfl, rfl⟩ := e2
      exact .inl ⟨_, _, rfl, .inl (.inl h1), h _ _ _ x hm' (walk_l h1 n1 r1)⟩
    | str z =>
      simp only [itOf, Option.some.injEq, Prod.mk.injEq] at e2
      obtain ⟨rfl, rfl⟩ := e2
      exact .inr (.inr ⟨_, rfl, h _ _ _ x hm' walk_s⟩)
    | @ref n a hn hq =>
      simp only [itOf] at e2
      split at e2
      · rename_i ys e3
        simp only [Option.some.injEq, Prod.mk.injEq] at e2
        obtain ⟨rfl, rfl⟩ := e2
        obtain ⟨a', e4, e5, vs, h2, h3⟩ := cell_at hm' (.ref hn hq) e3
        cases e4
        have nl : ¬ live (ρ'.kill n) a := fun l => by
          rcases l with ⟨j, hj⟩ | hb
          · by_cases hi : n = j
            · subst hi
              have hl := (List.getElem?_eq_some_iff.mp hj).1
              rw [List.getElem?_set_self (by simpa using hl)] at hj; cases hj
            · rw [List.getElem?_set_ne hi] at hj
              exact hi (hm'.inj n j a e5 hj)
          · exact hm'.bn n a e5 hb
        exact .inl ⟨_, _, rfl, .inl (.inl h2), h _ _ _ (x.trans Ext.kill) hm'.kill (walk_l h2 nl (h3.mono Ext.kill))⟩
      · cases e2
    | non => simp [itOf] at e2
    | bl _ => simp [itOf] at e2
    | int _ => simp [itOf] at e2
    | scr _ _ _ => simp [itOf] at e2
end
end Mt
end
section
set_option linter.all false
set_option autoImplicit false
set_option maxRecDepth 100000
set_option maxHeartbeats 2000000
/-! MtW2: range, enumerate, zip as walks. -/
namespace Mt
open PySem PySem.Spec PyProof.Rows L2
section
variable {prog : Program} {w : World} {A : Around} {E : Value → Shared → Prop} {s : Shared}
theorem meets_enumT (l : Addr) (items : Array Value) (n : Nat) (dct : Option Addr) (sl : Array (Option Value)) :
    Meets (Builtin.«enumerate.__new__» ⟨[.type "enumerate", .ref l], []⟩) (fun _ R s => s.heap.get? l = some { cls := .type "tuple", dict := dct, data := .seq items n, slots := sl } ∧
      R (.ok (.ret (.ref (s.heap.push { cls := .type "tuple_iterator", data := .fields #[.ref l, .int 0 0] }).objs.size)))
        { s with heap := (s.heap.push { cls := .type "tuple_iterator", data := .fields #[.ref l, .int 0 0] }).push { cls := .type "enumerate", data := .fields #[.none, .bool false, .ref s.heap.objs.size, rawInt 0, .none, .none] } }) :=
  .of_wp fun prog w A R s h => by
    obtain ⟨hp, g, d, tk, os⟩ := s; obtain ⟨hl, h⟩ := h
    have hsub := sub_enumerate
    have hL : Heap.IsTuple (Shared.heap ⟨hp, g, d, tk, os⟩) l items := ⟨_, hl, rfl, n, rfl⟩
    wp_walk using AutoSeq1.wpAny_loadPart' hl
    refine wpAny_stack_any fun st => wpAny_pure ?_
    split
    · rename_i c _ _ _ _ _
      cases (c == Value.type "enumerate")
      · wp_walk using AutoSeq1.wpAny_loadPart' hl, wpAny_pyIter_tuple hL
        exact ⟨_, rfl, h⟩
      · wp_walk using AutoSeq1.wpAny_loadPart' hl, wpAny_pyIter_tuple hL
        exact ⟨_, rfl, h⟩
    · wp_walk using AutoSeq1.wpAny_loadPart' hl, wpAny_pyIter_tuple hL
      exact ⟨_, rfl, h⟩
theorem call_enumT {l : Addr} {items : Array Value} {Q : Value → Shared → Prop} (hL : s.heap.IsTuple l items)
    (h : ∀ h', IsEnum h' (s.heap.objs.size + 1) s.heap.objs.size 0 .none → h'.IsTupleIter s.heap.objs.size l 0 → h'.objs.size = s.heap.objs.size + 2 →
      (∀ b o, s.heap.get? b = some o → h'.get? b = some o) → Q (.ref (s.heap.objs.size + 1)) { s with heap := h' }) :
    wpAny (model prog w) A (call (.type "enumerate") [.ref l]) Q E s := by
  obtain ⟨⟨c, dct, dt, sl⟩, hl, hc, n, hd⟩ := hL
  replace hc : c = .type "tuple" := hc
  replace hd : dt = .seq items n := hd
  subst hc hd
  refine callType_new F.called_enumerate (by decide) (F.typeCall_enumerate_1 _) (F.newCall_enumerate_1 _) (fun obj => F.args_object_init_2 obj _) F.entry_enumerate_new
    (meets_enumT l items n dct sl) ⟨hl, ?_⟩
  have hz : (s.heap.push { cls := .type "tuple_iterator", data := .fields #[.ref l, .int 0 0] }).objs.size = s.heap.objs.size + 1 := Heap.size_push ..
  show _ ∧ _
  rw [hz]
  have he : IsEnum ((s.heap.push { cls := .type "tuple_iterator", data := .fields #[.ref l, .int 0 0] }).push
      { cls := .type "enumerate", data := .fields #[.none, .bool false, .ref s.heap.objs.size, rawInt 0, .none, .none] }) (s.heap.objs.size + 1) s.heap.objs.size 0 .none := by
    have := Heap.get?_push_size (s.heap.push { cls := .type "tuple_iterator", data := .fields #[.ref l, .int 0 0] })
      (o := { cls := .type "enumerate", data := .fields #[.none, .bool false, .ref s.heap.objs.size, rawInt 0, .none, .none] }) rfl
    rw [hz] at this; exact this
  exact ⟨⟨_, he, rfl⟩, h _ he ⟨_, Heap.get?_push_of_some _ (Heap.get?_push_size _ rfl), rfl, rfl⟩ (by rw [Heap.size_push, hz]) fun b o x => Heap.get?_push_of_some _ (Heap.get?_push_of_some _ x)⟩
end
theorem turn_enumT {P : Program} {w : World} {K : PySem.W.Frag} {elts : List Expr} {kk : Nat} {tpos : Pos} (a e it : Addr) :
    Turn P w K (.Tuple elts kk tpos) (IteT K a) [e, it] e (fun i h => (∃ old, IsEnum h e it ((i : Nat) : Int) old) ∧ h.IsTupleIter it a i ∧ e ≠ it) where
  mem := by simp
  obj := fun i h st b hb => by
    obtain ⟨⟨old, he⟩, ⟨o, ho, hc, hd⟩, _⟩ := st
    have e' : b = e ∨ b = it := by simpa using hb
    rcases e' with z | z
    · rw [z]; exact ⟨_, he, fun v q => nomatch q⟩
    · rw [z]; exact ⟨o, ho, fun v q => by rw [hd] at q; cases q⟩
  keep := fun i h h' st k => let ⟨⟨old, he⟩, hi, hne⟩ := st; ⟨⟨old, k e (by simp) _ he⟩, hi.at fun o q => k it (by simp) o q, hne⟩
  item := by
    intro X hP hw hK hc i pins s σ H E I hf st hg
    subst hP hw hK
    obtain ⟨⟨old, he⟩, hit, hne⟩ := st
    obtain ⟨xs, x, hq, hx⟩ := hg
    obtain ⟨its, rv, p, hz⟩ := I.tuple hq
    obtain ⟨u, hu, ru⟩ := rv.get hx
    have hel : e < s.heap.objs.size := Heap.lt_size he
    have hil : it < s.heap.objs.size := by obtain ⟨_, q, _⟩ := hit; exact Heap.lt_size q
    have hp : s.heap.IsTuple a its.toArray := p
    have hat : a ≠ it := fun z => by
      obtain ⟨o, ho, hc1, hd1⟩ := id hit
      obtain ⟨o', ho', hc2, n, hd2⟩ := id hp
      rw [z, ho] at ho'
      cases ho'
      rw [hd1] at hd2
      cases hd2
    have hae : a ≠ e := fun z => by
      obtain ⟨o', ho', hc2, n, hd2⟩ := id hp
      rw [z, he] at ho'
      cases ho'
      cases hd2
    have D := Draws.tuple (prog := X.prog) (w := X.w) (A := X.A.in1) (I.ok.hd hc) it a hat its.toArray
    have hlt : i < its.toArray.size := by
      have := (List.getElem?_eq_some_iff.mp hu).1
      simpa using this
    refine wpAny_pyNext_enum_itemD D he ⟨hit, hp⟩ hlt hne (by simp [hne, Ne.symm hae]) fun x' h' tk hx' ho hst hT hsz hk => ?_
    have hx' : its.toArray[i]? = some x' := hx'
    rw [List.getElem?_toArray, hu] at hx'
    cases hx'
    refine ⟨_, rfl, wpAny_letOwnedTupleGo_enum (s := { s with heap := h', toks := tk + 1 }) ho fun h'' he' sb => ?_⟩
    have hT2 : h''.get? s.heap.objs.size = some { cls := .type "tuple", data := .seq #[.int i tk, u] } := (sb.2 _ (Nat.ne_of_gt hel)).trans hT
    have new : ObjOk X.prog X.w (upd H s.heap.objs.size (.tup [.int (i : Nat), x])) h'' s.heap.objs.size (.tup [.int (i : Nat), x]) :=
      ⟨by show 2 ≤ sizeLine; decide, [.int i tk, u], .cons ⟨_, rfl⟩ (.cons ru .nil), ⟨_, hT2, rfl, _, rfl⟩⟩
    have I1 : Inv X pins σ (upd H s.heap.objs.size (.tup [.int (i : Nat), x])) { s with heap := h'', toks := tk + 1 } :=
      I.turnedNew (ch := [e, it]) (fun b ob hb q => (sb.2 b (fun z => hb (by simp [z]))).trans (hk b ob (fun z => hb (by simp [z])) (fun z => hb (by simp [z])) q)) hf (Nat.le_refl _) new
    refine ⟨.ref s.heap.objs.size, _, I1, rfl, ⟨_, x, rfl, I.hok.fresh (Nat.le_refl _), rfl, fun ys hy => by rw [I.tuple_inj hy hq]; exact hx⟩, ⟨⟨u, ?_⟩, hst.1.at fun o q => (sb.2 it (Ne.symm hne)).trans q, hne⟩, fun b hb => ?_⟩
    · have e1 : ((i + 1 : Nat) : Int) = (i : Int) + 1 := by omega
      rw [e1]; exact he'
    · have hb' : b < s.heap.objs.size := by
        have e' : b = e ∨ b = it := by simpa using hb
        rcases e' with z | z
        · rw [z]; exact hel
        · rw [z]; exact hil
      rw [upd_ne (Nat.ne_of_lt hb')]
      exact (hf b hb).1
  done := by
    intro X hP hw hK hc i pins s σ H E I hf st hg
    subst hP hw hK
    obtain ⟨⟨old, he⟩, hit, hne⟩ := st
    obtain ⟨xs, hq, hx⟩ := hg
    obtain ⟨its, rv, p, hz⟩ := I.tuple hq
    have hp : s.heap.IsTuple a its.toArray := p
    obtain ⟨f0, f1, f2, f3, f4, f5⟩ := hf it (by simp)
    have hl := rv.length
    have hT : s.TypeIs (.ref e) "enumerate" := ⟨_, he, rfl⟩
    unfold pyNext
    refine wpAny_bind (wpAny_attempt (wpAny_callSpecial?_slot (name := Str.ofString "__next__") hT F.slot_enumerate_next
      (wpAny_call_entry F.slot_enumerate_next hT F.entry_enumerate_next ?_ (F.args_enumerate_next_1 _))))
    show wpAny _ _ (field (.ref e) 2 >>= _) _ _ _
    refine wpAny_bind (wpAny_field he rfl (x := .ref it) rfl ?_)
    refine wpAny_bind (wpAny_nextOf_tuple_end (A := X.A.in1) (I.ok.hd hc) hit hp (by rw [List.getElem?_toArray, List.getElem?_eq_none]; omega) fun h' x he' hx' => ?_)
    obtain ⟨o, ho, hc'⟩ := hx'
    refine wpAny_bind (wpAny_isInstance (T := "StopIteration") (b := true) ⟨o, ho, hc'⟩ isSubtype_stop ?_)
    exact wpAny_pure ⟨rfl, I.turned (t' := s.toks) (fun b o hb q => he' b o hb q) f0 f1 f3 f4 f5⟩
  self := fun A i s Q E st h => let ⟨⟨_, he⟩, _⟩ := st; wpAny_pyIter_enum he h

section
variable {X : Cx} {C : Cls} {W : WX} {a b : Expr} {fa fb : Mt.X} {pos p tpos : Pos} {elts : List Expr} {kk : Nat}
def iEnA (K : PySem.W.Frag) (ta : TA) : TI := fun σ H R => ta σ H fun vs H1 => ∃ v, vs = [v] ∧ ∃ a xs, v = .ref a ∧ ((SqL K H1 a xs ∧ R (Ite K a) H1) ∨ (SqT K H1 a xs ∧ R (IteT K a) H1))
theorem pi_enA {ta : TE} (hg : Gl X "enumerate") (hm : X.mg "enumerate" = none) (ha : PE X a ta) (ht : tame a = true) : PI X (.Tuple elts kk tpos) (.Call (.Name "enumerate" p) [a] [] pos) (iEnA X.K (tCons ta tNil)) := by
  refine ⟨fun pins s σ H R I h => ?_⟩
  have pa := pa_cons ha pa_nil (tame_star ht _ _)
  refine Call_ (ld_blt I hg hm boot_enumerate (PyProof.Rows.callWith_type1 (thn (pa.run pos pins s σ H _ I h) fun us s1 ⟨vs, H1, I1, r1, v, ev, q1⟩ => ?_) (tame_star ht _ _) rfl))
  subst ev
  obtain ⟨l, xs, rfl, q1⟩ := q1
  cases r1 with
  | cons r rr =>
    cases rr
    cases r
    have fp : ∀ b ∈ [s1.heap.objs.size + 1, s1.heap.objs.size], FpOk X pins H1 b := fun b hb => by
      have e' : b = s1.heap.objs.size + 1 ∨ b = s1.heap.objs.size := by simpa using hb
      have hle : s1.heap.objs.size ≤ b := by
        rcases e' with z | z
        · rw [z]; exact Nat.le_add_right _ _
        · rw [z]; exact Nat.le_refl _
      exact I1.fpOk hle (I1.hok.fresh hle)
    rcases q1 with ⟨hq, q⟩ | ⟨hq, q⟩
    · obtain ⟨its, rv, p', hz⟩ := I1.list hq
      refine call_enumerate_list p'.isList fun h' he hit hsz hk => wpAny_pyIter_enum he ?_
      have I2 : Inv X pins σ H1 { s1 with heap := h' } := I1.kept (t' := s1.toks) hk
      exact ⟨s1.heap.objs.size + 1, [s1.heap.objs.size + 1, s1.heap.objs.size], _, _, H1, rfl, I2, turn_enum l (s1.heap.objs.size + 1) s1.heap.objs.size, ⟨⟨.none, he⟩, hit, Nat.succ_ne_self _⟩, fp, q⟩
    · obtain ⟨its, rv, p', hz⟩ := I1.tuple hq
      refine call_enumT (show s1.heap.IsTuple l its.toArray from p') fun h' he hit hsz hk => wpAny_pyIter_enum he ?_
      have I2 : Inv X pins σ H1 { s1 with heap := h' } := I1.kept (t' := s1.toks) hk
      exact ⟨s1.heap.objs.size + 1, [s1.heap.objs.size + 1, s1.heap.objs.size], _, _, H1, rfl, I2, turn_enumT l (s1.heap.objs.size + 1) s1.heap.objs.size, ⟨⟨.none, he⟩, hit, Nat.succ_ne_self _⟩, fp, q⟩
/-- one part, then g, then what is walked -/
theorem tI.one {g : Mem → D → R D} {σ : L2.St} {H : Hp} {Q : It → Hp → Prop} (h : tI C W (x1 g fa) σ H Q) : tX C W fa σ H fun v H' => ∃ ρ d m, HR ρ m H' ∧ Rep ρ H' d v ∧ PostI C ρ H' (g m d) Q fun cv d H'' => W cv d σ H'' := by
  obtain ⟨ρ, e, m, he, hm, h⟩ := h
  refine ⟨ρ, e, m, he, hm, ?_⟩
  unfold x1 at h
  cases e1 : fa e m with
  | bad w => rw [e1] at h; exact h
  | exc c fs m' => rw [e1] at h; exact h
  | ok d m' =>
    rw [e1] at h
    have h : PostI C ρ H (g m' d) Q fun cv d H'' => W cv d σ H'' := h
    exact fun ρ' H' v x y z => ⟨ρ', d, m', y, z, h.up x⟩
theorem tI.two {g : Mem → D → D → R D} {σ : L2.St} {H : Hp} {Q : It → Hp → Prop} (h : tI C W (x2 g fa fb) σ H Q) : tX C W fa σ H fun v H' => tX C W fb σ H' fun v2 H2 => ∃ ρ d d2 m, HR ρ m H2 ∧ Rep ρ H2 d v ∧ Rep ρ H2 d2 v2 ∧ PostI C ρ H2 (g m d d2) Q fun cv d H'' => W cv d σ H'' := by
  obtain ⟨ρ, e, m, he, hm, h⟩ := h
  refine ⟨ρ, e, m, he, hm, ?_⟩
  unfold x2 at h
  cases e1 : fa e m with
  | bad w => rw [e1] at h; exact h
  | exc c fs m' => rw [e1] at h; exact h
  | ok d m' =>
    rw [e1] at h
    have h : PostI C ρ H ((fb e m').bind fun y m => g m d y) Q fun cv d H'' => W cv d σ H'' := h
    refine fun ρ' H' v x y z => ⟨ρ', e, m', he.mono x, y, ?_⟩
    have h := h.up x
    cases e2 : fb e m' with
    | bad w => rw [e2] at h; exact h
    | exc c fs m2 => rw [e2] at h; exact h
    | ok d2 m2 =>
      rw [e2] at h
      have h : PostI C ρ' H' (g m2 d d2) Q fun cv d H'' => W cv d σ H'' := h
      exact fun ρ2 H2 v2 x2 y2 z2 => ⟨ρ2, d, d2, m2, y2, z.mono x2, z2, h.up x2⟩
theorem pi_enum2 (hg : Gl X "enumerate") (hm : X.mg "enumerate" = none) (ha : PE X a (tX C W fa)) (ht : tame a = true) : PI X (.Tuple elts kk tpos) (.Call (.Name "enumerate" p) [a] [] pos) (tI C W (x1 enmR fa)) := by
  have k := pi_enA (elts := elts) (kk := kk) (tpos := tpos) (p := p) (pos := pos) hg hm ha ht
  refine ⟨fun pins s σ H R I h => k.run pins s σ H R I ?_⟩
  refine h.one.mono fun v H' ⟨ρ, d, m, hm, r, q⟩ => ⟨v, rfl, ?_⟩
  unfold enmR at q
  split at q
  · obtain ⟨xs, m', e, q⟩ := q
    simp only [itOf, Option.some.injEq, Prod.mk.injEq] at e
    obtain ⟨rfl, rfl⟩ := e
    cases r with
    | tup h1 n1 r1 => exact ⟨_, _, rfl, .inr ⟨.inl (.inl h1), q _ _ _ (Ext.refl _ _) hm (walk_et (.of h1) n1 r1)⟩⟩
  · obtain ⟨xs, m', e, q⟩ := q
    simp only [itOf, Option.some.injEq, Prod.mk.injEq] at e
    obtain ⟨rfl, rfl⟩ := e
    cases r with
    | ptp h1 d1 n1 r1 => exact ⟨_, _, rfl, .inr ⟨.inl (.inr ⟨_, h1⟩), q _ _ _ (Ext.refl _ _) hm (walk_et (.inr ⟨_, h1⟩) n1 r1)⟩⟩
  · obtain ⟨xs, m', e, q⟩ := q
    simp only [itOf, Option.some.injEq, Prod.mk.injEq] at e
    obtain ⟨rfl, rfl⟩ := e
    cases r with
    | lst h1 n1 r1 => exact ⟨_, _, rfl, .inl ⟨.inl (.inl h1), q _ _ _ (Ext.refl _ _) hm (walk_el h1 n1 r1)⟩⟩
  · exact q.elim
theorem pi_zip2 (hg : Gl X "zip") (hm : X.mg "zip" = none) (ha : PE X a (tX C W fa)) (hb : PE X b (tX C W fb)) (ht : tame a = true) (ht2 : tame b = true) : PI X (.Tuple elts kk tpos) (.Call (.Name "zip" p) [a, b] [] pos) (tI C W (x2 zpR fa fb)) := by
  have k := RZ.pi_zipA (elts := elts) (kk := kk) (tpos := tpos) (p := p) (pos := pos) hg hm (pa_cons ha (pa_cons hb pa_nil (tame_star ht2 _ _)) (tame_star ht _ _)) (tame_star ht _ _) (tames_plain (es := [b]) (by simp [tames, ht2]))
  refine ⟨fun pins s σ H R I h => k.run pins s σ H R I ?_⟩
  refine h.two.mono fun v H' h => h.mono fun v2 H2 ⟨ρ, d, d2, m, hm, r, r2, q⟩ => ?_
  unfold zpR at q
  split at q
  · obtain ⟨xs, m', e, q⟩ := q
    simp only [itOf, Option.some.injEq, Prod.mk.injEq] at e
    obtain ⟨rfl, rfl⟩ := e
    cases r with
    | tup h1 n1 r1 =>
      cases r2 with
      | tup h2 n2 r2 => exact ⟨_, _, _, _, rfl, .inr ⟨.inl (.inl h1), .inl (.inl h2), q _ _ _ (Ext.refl _ _) hm (walk_zt h1 n1 r1 h2 n2 r2)⟩⟩
  · obtain ⟨xs, m', e, q⟩ := q
    simp only [itOf, Option.some.injEq, Prod.mk.injEq] at e
    obtain ⟨rfl, rfl⟩ := e
    cases r with
    | lst h1 n1 r1 =>
      cases r2 with
      | lst h2 n2 r2 => exact ⟨_, _, _, _, rfl, .inl ⟨.inl (.inl h1), .inl (.inl h2), q _ _ _ (Ext.refl _ _) hm (walk_zl h1 n1 r1 h2 n2 r2)⟩⟩
  · exact q.elim
theorem small_of {i : Int} (h : small63 i = true) : -(2 ^ 62) ≤ i ∧ i < 2 ^ 62 := by
  simp only [small63, Bool.and_eq_true, decide_eq_true_eq] at h
  omega
theorem pi_rng1 {tg : Expr} (hg : Gl X "range") (hm : X.mg "range" = none) (ha : PE X a (tX C W fa)) (ht : tame a = true) : PI X tg (.Call (.Name "range" p) [a] [] pos) (tI C W (x1 rng1R fa)) := by
  have k := pi_range1 (tg := tg) (p := p) (pos := pos) hg hm (pa_cons ha pa_nil (tame_star ht _ _)) (tame_star ht _ _)
  refine ⟨fun pins s σ H R I h => k.run pins s σ H R I ?_⟩
  refine h.one.mono fun v H' ⟨ρ, d, m, hm, r, q⟩ => ?_
  unfold rng1R at q
  split at q
  · split at q
    · rename_i hs
      obtain ⟨xs, m', e, q⟩ := q
      simp only [itOf, Option.some.injEq, Prod.mk.injEq] at e
      obtain ⟨rfl, rfl⟩ := e
      cases r
      exact ⟨_, rfl, (small_of hs).1, (small_of hs).2, q _ _ _ (Ext.refl _ _) hm walk_r⟩
    · exact q.elim
  · exact q.elim
theorem pi_rng {tg : Expr} (hg : Gl X "range") (hm : X.mg "range" = none) (ha : PE X a (tX C W fa)) (hb : PE X b (tX C W fb)) (ht : tame a = true) (ht2 : tame b = true) : PI X tg (.Call (.Name "range" p) [a, b] [] pos) (tI C W (x2 rngR fa fb)) := by
  have k := pi_range2 (tg := tg) (p := p) (pos := pos) hg hm (pa_cons ha (pa_cons hb pa_nil (tame_star ht2 _ _)) (tame_star ht _ _)) (by rw [tame_star ht, tame_star ht2]; rfl) (tame_star ht2 _ _)
  refine ⟨fun pins s σ H R I h => k.run pins s σ H R I ?_⟩
  refine h.two.mono fun v H' h => h.mono fun v2 H2 ⟨ρ, d, d2, m, hm, r, r2, q⟩ => ?_
  unfold rngR at q
  split at q
  · split at q
    · rename_i hs
      rw [Bool.and_eq_true] at hs
      obtain ⟨xs, m', e, q⟩ := q
      simp only [itOf, Option.some.injEq, Prod.mk.injEq] at e
      obtain ⟨rfl, rfl⟩ := e
      cases r
      cases r2
      exact ⟨_, _, rfl, ⟨(small_of hs.1).1, (small_of hs.1).2, (small_of hs.2).1, (small_of hs.2).2⟩, q _ _ _ (Ext.refl _ _) hm walk_r⟩
    · exact q.elim
  · exact q.elim
end
end Mt
end
section
set_option linter.all false
set_option autoImplicit false
set_option maxRecDepth 100000
set_option maxHeartbeats 2000000
/-! MtC1: targets. -/
namespace Mt
open PySem PySem.Spec PyProof.Rows L2

/-- but for these slots nothing is changed -/
structure Same (vs : List Nat) (σ σ' : L2.St) : Prop where
  len : σ'.length = σ.length
  at_ : ∀ j, j ∉ vs → σ'[j]? = σ[j]?
theorem Same.refl (vs : List Nat) (σ : L2.St) : Same vs σ σ := ⟨rfl, fun _ _ => rfl⟩
theorem Same.trans {vs ws : List Nat} {σ σ1 σ2 : L2.St} (a : Same vs σ σ1) (b : Same ws σ1 σ2) : Same (vs ++ ws) σ σ2 :=
  ⟨b.len.trans a.len, fun j h => by
    rw [List.mem_append, not_or] at h
    exact (b.at_ j h.2).trans (a.at_ j h.1)⟩
def gT (tg : A) : TG := fun v σ H Q => ∃ ρ e m d e', EnvR ρ H e σ ∧ HR ρ m H ∧ Rep ρ H d v ∧ assign tg d e = some e' ∧ ∀ σ', EnvR ρ H e' σ' → Same (tgSlots tg) σ σ' → Q σ' H
def gTs (tg : A) : TGs := fun vs σ H Q => ∃ ρ e m ds e', EnvR ρ H e σ ∧ HR ρ m H ∧ Reps ρ H ds vs ∧ assigns tg ds e = some e' ∧ ∀ σ', EnvR ρ H e' σ' → Same (tgSlots tg) σ σ' → Q σ' H

end Mt
namespace L2
open PySem PySem.Spec PyProof.Rows
theorem PG.imp {X : Cx} {e : Expr} {t t' : TG} (h : PG X e t) (k : ∀ v σ H Q, t' v σ H Q → t v σ H Q) : PG X e t' := ⟨fun pins s σ H v u Q I r q => h.run pins s σ H v u Q I r (k _ _ _ _ q)⟩
theorem PGs.imp {X : Cx} {e : List Expr} {t t' : TGs} (h : PGs X e t) (k : ∀ v σ H Q, t' v σ H Q → t v σ H Q) : PGs X e t' := ⟨fun pins s σ H v u Q I r q => h.run pins s σ H v u Q I r (k _ _ _ _ q)⟩
end L2
namespace Mt
open PySem PySem.Spec PyProof.Rows L2
section
variable {X : Cx} {pos : Pos}
theorem pg_n {i : Nat} {x : Str} (hN : X.N.Nodup) (hi : X.N[i]? = some x) (hx : Loc X.env.scope x) (hf : X.fn x = true ∨ X.env.scope.names.lookup x = some .local) : PG X (.Name x pos) (gT (.tgN i)) :=
  (pg_name hN hi hx hf).imp fun v σ H Q ⟨ρ, e, m, d, e', he, hm, r, ea, k⟩ => by
    unfold assign at ea
    split at ea
    · cases ea
      refine k _ (he.set r) ⟨by simp, fun j hj => ?_⟩
      rw [List.getElem?_set_ne]
      rintro rfl
      exact hj (by simp [tgSlots])
    · cases ea
theorem pgs_n : PGs X [] (gTs .nil) := pgs_nil.imp fun vs σ H Q ⟨ρ, e, m, ds, e', he, hm, r, ea, k⟩ => by
  cases ds with
  | nil =>
    simp only [assigns, Option.some.injEq] at ea
    subst ea
    cases r
    exact ⟨rfl, k _ he (Same.refl _ _)⟩
  | cons d ds => simp [assigns] at ea
/-- what may stand as a target -/
def tgTame : Expr → Bool
  | .Name .. => true
  | .Tuple .. => true
  | _ => false
theorem tg_each {e : Expr} (h : tgTame e = true) (es : List Expr) (env : PySem.Env) : (assignEach (e :: es) env).map (·.2) = PySem.assign e env :: (assignEach es env).map (·.2) := by
  cases e <;> first | rfl | (simp [tgTame] at h)
theorem tg_noStar : ∀ {es : List Expr} {env : PySem.Env}, es.all tgTame = true → (assignEach es env).length = es.length ∧ (assignEach es env).findIdx? (·.1) = none
  | [], env, _ => ⟨rfl, rfl⟩
  | e :: es, env, h => by
    rw [List.all_cons, Bool.and_eq_true] at h
    obtain ⟨h1, h2⟩ := tg_noStar (env := env) h.2
    cases e <;> first
      | (simp [tgTame] at h; done)
      | (refine ⟨congrArg (· + 1) h1, ?_⟩
         show List.findIdx? _ ((false, _) :: assignEach es env) = none
         rw [List.findIdx?_cons]
         simp [h2])
theorem pgs_c {e : Expr} {es : List Expr} {t u : A} (h1 : PG X e (gT t)) (h2 : PGs X es (gTs u)) (ht : tgTame e = true) : PGs X (e :: es) (gTs (.cons t u)) :=
  (pgs_cons h1 h2 (tg_each ht _ _)).imp fun vs σ H Q ⟨ρ, en, m, ds, e', he, hm, r, ea, k⟩ => by
    cases r with
    | nil => simp [assigns] at ea
    | @cons d v ds vs r rr =>
      simp only [assigns] at ea
      split at ea
      · rename_i e1 ee
        exact ⟨v, vs, rfl, ρ, en, m, d, e1, he, hm, r, ee, fun σ1 he1 s1 => ⟨ρ, e1, m, ds, e', he1, hm, rr, ea, fun σ2 he2 s2 => k σ2 he2 (s1.trans s2)⟩⟩
      · cases ea
theorem assigns_len : ∀ {a : A} {ds : List D} {e e' : Mt.Env} {n : Nat}, assigns a ds e = some e' → ds.length = ds.length := fun _ => rfl
def tgLen : A → Nat
  | .cons _ r => tgLen r + 1
  | _ => 0
theorem assigns_n : ∀ {a : A} {ds : List D} {e e' : Mt.Env}, assigns a ds e = some e' → ds.length = tgLen a
  | .nil, [], _, _, _ => rfl
  | .cons t r, d :: ds, e, e', h => by
    simp only [assigns] at h
    split at h
    · simp [tgLen, assigns_n h]
    · cases h
  | .nil, _ :: _, _, _, h => by simp [assigns] at h
  | .cons _ _, [], _, _, h => by simp [assigns] at h
theorem pg_t {es : List Expr} {k : Nat} {t : A} (hc : X.calm = true) (h : PGs X es (gTs t)) (ht : es.all tgTame = true) (hl : es.length = tgLen t) : PG X (.Tuple es k pos) (gT (.tgT t)) :=
  (pg_tup hc h ((tg_noStar ht).1.trans hl) (tg_noStar ht).2).imp fun v σ H Q ⟨ρ, e, m, d, e', he, hm, r, ea, k⟩ => by
    cases d with
    | tup ds =>
      unfold assign at ea
      cases r with
      | tup h1 n1 r1 => exact ⟨_, _, rfl, .inl (.inl h1), by rw [← r1.length, assigns_n ea], ρ, e, m, ds, e', he, hm, r1, ea, fun σ1 h1 h2 => k σ1 h1 h2⟩
    | _ => unfold assign at ea; cases ea
end
end Mt
end
section
set_option linter.all false
set_option autoImplicit false
set_option maxRecDepth 100000
set_option maxHeartbeats 2000000
/-! MtC2: comprehensions. -/
namespace Mt
open PySem PySem.Spec PyProof.Rows L2

/-! ### the walk of a comprehension, in the evaluator -/
theorem lcGo_cons {f : D → Mem → R (List D)} {d : D} {r acc ys : List D} {m mE : Mem} (h : lcGo f (d :: r) acc m = .ok ys mE) : ∃ zs m1, f d m = .ok zs m1 ∧ acc.length + zs.length ≤ lineN ∧ lcGo f r (acc ++ zs) m1 = .ok ys mE := by
  simp only [lcGo] at h
  split at h
  · rename_i zs m1 e
    split at h
    · rename_i hl
      exact ⟨zs, m1, e, by simpa using hl, h⟩
    · cases h
  · cases h
  · cases h
theorem lcGo_len {f : D → Mem → R (List D)} : ∀ {r acc ys : List D} {m mE : Mem}, lcGo f r acc m = .ok ys mE → acc.length ≤ ys.length ∧ (acc.length ≤ lineN → ys.length ≤ lineN)
  | [], acc, ys, m, mE, h => by
    simp only [lcGo, R.ok.injEq] at h
    obtain ⟨rfl, _⟩ := h
    exact ⟨Nat.le_refl _, id⟩
  | d :: r, acc, ys, m, mE, h => by
    obtain ⟨zs, m1, h1, h2, h3⟩ := lcGo_cons h
    obtain ⟨a, b⟩ := lcGo_len h3
    rw [List.length_append] at a b
    exact ⟨by omega, fun _ => b h2⟩
theorem wipeE_len (e : Env) : ∀ vs : List Nat, (wipeE e vs).length = e.length
  | [] => rfl
  | v :: vs => by unfold wipeE; rw [List.length_set, wipeE_len e vs]
theorem wipeE_some {e : Env} {i : Nat} {x : D} : ∀ {vs : List Nat}, (wipeE e vs)[i]? = some (some x) → e[i]? = some (some x) ∧ i ∉ vs
  | [], h => ⟨h, by simp⟩
  | v :: vs, h => by
    unfold wipeE at h
    by_cases hi : v = i
    · subst hi
      by_cases hv : v < (wipeE e vs).length
      · rw [List.getElem?_set_self hv] at h; cases h
      · rw [List.getElem?_eq_none (by simpa using hv)] at h; cases h
    · rw [List.getElem?_set_ne hi] at h
      obtain ⟨h1, h2⟩ := wipeE_some h
      exact ⟨h1, by simp only [List.mem_cons, not_or]; exact ⟨fun e => hi e.symm, h2⟩⟩
theorem EnvR.wipe {ρ : Rho} {H : Hp} {e : Env} {σ : L2.St} (vs : List Nat) (h : EnvR ρ H e σ) : EnvR ρ H (wipeE e vs) (L2.wipe σ vs) := by
  refine ⟨by rw [wipeE_len, L2.wipe_length]; exact h.1, fun i d q => ?_⟩
  obtain ⟨q1, q2⟩ := wipeE_some q
  obtain ⟨v, h1, h2⟩ := h.2 i d q1
  exact ⟨v, by rw [L2.wipe_out q2]; exact h1, h2⟩
theorem wipe_in {σ : L2.St} {i : Nat} : ∀ {vs : List Nat}, i ∈ vs → (L2.wipe σ vs)[i]? = if i < σ.length then some none else none
  | v :: vs, h => by
    unfold L2.wipe
    by_cases hi : v = i
    · subst hi
      by_cases hl : v < σ.length
      · rw [List.getElem?_set_self (by rw [L2.wipe_length]; exact hl), if_pos hl]
      · rw [List.getElem?_eq_none (by rw [List.length_set, L2.wipe_length]; omega), if_neg hl]
    · rw [List.getElem?_set_ne hi]
      rcases List.mem_cons.mp h with e | h
      · exact absurd e.symm hi
      · exact wipe_in h
theorem wipe_same {σ σ' : L2.St} {ws vs : List Nat} (s : Same ws (L2.wipe σ vs) σ') (h : ∀ i ∈ ws, i ∈ vs) : L2.wipe σ' vs = L2.wipe σ vs := by
  have hl := s.len
  rw [L2.wipe_length] at hl
  refine List.ext_getElem? fun i => ?_
  by_cases hi : i ∈ vs
  · rw [wipe_in hi, wipe_in hi, hl]
  · rw [L2.wipe_out hi]
    exact s.at_ i fun q => hi (h i q)

/-! ### what is being made -/
abbrev ConT := Rho → Hp → List D → HO → Prop
def conL : ConT := fun ρ H acc o => ∃ vs, o = .lst vs ∧ Reps ρ H acc vs
def conK : ConT := fun ρ H acc o => ∃ kvs ws, o = .dK ws ∧ pairK acc = some kvs ∧ KvR ρ H (mergeK [] kvs) ws ∧ ws.length ≤ acc.length
structure ConOk (Con : ConT) : Prop where
  sub : ∀ {ρ ρ' : Rho} {H H' : Hp} {acc : List D} {o : HO}, Sub ρ H ρ' H' → Con ρ H acc o → Con ρ' H' acc o
theorem conL_ok : ConOk conL := ⟨fun x ⟨vs, e, r⟩ => ⟨vs, e, r.sub x⟩⟩
theorem conK_ok : ConOk conK := ⟨fun x ⟨kvs, ws, e, p, r, l⟩ => ⟨kvs, ws, e, p, Paired.imp (fun _ _ q => ⟨q.1, q.2.sub x⟩) r, l⟩⟩
/-- at D the thing is being made, in ρ1, H; ρ0, H0: ahead of it -/
structure Bs (Con : ConT) (ρ0 : Rho) (H0 : Hp) (Da : Addr) (ρ1 : Rho) (m1 : Mem) (H : Hp) (acc : List D) : Prop where
  sub : Sub ρ0 H0 ρ1 H
  b : ρ1.b = Da :: ρ0.b
  bk : ∀ a ∈ ρ0.b, H a = H0 a
  hr : HR ρ1 m1 H
  con : ∃ o, H Da = some o ∧ Con ρ1 H acc o
  na : Da ∉ ρ0.b
section
variable {Con : ConT} {ρ0 ρ1 ρ2 : Rho} {H0 H H2 : Hp} {Da : Addr} {m1 m2 : Mem} {acc : List D}
theorem Bs.in_ (B : Bs Con ρ0 H0 Da ρ1 m1 H acc) : Da ∈ ρ1.b := by rw [B.b]; exact List.mem_cons_self
theorem Bs.ext (k : ConOk Con) (B : Bs Con ρ0 H0 Da ρ1 m1 H acc) (x : Ext ρ1 H ρ2 H2) (hm : HR ρ2 m2 H2) : Bs Con ρ0 H0 Da ρ2 m2 H2 acc := by
  refine ⟨B.sub.trans x.toSub, x.ban.trans B.b, fun a ha => ?_, hm, ?_, B.na⟩
  · rw [x.bk a (by rw [B.b]; exact List.mem_cons_of_mem _ ha)]
    exact B.bk a ha
  · obtain ⟨o, h1, h2⟩ := B.con
    exact ⟨o, (x.bk Da B.in_).trans h1, k.sub x.toSub h2⟩
theorem Sub.ban {ρ : Rho} {H : Hp} {a : Addr} {o : HO} (h : a ∈ ρ.b) : Sub ρ H ρ (upd H a o) :=
  ⟨Nat.le_refl _, fun _ _ _ q => q, fun b u e n => ⟨by rw [upd_ne (show b ≠ a from fun z => n (.inr (z ▸ h)))]; exact e, n⟩⟩
theorem HR.ban {ρ : Rho} {m : Mem} {H : Hp} (hm : HR ρ m H) {a : Addr} {o : HO} (h : a ∈ ρ.b) : HR ρ m (upd H a o) := by
  refine ⟨hm.len, hm.inj, fun i ob e => ?_, hm.dead, fun b hb => ?_, hm.bn⟩
  · obtain ⟨c, h1, h2⟩ := hm.obj i ob e
    exact ⟨c, h1, h2.sub (Sub.ban h) (upd_ne fun z => hm.bn i c h1 (z ▸ h))⟩
  · by_cases e : b = a
    · subst e; rw [upd_same]; simp
    · rw [upd_ne e]; exact hm.bt b hb
theorem Bs.add (B : Bs Con ρ0 H0 Da ρ1 m1 H acc) {acc' : List D} {o : HO} (h : Con ρ1 (upd H Da o) acc' o) (n0 : H0 Da = none) : Bs Con ρ0 H0 Da ρ1 m1 (upd H Da o) acc' :=
  ⟨B.sub.trans (Sub.ban B.in_), B.b, fun a ha => by rw [upd_ne (show a ≠ Da from fun z => B.na (z ▸ ha))]; exact B.bk a ha, B.hr.ban B.in_, ⟨o, upd_same, h⟩, B.na⟩
theorem Bs.start {o : HO} {m : Mem} (hm : HR ρ0 m H0) (n0 : H0 Da = none) (h : Con (ρ0.ban Da) (upd H0 Da o) acc o) : Bs Con ρ0 H0 Da (ρ0.ban Da) m (upd H0 Da o) acc := by
  have nb : Da ∉ ρ0.b := fun z => hm.bt _ z n0
  have s : Sub ρ0 H0 (ρ0.ban Da) (upd H0 Da o) := ⟨Nat.le_refl _, fun _ _ _ q => q, fun b u e n => by
    have ne : b ≠ Da := ne_of_none e n0
    refine ⟨by rw [upd_ne ne]; exact e, fun l => ?_⟩
    rcases l with l | l
    · exact n (.inl l)
    · rcases List.mem_cons.mp l with z | l
      · exact ne z
      · exact n (.inr l)⟩
  refine ⟨s, rfl, fun a ha => upd_ne fun z => nb (z ▸ ha), ⟨hm.len, hm.inj, fun i ob e => ?_, hm.dead, fun b hb => ?_, fun i a h1 h2 => ?_⟩, ⟨o, upd_same, h⟩, nb⟩
  · obtain ⟨c, h1, h2⟩ := hm.obj i ob e
    exact ⟨c, h1, h2.sub s (upd_ne fun z => h2.there (z ▸ n0))⟩
  · by_cases e : b = Da
    · subst e; rw [upd_same]; simp
    · rw [upd_ne e]
      rcases List.mem_cons.mp hb with z | l
      · exact absurd z e
      · exact hm.bt b l
  · rcases List.mem_cons.mp h2 with z | l
    · subst z
      obtain h := hm.tracked (.inl ⟨i, h1⟩)
      exact h n0
    · exact hm.bn i a h1 l
/-- it is made -/
theorem Bs.done (B : Bs Con ρ0 H0 Da ρ1 m1 H acc) : Ext ρ0 H0 ⟨ρ1.c, ρ0.b⟩ H ∧ HR ⟨ρ1.c, ρ0.b⟩ m1 H ∧ ¬ live ⟨ρ1.c, ρ0.b⟩ Da ∧ Sub ρ1 H ⟨ρ1.c, ρ0.b⟩ H := by
  have s : Sub ρ1 H ⟨ρ1.c, ρ0.b⟩ H := ⟨Nat.le_refl _, fun _ _ _ q => q, fun b u e n => ⟨e, fun l => n (by
    rcases l with l | l
    · exact .inl l
    · exact .inr (by rw [B.b]; exact List.mem_cons_of_mem _ l))⟩⟩
  refine ⟨⟨B.sub.trans s, rfl, B.bk⟩, ⟨B.hr.len, B.hr.inj, fun i ob e => ?_, B.hr.dead, fun b hb => B.hr.bt b (by rw [B.b]; exact List.mem_cons_of_mem _ hb), fun i a h1 h2 => B.hr.bn i a h1 (by rw [B.b]; exact List.mem_cons_of_mem _ h2)⟩, ?_, s⟩
  · obtain ⟨c, h1, h2⟩ := B.hr.obj i ob e
    exact ⟨c, h1, h2.sub s rfl⟩
  · rintro (⟨i, hi⟩ | l)
    · exact B.hr.bn i Da hi B.in_
    · exact B.na l
end

/-! ### the walk -/
section
variable {Con : ConT} {ρ0 ρs : Rho} {H0 Hs : Hp} {Da : Addr} {J : It} {xs pre ys : List D} {f : D → Mem → R (List D)} {mE : Mem} {Fin : Hp → Prop} {Step : V → Hp → (Hp → Prop) → Prop}
theorem walk_run (k : ConOk Con) (w : WalkR ρs Hs J xs) {ρa : Rho} {ma : Mem} {Ha : Hp} {acc0 : List D} (B0 : Bs Con ρ0 H0 Da ρa ma Ha (pre ++ acc0)) (s0 : Sub ρs Hs ρa Ha) (L0 : lcGo f xs acc0 ma = .ok ys mE)
    (fin : ∀ ρ1 H, Bs Con ρ0 H0 Da ρ1 mE H (pre ++ ys) → Sub ρs Hs ρ1 H → Fin H)
    (step : ∀ (ρ1 : Rho) (m1 : Mem) (H' : Hp) (acc1 : List D) (d : D) (x : V) (zs : List D) (m3 : Mem) (Nx : Hp → Prop), Bs Con ρ0 H0 Da ρ1 m1 H' (pre ++ acc1) → Sub ρs Hs ρ1 H' → Rep ρ1 H' d x → f d m1 = .ok zs m3 → acc1.length + zs.length ≤ ys.length →
      (∀ ρ3 H3, Bs Con ρ0 H0 Da ρ3 m3 H3 (pre ++ (acc1 ++ zs)) → Sub ρs Hs ρ3 H3 → Nx H3) → Step x H' Nx) :
    ∃ W : Nat → Nat → Hp → Prop, (∃ n, W 0 n Ha) ∧ ∀ i n H, W i n H → (J.stop i H ∧ Fin H) ∨ (J.go i H ∧ ∃ Nx : Hp → Prop, (∀ H', Nx H' → ∃ n', n' < n ∧ W (i + 1) n' H') ∧ ∀ x H', J.yld i H x H' → Step x H' Nx) := by
  refine ⟨fun i n H => n = xs.length - i ∧ i ≤ xs.length ∧ ∃ ρ1 m1 acc1, Bs Con ρ0 H0 Da ρ1 m1 H (pre ++ acc1) ∧ Sub ρs Hs ρ1 H ∧ lcGo f (xs.drop i) acc1 m1 = .ok ys mE, ⟨xs.length, by simp, Nat.zero_le _, ρa, ma, acc0, B0, s0, by simpa using L0⟩, ?_⟩
  rintro i n H ⟨rfl, hi, ρ1, m1, acc1, B, s, L⟩
  by_cases hlt : i < xs.length
  · right
    have hd : xs[i]? = some xs[i] := by simp [hlt]
    rw [List.drop_eq_getElem_cons hlt] at L
    obtain ⟨zs, m3, h1, h2, h3⟩ := lcGo_cons L
    have hl := (lcGo_len h3).1
    rw [List.length_append] at hl
    refine ⟨w.go i ρ1 H hlt s, fun H' => i + 1 ≤ xs.length ∧ ∃ ρ1 m1 acc1, Bs Con ρ0 H0 Da ρ1 m1 H' (pre ++ acc1) ∧ Sub ρs Hs ρ1 H' ∧ lcGo f (xs.drop (i + 1)) acc1 m1 = .ok ys mE, fun H' hh => ⟨xs.length - (i + 1), by omega, rfl, hh⟩, fun x H' y => ?_⟩
    obtain ⟨x1, hr1, r1⟩ := w.yld i _ ρ1 H m1 x H' hd s B.hr y
    exact step ρ1 m1 H' acc1 xs[i] x zs m3 _ (B.ext k x1 hr1) (s.trans x1.toSub) r1 h1 hl fun ρ3 H3 B3 s3 => ⟨hlt, ρ3, m3, acc1 ++ zs, B3, s3, h3⟩
  · have e : i = xs.length := by omega
    subst e
    left
    rw [List.drop_length] at L
    simp only [lcGo, R.ok.injEq] at L
    obtain ⟨rfl, rfl⟩ := L
    exact ⟨w.stop ρ1 H s, fin ρ1 H B s⟩
end

/-! ### a turn -/
section
variable {C : Cls} {tg : A} {ft : Mt.X} {f : Env → Mem → R (List D)}
def WF : WX := fun _ _ _ _ => False
theorem turn_run {σ : L2.St} {vs : List Nat} {ρ1 : Rho} {m1 m3 : Mem} {H' : Hp} {e1 : Env} {d : D} {x : V} {zs : List D} {Body : L2.St → Hp → Prop} {Nx : Hp → Prop} (he : EnvR ρ1 H' e1 (L2.wipe σ vs)) (hr : HR ρ1 m1 H') (r : Rep ρ1 H' d x) (hs : ∀ i ∈ tgSlots tg, i ∈ vs)
    (h : turn tg ft f e1 d m1 = .ok zs m3)
    (hb : ∀ (σ2 : L2.St) (ρ2 : Rho) (H3 : Hp) (e' : Env) (m2 : Mem), Ext ρ1 H' ρ2 H3 → HR ρ2 m2 H3 → EnvR ρ2 H3 e' σ2 → L2.wipe σ2 vs = L2.wipe σ vs → f e' m2 = .ok zs m3 → Body σ2 H3)
    (hn : ∀ (ρ2 : Rho) (H3 : Hp), Ext ρ1 H' ρ2 H3 → HR ρ2 m3 H3 → zs = [] → Nx H3) :
    gT tg x (L2.wipe σ vs) H' fun σ2 H2 => L2.wipe σ2 vs = L2.wipe σ vs ∧ tT C WF ft σ2 H2 fun b H3 => if b = true then Body σ2 H3 else Nx H3 := by
  unfold turn at h
  split at h
  · rename_i e' ea
    refine ⟨ρ1, e1, m1, d, e', he, hr, r, ea, fun σ2 he2 s2 => ⟨wipe_same s2 hs, ρ1, e', m1, he2, hr, ?_⟩⟩
    cases e3 : ft e' m1 with
    | bad w => rw [e3] at h; cases h
    | exc c fs m => rw [e3] at h; cases h
    | ok b m2 =>
      rw [e3] at h
      have h : (match (generalizing := false) truth m2 b with
        | some true => f e' m2
        | some false => .ok [] m2
        | none => .bad 71) = R.ok zs m3 := h
      clear e3
      split at h
      · rename_i et
        refine ⟨true, et, fun ρ2 H2 x2 hr2 => ?_⟩
        dsimp only
        rw [if_pos rfl]
        exact hb σ2 ρ2 H2 e' m2 x2 hr2 (he2.mono x2) (wipe_same s2 hs) h
      · rename_i et
        refine ⟨false, et, fun ρ2 H2 x2 hr2 => ?_⟩
        dsimp only
        rw [if_neg Bool.false_ne_true]
        cases h
        exact hn ρ2 H2 x2 hr2 rfl
      · cases h
  · cases h

theorem tI.get {fit : Mt.X} {W : WX} {σ : L2.St} {H : Hp} {R : It → Hp → Prop} {g : Env → List D → Mem → Mt.R D} {Q : VK}
    (h : tX C W (fun e m => (fit e m).bind fun x m => match itOf m x with
      | some (xs, m) => g e xs m
      | none => .bad 73) σ H Q)
    (k : ∀ (ρ0 : Rho) (H0 : Hp) (J : It) (e : Env) (xs : List D) (m : Mem), EnvR ρ0 H0 e σ → HR ρ0 m H0 → WalkR ρ0 H0 J xs → Post C ρ0 H0 (g e xs m) Q (fun cv d H' => W cv d σ H') → R J H0) : tI C W fit σ H R := by
  obtain ⟨ρ, e, m, he, hm, h⟩ := h
  refine ⟨ρ, e, m, he, hm, ?_⟩
  dsimp only at h
  cases e1 : fit e m with
  | bad w => rw [e1] at h; exact h
  | exc c fs m' => rw [e1] at h; exact h
  | ok d m' =>
    rw [e1] at h
    have h : Post C ρ H (match (generalizing := false) itOf m' d with
      | some (xs, m) => g e xs m
      | none => .bad 73) Q fun cv d H' => W cv d σ H' := h
    clear e1
    split at h
    · rename_i xs m2 e2
      exact ⟨xs, m2, e2, fun ρ' H' J x hr w => k ρ' H' J e xs m2 (he.mono x) hr w (h.up x)⟩
    · exact h.elim
/-- a list of results, then the end -/
theorem ends_of {r : Mt.R (List D)} {g : List D → Mem → Mt.R D} {ρ : Rho} {H : Hp} {Q : VK} {E : XK} (hx : ∀ c fs m, r ≠ .exc c fs m) (h : Post C ρ H (r.bind g) Q E) : ∃ ys m, r = .ok ys m ∧ Post C ρ H (g ys m) Q E := by
  cases r with
  | ok ys m => exact ⟨ys, m, rfl, h⟩
  | exc c fs m => exact absurd rfl (hx c fs m)
  | bad w => exact h.elim
theorem lcGo_ne {f : D → Mem → Mt.R (List D)} : ∀ (xs acc : List D) (m : Mem) (c : Nat) (fs : List D) (m' : Mem), lcGo f xs acc m ≠ .exc c fs m'
  | [], acc, m, c, fs, m', h => by simp [lcGo] at h
  | d :: r, acc, m, c, fs, m', h => by
    simp only [lcGo] at h
    split at h
    · split at h
      · exact lcGo_ne _ _ _ _ _ _ h
      · cases h
    · cases h
    · cases h
theorem tLc_of {fit fel : Mt.X} {W : WX} {vs : List Nat} (hs : ∀ i, i ∈ tgSlots tg ↔ i ∈ vs) : ∀ σ H Q, tX C W (xLc fel tg fit ft) σ H Q → tLc (tI C W fit) (gT tg) (tT C WF ft) (tX C WF fel) vs σ H Q := fun σ H Q h => by
  refine tI.get (g := fun e xs m => (lcGo (turn tg ft (give1 fel) (wipeE e (tgSlots tg))) xs [] m).bind fun ys m => .ok (.lst ys) m) h fun ρ0 H0 J e xs m he hm w h Da hD => ?_
  obtain ⟨ys, mE, L, q⟩ := ends_of (fun c fs m' => lcGo_ne _ _ _ c fs m') h
  have hlen := (lcGo_len L).2 (Nat.zero_le _)
  have B0 : Bs conL ρ0 H0 Da (ρ0.ban Da) m (upd H0 Da (.lst [])) [] := Bs.start hm hD ⟨[], rfl, .nil⟩
  refine walk_run (pre := []) conL_ok w B0 B0.sub L (fun ρ1 H1 B s => ?_) fun ρ1 m1 H1 acc1 d x zs m3 Nx B s r hf hl hN => ?_
  · obtain ⟨x1, hr1, nl, sb⟩ := B.done
    obtain ⟨o, ho, vs, rfl, rr⟩ := B.con
    exact q _ _ _ x1 hr1 (.lst ho nl (rr.sub sb))
  · have ews : ∀ i ∈ tgSlots tg, i ∈ vs := fun i hi => (hs i).mp hi
    have he1 : EnvR ρ1 H1 (wipeE e (tgSlots tg)) (L2.wipe σ vs) := by
      have hw : L2.wipe σ vs = L2.wipe σ (tgSlots tg) := by
        refine List.ext_getElem? fun i => ?_
        by_cases hi : i ∈ vs
        · rw [wipe_in hi, wipe_in ((hs i).mpr hi)]
        · rw [L2.wipe_out hi, L2.wipe_out fun z => hi ((hs i).mp z)]
      rw [hw]
      exact (he.sub s).wipe _
    refine turn_run he1 B.hr r ews hf (fun σ2 ρ2 H3 e' m2 x2 hr2 he2 hw hg => ?_) fun ρ2 H3 x2 hr2 ez => ?_
    · refine ⟨ρ2, e', m2, he2, hr2, ?_⟩
      unfold give1 at hg
      cases e3 : fel e' m2 with
      | bad w => rw [e3] at hg; cases hg
      | exc c fs m => rw [e3] at hg; cases hg
      | ok y m4 =>
        rw [e3] at hg
        have hg : R.ok [y] m4 = R.ok zs m3 := hg
        cases hg
        intro ρ3 H4 v x3 hr3 r3
        have B3 := (B.ext conL_ok x2 hr2).ext conL_ok x3 hr3
        obtain ⟨o, ho, ws, rfl, rr⟩ := B3.con
        refine ⟨ws, ho, ?_, hN ρ3 _ (B3.add ⟨ws ++ [v], rfl, ?_⟩ hD) ((s.trans x2.toSub).trans (x3.toSub.trans (Sub.ban B3.in_)))⟩
        · rw [← rr.length, sizeLine_eq]
          have hl : acc1.length + 1 ≤ ys.length := hl
          have : ys.length ≤ 16777216 := hlen
          simp only [List.nil_append]
          omega
        · have := (rr.sub (Sub.ban (o := .lst (ws ++ [v])) B3.in_)).append (.one (r3.sub (Sub.ban B3.in_)))
          simpa using this
    · subst ez
      have B2 := B.ext conL_ok x2 hr2
      exact hN ρ2 H3 (by simpa using B2) (s.trans x2.toSub)
end
end Mt
end
section
set_option linter.all false
set_option autoImplicit false
set_option maxRecDepth 100000
set_option maxHeartbeats 2000000
/-! MtC3: comprehensions of two clauses, of dicts; the rules. -/
namespace Mt
open PySem PySem.Spec PyProof.Rows L2
section
variable {C : Cls} {tg tg2 : A} {ft ft2 fit fit2 fel fk : Mt.X}
theorem wipe_iff {σ : L2.St} {vs ws : List Nat} (h : ∀ i, i ∈ ws ↔ i ∈ vs) : L2.wipe σ vs = L2.wipe σ ws := by
  refine List.ext_getElem? fun i => ?_
  by_cases hi : i ∈ vs
  · rw [wipe_in hi, wipe_in ((h i).mpr hi)]
  · rw [L2.wipe_out hi, L2.wipe_out fun z => hi ((h i).mp z)]
theorem tLc2_gen {W : WX} {vs vs1 : List Nat} (g : List D → Mem → Mt.R D) (fin : ∀ {ρ0 ρ1 : Rho} {H0 H1 : Hp} {Da : Addr} {ys : List D} {mE : Mem} {Q : VK} {E : XK}, H0 Da = none → Bs conL ρ0 H0 Da ρ1 mE H1 ys → Post C ρ0 H0 (g ys mE) Q E → Q (.ref Da) H1)
    (hs : ∀ i, i ∈ tgSlots tg ++ tgSlots tg2 ↔ i ∈ vs) (hs1 : vs1 = tgSlots tg2) : ∀ σ H Q, tX C W (fun e m => (fit e m).bind fun x m => match itOf m x with
      | some (xs, m) => (lcGo (turn tg ft (inner fel tg2 fit2 ft2) (wipeE e (tgSlots tg ++ tgSlots tg2))) xs [] m).bind g
      | none => .bad 73) σ H Q → tLc2 (tI C W fit) (gT tg) (tT C WF ft) (tI C WF fit2) (gT tg2) (tT C WF ft2) (tX C WF fel) vs vs1 σ H Q := fun σ H Q h => by
  subst hs1
  refine tI.get (g := fun e xs m => (lcGo (turn tg ft (inner fel tg2 fit2 ft2) (wipeE e (tgSlots tg ++ tgSlots tg2))) xs [] m).bind g) h fun ρ0 H0 J e xs m he hm w h Da hD => ?_
  obtain ⟨ys, mE, L, q⟩ := ends_of (fun c fs m' => lcGo_ne _ _ _ c fs m') h
  have hlen := (lcGo_len L).2 (Nat.zero_le _)
  have B0 : Bs conL ρ0 H0 Da (ρ0.ban Da) m (upd H0 Da (.lst [])) [] := Bs.start hm hD ⟨[], rfl, .nil⟩
  refine walk_run (pre := []) conL_ok w B0 B0.sub L (fun ρ1 H1 B s => ?_) fun ρ1 m1 H1 acc1 d x zs m3 Nx B s r hf hl hN => ?_
  · exact fin hD (by simpa using B) q
  · have he1 : EnvR ρ1 H1 (wipeE e (tgSlots tg ++ tgSlots tg2)) (L2.wipe σ vs) := by
      rw [wipe_iff hs]
      exact (he.sub s).wipe _
    refine turn_run he1 B.hr r (fun i hi => (hs i).mp (List.mem_append_left _ hi)) hf (fun σ2 ρ2 H3 e' m2 x2 hr2 he2 hw hg => ?_) fun ρ2 H3 x2 hr2 ez => ?_
    · have B2 := B.ext conL_ok x2 hr2
      refine ⟨ρ2, e', m2, he2, hr2, ?_⟩
      unfold inner at hg
      cases e3 : fit2 e' m2 with
      | bad w => rw [e3] at hg; cases hg
      | exc c fs m => rw [e3] at hg; cases hg
      | ok y m4 =>
        rw [e3] at hg
        have hg : (match (generalizing := false) itOf m4 y with
          | some (xs, m) => lcGo (turn tg2 ft2 (give1 fel) (wipeE e' (tgSlots tg2))) xs [] m
          | none => .bad 73) = R.ok zs m3 := hg
        clear e3
        split at hg
        · rename_i xs2 m5 e5
          refine ⟨xs2, m5, e5, fun ρ5 H5 J2 x5 hr5 w2 => ?_⟩
          have B5 := B2.ext conL_ok x5 hr5
          refine walk_run (pre := acc1) conL_ok w2 (acc0 := []) (by simpa using B5) (Sub.refl _ _) hg (fun ρ6 H6 B6 s6 => ?_) fun ρ6 m6 H6 acc6 d6 x6 zs6 m7 Nx6 B6 s6 r6 hf6 hl6 hN6 => ?_
          · exact hN ρ6 H6 B6 ((s.trans x2.toSub).trans (x5.toSub.trans s6))
          · have he6 : EnvR ρ6 H6 (wipeE e' (tgSlots tg2)) (L2.wipe σ2 (tgSlots tg2)) := ((he2.mono x5).sub s6).wipe _
            refine turn_run he6 B6.hr r6 (fun i hi => hi) hf6 (fun σ7 ρ7 H7 e7 m7' x7 hr7 he7 hw7 hg7 => ?_) fun ρ7 H7 x7 hr7 ez7 => ?_
            · refine ⟨ρ7, e7, m7', he7, hr7, ?_⟩
              unfold give1 at hg7
              cases e8 : fel e7 m7' with
              | bad w => rw [e8] at hg7; cases hg7
              | exc c fs m => rw [e8] at hg7; cases hg7
              | ok y8 m8 =>
                rw [e8] at hg7
                have hg7 : R.ok [y8] m8 = R.ok zs6 m7 := hg7
                cases hg7
                intro ρ9 H9 v x9 hr9 r9
                have B9 := (B6.ext conL_ok x7 hr7).ext conL_ok x9 hr9
                obtain ⟨o, ho, ws, rfl, rr⟩ := B9.con
                refine ⟨ws, ho, ?_, hN6 ρ9 _ (B9.add ⟨ws ++ [v], rfl, ?_⟩ hD) ((s6.trans x7.toSub).trans (x9.toSub.trans (Sub.ban B9.in_)))⟩
                · rw [← rr.length, sizeLine_eq]
                  have a1 : acc6.length + 1 ≤ zs.length := hl6
                  have a2 : ys.length ≤ 16777216 := hlen
                  have a3 : acc1.length + zs.length ≤ ys.length := hl
                  rw [List.length_append]
                  omega
                · have := (rr.sub (Sub.ban (o := .lst (ws ++ [v])) B9.in_)).append (.one (r9.sub (Sub.ban B9.in_)))
                  simpa using this
            · subst ez7
              have B7 := B6.ext conL_ok x7 hr7
              exact hN6 ρ7 H7 (by simpa using B7) (s6.trans x7.toSub)
        · cases hg
    · subst ez
      have B2 := B.ext conL_ok x2 hr2
      exact hN ρ2 H3 (by simpa using B2) (s.trans x2.toSub)

/-- it is made, and is a cell from now on -/
theorem Bs.cell {Con : ConT} {ρ0 ρ1 : Rho} {H0 H : Hp} {Da : Addr} {m1 : Mem} {acc : List D} (B : Bs Con ρ0 H0 Da ρ1 m1 H acc) (n0 : H0 Da = none) :
    Ext ρ0 H0 ⟨ρ1.c ++ [some Da], ρ0.b⟩ H ∧ Sub ρ1 H ⟨ρ1.c ++ [some Da], ρ0.b⟩ H ∧ ∀ ob, ObR ⟨ρ1.c ++ [some Da], ρ0.b⟩ H Da ob → HR ⟨ρ1.c ++ [some Da], ρ0.b⟩ (m1 ++ [some ob]) H := by
  have s : Sub ρ1 H ⟨ρ1.c ++ [some Da], ρ0.b⟩ H := ⟨by simp, fun n b hn q => by rw [List.getElem?_append_left hn] at q; exact q, fun b u e n => ⟨e, fun l => n (by
    rcases l with ⟨i, l⟩ | l
    · rcases get_append_one l with l | ⟨_, l⟩
      · exact .inl ⟨i, l⟩
      · cases l; exact .inr B.in_
    · exact .inr (by rw [B.b]; exact List.mem_cons_of_mem _ l))⟩⟩
  refine ⟨⟨B.sub.trans s, rfl, B.bk⟩, s, fun ob ho => ⟨by simp [B.hr.len], fun i j a h1 h2 => ?_, fun i ob' e => ?_, fun i e => ?_, fun b hb => B.hr.bt b (by rw [B.b]; exact List.mem_cons_of_mem _ hb), fun i a h1 h2 => ?_⟩⟩
  · rcases get_append_one h1 with h1 | ⟨h1, e1⟩
    · rcases get_append_one h2 with h2 | ⟨h2, e2⟩
      · exact B.hr.inj i j a h1 h2
      · cases e2; exact absurd B.in_ (B.hr.bn i _ h1)
    · rcases get_append_one h2 with h2 | ⟨h2, e2⟩
      · cases e1; exact absurd B.in_ (B.hr.bn j _ h2)
      · omega
  · rcases get_append_one e with e | ⟨hi, e⟩
    · obtain ⟨a, h1, h2⟩ := B.hr.obj i ob' e
      refine ⟨a, ?_, h2.sub s rfl⟩
      show (ρ1.c ++ [some Da])[i]? = _
      rw [List.getElem?_append_left (List.getElem?_eq_some_iff.mp h1).1]; exact h1
    · cases e
      refine ⟨Da, ?_, ho⟩
      rw [hi, ← B.hr.len]
      simp
  · rcases get_append_one e with e | ⟨hi, e⟩
    · have h1 := B.hr.dead i e
      show (ρ1.c ++ [some Da])[i]? = _
      rw [List.getElem?_append_left (List.getElem?_eq_some_iff.mp h1).1]; exact h1
    · cases e
  · rcases get_append_one h1 with h1 | ⟨_, e1⟩
    · exact B.hr.bn i a h1 (by rw [B.b]; exact List.mem_cons_of_mem _ h2)
    · cases e1
      exact B.na h2
theorem fin_lst {ρ0 ρ1 : Rho} {H0 H1 : Hp} {Da : Addr} {ys : List D} {mE : Mem} {Q : VK} {E : XK} (hD : H0 Da = none) (B : Bs conL ρ0 H0 Da ρ1 mE H1 ys) (q : Post C ρ0 H0 (.ok (.lst ys) mE) Q E) : Q (.ref Da) H1 := by
  obtain ⟨x1, hr1, nl, sb⟩ := B.done
  obtain ⟨o, ho, vs, rfl, rr⟩ := B.con
  exact q _ _ _ x1 hr1 (.lst ho nl (rr.sub sb))
theorem fin_cell {ρ0 ρ1 : Rho} {H0 H1 : Hp} {Da : Addr} {ys : List D} {mE : Mem} {Q : VK} {E : XK} (hD : H0 Da = none) (B : Bs conL ρ0 H0 Da ρ1 mE H1 ys) (q : Post C ρ0 H0 (.ok (.ref mE.length) (mE ++ [some (.lst ys)])) Q E) : Q (.ref Da) H1 := by
  obtain ⟨o, ho, ws, rfl, rr⟩ := B.con
  obtain ⟨x1, sb, k⟩ := B.cell hD
  refine q _ _ _ x1 (k _ ⟨ws, ho, rr.sub sb⟩) (.ref (by simp [B.hr.len]) fun b hb => ?_)
  rcases get_append_one hb with hb | ⟨_, e⟩
  · have := (List.getElem?_eq_some_iff.mp hb).1
    rw [B.hr.len] at this
    omega
  · cases e; rfl
theorem tLc2_of {W : WX} {vs vs1 : List Nat} (hs : ∀ i, i ∈ tgSlots tg ++ tgSlots tg2 ↔ i ∈ vs) (hs1 : vs1 = tgSlots tg2) : ∀ σ H Q, tX C W (xLc2 fel tg fit ft tg2 fit2 ft2) σ H Q → tLc2 (tI C W fit) (gT tg) (tT C WF ft) (tI C WF fit2) (gT tg2) (tT C WF ft2) (tX C WF fel) vs vs1 σ H Q :=
  tLc2_gen (fun ys m => .ok (.lst ys) m) fin_lst hs hs1
/-! ### dicts -/
theorem pairK_append : ∀ {xs ys : List D} {a b : List (Ky × D)}, pairK xs = some a → pairK ys = some b → pairK (xs ++ ys) = some (a ++ b)
  | [], ys, a, b, h, h' => by
    simp only [pairK, Option.some.injEq] at h
    subst h
    simpa using h'
  | x :: xs, ys, a, b, h, h' => by
    unfold pairK at h
    split at h
    · cases ‹_ :: _ = []›
    · rename_i k v r e
      cases e
      split at h
      · rename_i q s e1 e2
        cases h
        rw [List.cons_append]
        unfold pairK
        simp only [e1, pairK_append e2 h', List.cons_append]
      · cases h
    · cases h
theorem mergeK_append : ∀ (l l2 acc : List (Ky × D)), mergeK acc (l ++ l2) = mergeK (mergeK acc l) l2
  | [], l2, acc => rfl
  | p :: r, l2, acc => by simp only [List.cons_append, mergeK, mergeK_append r l2]
theorem any_K {ρ : Rho} {H : Hp} (k : Ky) : ∀ {kvs : List (Ky × D)} {ws : List (Key × V)}, KvR ρ H kvs ws → hasK k kvs = ws.any fun kv => decide (kv.1 = kyTo k)
  | _, _, .nil => rfl
  | _, _, .cons (a := p) (b := q) h t => by
    have ih := any_K k t
    simp only [hasK, List.any_cons]
    rw [kyEq_iff, h.1, ih]
    cases decide (q.1 = kyTo k) <;> rfl
theorem set_K {ρ : Rho} {H : Hp} {d : D} {v : V} (r : Rep ρ H d v) (k : Ky) : ∀ {kvs : List (Ky × D)} {ws : List (Key × V)}, KvR ρ H kvs ws → KvR ρ H (setK k d kvs) (ws.map fun kv => if kv.1 = kyTo k then (kv.1, v) else kv)
  | _, _, .nil => .nil
  | _, _, .cons (a := p) (b := q) h t => by
    have ih := set_K r k t
    simp only [setK, List.map_cons]
    rw [kyEq_iff, h.1]
    by_cases e : q.1 = kyTo k
    · rw [if_pos e, decide_eq_true e]
      exact .cons ⟨h.1, r⟩ ih
    · rw [if_neg e, decide_eq_false e]
      exact .cons h ih
theorem put_K {ρ : Rho} {H : Hp} {d : D} {v : V} (r : Rep ρ H d v) (k : Ky) {kvs : List (Ky × D)} {ws : List (Key × V)} (h : KvR ρ H kvs ws) : KvR ρ H (putK k d kvs) (L2.putK ws (kyTo k) v) := by
  unfold putK L2.putK
  rw [← any_K k h]
  cases hasK k kvs with
  | true =>
    rw [if_pos rfl]
    exact set_K r k h
  | false =>
    rw [if_neg Bool.false_ne_true]
    exact Paired.snoc h ⟨rfl, r⟩
theorem ky_of {ρ : Rho} {H : Hp} {d : D} {v : V} {k : Ky} (r : Rep ρ H d v) (h : kyOf d = some k) : v = kV (kyTo k) := by
  cases r with
  | int i => simp only [kyOf, Option.some.injEq] at h; subst h; rfl
  | str x => simp only [kyOf, Option.some.injEq] at h; subst h; rfl
  | _ => simp [kyOf] at h
theorem tDc_of {W : WX} {vs : List Nat} (hs : ∀ i, i ∈ tgSlots tg ↔ i ∈ vs) : ∀ σ H Q, tX C W (xDc fk fel tg fit ft) σ H Q → tDc (tI C W fit) (gT tg) (tT C WF ft) (tX C WF fk) (tX C WF fel) vs σ H Q := fun σ H Q h => by
  refine tI.get (g := fun e xs m => (lcGo (turn tg ft (give2 fk fel) (wipeE e (tgSlots tg))) xs [] m).bind fun ys m => match pairK ys with
    | some kvs => .ok (.ref m.length) (m ++ [some (.dK (mergeK [] kvs))])
    | none => .bad 74) h fun ρ0 H0 J e xs m he hm w h Da hD => ?_
  obtain ⟨ys, mE, L, q⟩ := ends_of (fun c fs m' => lcGo_ne _ _ _ c fs m') h
  have hlen := (lcGo_len L).2 (Nat.zero_le _)
  have B0 : Bs conK ρ0 H0 Da (ρ0.ban Da) m (upd H0 Da (.dK [])) [] := Bs.start hm hD ⟨[], [], rfl, rfl, .nil, Nat.le_refl _⟩
  refine walk_run (pre := []) conK_ok w B0 B0.sub L (fun ρ1 H1 B s => ?_) fun ρ1 m1 H1 acc1 d x zs m3 Nx B s r hf hl hN => ?_
  · obtain ⟨o, ho, kvs, ws, rfl, ep, rr, _⟩ := B.con
    rw [List.nil_append] at ep
    rw [ep] at q
    obtain ⟨x1, sb, k⟩ := B.cell hD
    refine q _ _ _ x1 (k _ ⟨ws, ho, Paired.imp (fun _ _ q => ⟨q.1, q.2.sub sb⟩) rr⟩) (.ref (by simp [B.hr.len]) fun b hb => ?_)
    rcases get_append_one hb with hb | ⟨_, e⟩
    · have := (List.getElem?_eq_some_iff.mp hb).1
      rw [B.hr.len] at this
      omega
    · cases e; rfl
  · have he1 : EnvR ρ1 H1 (wipeE e (tgSlots tg)) (L2.wipe σ vs) := by
      rw [wipe_iff hs]
      exact (he.sub s).wipe _
    refine turn_run he1 B.hr r (fun i hi => (hs i).mp hi) hf (fun σ2 ρ2 H3 e' m2 x2 hr2 he2 hw hg => ?_) fun ρ2 H3 x2 hr2 ez => ?_
    · refine ⟨ρ2, e', m2, he2, hr2, ?_⟩
      unfold give2 at hg
      cases e3 : fk e' m2 with
      | bad w => rw [e3] at hg; cases hg
      | exc c fs m => rw [e3] at hg; cases hg
      | ok y m4 =>
        rw [e3] at hg
        intro ρ3 H4 v x3 hr3 r3
        refine ⟨ρ3, e', m4, he2.mono x3, hr3, ?_⟩
        have hg : ((fel e' m4).bind fun z m => match kyOf y with
          | some _ => .ok [.tup [y, z]] m
          | none => .bad 74) = R.ok zs m3 := hg
        cases e4 : fel e' m4 with
        | bad w => rw [e4] at hg; cases hg
        | exc c fs m => rw [e4] at hg; cases hg
        | ok z m5 =>
          rw [e4] at hg
          have hg : (match (generalizing := false) kyOf y with
            | some _ => .ok [.tup [y, z]] m5
            | none => .bad 74) = R.ok zs m3 := hg
          intro ρ4 H5 v2 x4 hr4 r4
          cases ek : kyOf y with
          | none => rw [ek] at hg; cases hg
          | some ky =>
            rw [ek] at hg
            cases hg
            have B4 := ((B.ext conK_ok x2 hr2).ext conK_ok x3 hr3).ext conK_ok x4 hr4
            obtain ⟨o, ho, kvs, ws, rfl, ep, rr, lw⟩ := B4.con
            rw [List.nil_append] at ep lw
            have hl : acc1.length + 1 ≤ ys.length := hl
            have hlen : ys.length ≤ 16777216 := hlen
            refine ⟨ws, kyTo ky, ky_of r3 ek, ho, by rw [sizeLine_eq]; omega, hN ρ4 _ (B4.add ⟨kvs ++ [(ky, z)], _, rfl, ?_, ?_, ?_⟩ hD) ((s.trans x2.toSub).trans ((x3.toSub.trans x4.toSub).trans (Sub.ban B4.in_)))⟩
            · rw [List.nil_append]
              exact pairK_append ep (by simp [pairK, ek])
            · rw [mergeK_append]
              exact put_K (r4.sub (Sub.ban B4.in_)) ky (Paired.imp (fun _ _ q => ⟨q.1, q.2.sub (Sub.ban B4.in_)⟩) rr)
            · have := L2.length_putK ws (kyTo ky) v2
              simp only [List.nil_append, List.length_append, List.length_cons, List.length_nil]
              omega
    · subst ez
      have B2 := B.ext conK_ok x2 hr2
      exact hN ρ2 H3 (by simpa using B2) (s.trans x2.toSub)
end
end Mt
end
section
set_option linter.all false
set_option autoImplicit false
set_option maxRecDepth 100000
set_option maxHeartbeats 2000000
/-! MtC4: rules: comprehensions, cells, isinstance, list(range(..)). -/
namespace Mt
open PySem PySem.Spec PyProof.Rows L2
section
variable {X : Cx} {C : Cls} {W : WX} {a b c : Expr} {es : List Expr} {fa fb fc : Mt.X} {pos p : Pos}
abbrev AllBlk (X : Cx) (scope : Scope) (P : Cx → Prop) : Prop := ∀ (s : Shared) (H : Hp) (Ca : Addr) (cl : List (Str × Addr)) (fp : List Addr), P (X.blk s H scope (compEnvC scope cl Ca X.env) fp)
section
variable {elt tgx iter tgx1 iter1 kx : Expr} {ifs ifs1 : List Expr} {scope : Scope} {own : List (Str × Nat)} {tg tg1 : A} {fit ft fel fit1 ft1 fk : Mt.X}
theorem px_lc (hc : X.calm = true) (hN : X.N.Nodup) (hi : PI X tgx iter (tI C W fit)) (ok : BlkOk X.N X.env.scope scope own) (hs : ∀ i, i ∈ tgSlots tg ↔ i ∈ own.map (·.2)) (hg : AllBlk X scope fun X => PG X tgx (gT tg)) (ht : AllBlk X scope fun X => PTs X ifs (tT C WF ft))
    (he : AllBlk X scope fun X => PE X elt (tX C WF fel)) (hit : tame iter = true) : PE X (.ListComp elt [⟨tgx, iter, ifs, 0⟩] scope pos) (tX C W (xLc fel tg fit ft)) :=
  (pe_lc hc hN hi ok hg ht he (tame_folded hit _)).imp (tLc_of hs)
theorem px_lc2 (hc : X.calm = true) (hN : X.N.Nodup) (hi : PI X tgx iter (tI C W fit)) (ok : BlkOk X.N X.env.scope scope own) (hs : ∀ i, i ∈ tgSlots tg ++ tgSlots tg1 ↔ i ∈ own.map (·.2)) (hg : AllBlk X scope fun X => PG X tgx (gT tg)) (ht : AllBlk X scope fun X => PTs X ifs (tT C WF ft))
    (hi1 : AllBlk X scope fun X => PI X tgx1 iter1 (tI C WF fit1)) (hg1 : AllBlk X scope fun X => PG X tgx1 (gT tg1)) (ht1 : AllBlk X scope fun X => PTs X ifs1 (tT C WF ft1))
    (he : AllBlk X scope fun X => PE X elt (tX C WF fel)) (hit : tame iter = true) (hit1 : tame iter1 = true) : PE X (.ListComp elt [⟨tgx, iter, ifs, 0⟩, ⟨tgx1, iter1, ifs1, 0⟩] scope pos) (tX C W (xLc2 fel tg fit ft tg1 fit1 ft1)) :=
  (pe_lc2 (vs1 := tgSlots tg1) hc hN hi ok (fun i h => (hs i).mp (List.mem_append_right _ h)) hg ht hi1 hg1 ht1 he (tame_folded hit _) (fun env => tame_folded hit1 env)).imp (tLc2_of hs rfl)
theorem px_dc (hc : X.calm = true) (hN : X.N.Nodup) (hi : PI X tgx iter (tI C W fit)) (ok : BlkOk X.N X.env.scope scope own) (hs : ∀ i, i ∈ tgSlots tg ↔ i ∈ own.map (·.2)) (hg : AllBlk X scope fun X => PG X tgx (gT tg)) (ht : AllBlk X scope fun X => PTs X ifs (tT C WF ft))
    (hk : AllBlk X scope fun X => PE X kx (tX C WF fk)) (he : AllBlk X scope fun X => PE X elt (tX C WF fel)) (hit : tame iter = true) : PE X (.DictComp kx elt [⟨tgx, iter, ifs, 0⟩] scope pos) (tX C W (xDc fk fel tg fit ft)) :=
  (pe_dc hc hN hi ok hg ht hk he (tame_folded hit _)).imp (tDc_of hs)
end
/-- tests of a comprehension -/
theorem pts_0 : PTs X [] (tT C W (xCon (.bl true))) := ⟨fun pins s σ H Q I h => pts_nil.run pins s σ H Q I (by
  obtain ⟨ρ, e, m, he, hm, b, hb, h⟩ := h
  cases hb
  exact h ρ H (Ext.refl _ _) hm)⟩
theorem pts_1 (h : PT X a (tT C W fa)) : PTs X [a] (tT C W fa) := pts_one h

/-! ### cells -/
theorem R.bind_assoc {α β γ : Type} (r : Mt.R α) (f : α → Mem → Mt.R β) (g : β → Mem → Mt.R γ) : (r.bind f).bind g = r.bind fun a m => (f a m).bind g := by cases r <;> rfl
def cellR (d : D) (m : Mem) : Mt.R D := match d with
  | .lst xs => .ok (.ref m.length) (m ++ [some (.lst xs)])
  | _ => .bad 62
theorem xCell_eq (f : Mt.X) : xCell f = fun e m => (f e m).bind cellR := rfl
theorem Post.newLC {ρ : Rho} {H : Hp} {m : Mem} {xs : List D} {vs : List V} {p : Addr} {Q : VK} {E : XK} (hm : HR ρ m H) (h : Post C ρ H (.ok (.ref m.length) (m ++ [some (.lst xs)])) Q E) (hp : H p = none) (r : Reps ρ H xs vs) : Q (.ref p) (upd H p (.lst vs)) :=
  Post.newCell hm h hp ⟨vs, upd_same, r.mono (Ext.cell hm hp)⟩
theorem px_cellL (h : PA X es (tXs C W fa)) : PE X (.List es pos) (tX C W (xCell (xLst fa))) := (pe_lst h).imp fun σ H Q h => by
  have h : tX C W (fun e m => (fa e m).bind fun x m => match x with
    | .tup xs => if Nat.ble xs.length lineN then .ok (.ref m.length) (m ++ [some (.lst xs)]) else .bad 61
    | _ => .bad 61) σ H Q := by
    have e : (xCell (xLst fa)) = fun e m => (fa e m).bind fun x m => match x with
      | .tup xs => if Nat.ble xs.length lineN then .ok (.ref m.length) (m ++ [some (.lst xs)]) else .bad 61
      | _ => .bad 61 := by
      rw [xCell_eq]
      funext e m
      unfold xLst
      rw [R.bind_assoc]
      congr
      funext x m
      cases x <;> try rfl
      rename_i xs
      dsimp only
      split <;> rfl
    rw [← e]
    exact h
  refine (tX.bindL (g := fun _ xs m => if Nat.ble xs.length lineN then .ok (.ref m.length) (m ++ [some (.lst xs)]) else .bad 61) h).mono fun vs H' ⟨ρ, e, ds, m, he, hm, r, q⟩ => ?_
  split at q
  · rename_i hl
    exact ⟨by rw [← r.length, sizeLine_eq]; simpa [lineN] using hl, fun p hp => q.newLC hm hp r⟩
  · exact q.elim
/-- a op b, lists, as a cell -/
def bCell (f : Mem → D → D → Mt.R D) (m : Mem) (x y : D) : Mt.R D := (f m x y).bind cellR
theorem xCell_x2 (f : Mem → D → D → Mt.R D) : xCell (x2 f fa fb) = x2 (bCell f) fa fb := by
  rw [xCell_eq]
  funext e m
  unfold x2 bCell
  rw [R.bind_assoc]
  congr
  funext x m
  rw [R.bind_assoc]
theorem px_frz (ha : PE X a (tX C W fa)) : PE X a (tX C W (x1 frzR fa)) := ha.imp fun σ H Q h => by
  refine (tX.bind (g := fun _ x m => frzR m x) h).mono fun v H' ⟨ρ, e, d, m, he, hm, r, q⟩ => ?_
  unfold frzR at q
  split at q
  · split at q
    · rename_i _ n _ xs e3
      obtain ⟨a', e4, e5, vs, h2, h3⟩ := cell_at hm r e3
      subst e4
      have nl : ¬ live (ρ.kill n) a' := fun l => by
        rcases l with ⟨j, hj⟩ | hb
        · by_cases hi : n = j
          · subst hi
            have hl := (List.getElem?_eq_some_iff.mp hj).1
            rw [List.getElem?_set_self (by simpa using hl)] at hj; cases hj
          · rw [List.getElem?_set_ne hi] at hj
            exact hi (hm.inj n j a' e5 hj)
        · exact hm.bn n a' e5 hb
      exact q _ _ _ Ext.kill hm.kill (.lst h2 nl (h3.mono Ext.kill))
    · exact q.elim
  · exact q.elim

theorem px_cellC {elt tgx iter tgx1 iter1 : Expr} {ifs ifs1 : List Expr} {scope : Scope} {own : List (Str × Nat)} {tg tg1 : A} {fit ft fel fit1 ft1 : Mt.X} (hc : X.calm = true) (hN : X.N.Nodup) (hi : PI X tgx iter (tI C W fit)) (ok : BlkOk X.N X.env.scope scope own) (hs : ∀ i, i ∈ tgSlots tg ++ tgSlots tg1 ↔ i ∈ own.map (·.2)) (hg : AllBlk X scope fun X => PG X tgx (gT tg)) (ht : AllBlk X scope fun X => PTs X ifs (tT C WF ft))
    (hi1 : AllBlk X scope fun X => PI X tgx1 iter1 (tI C WF fit1)) (hg1 : AllBlk X scope fun X => PG X tgx1 (gT tg1)) (ht1 : AllBlk X scope fun X => PTs X ifs1 (tT C WF ft1))
    (he : AllBlk X scope fun X => PE X elt (tX C WF fel)) (hit : tame iter = true) (hit1 : tame iter1 = true) : PE X (.ListComp elt [⟨tgx, iter, ifs, 0⟩, ⟨tgx1, iter1, ifs1, 0⟩] scope pos) (tX C W (xCell (xLc2 fel tg fit ft tg1 fit1 ft1))) :=
  (pe_lc2 (vs1 := tgSlots tg1) hc hN hi ok (fun i h => (hs i).mp (List.mem_append_right _ h)) hg ht hi1 hg1 ht1 he (tame_folded hit _) (fun env => tame_folded hit1 env)).imp fun σ H Q h => by
    refine tLc2_gen (fun ys m => .ok (.ref m.length) (m ++ [some (.lst ys)])) fin_cell hs rfl σ H Q ?_
    have e : xCell (xLc2 fel tg fit ft tg1 fit1 ft1) = fun e m => (fit e m).bind fun x m => match itOf m x with
      | some (xs, m) => (lcGo (turn tg ft (inner fel tg1 fit1 ft1) (wipeE e (tgSlots tg ++ tgSlots tg1))) xs [] m).bind fun ys m => .ok (.ref m.length) (m ++ [some (.lst ys)])
      | none => .bad 73 := by
      rw [xCell_eq]
      funext e m
      unfold xLc2
      rw [R.bind_assoc]
      congr
      funext x m
      cases itOf m x with
      | none => rfl
      | some q => exact R.bind_assoc _ _ _
    exact (congrArg (fun f => tX C W f σ H Q) e).mp h

/-! ### list(range(a, b)) -/
theorem rgV_rep {ρ : Rho} {H : Hp} : ∀ (n : Nat) (a : Int), Reps ρ H (rngL a n) ((List.range n).map fun i => V.int (a + (i : Nat)))
  | 0, _ => .nil
  | n + 1, a => by
    rw [List.range_succ_eq_map, List.map_cons, List.map_map]
    have e : (fun i : Nat => V.int (a + (i : Nat))) ∘ Nat.succ = fun i : Nat => V.int (a + 1 + (i : Nat)) := by
      funext i
      simp only [Function.comp]
      congr 1
      omega
    rw [e]
    have z : a + ((0 : Nat) : Int) = a := by omega
    rw [z]
    exact .cons (.int a) (rgV_rep n (a + 1))
theorem px_lrng {p2 pos2 : Pos} (hc : X.calm = true) (hg : Gl X "list") (hm : X.mg "list" = none) (hg2 : Gl X "range") (hm2 : X.mg "range" = none) (ha : PE X a (tX C W fa)) (hb : PE X b (tX C W fb)) (ht : tame a = true) (ht2 : tame b = true) :
    PE X (.Call (.Name "list" p) [.Call (.Name "range" p2) [a, b] [] pos2] [] pos) (tX C W (x2 lrngR fa fb)) :=
  (pe_listRg hc hg hm (prg_2 (p := p2) (pos := pos2) hg2 hm2 ha hb (tame_star ht _ _) (tame_star ht2 _ _) (tames_plain (es := [b]) (by simp [tames, ht2]))) (tame_star (e := .Call ..) rfl _ _)).imp fun σ H Q h => by
    refine (tX.bind (g := fun e x m => (fb e m).bind fun y m => lrngR m x y) h).mono fun v H' ⟨ρ, e, d, m, he, hm, r, q⟩ => ?_
    refine ⟨ρ, e, m, he, hm, q.bind.imp fun v2 H2 ⟨ρ2, d2, m2, a2, b2, c2, q2⟩ => ?_⟩
    unfold lrngR at q2
    split at q2
    · split at q2
      · rename_i hs
        simp only [Bool.and_eq_true, Nat.ble_eq, lineN] at hs
        cases r
        cases c2
        obtain ⟨h1, h2⟩ := hs
        have s1 := small_of h1.1
        have s2 := small_of h1.2
        exact ⟨_, _, rfl, rfl, ⟨s1.1, s1.2, s2.1, s2.2, by simpa using h2⟩, fun q hq => q2.newLst b2 (rgV_rep _ _) hq⟩
      · exact q2.elim
    · exact q2.elim

/-! ### isinstance -/
def tyN : Mt.Ty → String
  | .int => "int"
  | .bool => "bool"
  | .str => "str"
  | .tuple => "tuple"
  | .list => "list"
  | .dict => "dict"
theorem ty_one {ρ : Rho} {H : Hp} {m : Mem} {d : D} {v : V} {K : PySem.W.Frag} (hm : HR ρ m H) (rp : Rep ρ H d v) : (∃ t r, isTy m d t = some r) → ∃ u, TyX K H v u ∧ ∀ t r, isTy m d t = some r → PySem.W.kitOne K u (.type (tyN t)) = some r := by
  have kit : ∀ {n : String} {t : Mt.Ty} {r : Bool} {q : Bool}, kitB n (tyN t) = some q → q = r → PySem.W.kitOne K (.type n) (.type (tyN t)) = some r := fun h e => by subst e; exact kit_ty h
  rintro ⟨t0, r0, h0⟩
  cases rp with
  | non => exact ⟨_, .base .non, fun t r h => by cases t <;> (simp only [isTy, Option.some.injEq] at h; exact kit (by decide +kernel) h)⟩
  | bl b => exact ⟨_, .base (.bl _), fun t r h => by cases t <;> (simp only [isTy, Option.some.injEq] at h; exact kit (by decide +kernel) h)⟩
  | int b => exact ⟨_, .base (.int _), fun t r h => by cases t <;> (simp only [isTy, Option.some.injEq] at h; exact kit (by decide +kernel) h)⟩
  | str b => exact ⟨_, .base (.str _), fun t r h => by cases t <;> (simp only [isTy, Option.some.injEq] at h; exact kit (by decide +kernel) h)⟩
  | tup h1 _ _ => exact ⟨_, .base (.tup h1), fun t r h => by cases t <;> (simp only [isTy, Option.some.injEq] at h; exact kit (by decide +kernel) h)⟩
  | lst h1 _ _ => exact ⟨_, .base (.lst h1), fun t r h => by cases t <;> (simp only [isTy, Option.some.injEq] at h; exact kit (by decide +kernel) h)⟩
  | scr h1 _ _ =>
    rcases h1 with h1 | ⟨o1, h1⟩
    · exact ⟨_, .base (.lst h1), fun t r h => by cases t <;> (simp only [isTy, Option.some.injEq] at h; exact kit (by decide +kernel) h)⟩
    · exact ⟨_, .base (.frz h1), fun t r h => by cases t <;> (simp only [isTy, Option.some.injEq] at h; exact kit (by decide +kernel) h)⟩
  | ptp h1 _ _ _ => exact ⟨_, .fTuple h1, fun t r h => by cases t <;> (simp only [isTy, Option.some.injEq] at h; exact kit (by decide +kernel) h)⟩
  | @ref n a hn hq =>
    simp only [isTy] at h0
    split at h0
    · rename_i x e
      obtain ⟨a', e1, _, vs, h2, h3⟩ := cell_at hm (.ref hn hq) e
      cases e1
      exact ⟨_, .base (.lst h2), fun t r h => by
        simp only [isTy, e] at h
        cases t <;> (simp only [Option.some.injEq, reduceCtorEq, decide_true, decide_false] at h; exact kit (by decide +kernel) h)⟩
    · rename_i x e
      obtain ⟨a', e1, _, vs, h2, h3⟩ := cell_at hm (.ref hn hq) e
      cases e1
      exact ⟨_, .base (.dK h2), fun t r h => by
        simp only [isTy, e] at h
        cases t <;> (simp only [Option.some.injEq, reduceCtorEq, decide_true, decide_false] at h; exact kit (by decide +kernel) h)⟩
    · rename_i x e
      obtain ⟨a', e1, _, vs, h2, h3⟩ := cell_at hm (.ref hn hq) e
      cases e1
      exact ⟨_, .base (.dT h2), fun t r h => by
        simp only [isTy, e] at h
        cases t <;> (simp only [Option.some.injEq, reduceCtorEq, decide_true, decide_false] at h; exact kit (by decide +kernel) h)⟩
    · cases h0
theorem isTys_any {m : Mem} {d : D} {u : Value} {K : PySem.W.Frag} (k : ∀ t r, isTy m d t = some r → PySem.W.kitOne K u (.type (tyN t)) = some r) : ∀ {ts : List Mt.Ty} {r : Bool}, isTys m d ts = some r → PySem.W.kitAny K u (ts.map fun t => .type (tyN t)) = some r
  | [], r, h => by
    simp only [isTys, Option.some.injEq] at h
    subst h
    exact kitAny_nil
  | t :: ts, r, h => by
    simp only [isTys] at h
    rw [List.map_cons]
    split at h
    · rename_i e
      cases h
      exact kitAny_cons (k t _ e) (fun z => nomatch z) fun _ => rfl
    · rename_i e
      exact kitAny_cons (k t _ e) (fun _ => isTys_any k h) fun z => nomatch z
    · cases h
theorem px_isi {t : Mt.Ty} {p2 : Pos} (hg : Gl X "isinstance") (hm : X.mg "isinstance" = none) (hg2 : Gl X (Str.ofString (tyN t))) (hm2 : X.mg (Str.ofString (tyN t)) = none) (ha : PE X a (tX C W fa)) (ht : tame a = true) :
    PE X (.Call (.Name "isinstance" p) [a, .Name (Str.ofString (tyN t)) p2] [] pos) (tX C W (xIsi fa [t])) := by
  have pt : PE X (.Name (Str.ofString (tyN t)) p2) (tC (.ty (tyN t))) := by
    cases t <;> exact pe_bltn hg2 hm2 (by decide +kernel) rfl (by decide) (by decide)
  refine (pe_callB call_isi hg hm PyProof.Rows.boot_isinstance (pa_cons ha (pa_cons pt pa_nil (tame_star (e := .Name ..) rfl _ _)) (tame_star ht _ _)) (by decide) (by decide) (tame_star ht _ _) (tames_plain (es := [.Name (Str.ofString (tyN t)) p2]) rfl)).imp fun σ H Q h => ?_
  refine (tX.bind (g := fun e x m => match isTys m x [t] with
    | some b => .ok (.bl b) m
    | none => .bad 68) h).mono fun v H' ⟨ρ, e, d, m, he, hm, r, q⟩ => ?_
  split at q
  · rename_i b eb
    simp only [isTys] at eb
    have ex : ∃ r, isTy m d t = some r ∧ r = b := by
      split at eb
      · rename_i e1; cases eb; exact ⟨_, e1, rfl⟩
      · rename_i e1; cases eb; exact ⟨_, e1, rfl⟩
      · cases eb
    obtain ⟨_, e1, rfl⟩ := ex
    obtain ⟨u, h1, h2⟩ := ty_one (K := X.K) hm r ⟨t, _, e1⟩
    exact ⟨v, .ty (tyN t), u, _, _, rfl, .ty _, h1, h2 t _ e1, q.val hm (.bl _)⟩
  · exact q.elim
theorem px_isi2 {t t2 : Mt.Ty} {p2 p3 p4 : Pos} {k : Nat} (hg : Gl X "isinstance") (hm : X.mg "isinstance" = none) (hg2 : Gl X (Str.ofString (tyN t))) (hm2 : X.mg (Str.ofString (tyN t)) = none) (hg3 : Gl X (Str.ofString (tyN t2))) (hm3 : X.mg (Str.ofString (tyN t2)) = none) (ha : PE X a (tX C W fa)) (ht : tame a = true) :
    PE X (.Call (.Name "isinstance" p) [a, .Tuple [.Name (Str.ofString (tyN t)) p2, .Name (Str.ofString (tyN t2)) p4] k p3] [] pos) (tX C W (xIsi fa [t, t2])) := by
  have pt : PE X (.Name (Str.ofString (tyN t)) p2) (tC (.ty (tyN t))) := by
    cases t <;> exact pe_bltn hg2 hm2 (by decide +kernel) rfl (by decide) (by decide)
  have pt2 : PE X (.Name (Str.ofString (tyN t2)) p4) (tC (.ty (tyN t2))) := by
    cases t2 <;> exact pe_bltn hg3 hm3 (by decide +kernel) rfl (by decide) (by decide)
  have pT : PE X (.Tuple [.Name (Str.ofString (tyN t)) p2, .Name (Str.ofString (tyN t2)) p4] k p3) _ := pe_tup (pa_cons pt (pa_cons pt2 pa_nil (tame_star (e := .Name ..) rfl _ _)) (tame_star (e := .Name ..) rfl _ _))
  refine (pe_callB call_isiT hg hm PyProof.Rows.boot_isinstance (pa_cons ha (pa_cons pT pa_nil (tame_star (e := .Tuple ..) rfl _ _)) (tame_star ht _ _)) (by decide) (by decide) (tame_star ht _ _) (tames_plain (es := [.Tuple [.Name (Str.ofString (tyN t)) p2, .Name (Str.ofString (tyN t2)) p4] k p3]) rfl)).imp fun σ H Q h => ?_
  refine (tX.bind (g := fun e x m => match isTys m x [t, t2] with
    | some b => .ok (.bl b) m
    | none => .bad 68) h).mono fun v H' ⟨ρ, e, d, m, he, hm, r, q⟩ => ?_
  split at q
  · rename_i b eb
    have ex : ∃ r, isTy m d t = some r := by
      simp only [isTys] at eb
      split at eb
      · rename_i e1; exact ⟨_, e1⟩
      · rename_i e1; exact ⟨_, e1⟩
      · cases eb
    obtain ⟨r1, e1⟩ := ex
    refine ⟨by show 2 ≤ sizeLine; decide, fun tp htp => ?_⟩
    have x1 := Ext.new (o := .tup [.ty (tyN t), .ty (tyN t2)]) hm htp
    have hm1 := hm.new (o := .tup [.ty (tyN t), .ty (tyN t2)]) htp
    obtain ⟨u, h1, h2⟩ := ty_one (K := X.K) hm1 (r.mono x1) ⟨t, _, e1⟩
    exact ⟨v, tp, [.ty (tyN t), .ty (tyN t2)], u, _, b, rfl, upd_same, .cons (.ty _) (.cons (.ty _) .nil), h1, isTys_any h2 eb, (q.up x1).val hm1 (.bl _)⟩
  · exact q.elim
end
end Mt
end
section
set_option linter.all false
set_option autoImplicit false
set_option maxRecDepth 100000
set_option maxHeartbeats 2000000
/-! MtY1: statements. -/
namespace L2
open PySem PySem.Spec PyProof.Rows
theorem PS.imp {X : Cx} {s : Stmt} {t t' : TS} (h : PS X s t) (k : ∀ D σ H, t' D σ H → t D σ H) : PS X s t' := ⟨fun pins sh σ H D I q => h.run pins sh σ H D I (k _ _ _ q)⟩
theorem PSs.imp {X : Cx} {s : List Stmt} {t t' : TS} (h : PSs X s t) (k : ∀ D σ H, t' D σ H → t D σ H) : PSs X s t' := ⟨fun pins sh σ H D I q => h.run pins sh σ H D I (k _ _ _ q)⟩
end L2
namespace Mt
open PySem PySem.Spec PyProof.Rows L2
def PostY (C : Cls) (W : WX) (ρ : Rho) (H : Hp) (r : F) (De : Ends) : Prop :=
  match r with
  | .nx e m => ∀ ρ' H' σ', Ext ρ H ρ' H' → HR ρ' m H' → EnvR ρ' H' e σ' → De.nx σ' H'
  | .rt d m => ∀ ρ' H' v, Ext ρ H ρ' H' → HR ρ' m H' → Rep ρ' H' d v → De.rt v H'
  | .bk e m => ∀ ρ' H' σ', Ext ρ H ρ' H' → HR ρ' m H' → EnvR ρ' H' e σ' → De.bk σ' H'
  | .ct e m => ∀ ρ' H' σ', Ext ρ H ρ' H' → HR ρ' m H' → EnvR ρ' H' e σ' → De.ct σ' H'
  | .exc c fs e m => ∀ ρ' H' σ' cv d, Ext ρ H ρ' H' → HR ρ' m H' → EnvR ρ' H' e σ' → ExcR C.cls C.fns ρ' H' c fs cv d → W cv d σ' H'
  | .bad _ => False
def tY (C : Cls) (W : WX) (f : Mt.Y) : TS := fun De σ H => ∃ ρ e m, EnvR ρ H e σ ∧ HR ρ m H ∧ PostY C W ρ H (f e m) De
theorem PostY.up {C : Cls} {W : WX} {ρ ρ' : Rho} {H H' : Hp} {r : F} {De : Ends} (x : Ext ρ H ρ' H') (h : PostY C W ρ H r De) : PostY C W ρ' H' r De := by
  cases r with
  | nx e m => exact fun ρ2 H2 σ2 a => h ρ2 H2 σ2 (x.trans a)
  | rt e m => exact fun ρ2 H2 σ2 a => h ρ2 H2 σ2 (x.trans a)
  | bk e m => exact fun ρ2 H2 σ2 a => h ρ2 H2 σ2 (x.trans a)
  | ct e m => exact fun ρ2 H2 σ2 a => h ρ2 H2 σ2 (x.trans a)
  | exc c fs e m => exact fun ρ2 H2 σ2 cv d a => h ρ2 H2 σ2 cv d (x.trans a)
  | bad w => exact h
section
variable {X : Cx} {C : Cls} {W : WX} {a b c : Expr} {es : List Expr} {fa fb fc : Mt.X} {ya yb : Mt.Y} {pos p : Pos} {sa sb : List Stmt} {st : Stmt}
/-- an expression, then what hangs on it -/
theorem tY.exp {g : Env → D → Mem → F} {De : Ends} {σ : L2.St} {H : Hp} (h : tY C W (fun e m => (fa e m).toF e fun x m => g e x m) De σ H) :
    tX C W fa σ H fun v H' => ∃ ρ e d m, EnvR ρ H' e σ ∧ HR ρ m H' ∧ Rep ρ H' d v ∧ PostY C W ρ H' (g e d m) De := by
  obtain ⟨ρ, e, m, he, hm, h⟩ := h
  refine ⟨ρ, e, m, he, hm, ?_⟩
  dsimp only at h
  cases e1 : fa e m with
  | bad w => rw [e1] at h; exact h
  | exc k fs m' => rw [e1] at h; exact fun ρ' H' cv d x y z => h ρ' H' σ cv d x y (he.mono x) z
  | ok d m' =>
    rw [e1] at h
    have h : PostY C W ρ H (g e d m') De := h
    exact fun ρ' H' v x y z => ⟨ρ', e, d, m', he.mono x, y, z, h.up x⟩
theorem tX.go {f : D → Mem → F} {g : Env → Mem → Mt.R D} {ρ : Rho} {e : Env} {m : Mem} {De : Ends} {σ : L2.St} {H : Hp} (he : EnvR ρ H e σ) (hm : HR ρ m H) (h : PostY C W ρ H ((g e m).toF e f) De) :
    tX C W g σ H fun v H' => ∃ ρ' d m', Ext ρ H ρ' H' ∧ HR ρ' m' H' ∧ Rep ρ' H' d v ∧ PostY C W ρ' H' (f d m') De := by
  refine ⟨ρ, e, m, he, hm, ?_⟩
  cases e1 : g e m with
  | bad w => rw [e1] at h; exact h
  | exc k fs m' => rw [e1] at h; exact fun ρ' H' cv d x y z => h ρ' H' σ cv d x y (he.mono x) z
  | ok d m' =>
    rw [e1] at h
    have h : PostY C W ρ H (f d m') De := h
    exact fun ρ' H' v x y z => ⟨ρ', d, m', x, y, z, h.up x⟩
theorem PostY.nx {ρ : Rho} {H : Hp} {e : Env} {m : Mem} {De : Ends} {σ : L2.St} (hm : HR ρ m H) (he : EnvR ρ H e σ) (h : PostY C W ρ H (.nx e m) De) : De.nx σ H := h ρ H σ (Ext.refl _ _) hm he

/-! ### the small ones -/
theorem ys_nil : PSs X [] (tY C W ySkip) := pss_nil.imp fun De σ H ⟨ρ, e, m, he, hm, h⟩ => h.nx hm he
theorem ys_pass : PS X (.Pass pos) (tY C W ySkip) := ps_pass.imp fun De σ H ⟨ρ, e, m, he, hm, h⟩ => h.nx hm he
theorem ys_brk : PS X (.Break pos) (tY C W yBrk) := ps_break.imp fun De σ H ⟨ρ, e, m, he, hm, h⟩ => h ρ H σ (Ext.refl _ _) hm he
theorem ys_cnt : PS X (.Continue pos) (tY C W yCnt) := ps_continue.imp fun De σ H ⟨ρ, e, m, he, hm, h⟩ => h ρ H σ (Ext.refl _ _) hm he
theorem ys_dead : PS X st (tY C W yDead) := ps_never.imp fun De σ H ⟨ρ, e, m, he, hm, h⟩ => h
theorem ys_one (h : PS X st (tY C W ya)) : PSs X [st] (tY C W ya) := pss_one h
theorem ys_seq (h1 : PS X st (tY C W ya)) (h2 : PSs X sb (tY C W yb)) : PSs X (st :: sb) (tY C W (ySeq ya yb)) := (pss_cons h1 h2).imp fun De σ H ⟨ρ, e, m, he, hm, h⟩ => by
  refine ⟨ρ, e, m, he, hm, ?_⟩
  unfold ySeq at h
  cases e1 : ya e m with
  | nx e' m' =>
    rw [e1] at h
    have h : PostY C W ρ H (yb e' m') De := h
    exact fun ρ' H' σ' x y z => ⟨ρ', e', m', z, y, h.up x⟩
  | rt d m' => rw [e1] at h; exact h
  | bk d m' => rw [e1] at h; exact h
  | ct d m' => rw [e1] at h; exact h
  | exc c fs e' m' => rw [e1] at h; exact h
  | bad w => rw [e1] at h; exact h
theorem ys_expr (ha : PE X a (tX C W fa)) (hs : swapsWith a none pos.line X.env = pure false) : PS X (.Expr a pos) (tY C W (yExpr fa)) := (ps_expr ha hs).imp fun De σ H h =>
  (tY.exp (g := fun e _ m => .nx e m) h).mono fun v H' ⟨ρ, e, d, m, he, hm, r, q⟩ => q.nx hm he
theorem ys_ret (ha : PE X a (tX C W fa)) : PS X (.Return (some a) pos) (tY C W (yRet fa)) := (ps_ret ha).imp fun De σ H h =>
  (tY.exp (g := fun _ x m => .rt x m) h).mono fun v H' ⟨ρ, e, d, m, he, hm, r, q⟩ => q ρ H' v (Ext.refl _ _) hm r
theorem ys_retN : PS X (.Return none pos) (tY C W (yRet (xCon .non))) := ps_retN.imp fun De σ H ⟨ρ, e, m, he, hm, h⟩ => h ρ H .non (Ext.refl _ _) hm .non
/-- a target is told -/
theorem asg_of {tg : A} : ∀ De σ H, tY C W (yAsg tg fa) De σ H → tAsg (tX C W fa) (gT tg) De σ H := fun De σ H h => by
  refine (tY.exp (g := fun e x m => match assign tg x e with
    | some e' => .nx e' m
    | none => .bad 83) h).mono fun v H' ⟨ρ, e, d, m, he, hm, r, q⟩ => ?_
  split at q
  · rename_i e' ea
    exact ⟨ρ, e, m, d, e', he, hm, r, ea, fun σ' h1 h2 => q ρ H' σ' (Ext.refl _ _) hm h1⟩
  · exact q.elim
theorem ys_asg {tgx : Expr} {tg : A} (ha : PE X a (tX C W fa)) (hg : PG X tgx (gT tg)) (hs : swapsWithSole [tgx] a pos.line X.env = pure false) (hw : swappedStores [tgx] a X.env = pure none) (ht : tgTame tgx = true) : PS X (.Assign [tgx] a pos) (tY C W (yAsg tg fa)) :=
  (ps_asg ha hg hs hw (by rw [tg_each ht]; rfl)).imp asg_of
theorem asgN_of {i : Nat} : ∀ De σ H, tY C W (yAsg (.tgN i) fa) De σ H → tAsg (tX C W fa) (gName i) De σ H := fun De σ H h => by
  refine (asg_of De σ H h).mono fun v H' ⟨ρ, e, m, d, e', he, hm, r, ea, k⟩ => ?_
  unfold assign at ea
  split at ea
  · cases ea
    refine k _ (he.set r) ⟨by simp, fun j hj => ?_⟩
    rw [List.getElem?_set_ne]
    rintro rfl
    exact hj (by simp [tgSlots])
  · cases ea
theorem ys_set {i : Nat} {x : Str} {pos' : Pos} (hN : X.N.Nodup) (hi : X.N[i]? = some x) (hx : Loc X.env.scope x) (ha : PE X a (tX C W fa)) (hs : swapsWith a (some (.Name x pos')) pos.line X.env = pure false) (hf : X.fn x = true ∨ X.env.scope.names.lookup x = some .local) :
    PS X (.Assign [.Name x pos'] a pos) (tY C W (yAsg (.tgN i) fa)) := (ps_set hN hi hx ha hs hf).imp asgN_of
/-! ### if -/
theorem ys_if (hc : PT X c (tT C W fc)) (ha : PSs X sa (tY C W ya)) (hb : PSs X sb (tY C W yb)) : PS X (.If c sa sb pos) (tY C W (yIte fc ya yb)) := (ps_if hc ha hb).imp fun De σ H ⟨ρ, e, m, he, hm, h⟩ => by
  refine ⟨ρ, e, m, he, hm, ?_⟩
  unfold yIte at h
  cases e1 : fc e m with
  | bad w => rw [e1] at h; exact h
  | exc k fs m' => rw [e1] at h; exact fun ρ' H' cv d x y z => h ρ' H' σ cv d x y (he.mono x) z
  | ok d m1 =>
    rw [e1] at h
    have h : PostY C W ρ H (match (generalizing := false) truth m1 d with
      | some true => ya e m1
      | some false => yb e m1
      | none => .bad 87) De := h
    clear e1
    split at h
    · rename_i et
      exact ⟨true, et, fun ρ' H' x y => by dsimp only; rw [if_pos rfl]; exact ⟨ρ', e, m1, he.mono x, y, h.up x⟩⟩
    · rename_i et
      exact ⟨false, et, fun ρ' H' x y => by dsimp only; rw [if_neg Bool.false_ne_true]; exact ⟨ρ', e, m1, he.mono x, y, h.up x⟩⟩
    · exact h.elim
/-! ### while -/
theorem ys_while (hp : PassesOwn (model X.prog X.w) X.A X.env X.xe) (hc : PT X c (tT C W fc)) (ha : PSs X sa (tY C W ya)) : PS X (.While c sa [] pos) (tY C W (yWhl fc ya)) := (ps_while hp hc ha).imp fun De σ H ⟨ρ, e, m, he, hm, h⟩ => by
  unfold yWhl at h
  refine ⟨fun n σ H => ∃ ρ e m, EnvR ρ H e σ ∧ HR ρ m H ∧ PostY C W ρ H (whlGo fc ya n e m) De, ⟨100000, ρ, e, m, he, hm, h⟩, ?_⟩
  rintro n σ H ⟨ρ, e, m, he, hm, h⟩
  refine ⟨ρ, e, m, he, hm, ?_⟩
  cases n with
  | zero => exact h.elim
  | succ n =>
    unfold whlGo at h
    cases e1 : fc e m with
    | bad w => rw [e1] at h; exact h
    | exc k fs m' => rw [e1] at h; exact fun ρ' H' cv d x y z => h ρ' H' σ cv d x y (he.mono x) z
    | ok d m1 =>
      rw [e1] at h
      have h : PostY C W ρ H (match (generalizing := false) truth m1 d with
        | some false => .nx e m1
        | some true => match ya e m1 with
          | .nx e2 m2 => whlGo fc ya n e2 m2
          | .ct e2 m2 => whlGo fc ya n e2 m2
          | .bk e2 m2 => .nx e2 m2
          | .rt d2 m2 => .rt d2 m2
          | .exc c fs e2 m2 => .exc c fs e2 m2
          | .bad w => .bad w
        | none => .bad 82) De := h
      clear e1
      split at h
      · rename_i et
        exact ⟨false, et, fun ρ' H' x y => by dsimp only; rw [if_neg Bool.false_ne_true]; exact h ρ' H' σ x y (he.mono x)⟩
      · rename_i et
        refine ⟨true, et, fun ρ' H' x y => ?_⟩
        dsimp only
        rw [if_pos rfl]
        refine ⟨fun σ H => ∃ ρ e m, EnvR ρ H e σ ∧ HR ρ m H ∧ PostY C W ρ H (whlGo fc ya n e m) De, fun σ' H' hh => ⟨n, Nat.lt_succ_self _, hh⟩, ρ', e, m1, he.mono x, y, ?_⟩
        cases e2 : ya e m1 with
        | nx e' m' => rw [e2] at h; exact fun ρ2 H2 σ2 x2 y2 z2 => ⟨ρ2, e', m', z2, y2, h.up (x.trans x2)⟩
        | ct e' m' => rw [e2] at h; exact fun ρ2 H2 σ2 x2 y2 z2 => ⟨ρ2, e', m', z2, y2, h.up (x.trans x2)⟩
        | bk e' m' => rw [e2] at h; exact fun ρ2 H2 σ2 x2 y2 z2 => h ρ2 H2 σ2 (x.trans x2) y2 z2
        | rt d' m' => rw [e2] at h; exact fun ρ2 H2 σ2 x2 y2 z2 => h ρ2 H2 σ2 (x.trans x2) y2 z2
        | exc c fs e' m' => rw [e2] at h; exact fun ρ2 H2 σ2 cv d x2 y2 z2 => h ρ2 H2 σ2 cv d (x.trans x2) y2 z2
        | bad w => rw [e2] at h; exact h
      · exact h.elim
/-! ### for -/
theorem ys_for {iter tgx : Expr} {tg : A} {fit : Mt.X} (hp : PassesOwn (model X.prog X.w) X.A X.env X.xe) (hc : X.calm = true) (hi : PI X tgx iter (tI C W fit)) (hg : PG X tgx (gT tg)) (ha : PSs X sa (tY C W ya)) (hit : tame iter = true) : PS X (.For tgx iter sa [] pos) (tY C W (yLoop tg fit ya)) :=
  (ps_for hp hc hi hg ha (tame_folded hit _)).imp fun De σ H ⟨ρ, e, m, he, hm, h⟩ => by
    unfold yLoop at h
    refine ⟨ρ, e, m, he, hm, ?_⟩
    cases e1 : fit e m with
    | bad w => rw [e1] at h; exact h
    | exc k fs m' => rw [e1] at h; exact fun ρ' H' cv d x y z => h ρ' H' σ cv d x y (he.mono x) z
    | ok d m1 =>
      rw [e1] at h
      have h : PostY C W ρ H (match (generalizing := false) itOf m1 d with
        | some (xs, m) => forGo tg ya xs e m
        | none => .bad 88) De := h
      clear e1
      split at h
      case h_2 => exact h.elim
      rename_i xs m2 e2
      refine ⟨xs, m2, e2, fun ρ0 H0 J x0 hm0 w => ?_⟩
      refine ⟨fun i n σ H => n = xs.length - i ∧ i ≤ xs.length ∧ ∃ ρ e m, EnvR ρ H e σ ∧ HR ρ m H ∧ Sub ρ0 H0 ρ H ∧ PostY C W ρ H (forGo tg ya (xs.drop i) e m) De, ⟨xs.length, by simp, Nat.zero_le _, ρ0, e, m2, he.mono x0, hm0, Sub.refl _ _, by simpa using h.up x0⟩, ?_⟩
      rintro i n σ H ⟨rfl, hi, ρ, e, m, he, hm, s, h⟩
      by_cases hlt : i < xs.length
      · right
        have hd : xs[i]? = some xs[i] := by simp [hlt]
        rw [List.drop_eq_getElem_cons hlt] at h
        refine ⟨w.go i ρ H hlt s, fun σ H => i + 1 ≤ xs.length ∧ ∃ ρ e m, EnvR ρ H e σ ∧ HR ρ m H ∧ Sub ρ0 H0 ρ H ∧ PostY C W ρ H (forGo tg ya (xs.drop (i + 1)) e m) De, fun σ' H' hh => ⟨xs.length - (i + 1), by omega, rfl, hh⟩, fun x H' y => ?_⟩
        obtain ⟨x1, hm1, r1⟩ := w.yld i _ ρ H m x H' hd s hm y
        unfold forGo at h
        split at h
        · exact h.elim
        · rename_i e' ea
          refine ⟨ρ, e, m, _, e', he.mono x1, hm1, r1, ea, fun σ' he' _ => ⟨ρ, e', m, he', hm1, ?_⟩⟩
          cases e3 : ya e' m with
          | nx e4 m4 => rw [e3] at h; exact fun ρ2 H2 σ2 x2 y2 z2 => ⟨hlt, ρ2, e4, m4, z2, y2, s.trans (x1.trans x2).toSub, h.up (x1.trans x2)⟩
          | ct e4 m4 => rw [e3] at h; exact fun ρ2 H2 σ2 x2 y2 z2 => ⟨hlt, ρ2, e4, m4, z2, y2, s.trans (x1.trans x2).toSub, h.up (x1.trans x2)⟩
          | bk e4 m4 => rw [e3] at h; exact fun ρ2 H2 σ2 x2 y2 z2 => h ρ2 H2 σ2 (x1.trans x2) y2 z2
          | rt e4 m4 => rw [e3] at h; exact fun ρ2 H2 σ2 x2 y2 z2 => h ρ2 H2 σ2 (x1.trans x2) y2 z2
          | exc c fs e4 m4 => rw [e3] at h; exact fun ρ2 H2 σ2 cv d x2 y2 z2 => h ρ2 H2 σ2 cv d (x1.trans x2) y2 z2
          | bad w => rw [e3] at h; exact h
      · have e : i = xs.length := by omega
        subst e
        left
        rw [List.drop_length] at h
        exact ⟨w.stop ρ H s, h ρ H σ (Ext.refl _ _) hm he⟩
end
end Mt
end
section
set_option linter.all false
set_option autoImplicit false
set_option maxRecDepth 100000
set_option maxHeartbeats 2000000
/-! MtY2: stores into lists and dicts, op=, several names at once. -/
namespace Mt
open PySem PySem.Spec PyProof.Rows L2
theorem any_T {ρ : Rho} {H : Hp} (k : List Ky) : ∀ {kvs : List (List Ky × D)} {ws : List (List Key × V)}, TvR ρ H kvs ws → hasT k kvs = ws.any fun kv => decide (kv.1 = k.map kyTo)
  | _, _, .nil => rfl
  | _, _, .cons (a := p) (b := q) h t => by
    have ih := any_T k t
    simp only [hasT, List.any_cons]
    rw [kysEq_iff, h.1, ih]
    cases decide (q.1 = k.map kyTo) <;> rfl
theorem set_T {ρ : Rho} {H : Hp} {d : D} {v : V} (r : Rep ρ H d v) (k : List Ky) : ∀ {kvs : List (List Ky × D)} {ws : List (List Key × V)}, TvR ρ H kvs ws → TvR ρ H (setT k d kvs) (ws.map fun kv => if kv.1 = k.map kyTo then (kv.1, v) else kv)
  | _, _, .nil => .nil
  | _, _, .cons (a := p) (b := q) h t => by
    have ih := set_T r k t
    simp only [setT, List.map_cons]
    rw [kysEq_iff, h.1]
    by_cases e : q.1 = k.map kyTo
    · rw [if_pos e, decide_eq_true e]
      exact .cons ⟨h.1, r⟩ ih
    · rw [if_neg e, decide_eq_false e]
      exact .cons h ih
theorem put_T {ρ : Rho} {H : Hp} {d : D} {v : V} (r : Rep ρ H d v) (k : List Ky) {kvs : List (List Ky × D)} {ws : List (List Key × V)} (h : TvR ρ H kvs ws) : TvR ρ H (putT k d kvs) (L2.putK ws (k.map kyTo) v) := by
  unfold putT L2.putK
  rw [← any_T k h]
  cases hasT k kvs with
  | true =>
    rw [if_pos rfl]
    exact set_T r k h
  | false =>
    rw [if_neg Bool.false_ne_true]
    exact Paired.snoc h ⟨rfl, r⟩
theorem tame_sub {i : Expr} (h : tame i = true) {o : Expr} {pos : Pos} {env : PySem.Env} (v : Value) : PySem.assign (.Subscript o i pos) env v = (do
      let ov ← holding [v] (eval o env)
      let iv ← holding [v, ov] (eval i env)
      standAt pos
      holding [v, ov, iv] (setItem ov iv v)
      release [v, ov, iv] []) := by
  cases i <;> first | rfl | (simp [tame] at h)
theorem tame_aug {i : Expr} (h : tame i = true) (ov iv new : Value) : augStore i ov iv new = (do holding [new, ov, iv] (setItem ov iv new); release [new, ov, iv] []; pure .next) := by
  cases i <;> first | rfl | (simp [tame] at h)
section
variable {X : Cx} {C : Cls} {W : WX} {a b o i : Expr} {fa fb fo fi : Mt.X} {pos p : Pos}
/-- three parts, then a store -/
theorem put_of {f : Mem → D → D → D → Option Mem} {tset : TSet} (hs : ∀ (ρ : Rho) (H : Hp) (m m' : Mem) (dv dn dx : D) (ov iv xv : V) (Q : Hp → Prop), HR ρ m H → Rep ρ H dv ov → Rep ρ H dn iv → Rep ρ H dx xv → f m dv dn dx = some m' → (∀ ρ' H', Ext ρ H ρ' H' → HR ρ' m' H' → Q H') → tset ov iv xv H Q) :
    ∀ De σ H, tY C W (yPut f fo fi fa) De σ H → tAsg (tX C W fa) (gSub (tX C W fo) (tX C W fi) tset) De σ H := fun De σ H h => by
  refine (tY.exp (g := fun e x m => (fo e m).toF e fun y m => (fi e m).toF e fun z m => match f m y z x with
    | some m' => .nx e m'
    | none => .bad 84) h).mono fun v H' ⟨ρ, e, d, m, he, hm, r, q⟩ => ?_
  refine (tX.go (g := fo) (f := fun y m => (fi e m).toF e fun z m => match f m y z d with
    | some m' => .nx e m'
    | none => .bad 84) he hm q).mono fun v2 H2 ⟨ρ2, d2, m2, x2, hm2, r2, q2⟩ => ?_
  refine (tX.go (g := fi) (f := fun z m => match f m d2 z d with
    | some m' => .nx e m'
    | none => .bad 84) (he.mono x2) hm2 q2).mono fun v3 H3 ⟨ρ3, d3, m3, x3, hm3, r3, q3⟩ => ?_
  split at q3
  · rename_i m' em
    exact hs ρ3 H3 m3 m' d2 d3 d v2 v3 v _ hm3 (r2.mono x3) r3 ((r.mono x2).mono x3) em fun ρ4 H4 x4 hm4 => q3 ρ4 H4 σ x4 hm4 (((he.mono x2).mono x3).mono x4)
  · exact q3.elim
theorem set_of (ρ : Rho) (H : Hp) (m m' : Mem) (dv dn dx : D) (ov iv xv : V) (Q : Hp → Prop) (hm : HR ρ m H) (ro : Rep ρ H dv ov) (ri : Rep ρ H dn iv) (rx : Rep ρ H dx xv) (h : setL m dv dn dx = some m') (q : ∀ ρ' H', Ext ρ H ρ' H' → HR ρ' m' H' → Q H') : rSetL ov iv xv H Q := by
  unfold setL at h
  split at h
  · split at h
    · rename_i n xs e
      split at h
      · split at h
        · rename_i j k ek
          cases h
          obtain ⟨a, e1, e2, vs, h1, h2⟩ := cell_at hm ro e
          subst e1
          cases ri
          rw [ix_eq, h2.length] at ek
          exact ⟨a, vs, _, k, rfl, rfl, h1, ek, q ρ _ (Ext.write hm e2) (hm.write e2 ⟨_, upd_same, (h2.set rx k).mono (Ext.write hm e2)⟩)⟩
        · cases h
      · cases h
    · cases h
  · cases h
theorem setD_of (ρ : Rho) (H : Hp) (m m' : Mem) (dv dn dx : D) (ov iv xv : V) (Q : Hp → Prop) (hm : HR ρ m H) (ro : Rep ρ H dv ov) (ri : Rep ρ H dn iv) (rx : Rep ρ H dx xv) (h : setD m dv dn dx = some m') (q : ∀ ρ' H', Ext ρ H ρ' H' → HR ρ' m' H' → Q H') : rSetD ov iv xv H Q := by
  unfold setD at h
  split at h
  · split at h
    · rename_i n kvs e
      split at h
      · rename_i k ek
        split at h
        · rename_i hl
          cases h
          obtain ⟨a, e1, e2, ws, h1, h2⟩ := cell_at hm ro e
          subst e1
          have hl' : ws.length < sizeLine := by
            rw [sizeLine_eq, ← Paired.length h2]
            simpa [lineN] using hl
          rw [kv_of ri ek]
          have w := Ext.write (o := .dK (L2.putK ws (kyTo k) xv)) hm e2
          exact ⟨a, _, rfl, .k h1 hl', q ρ _ w (hm.write e2 ⟨_, upd_same, put_K (rx.mono w) k (Paired.imp (fun _ _ q => ⟨q.1, q.2.mono w⟩) h2)⟩)⟩
        · cases h
      · cases h
    · rename_i n kvs e
      split at h
      · split at h
        · rename_i ks k ek
          split at h
          · rename_i hl
            cases h
            obtain ⟨a, e1, e2, ws, h1, h2⟩ := cell_at hm ro e
            subst e1
            have hl' : ws.length < sizeLine := by
              rw [sizeLine_eq, ← Paired.length h2]
              simpa [lineN] using hl
            cases ri with
            | tup h3 n3 r3 =>
              rw [kvs_of r3 ek] at h3
              have w := Ext.write (o := .dT (L2.putK ws (k.map kyTo) xv)) hm e2
              exact ⟨a, _, rfl, .t h1 h3 hl', q ρ _ w (hm.write e2 ⟨_, upd_same, put_T (rx.mono w) k (Paired.imp (fun _ _ q => ⟨q.1, q.2.mono w⟩) h2)⟩)⟩
          · cases h
        · cases h
      · cases h
    · cases h
  · cases h
theorem ys_put {pos' : Pos} (ho : PE X o (tX C W fo)) (hi : PE X i (tX C W fi)) (ha : PE X a (tX C W fa)) (hs : swapsWithSole [.Subscript o i pos'] a pos.line X.env = pure false) (ht : tame i = true) : PS X (.Assign [.Subscript o i pos'] a pos) (tY C W (yPut setL fo fi fa)) :=
  (ps_asg ha (pg_sub ho hi set_list (tame_sub ht)) hs rfl rfl).imp (put_of set_of)
theorem ys_putD {pos' : Pos} (hu : X.A.units + 1 < cLine) (ho : PE X o (tX C W fo)) (hi : PE X i (tX C W fi)) (ha : PE X a (tX C W fa)) (hs : swapsWithSole [.Subscript o i pos'] a pos.line X.env = pure false) (ht : tame i = true) : PS X (.Assign [.Subscript o i pos'] a pos) (tY C W (yPut setD fo fi fa)) :=
  (ps_asg ha (pg_sub ho hi (set_dict hu) (tame_sub ht)) hs rfl rfl).imp (put_of setD_of)

/-! ### op= of ints -/
def rIpE (C : Cls) (f : Mem → D → D → Mt.R D) : TIp := fun x y H Q => ∃ (E : XK) (ρ : Rho) (m : Mem) (i j : Int), x = .int i ∧ y = .int j ∧ HR ρ m H ∧ Post C ρ H (f m (.int i) (.int j)) Q E
theorem ipE_add : PIp X .Add (rIpE C bAdd) := by
  intro pins s σ H x y v u Q I r1 r2 h
  obtain ⟨E, ρ, m, i, j, rfl, rfl, hm, h⟩ := h
  exact ip_add pins s σ H _ _ v u Q I r1 r2 ⟨i, j, rfl, rfl, h.val hm (.int _)⟩
theorem ipE_sub : PIp X .Sub (rIpE C bSub) := by
  intro pins s σ H x y v u Q I r1 r2 h
  obtain ⟨E, ρ, m, i, j, rfl, rfl, hm, h⟩ := h
  exact ip_sub pins s σ H _ _ v u Q I r1 r2 ⟨i, j, rfl, rfl, h.val hm (.int _)⟩
theorem ipE_mul : PIp X .Mult (rIpE C bMul) := by
  intro pins s σ H x y v u Q I r1 r2 h
  obtain ⟨E, ρ, m, i, j, rfl, rfl, hm, h⟩ := h
  obtain ⟨t, rfl⟩ := r1
  obtain ⟨t', rfl⟩ := r2
  have h : Post C ρ H (if bit64 i || bit64 j || (bit4000 i && bit4000 j) then .ok (.int (i * j)) m else .bad 4) Q E := h
  split at h
  · rename_i hl
    have fin := h.val hm (.int _)
    have ok : IntMulOk i j := by
      by_cases h1 : bit64 i = true
      · exact (show CMul i j from .inl (bit64_of h1)).ok
      · by_cases h2 : bit64 j = true
        · exact (show CMul i j from .inr (bit64_of h2)).ok
        · have h3 : bit4000 i = true ∧ bit4000 j = true := by
            simpa [h1, h2] using hl
          simp only [bit4000, decide_eq_true_eq] at h3
          exact (wide_mul h3.1 h3.2 (by decide) (by decide) (by decide)).ok
    exact AutoIntOps.imul_0 ⟨.int _, H, I.tok _, ⟨_, rfl⟩, fin⟩ ok
  · exact h.elim
theorem int_of {ρ : Rho} {H : Hp} {d : D} {v : V} (r : Rep ρ H d v) (h : isInt d = true) : ∃ i, d = .int i ∧ v = .int i := by
  cases r <;> first | (simp [isInt] at h; done) | exact ⟨_, rfl, rfl⟩
theorem ys_aug {op : Operator} {f : Mem → D → D → Mt.R D} {i : Nat} {x : Str} {pos' : Pos} (ho : PIp X op (rIpE C f)) (hN : X.N.Nodup) (hi : X.N[i]? = some x) (hx : Loc X.env.scope x) (ha : PE X a (tX C W fa)) (hf : X.fn x = true ∨ X.env.scope.names.lookup x = some .local) :
    PS X (.AugAssign (.Name x pos') op a pos) (tY C W (yAug i f fa)) := (ps_aug hN hi hx ha ho hf).imp fun De σ H ⟨ρ, e, m, he, hm, h⟩ => by
  unfold yAug at h
  split at h
  · rename_i dx ex
    obtain ⟨vx, h1, h2⟩ := he.2 i dx ex
    refine ⟨vx, h1, ?_⟩
    refine (tX.go (g := fa) (f := fun y m => if isInt dx && isInt y then (f m dx y).toF e fun z m => .nx (e.set i (some z)) m else .bad 85) he hm h).mono fun v H' ⟨ρ', d, m', x1, hm', r, q⟩ => ?_
    split at q
    · rename_i hb
      rw [Bool.and_eq_true] at hb
      obtain ⟨i1, rfl, rfl⟩ := int_of h2 hb.1
      obtain ⟨i2, rfl, rfl⟩ := int_of r hb.2
      refine ⟨fun cv d H'' => W cv d σ H'', ρ', m', i1, i2, rfl, rfl, hm', ?_⟩
      cases e3 : f m' (.int i1) (.int i2) with
      | bad w => rw [e3] at q; exact q
      | exc c fs m2 => rw [e3] at q; exact fun ρ2 H2 cv d x2 y2 z2 => q ρ2 H2 σ cv d x2 y2 ((he.mono x1).mono x2) z2
      | ok z m2 =>
        rw [e3] at q
        exact fun ρ2 H2 v2 x2 y2 z2 => q ρ2 H2 _ x2 y2 (((he.mono x1).mono x2).set z2)
    · exact q.elim
  · exact h.elim

/-! ### xs[i] += e -/
def rGetL : V → V → Hp → VK → Prop := fun o i H Q => ∃ p xs k v, o = .ref p ∧ i = .int k ∧ H p = some (.lst xs) ∧ 0 ≤ k ∧ xs[k.toNat]? = some v ∧ Q v H
theorem get_list : PGet X rGetL := by
  intro pins s σ H o i ov iv Q I ro ri h
  obtain ⟨p, xs, k, v, rfl, rfl, hp, h0, hv, q⟩ := h
  cases ro
  obtain ⟨t, rfl⟩ := ri
  obtain ⟨its, n, r, ho, hz⟩ := I.lst hp
  obtain ⟨w, ew, rw'⟩ := r.get hv
  have hl := (List.getElem?_eq_some_iff.mp hv).1
  have hn := line63
  exact wpAny_getItem_list (items := its.toArray) ⟨_, ho, rfl, n, rfl⟩ h0 (by omega) (by simpa using ew) ⟨v, H, I, rw', q⟩
theorem ys_augAt {op : Operator} {f : Mem → D → D → Mt.R D} {pos' : Pos} (hop : PIp X op (rIpE C f)) (ho : PE X o (tX C W fo)) (hi : PE X i (tX C W fi)) (ha : PE X a (tX C W fa)) (ht : tame i = true) :
    PS X (.AugAssign (.Subscript o i pos') op a pos) (tY C W (yAugAt fo fi f fa)) := (ps_augS ho hi get_list ha hop set_list (tame_aug ht)).imp fun De σ H h => by
  refine (tY.exp (g := fun e x m => (fi e m).toF e fun y m => (augIx m x y).toF e fun z m => (fa e m).toF e fun w m =>
    if isInt z && isInt w then (f m z w).toF e fun v m => match setL m x y v with
      | some m' => .nx e m'
      | none => .bad 86
    else .bad 86) h).mono fun v1 H1 ⟨ρ1, e, d1, m1, he1, hm1, r1, q⟩ => ?_
  refine (tX.go (g := fi) (f := fun y m => (augIx m d1 y).toF e fun z m => (fa e m).toF e fun w m =>
    if isInt z && isInt w then (f m z w).toF e fun v m => match setL m d1 y v with
      | some m' => .nx e m'
      | none => .bad 86
    else .bad 86) he1 hm1 q).mono fun v2 H2 ⟨ρ2, d2, m2, x2, hm2, r2, q⟩ => ?_
  have he2 := he1.mono x2
  have r1 := r1.mono x2
  unfold augIx at q
  split at q
  case h_2 => exact q.elim
  split at q
  case h_2 => exact q.elim
  split at q
  case h_2 => exact q.elim
  rename_i n _ _ _ _ k _ xs ex
  split at q
  case h_2 => exact q.elim
  rename_i d3 e3
  obtain ⟨p, e1, e2, vs, h1, h2⟩ := cell_at hm2 r1 ex
  subst e1
  cases r2
  obtain ⟨v3, ev3, r3⟩ := h2.get e3
  refine ⟨p, vs, _, v3, rfl, rfl, h1, Int.natCast_nonneg _, ev3, ?_⟩
  have q : PostY C W ρ2 H2 ((fa e m2).toF e fun w m =>
    if isInt d3 && isInt w then (f m d3 w).toF e fun v m => match setL m (.ref n) (.int (Int.ofNat k)) v with
      | some m' => .nx e m'
      | none => .bad 86
    else .bad 86) De := q
  refine (tX.go (g := fa) (f := fun w m =>
    if isInt d3 && isInt w then (f m d3 w).toF e fun v m => match setL m (.ref n) (.int (Int.ofNat k)) v with
      | some m' => .nx e m'
      | none => .bad 86
    else .bad 86) he2 hm2 q).mono fun v4 H4 ⟨ρ4, d4, m4, x4, hm4, r4, q⟩ => ?_
  have he4 := he2.mono x4
  split at q
  case isFalse => exact q.elim
  rename_i hb
  rw [Bool.and_eq_true] at hb
  obtain ⟨i1, rfl, rfl⟩ := int_of r3 hb.1
  obtain ⟨i2, rfl, rfl⟩ := int_of r4 hb.2
  refine ⟨fun cv d H'' => W cv d σ H'', ρ4, m4, i1, i2, rfl, rfl, hm4, ?_⟩
  cases e5 : f m4 (.int i1) (.int i2) with
  | bad w => rw [e5] at q; exact q
  | exc c fs m => rw [e5] at q; exact fun ρ5 H5 cv d x5 y5 z5 => q ρ5 H5 σ cv d x5 y5 (he4.mono x5) z5
  | ok z m5 =>
    rw [e5] at q
    intro ρ5 H5 v5 x5 hm5 r5
    have q : PostY C W ρ4 H4 (match (generalizing := false) setL m5 (.ref n) (.int (Int.ofNat k)) z with
      | some m' => .nx e m'
      | none => .bad 86) De := q
    clear e5
    split at q
    · rename_i m' em
      exact set_of ρ5 H5 m5 m' _ _ z _ _ v5 _ hm5 ((r1.mono x4).mono x5) (.int _) r5 em fun ρ6 H6 x6 hm6 => q ρ6 H6 σ (x5.trans x6) hm6 ((he4.mono x5).mono x6)
    · exact q.elim
/-! ### two, three names at once -/
theorem par_of {i j : Nat} (hij : i ≠ j) : ∀ De σ H, tY C W (yAsg (.tgT (.cons (.tgN i) (.cons (.tgN j) .nil))) (xTup fa)) De σ H → tPar i j (tXs C W fa) De σ H := fun De σ H ⟨ρ, e, m, he, hm, h⟩ => by
  refine ⟨ρ, e, m, he, hm, ?_⟩
  unfold yAsg xTup at h
  cases e1 : fa e m with
  | bad w => rw [e1] at h; exact h
  | exc k fs m' => rw [e1] at h; exact fun ρ' H' cv d x y z => h ρ' H' σ cv d x y (he.mono x) z
  | ok d m1 =>
    rw [e1] at h
    cases d with
    | tup xs =>
      refine ⟨xs, rfl, fun ρ' H' vs x y z => ?_⟩
      have h : PostY C W ρ H ((if Nat.ble xs.length lineN then R.ok (.tup xs) m1 else .bad 61).toF e fun x m => match assign (.tgT (.cons (.tgN i) (.cons (.tgN j) .nil))) x e with
        | some e' => .nx e' m
        | none => .bad 83) De := h
      split at h
      case isFalse => exact h.elim
      have h : PostY C W ρ H (match (generalizing := false) assign (.tgT (.cons (.tgN i) (.cons (.tgN j) .nil))) (.tup xs) e with
        | some e' => .nx e' m1
        | none => .bad 83) De := h
      clear e1
      split at h
      case h_2 => exact h.elim
      rename_i e' ea
      unfold assign at ea
      cases z with
      | nil => simp [assigns] at ea
      | @cons d1 v1 ds vs r1 z =>
        cases z with
        | nil =>
          simp only [assigns] at ea
          split at ea <;> cases ea
        | @cons d2 v2 ds vs r2 z =>
          simp only [assigns] at ea
          split at ea
          · rename_i e2 ea2
            split at ea
            · rename_i e3 ea3
              cases ds with
              | cons d ds => simp [assigns] at ea
              | nil =>
                cases z
                simp only [assigns, Option.some.injEq] at ea
                subst ea
                simp only [assign] at ea2 ea3
                split at ea2
                · cases ea2
                  split at ea3
                  · cases ea3
                    exact ⟨v1, v2, rfl, h ρ' H' _ x y (((he.mono x).set r1).set r2)⟩
                  · cases ea3
                · cases ea2
            · cases ea
          · cases ea
    | _ => exact h.elim
theorem ys_par {i j : Nat} {x y : Str} {px py pt : Pos} {kt k2 pt2} (hc : X.calm = true) (hN : X.N.Nodup) (hi : X.N[i]? = some x) (hj : X.N[j]? = some y) (hij : i ≠ j)
    (hx : X.env.scope.names.lookup x = some .local) (hy : X.env.scope.names.lookup y = some .local) (ha : PA X [a, b] (tXs C W fa))
    (hw : swappedStores [.Tuple [.Name x px, .Name y py] kt pt] (.Tuple [a, b] k2 pt2) X.env = pure (some [x, y])) :
    PS X (.Assign [.Tuple [.Name x px, .Name y py] kt pt] (.Tuple [a, b] k2 pt2) pos) (tY C W (yAsg (.tgT (.cons (.tgN i) (.cons (.tgN j) .nil))) (xTup fa))) :=
  (ps_par hc hN hi hj hij hx hy ha hw (by rfl)).imp (par_of hij)
end
end Mt
end
section
set_option linter.all false
set_option autoImplicit false
set_option maxRecDepth 100000
set_option maxHeartbeats 2000000
/-! MtS6: tuple(list) told with its object; dict of such a tuple. -/
namespace Mt
open PySem PySem.Spec PyProof.Rows L2
section
variable {X : Cx} {C : Cls} {E : XK}
theorem ok_ptp : CallR X (.type "tuple") (rBl C E oPtp) := by
  intro pins s σ H xs us Q I r h
  obtain ⟨ρ, m, ds, hm, rs, h⟩ := h
  unfold oPtp at h
  split at h
  · rename_i z e
    obtain ⟨a, ws, rfl, h1, r1⟩ := list1_of hm rs e
    obtain ⟨u, rfl, ru⟩ := vals1 r
    cases ru
    obtain ⟨its, rv, pl, hz⟩ := I.list (.inl (.inl h1))
    refine call_tuple_list pl.isList (fun h' hk => ?_) (by rw [List.size_toArray, ← rv.length]; exact hz)
    have I1 : Inv X pins σ H { s with heap := h' } := I.kept (t' := s.toks) hk
    have I2 : Inv X pins σ (upd H h'.objs.size (.frz { cls := .type "tuple", data := .seq its.toArray } (.tup ws))) { s with heap := h'.push { cls := .type "tuple", data := .seq its.toArray } } :=
      I1.laid (t' := s.toks) (fun b o e => Heap.get?_push_of_some _ e) (Nat.le_refl _) (show ObjOk X.prog X.w _ _ _ (.frz _ (.tup ws)) from ⟨Heap.get?_push_size _ rfl, hz, its, rv, IsTup.new _ _⟩)
    have hn := I1.hok.fresh (Nat.le_refl h'.objs.size)
    exact ⟨.ref h'.objs.size, _, I2, rfl, h _ _ _ (Ext.new hm hn) (hm.new hn) (.ptp upd_same rfl (hm.fresh hn) (r1.mono (Ext.new hm hn)))⟩
  · exact h.elim
/-- pairs of a tuple: where they lie, what they hold -/
theorem pairs_lie {pins : List (Addr × Obj)} {σ : L2.St} {H : Hp} {s : Shared} (I : L2.Inv X pins σ H s) {ρ : Rho} : ∀ {ds : List D} {vs : List V} {us : List Value} {kvs : List (Ky × D)}, Reps ρ H ds vs → Vals vs us → pairK ds = some kvs →
    ∃ (ps : List Addr) (prs : List (Value × Value)) (kvV : List (Key × V)) (kvU : List (Key × Value)), us = ps.map Value.ref ∧ prs.length = us.length ∧ kvU.length = us.length ∧ KvR ρ H kvs kvV ∧ KV kvV kvU ∧
      ∀ (j : Nat) (k v : Value), prs[j]? = some (k, v) → ∃ (b : Addr) (q : Key), ps[j]? = some b ∧ s.heap.IsTuple b #[k, v] ∧ kvU[j]? = some (q, v) ∧ keyIs q k = true
  | _, _, _, _, .nil, .nil, h => by
    simp only [pairK, Option.some.injEq] at h
    subst h
    exact ⟨[], [], [], [], rfl, rfl, rfl, .nil, .nil, fun j k v e => by simp at e⟩
  | _, _, _, _, .cons (d := d) (ds := ds) r t, .cons ru tu, h => by
    unfold pairK at h
    split at h
    · cases ‹_ :: _ = []›
    · rename_i kd vd rd e
      cases e
      split at h
      · rename_i q s' e1 e2
        cases h
        obtain ⟨ps, prs, kvV, kvU, i1, i2, i3, i4, i5, i6⟩ := pairs_lie I t tu e2
        cases r with
        | tup h1 n1 r1 =>
          cases r1 with
          | cons ra r1 =>
            cases r1 with
            | cons rb r1 =>
              cases r1
              cases ru
              rename_i a va vb
              obtain ⟨its, rv, ht, _⟩ := I.tuple (.inl (.inl h1))
              obtain ⟨u, y, ei, rku, ry⟩ := vals2 rv
              subst ei
              rw [ky_of ra e1] at rku
              refine ⟨a :: ps, (u, y) :: prs, (kyTo q, vb) :: kvV, (kyTo q, y) :: kvU, by rw [i1]; rfl, by simp [i2], by simp [i3], .cons ⟨rfl, rb⟩ i4, .cons ⟨rfl, ry⟩ i5, fun j k v e => ?_⟩
              cases j with
              | zero =>
                cases e
                exact ⟨a, kyTo q, rfl, ht, rfl, kV_is (P := X.prog) (w := X.w) rku⟩
              | succ j =>
                obtain ⟨b, q', j1, j2, j3, j4⟩ := i6 j k v (by simpa using e)
                exact ⟨b, q', by simpa using j1, j2, by simpa using j3, j4⟩
      · cases h
    · cases h
theorem merge_K {ρ : Rho} {H : Hp} : ∀ {l : List (Ky × D)} {w : List (Key × V)} {acc : List (Ky × D)} {aw : List (Key × V)}, KvR ρ H l w → KvR ρ H acc aw → KvR ρ H (mergeK acc l) (L2.mergeK aw w)
  | _, _, _, _, .nil, h => h
  | _, _, _, _, .cons (a := p) (b := q) h t, ha => by
    simp only [mergeK]
    have := merge_K t (put_K h.2 p.1 ha)
    rw [h.1] at this
    exact this
theorem ok_dictP (hcalm : X.calm = true) : CallR X (.type "dict") (rBl C E oDict) := by
  intro pins s σ H xs us Q I r h
  obtain ⟨ρ, m, ds, hm, rs, h⟩ := h
  unfold oDict at h
  split at h
  case h_2 => exact h.elim
  rename_i x ex
  split at h
  case h_2 => exact h.elim
  rename_i z ez
  obtain ⟨v, rfl, r1⟩ := one_of rs ex
  obtain ⟨u, rfl, ru⟩ := vals1 r
  cases r1 with
  | @ptp a o ws zs h1 d1 n1 r1 =>
    simp only [ptpOf, Option.some.injEq] at ez
    subst ez
    cases ru
    unfold dictC at h
    split at h
    case h_2 => exact h.elim
    rename_i kvs ek
    split at h
    case isFalse => exact h.elim
    rename_i hl
    obtain ⟨ho, hz, its, rv, o', ho', hc, n, hd⟩ := (show ObjOk X.prog X.w H s.heap a (.frz o (.tup ws)) from I.hok a _ h1)
    rw [ho] at ho'
    cases ho'
    obtain ⟨ps, prs, kvV, kvU, i1, i2, i3, i4, i5, i6⟩ := pairs_lie I r1 rv ek
    refine PySem.call_dict_pairs (knd := mixKind X.prog X.w) (kvs := kvU) (PySem.PairArg.tuple a its.toArray (fun j => (ps[j]?).getD 0) prs) (I.ok.hd hcalm) ⟨⟨o, n, ho, hc, d1, hd⟩, by simp [i2], fun j k v e => ?_⟩ ⟨by rw [i3, i2], fun j key v e => ?_⟩ (by rw [i2, ← rv.length]; exact hz) fun h' tk hd' k => ?_
    · obtain ⟨b, q, j1, j2, j3, j4⟩ := i6 j k v e
      refine ⟨?_, .inl (by simp only [j1, Option.getD_some]; exact j2)⟩
      rw [i1]
      simp [j1]
    · obtain ⟨b, q, j1, j2, j3, j4⟩ := i6 j key v e
      exact ⟨q, j3, j4⟩
    · have hm' : (s.heap.objs.size == sysModules) = false := beq_eq_false_iff_ne.mpr (Nat.ne_of_gt I.big)
      have hlen : (L2.mergeK [] kvV).length ≤ sizeLine := by
        refine Nat.le_trans (length_mergeK kvV []) ?_
        rw [List.length_nil, Nat.zero_add, i5.length, i3, ← rv.length]
        exact hz
      have hn := I.hok.fresh (Nat.le_refl s.heap.objs.size)
      refine ⟨.ref s.heap.objs.size, upd H s.heap.objs.size (.dK (L2.mergeK [] kvV)), I.laid (t' := tk) (fun b o e => k b o (by simp) e) (Nat.le_refl _) (show ObjOk X.prog X.w _ _ _ (.dK (L2.mergeK [] kvV)) from ⟨hlen, hm', merged [] kvU, KV.merge i5 .nil, hd'⟩), rfl, ?_⟩
      exact Post.newCell hm h hn ⟨_, upd_same, Paired.imp (fun _ _ q => ⟨q.1, q.2.mono (Ext.cell hm hn)⟩) (merge_K i4 .nil)⟩
  | _ => simp [ptpOf] at ez
end
end Mt
end
section
set_option linter.all false
set_option autoImplicit false
set_option maxRecDepth 100000
set_option maxHeartbeats 2000000
/-! MtS7: sorted. -/
namespace Mt
open PySem PySem.Spec PyProof.Rows L2
def insBy {α : Type} (le : α → α → Bool) (a : α) : List α → List α
  | [] => [a]
  | q :: r => match le a q with
    | true => a :: q :: r
    | false => q :: insBy le a r
def isortBy {α : Type} (le : α → α → Bool) : List α → List α
  | [] => []
  | a :: r => insBy le a (isortBy le r)
theorem insBy_app {α : Type} {le : α → α → Bool} {a : α} : ∀ {l1 l2 : List α}, (∀ b ∈ l1, le a b = false) → (∀ b ∈ l2, le a b = true) → insBy le a (l1 ++ l2) = l1 ++ a :: l2
  | [], [], _, _ => rfl
  | [], q :: r, _, h => by
    simp only [List.nil_append, insBy]
    rw [h q List.mem_cons_self]
  | b :: l1, l2, h1, h2 => by
    simp only [List.cons_append, insBy]
    rw [h1 b List.mem_cons_self]
    simp only
    rw [insBy_app (fun c hc => h1 c (List.mem_cons_of_mem _ hc)) h2]
theorem isortBy_eq {α : Type} {le : α → α → Bool} (tr : ∀ a b c, le a b = true → le b c = true → le a c = true) (to : ∀ a b, (le a b || le b a) = true) : ∀ l : List α, isortBy le l = l.mergeSort le
  | [] => by simp [isortBy]
  | a :: r => by
    obtain ⟨l1, l2, h1, h2, h3⟩ := List.mergeSort_cons tr to a r
    have sp := List.pairwise_mergeSort tr to (a :: r)
    rw [h1] at sp
    rw [List.pairwise_append] at sp
    have hl2 := (List.pairwise_cons.mp sp.2.1).1
    rw [isortBy, isortBy_eq tr to r, h2, h1]
    exact insBy_app (fun b hb => by simpa using h3 b hb) (fun b hb => hl2 b hb)
theorem insBy_mem {α : Type} {le : α → α → Bool} {a x : α} : ∀ {l : List α}, x ∈ insBy le a l → x = a ∨ x ∈ l
  | [], h => by simp [insBy] at h; exact .inl h
  | q :: r, h => by
    simp only [insBy] at h
    split at h
    · rcases List.mem_cons.mp h with e | h
      · exact .inl e
      · exact .inr h
    · rcases List.mem_cons.mp h with e | h
      · exact .inr (e ▸ List.mem_cons_self)
      · exact (insBy_mem h).imp id (List.mem_cons_of_mem _)
theorem isortBy_mem {α : Type} {le : α → α → Bool} {x : α} : ∀ {l : List α}, x ∈ isortBy le l → x ∈ l
  | [], h => h
  | a :: r, h => by
    rcases insBy_mem h with e | h
    · exact e ▸ List.mem_cons_self
    · exact List.mem_cons_of_mem _ (isortBy_mem h)
/-- the evaluator's sort, as a sort by keys -/
theorem insK_by {k : D × D → D} (hk : ∀ p, k p = p.1) (p : D × D) : ∀ l : List (D × D), insK p l = insBy (fun a b => !ltD b.1 a.1) p l
  | [] => rfl
  | q :: r => by
    simp only [insK, insBy]
    cases ltD q.1 p.1 with
    | true => simp only [Bool.not_true]; rw [insK_by hk p r]
    | false => rfl
theorem isortK_by : ∀ l : List (D × D), isortK l = isortBy (fun a b => !ltD b.1 a.1) l
  | [] => rfl
  | p :: r => by
    rw [isortK, isortBy, isortK_by r]
    exact insK_by (fun _ => rfl) p _
theorem insBy_congr {α : Type} {le le' : α → α → Bool} {a : α} : ∀ {l : List α}, (∀ b ∈ l, le a b = le' a b) → insBy le a l = insBy le' a l
  | [], _ => rfl
  | q :: r, h => by
    simp only [insBy]
    rw [h q List.mem_cons_self, insBy_congr fun b hb => h b (List.mem_cons_of_mem _ hb)]
theorem isortBy_congr {α : Type} {le le' : α → α → Bool} : ∀ {l : List α}, (∀ a ∈ l, ∀ b ∈ l, le a b = le' a b) → isortBy le l = isortBy le' l
  | [], _ => rfl
  | a :: r, h => by
    rw [isortBy, isortBy, isortBy_congr fun x hx y hy => h x (List.mem_cons_of_mem _ hx) y (List.mem_cons_of_mem _ hy)]
    exact insBy_congr fun b hb => h a List.mem_cons_self b (List.mem_cons_of_mem _ (isortBy_mem hb))
theorem isortBy_map {α β : Type} {le : β → β → Bool} (f : α → β) : ∀ l : List α, (isortBy (fun a b => le (f a) (f b)) l).map f = isortBy le (l.map f)
  | [] => rfl
  | a :: r => by
    rw [isortBy, List.map_cons, isortBy, ← isortBy_map f r]
    generalize isortBy (fun a b => le (f a) (f b)) r = l
    induction l with
    | nil => rfl
    | cons q l ih =>
      simp only [insBy, List.map_cons]
      cases le (f a) (f q) with
      | true => rfl
      | false => simp only [List.map_cons]; rw [ih]

section
variable {X : Cx} {C : Cls} {E : XK}
/-- values, what they are, their data -/
theorem eachs {pins : List (Addr × Obj)} {σ : L2.St} {H : Hp} {s : Shared} (I : L2.Inv X pins σ H s) {ρ : Rho} : ∀ {ds : List D} {vs : List V} {us : List Value}, Reps ρ H ds vs → Vals vs us → ds.all fit = true →
    PySem.W.EachIs (fun u d => ∃ v, RelV v u ∧ Rep ρ H d v) us ds ∧ PySem.W.EachIs (fun u d => ∃ as, PySem.Reads s.heap u (toPy d) as) us ds
  | _, _, _, .nil, .nil, _ => ⟨.nil, .nil⟩
  | _, _, _, .cons r t, .cons ru tu, h => by
    rw [List.all_cons, Bool.and_eq_true] at h
    obtain ⟨h1, h2⟩ := eachs I t tu h.2
    exact ⟨.cons ⟨_, ru, r⟩ h1, .cons (Dp.reads I _ _ _ (dp_of X.K r (fit_of h.1).1) ru) h2⟩
theorem each_back {ρ : Rho} {H : Hp} : ∀ {us : List Value} {ds : List D}, PySem.W.EachIs (fun u d => ∃ v, RelV v u ∧ Rep ρ H d v) us ds → ∃ vs, Vals vs us ∧ Reps ρ H ds vs
  | _, _, .nil => ⟨[], .nil, .nil⟩
  | _, _, .cons ⟨v, h1, h2⟩ t => let ⟨vs, h3, h4⟩ := each_back t; ⟨v :: vs, .cons h1 h3, .cons h2 h4⟩
theorem sortOk_of {ks : List D} (h : sortOk ks = true) : (∀ a ∈ ks, ∀ b ∈ ks, alikeD a b = true) ∧ (PySem.W.Sortable (ks.map toPy)) ∧ ks.all fit = true ∧ ks.length ≤ sizeLine := by
  unfold sortOk at h
  simp only [Bool.and_eq_true, Nat.ble_eq] at h
  obtain ⟨⟨⟨h1, h2⟩, h3⟩, h4⟩ := h
  refine ⟨fun a ha b hb => ?_, ?_, h3, by rw [sizeLine_eq]; exact h4⟩
  · unfold allAlike at h1
    rw [List.all_eq_true] at h1
    have := h1 a ha
    rw [List.all_eq_true] at this
    exact this b hb
  · rw [Bool.or_eq_true] at h2
    rcases h2 with h2 | h2
    · refine .inl fun d hd => ?_
      obtain ⟨x, hx, rfl⟩ := List.mem_map.mp hd
      have := List.all_eq_true.mp h2 x hx
      unfold sortableD at this
      split at this
      · rename_i y ys
        exact ⟨toPy y, toPys ys, by rw [toPy, toPys]⟩
      · cases this
    · refine .inr fun d hd => ?_
      obtain ⟨x, hx, rfl⟩ := List.mem_map.mp hd
      have hs := List.all_eq_true.mp h2 x hx
      have hf := (fit_of (List.all_eq_true.mp h3 x hx)).1
      cases x with
      | non => cases hs
      | tup _ => cases hs
      | bl _ => exact ⟨by simp [toPy], by simp [toPy]⟩
      | int _ => exact ⟨by simp [toPy], by simp [toPy]⟩
      | str _ => exact ⟨by simp [toPy], by simp [toPy]⟩
      | lst _ => exact ⟨by simp [toPy], by simp [toPy]⟩
      | scr _ => simp [plain] at hf
      | ptp _ => simp [plain] at hf
      | ref _ => simp [plain] at hf
theorem lt_le {ks : List D} (h : sortOk ks = true) : ∀ a ∈ ks, ∀ b ∈ ks, (!ltD b a) = PySem.W.dataLe false toPy a b := fun a ha b hb => by
  obtain ⟨h1, _, h3, _⟩ := sortOk_of h
  rw [PySem.W.dataLe_eq]
  show _ = (!PySem.W.dataLt (toPy b) (toPy a))
  rw [lt_py b a (h1 b hb a ha) (fit_of (List.all_eq_true.mp h3 b hb)).1 (fit_of (List.all_eq_true.mp h3 a ha)).1]
theorem le_tt {α : Type} (k : α → PyData) : (∀ a b c, PySem.W.dataLe false k a b = true → PySem.W.dataLe false k b c = true → PySem.W.dataLe false k a c = true) ∧ ∀ a b, (PySem.W.dataLe false k a b || PySem.W.dataLe false k b a) = true := by
  have t : PySem.W.TotalLe (PySem.W.dataLe false k) := PySem.W.sortLe_total _ false _
  exact ⟨t.trans, fun a b => by rw [Bool.or_eq_true]; exact t.total a b⟩
theorem isort_self {z : List D} (h : sortOk z = true) : (isortK (z.map fun d => (d, d))).map (·.2) = z.mergeSort (PySem.W.dataLe false toPy) := by
  rw [isortK_by]
  have e1 : isortBy (fun a b : D × D => !ltD b.1 a.1) (z.map fun d => (d, d)) = isortBy (fun a b : D × D => !ltD b.2 a.2) (z.map fun d => (d, d)) := isortBy_congr fun a ha b hb => by
    obtain ⟨x, _, rfl⟩ := List.mem_map.mp ha
    obtain ⟨y, _, rfl⟩ := List.mem_map.mp hb
    rfl
  rw [e1, isortBy_map (le := fun a b : D => !ltD b a) (fun p : D × D => p.2), List.map_map]
  have e2 : ((fun p : D × D => p.2) ∘ fun d : D => (d, d)) = id := rfl
  rw [e2, List.map_id, isortBy_congr (lt_le h)]
  exact isortBy_eq (le_tt toPy).1 (le_tt toPy).2 z
theorem ok_sorted (hu : X.A.units + 66 < cLine) : CallR X (.builtin "sorted") (rBl C E oSorted) := by
  intro pins s σ H xs us Q I r h
  obtain ⟨ρ, m, ds, hm, rs, h⟩ := h
  unfold oSorted at h
  split at h
  case h_2 => exact h.elim
  rename_i z e
  split at h
  case isFalse => exact h.elim
  rename_i hs
  obtain ⟨a, ws, rfl, h1, r1⟩ := list1_of hm rs e
  obtain ⟨h2, h3, h4, h5⟩ := sortOk_of hs
  obtain ⟨u, rfl, ru⟩ := vals1 r
  cases ru
  obtain ⟨its, rv, pl, hz⟩ := I.list (.inl (.inl h1))
  obtain ⟨e1, e2⟩ := eachs I r1 rv h4
  refine PySem.W.sorted_data (bs := z) (enc := toPy) pl.isList e1 e2 (fun d hd d' hd' => ?_) h3 h5 (fun d hd => ?_) fun out ho eo => ?_
  · obtain ⟨x, hx, rfl⟩ := List.mem_map.mp hd
    obtain ⟨y, hy, rfl⟩ := List.mem_map.mp hd'
    exact alike_py x y (h2 x hx y hy)
  · rw [deep_py]
    have := List.all_eq_true.mp h4 d hd
    unfold fit at this
    rw [Bool.and_eq_true, Nat.ble_eq] at this
    omega
  · obtain ⟨vs', k1, k2⟩ := each_back eo
    rw [← isort_self hs] at k2
    obtain ⟨ep, he'⟩ := PyProof.Rows.sortedAll_at s.heap its out.toArray
    have hlen : vs'.length ≤ sizeLine := by
      rw [k1.length, ho]
      exact h5
    have hn := I.hok.fresh (Nat.le_succ s.heap.objs.size)
    exact ⟨.ref _, upd H (s.heap.objs.size + 1) (.lst vs'), I.laid (t' := s.toks) (fun _ _ => PyProof.Rows.sortedAll_old) (Nat.le_succ _) ⟨hlen, out, ep, k1, he'⟩, rfl, h.newLst hm k2 hn⟩
end
end Mt
end
section
set_option linter.all false
set_option autoImplicit false
set_option maxRecDepth 100000
set_option maxHeartbeats 2000000
/-! MtL1: a lambda is made. -/
namespace Mt
open PySem PySem.Spec PyProof.Rows L2
/-- a table told: what it lists are code objects of the name q -/
def ListsOf (H : Hp) (ps : Array Value) (q : Str) : Prop := PySem.TriplesOk ps.toList ∧ ∀ (pos : Pos) (cv : Value), codeAmong pos ps.toList = some cv → ∃ c, cv = .ref c ∧ H c = some (LamX.CodeO c q)
section
variable {X : Cx} {pins : List (Addr × Obj)} {σ : L2.St} {H : Hp} {s : Shared}
theorem frs_young (I : L2.Inv X pins σ H s) {f : Addr} (hf : s.heap.objs.size ≤ f) : f ∉ frs X.stack := fun z => by
  rcases List.mem_cons.mp (I.stkSub _ z) with e | e
  · have := I.lt
    rw [← e] at this
    exact Nat.lt_irrefl _ (Nat.lt_of_lt_of_le this hf)
  · exact I.nofs hf e
theorem lam_new {c P : Addr} {q : Str} {ps : Array Value} {params : Arguments} {body : Expr} {scope : Scope} {pos : Pos} {E Q : Value → Shared → Prop} (I : L2.Inv X pins σ H s) (TB : LamX.TabB X.base X.mg c P) (hcode : X.env.code = .ref c)
    (hP : H P = some (.tbl ps)) (ls : ListsOf H ps q) (hq : q = X.env.qual ++ "<lambda>") (hdef : defaultsOf params X.env = ([], [])) (hfree : ∀ y ∈ scope.names, y.2 = .free → ∃ c, X.env.cells.lookup y.1 = some c)
    (k : ∀ (f c' : Addr) (pm ctv : Value) (H1 : Hp) (s' : Shared), L2.Inv X pins σ H1 s' →
      (H1 = H ∧ (∃ p', codeAmong p' ps.toList = some (.ref c')) ∨ H c' = none ∧ H1 = upd (upd H P (.tbl (ps ++ #[rawInt pos.line, rawInt pos.col, .ref c']))) c' (LamX.CodeO c' q)) → H1 c' = some (LamX.CodeO c' q) →
      s'.heap.get? f = some (PySem.W.kla_obj "<lambda>" q params body scope (cloFrom X.env.cells scope.names []) pm c' ctv) → H1 f = none → s.heap.objs.size ≤ f → Q (.ref f) s') :
    wpAny (model X.prog X.w) X.A (eval (.Lambda params body scope pos) X.env) Q E s := by
  subst hq
  obtain ⟨ht, ha⟩ := ls
  have bP : s.heap.BuiltinsAt X.mg P := TB.bm.keeps I.bk
  have hP' : s.heap.get? P = some { cls := .none, data := .fields ps } := I.hok P _ hP
  refine PySem.W.kla_eval hdef ?_
  cases hc : codeAmong pos ps.toList with
  | some cv =>
    obtain ⟨c', e, hco⟩ := ha pos cv hc
    subst e
    refine PySem.W.kla_makeFunctionHit (mg := X.mg) (c := c) (P := P) (ps := ps) (closure_ok hfree) I.ok.glob (I.mod.glob.keeps I.bk) hcode (TB.code.keeps I.bk) hP' ht hc bP fun ctv g tk old sz => ?_
    have J : L2.Inv X pins σ H { s with heap := g.push (PySem.W.kla_obj "<lambda>" (X.env.qual ++ "<lambda>") params body scope (cloFrom X.env.cells scope.names []) ((X.mg "__name__").getD .none) c' ctv), toks := tk } :=
      I.kept fun b u e => Heap.get?_push_of_some _ (old b u e)
    exact k _ c' _ ctv H _ J (.inl ⟨rfl, _, hc⟩) hco (Heap.get?_push_size _ rfl) (I.hok.fresh sz) sz
  | none =>
    refine PySem.W.kla_makeFunction (mg := X.mg) (c := c) (P := P) (ps := ps) (closure_ok hfree) I.ok.glob (I.mod.glob.keeps I.bk) hcode (TB.code.keeps I.bk) hP' ht hc TB.gP bP fun c' ctv g tk old young lt rec tab => ?_
    obtain ⟨c2, oc, vs, t, e2, g1, g2, g3⟩ := rec
    cases e2
    have sz : s.heap.objs.size ≤ g.objs.size := Nat.le_trans young (Nat.le_of_lt lt)
    have nC : H c' = none := I.hok.fresh young
    have J := LamX.inv_table (t' := tk) (more := #[rawInt pos.line, rawInt pos.col, .ref c']) (q := X.env.qual ++ "<lambda>") (h' := g.push (PySem.W.kla_obj "<lambda>" (X.env.qual ++ "<lambda>") params body scope (cloFrom X.env.cells scope.names []) ((X.mg "__name__").getD .none) c' ctv)) I hP
      (fun b u nb e => Heap.get?_push_of_some _ (old b u nb e)) (Heap.get?_push_of_some _ tab) young ⟨oc, vs, t, Heap.get?_push_of_some _ g1, g2, g3⟩
    have n1 : g.objs.size ≠ c' := Nat.ne_of_gt lt
    have n2 : g.objs.size ≠ P := Nat.ne_of_gt (Nat.lt_of_lt_of_le (Heap.lt_size hP') sz)
    exact k _ c' _ ctv _ _ J (.inr ⟨nC, rfl⟩) upd_same (Heap.get?_push_size _ rfl) (by rw [upd_ne n1, upd_ne n2]; exact I.hok.fresh sz) sz
end
/-- the table's cell, with the lambda's code object -/
theorem tab_ext {ρ : Rho} {m : Mem} {H H1 : Hp} {i P c' : Addr} {q : List Nat} {ps : Array Value} (hm : HR ρ m H) (hi : ρ.c[i]? = some (some P)) (mi : m[i]? = some (some (.tab P q))) (hP : H P = some (.tbl ps)) (ht : PySem.TriplesOk ps.toList)
    (ha : ∀ (pos : Pos) (cv : Value), codeAmong pos ps.toList = some cv → ∃ c, cv = .ref c ∧ ¬ live ρ c ∧ H c = some (LamX.CodeO c (SS q))) {pos : Pos}
    (h : H1 = H ∧ (∃ p', codeAmong p' ps.toList = some (.ref c')) ∨ H c' = none ∧ H1 = upd (upd H P (.tbl (ps ++ #[rawInt pos.line, rawInt pos.col, .ref c']))) c' (LamX.CodeO c' (SS q))) : Ext ρ H ρ H1 ∧ HR ρ m H1 ∧ ¬ live ρ c' := by
  rcases h with ⟨rfl, p', hp⟩ | ⟨nC, rfl⟩
  · obtain ⟨c, e1, e2, _⟩ := ha p' _ hp
    cases e1
    exact ⟨Ext.refl _ _, hm, e2⟩
  · have ne : P ≠ c' := fun z => by rw [z, nC] at hP; cases hP
    have comm : upd (upd H P (.tbl (ps ++ #[rawInt pos.line, rawInt pos.col, .ref c']))) c' (LamX.CodeO c' (SS q)) = upd (upd H c' (LamX.CodeO c' (SS q))) P (.tbl (ps ++ #[rawInt pos.line, rawInt pos.col, .ref c'])) := by
      funext b
      by_cases h1 : b = c'
      · subst h1; rw [upd_same, upd_ne (Ne.symm ne), upd_same]
      · rw [upd_ne h1]
        by_cases h2 : b = P
        · subst h2; rw [upd_same, upd_same]
        · rw [upd_ne h2, upd_ne h2, upd_ne h1]
    rw [comm]
    have nl := hm.fresh nC
    have x1 : Ext ρ H ρ (upd H c' (LamX.CodeO c' (SS q))) := Ext.new hm nC
    have hm1 : HR ρ m (upd H c' (LamX.CodeO c' (SS q))) := hm.new nC
    have x2 : Ext ρ (upd H c' (LamX.CodeO c' (SS q))) ρ (upd (upd H c' (LamX.CodeO c' (SS q))) P (.tbl (ps ++ #[rawInt pos.line, rawInt pos.col, .ref c']))) := Ext.write hm1 hi
    have hm2 := hm1.write (ob := .tab P q) (o := .tbl (ps ++ #[rawInt pos.line, rawInt pos.col, .ref c'])) hi ⟨rfl, _, upd_same, by
        rw [Array.toList_append]
        exact PySem.TriplesOk_snoc _ _ _ _ ht, fun p' cv hcv => by
        rw [Array.toList_append] at hcv
        rcases LamX.among_app _ ht hcv with z | z
        · obtain ⟨c0, e1, e2, e3⟩ := ha p' cv z
          have n0 : c0 ≠ P := fun z => e2 (.inl ⟨i, z ▸ hi⟩)
          exact ⟨c0, e1, e2, by rw [upd_ne n0]; exact (x1.keep _ _ e3 e2).1⟩
        · exact ⟨c', z, nl, by rw [upd_ne (Ne.symm ne), upd_same]⟩⟩
    have em : m.set i (some (.tab P q)) = m := by
      refine List.ext_getElem? fun j => ?_
      by_cases hj : i = j
      · subst hj
        rw [List.getElem?_set_self (List.getElem?_eq_some_iff.mp mi).1]
        exact mi.symm
      · rw [List.getElem?_set_ne hj]
    rw [em] at hm2
    exact ⟨x1.trans x2, hm2, nl⟩
end Mt
end
section
set_option linter.all false
set_option autoImplicit false
set_option maxRecDepth 100000
set_option maxHeartbeats 4000000
/-! MtL2: sorted with a key that is a function of the def's own. -/
namespace Mt
open PySem PySem.Spec PyProof.Rows L2
section
variable {X : Cx} {pins : List (Addr × Obj)} {σ : L2.St} {H : Hp} {s : Shared}
/-- a pinned thing's object is another one now; nothing else -/
theorem repin {b : Addr} {o o' : Obj} {h' : Heap} {t' : Nat} {p1 p2 : List (Addr × Obj)} (I : L2.Inv X (p1 ++ (b, o) :: p2) σ H s) (fp : FpOk X (p1 ++ p2) H b) (k : Heap.SameBut b s.heap h') (hb : h'.get? b = some o') (nc : ∀ v, o'.data ≠ .cell v) :
    L2.Inv X (p1 ++ (b, o') :: p2) σ H { s with heap := h', toks := t' } := by
  obtain ⟨f0, f1, f2, f3, f4, f5⟩ := fp
  have I1 : L2.Inv X (p1 ++ p2) σ H s := I.pins_of fun p hp => I.pin p (List.mem_append_right _ (by
    rcases List.mem_append.mp hp with z | z
    · exact List.mem_append_left _ z
    · exact List.mem_append_right _ (List.mem_cons_of_mem _ z)))
  have I2 : L2.Inv X (p1 ++ p2) σ H { s with heap := h', toks := t' } := I1.turned (it := b) (fun c u nb e => (k.2 c nb).trans e) f0 f1 f3 f4 f5
  refine I2.pins_of fun p hp => ?_
  rcases List.mem_append.mp hp with z | z
  · exact I2.pin p (List.mem_append_right _ (List.mem_append_left _ z))
  · rcases List.mem_cons.mp z with z | z
    · subst z
      exact ⟨hb, f0, f1, f2, nc⟩
    · exact I2.pin p (List.mem_append_right _ (List.mem_append_right _ z))
/-- what is apart at H is apart at H' where it is not tracked -/
theorem fp_at {pins' : List (Addr × Obj)} {H' : Hp} {b : Addr} (f : FpOk X pins H b) (h : H' b = none) (hp : ∀ p ∈ pins', p ∈ pins ∨ p.1 ≠ b) : FpOk X pins' H' b := by
  obtain ⟨f0, f1, f2, f3, f4, f5⟩ := f
  refine ⟨h, f1, f2, f3, f4, fun p hq => ?_⟩
  rcases List.mem_append.mp hq with z | z
  · exact f5 p (List.mem_append_left _ z)
  · rcases hp p z with z | z
    · exact f5 p (List.mem_append_right _ z)
    · exact z
theorem seqObj_nc (c : String) (xs : Array Value) (n : Nat) : ∀ v, (seqObj c xs n).data ≠ .cell v := fun v z => by
  unfold seqObj at z
  cases z
/-- the keys are told, one after the other; then the items are put in order -/
theorem tree_run {A' : Around} {f a : Addr} {fo : Obj} {vs : List Value} {n0 : Nat} {P : PySem.Fin → Shared → Prop} {E' : Value → Shared → Prop} (J : Nat → Hp → List V → Prop) (I : L2.Inv X pins σ H s) (hf : (f, fo) ∈ pins) (fa : FpOk X pins H a)
    (ho : s.heap.get? a = some (seqObj "list" vs.toArray n0)) (hz : vs.length ≤ sizeLine) (h0 : J 0 H [])
    (turn : ∀ (j : Nat) (u : Value) (pins' : List (Addr × Obj)) (H' : Hp) (s' : Shared) (ys : List V), vs[j]? = some u → (f, fo) ∈ pins' → L2.Inv X pins' σ H' s' → J j H' ys →
      wpAny (model X.prog X.w) A' (call (.ref f) [u]) (fun v s'' => ∃ H'' y, L2.Inv X pins' σ H'' s'' ∧ RelV y v ∧ J (j + 1) H'' (ys ++ [y])) (fun _ _ => False) s')
    (fin : ∀ (H' : Hp) (ys : List V) (us : List Value) (s' : Shared), L2.Inv X pins σ H' s' → H' a = none → Vals ys us → us.length = vs.length → J vs.length H' ys →
      ∃ kz : List PyData, PySem.W.AllAlike kz ∧ PySem.W.Sortable kz ∧ (∀ d ∈ kz, A'.units + d.depth < cLine) ∧ PySem.W.EachIs (fun v k => ∃ as, PySem.Reads s'.heap v k as) us kz ∧
        ∀ (out : List Value), PySem.W.KeyedOut false kz vs out → ∀ (h' : Heap) (tk : Nat) (c : Nat), h'.get? a = some (seqObj "list" out.toArray c) →
          (∀ (o : HO), ObjOk X.prog X.w (upd H' a o) h' a o → L2.Inv X pins σ (upd H' a o) { s' with heap := h', toks := tk }) → P (.done (.ret .none)) { s' with heap := h', toks := tk }) :
    wpAny (model X.prog X.w) A' (ksk_tree a (.ref f) false) P E' s := by
  obtain ⟨e1, ho1⟩ : ∃ e1, (s.heap.update a (Obj.mapSeq fun _ => (#[] : Array Value))).get? a = some (seqObj "list" #[] e1) := ⟨_, get?_update_seq ho fun _ => #[]⟩
  have la : a < s.heap.objs.size := Heap.lt_size ho
  obtain ⟨kS, ekS⟩ : ∃ kS, kS = s.heap.objs.size + 1 := ⟨_, rfl⟩
  have szS : ((s.heap.update a (Obj.mapSeq fun _ => (#[] : Array Value))).push (seqObj "tuple" vs.toArray 0)).objs.size = kS := by rw [ekS, size_push', Heap.size_update]
  have nka : kS ≠ a := by rw [ekS]; exact Nat.ne_of_gt (Nat.lt_succ_of_lt la)
  have fk : FpOk X pins H kS := I.fpOk (by rw [ekS]; exact Nat.le_succ _) (I.hok.fresh (by rw [ekS]; exact Nat.le_succ _))
  unfold ksk_tree
  refine wpAny_bind (listItems_at ho rfl ?_)
  refine wpAny_bind (listUpdate_at ho rfl ?_ (by rw [List.size_toArray]; exact hz) (Nat.zero_le _))
  refine wpAny_bind (seqEpoch_at ho1 rfl ?_)
  refine wpAny_bind (wpAny_newTuple ?_ (by show vs.length ≤ _; exact hz))
  refine wpAny_bind (wpAny_newList ?_ (Nat.zero_le _))
  refine wpAny_holding ?_
  rw [szS]
  have old : ∀ b u, b ≠ a → s.heap.get? b = some u → (PySem.W.sortingHeap s.heap a vs).get? b = some u := fun b u nb e => PySem.W.sortingHeap_old nb e
  have atA : (PySem.W.sortingHeap s.heap a vs).get? a = some (seqObj "list" #[] e1) := Heap.get?_push_of_some _ (Heap.get?_push_of_some _ ho1)
  have atK : (PySem.W.sortingHeap s.heap a vs).get? kS = some (seqObj "list" #[] 0) := by
    unfold PySem.W.sortingHeap
    rw [← szS]
    exact Heap.get?_push_size _ rfl
  have I1 : L2.Inv X ((a, seqObj "list" #[] e1) :: (kS, seqObj "list" #[] 0) :: pins) σ H { s with heap := PySem.W.sortingHeap s.heap a vs } := by
    obtain ⟨f0, f1, f2, f3, f4, f5⟩ := fa
    have T := I.turned (t' := s.toks) (it := a) (h' := PySem.W.sortingHeap s.heap a vs) (fun b u nb e => old b u nb e) f0 f1 f3 f4 f5
    refine T.pins_of fun p hp => ?_
    rcases List.mem_cons.mp hp with z | z
    · subst z; exact ⟨atA, f0, f1, f2, seqObj_nc _ _ _⟩
    · rcases List.mem_cons.mp z with z | z
      · subst z; exact ⟨atK, fk.1, fk.2.1, fk.2.2.1, seqObj_nc _ _ _⟩
      · exact T.pin p (List.mem_append_right _ z)
  show wpAny (model X.prog X.w) A' (ksk_rest a (.ref f) false vs.toArray e1 (.ref kS)) P E' { s with heap := PySem.W.sortingHeap s.heap a vs }
  unfold ksk_rest
  refine wpAny_bind (wpAny_rule ?_)
  first
    | rw [List.forIn_toArray]
    | (rw [← Array.forIn_toList]; simp only [List.toList_toArray])
    | rw [← Array.forIn_toList]
  refine wpAny_bind (ksk_fold (fun j s' => ∃ (H' : Hp) (ys : List V) (kA : Array Value) (e : Nat), L2.Inv X ((a, seqObj "list" #[] e1) :: (kS, seqObj "list" kA e) :: pins) σ H' s' ∧ Vals ys kA.toList ∧ kA.size = j ∧ J j H' ys) vs 0 _
    ⟨H, [], #[], 0, I1, .nil, rfl, h0⟩ ?step ?done)
  case step =>
    rintro j x s' hx ⟨H', ys, kA, e, I', rk, hsz, hJ⟩
    simp only [Nat.zero_add] at hsz hJ ⊢
    have lj : j < vs.length := (List.getElem?_eq_some_iff.mp hx).1
    refine wpAny_bind (wpAny_attempt (wpAny_mono (turn j x _ H' s' ys hx (List.mem_cons_of_mem _ (List.mem_cons_of_mem _ hf)) I' hJ) (fun v s'' q => ?_) fun _ _ q => q.elim))
    obtain ⟨H'', y, I'', ry, hJ''⟩ := q
    have pk := I''.pin (kS, seqObj "list" kA e) (List.mem_append_right _ (List.mem_cons_of_mem _ List.mem_cons_self))
    obtain ⟨c2, hc2⟩ : ∃ c2, (s''.heap.update kS (Obj.mapSeq (·.push v))).get? kS = some (seqObj "list" (kA.push v) c2) := ⟨_, get?_update_seq pk.1 (·.push v)⟩
    refine wpAny_bind (listUpdate_at pk.1 rfl ?_ (by rw [hsz]; exact Nat.le_trans (Nat.le_of_lt lj) hz) (by rw [Array.size_push, hsz]; exact Nat.succ_le_succ (Nat.le_trans (Nat.le_of_lt lj) hz)))
    refine wpAny_pure ⟨rfl, H'', ys ++ [y], kA.push v, c2, ?_, ?_, by rw [Array.size_push, hsz], by simpa using hJ''⟩
    · refine repin (p1 := [(a, seqObj "list" #[] e1)]) (p2 := pins) I'' (fp_at fk pk.2.1 fun p hp => ?_) (Heap.SameBut.update _ _ _) hc2 (seqObj_nc _ _ _)
      rcases List.mem_append.mp hp with z | z
      · right
        have : p = (a, seqObj "list" #[] e1) := by simpa using z
        rw [this]
        exact fun z => nka z.symm
      · exact .inl z
    · rw [Array.toList_push]
      exact rk.append (.cons ry .nil)
  case done =>
    rintro s' ⟨H', ys, kA, e, I', rk, hsz, hJ⟩
    simp only [Nat.zero_add] at hsz hJ
    have pa := I'.pin (a, seqObj "list" #[] e1) (List.mem_append_right _ List.mem_cons_self)
    have pk := I'.pin (kS, seqObj "list" kA e) (List.mem_append_right _ (List.mem_cons_of_mem _ List.mem_cons_self))
    have I0 : L2.Inv X pins σ H' s' := I'.pins_of fun p hp => I'.pin p (List.mem_append_right _ (List.mem_cons_of_mem _ (List.mem_cons_of_mem _ hp)))
    obtain ⟨kz, z1, z2, z3, z4, z5⟩ := fin H' ys kA.toList s' I0 pa.2.1 rk (by rw [Array.length_toList, hsz]) hJ
    refine wpAny_bind (listItems_at pk.1 rfl ?_)
    obtain ⟨G, g1, g2⟩ := restrict s'.heap fun b => decide (b ≠ kS)
    have kp : PySem.W.KeepsBut a G s'.heap := fun b o nb q => by
      by_cases hb : b = kS
      · rw [g2 b (by simp [hb])] at q; cases q
      · rw [g1 b (by simp [hb])] at q; exact q
    refine PySem.W.keyH_end (κ := PySem.W.dataKind s'.heap kz) (h₁ := G) kp (g2 kS (by simp)) pk.1 pa.1 nka (PySem.W.SortsAt.data z4 z1 z2 z3) hsz hz fun h' tk c k3 n3 => ?_
    refine z5 _ ⟨s'.heap, kA.toList, z1, rfl, z4⟩ h' tk c n3 fun o new => ?_
    obtain ⟨_, a1, a2, a3, a4, a5⟩ := fa
    obtain ⟨_, b1, b2, b3, b4, b5⟩ := fk
    have ko : ∀ b u, b ≠ a → b ≠ kS → s'.heap.get? b = some u → h'.get? b = some u := fun b u n1 n2 q => k3 b u n1 (by rw [g1 b (by simp [n2])]; exact q)
    have nt : ∀ b u, H' b = some u → b ≠ a ∧ b ≠ kS := fun b u q => ⟨fun z => (by rw [z, pa.2.1] at q; cases q), fun z => (by rw [z, pk.2.1] at q; cases q)⟩
    have nc : ∀ b, b ∉ [a, kS] → b ≠ a ∧ b ≠ kS := fun b q => by simpa using q
    refine I0.step (g' := s'.gens) (d' := s'.drawn) (ch := [a, kS]) (fun b hb => ?_) (fun b u _ _ hc q _ => ko b u (nc b hc).1 (nc b hc).2 q) (fun b u _ _ hc q _ => ⟨u.slots, ko b u (nc b hc).1 (nc b hc).2 q⟩) (fun b u hc q n => by rw [upd_ne (nc b hc).1]; exact n)
      (fun b u hc q => ⟨u, ko b u (nc b hc).1 (nc b hc).2 q⟩) (fun b xs q => by rw [upd_ne (nt b _ q).1]; exact q) (fun b u xs q => by rw [upd_ne (nt b _ q).1]; exact q) (fun b ps q => ⟨#[], by rw [upd_ne (nt b _ q).1, q]; simp⟩) (fun m hm => ?_) (fun b u q => ?_) I0.bare
    · have hb' : b = a ∨ b = kS := by simpa using hb
      rcases hb' with z | z
      · rw [z]; exact ⟨a3, a1, a4, a5⟩
      · rw [z]; exact ⟨b3, b1, b4, b5⟩
    · obtain ⟨ob, es, ep, q, r⟩ := hm
      exact ⟨ob, es, ep, ko _ ob (Ne.symm a1) (Ne.symm b1) q, r⟩
    · by_cases hb : b = a
      · subst hb
        rw [upd_same] at q
        cases q
        exact new
      · rw [upd_ne hb] at q
        refine (I0.hok b u q).stay (fun c v hc z => ko c v ?_ ?_ z) (fun c z => ?_) fun c xs z => ?_
        · rcases hc with e | e
          · rw [e]; exact hb
          · exact (nt c _ e).1
        · rcases hc with e | e
          · rw [e]; exact (nt b _ q).2
          · exact (nt c _ e).2
        · rw [upd_ne (nt c _ z).1]; exact z
        · rw [upd_ne (nt c _ z).1]; exact z
end
end Mt
end
section
set_option linter.all false
set_option autoImplicit false
set_option maxRecDepth 100000
set_option maxHeartbeats 4000000
/-! MtL3: a lambda of one parameter is called; sorted(a, key=lambda x: b). -/
namespace Mt
open PySem PySem.Spec PyProof.Rows L2
/-- a lambda as a made function: no statements -/
def lamF (q : Str) (params : Arguments) (scope : Scope) (cl : List (Str × Addr)) (c' : Addr) : NdefX.NF := ⟨"<lambda>", q, params, [], scope, cl, c'⟩
abbrev EF : XK := fun _ _ _ => False
abbrev lamX (P : Program) (w : World) (K : PySem.W.Frag) (mg : Str → Option Value) (base : Heap) (N : List Str) (q : Str) (params : Arguments) (scope : Scope) (cl : List (Str × Addr)) (c' f : Addr) (A : Around) (outer : List PySem.Env) (s : Shared) (H : Hp) : Cx :=
  NdefX.ncx (L2.CX P w) P w K mg base N (lamF q params scope cl c') f A outer s H EF
section
variable {P : Program} {w : World} {K : PySem.W.Frag} {mg : Str → Option Value} {base : Heap} {N fr : List Str} {q p0 : Str} {params : Arguments} {body : Expr} {scope : Scope} {cl : List (Str × Addr)} {pm ctv : Value} {c' f : Addr} {k : Nat}
theorem lam_call {tb : TE} {A : Around} {outer : List PySem.Env} {s : Shared} {H : Hp} {u : Value} {x : V} {ws : List (Option V)} {Q : VK} (S : NdefX.NScope N [p0] fr scope) (hr : Room (k + 1) A) (e0 : Env0 P w K mg base A outer s H)
    (ho : s.heap.get? f = some (PySem.W.kla_obj "<lambda>" q params body scope cl pm c' ctv)) (hc : H c' = some (LamX.CodeO c' q)) (C : NdefX.CellsAt cl fr ws s.heap H) (rx : RelV x u)
    (hb : ∀ (pm cv ctv u : Value), bindArgs (PySem.W.kla_fn "<lambda>" q params body scope cl pm cv ctv) ⟨[u], []⟩ = pure [(p0, u)])
    (hbody : Room k (A.deeper (NdefX.envF (lamF q params scope cl c') f s.heap.objs.size)) → PE (lamX P w K mg base N q params scope cl c' f A outer s H) body tb) (hq : tb (NdefX.startF N [x] ws) H Q) :
    codeAny (model P w) A (.call (.ref f) ⟨[u], []⟩) (CR (L2.CX P w) outer P w H s Q EF) s := by
  have lim : s.heap.NoLimit := e0.mod.nolimit.keeps fun b o e => (e0.bs b o e).1
  obtain ⟨⟨oc, vs, t, g1, g2, g3⟩, _, _⟩ := e0.hok c' _ hc
  refine PySem.W.kla_callFunE hr.depth ho rfl S.co S.gen rfl ⟨c', oc, vs, t, rfl, g1, g2, g3⟩ ?_
  rw [hb]
  refine wpAny_pure (wpAny_newFunctionEnv S.nocell (fun ⟨n, _⟩ hy => by
      have e : n = p0 := by simpa using (List.mem_singleton.mp hy |> congrArg Prod.fst)
      subst e
      exact S.par _ (List.mem_singleton.mpr rfl)) (fun h₁ hns hsb => ⟨lim.fresh _ hsb, ?_⟩) S.kind)
  have kp : ∀ b o, s.heap.get? b = some o → h₁.get? b = some o := fun b o e => hsb.extBut b o (Nat.ne_of_lt (Heap.lt_size e)) (Heap.get?_push_of_some _ e)
  have J : L2.Inv (lamX P w K mg base N q params scope cl c' f A outer s H) [] (NdefX.startF N [x] ws) H { s with heap := h₁, toks := s.toks + 1 } :=
    NdefX.inv_startN (ps := [p0]) (us := [u]) S hr.hd e0 rfl (.cons rx .nil) C hns kp
  show codeAny _ _ (.expr body (NdefX.envF (lamF q params scope cl c') f s.heap.objs.size)) _ _
  refine PySem.W.kla_codeExpr (wpAny_mono ((hbody (hr.deeper _)).run [] _ _ H Q J hq) (fun v s' z => ?_) fun e s' z => z)
  obtain ⟨y, H', J', ry, z⟩ := z
  exact ⟨y, H', J'.os, J'.bare, J'.base, J'.hok, ry, z⟩
end
/-- the evaluator's sort of pairs (key, item) -/
theorem isort_key {z : List (D × D)} (h : sortOk (z.map (·.1)) = true) : isortK z = z.mergeSort (PySem.W.dataLe false fun p => toPy p.1) := by
  rw [isortK_by]
  have e1 : isortBy (fun a b : D × D => !ltD b.1 a.1) z = isortBy (PySem.W.dataLe false fun p : D × D => toPy p.1) z := isortBy_congr fun a ha b hb => by
    have l := lt_le h a.1 (List.mem_map_of_mem ha) b.1 (List.mem_map_of_mem hb)
    rw [l, PySem.W.dataLe_eq, PySem.W.dataLe_eq]
  rw [e1]
  exact isortBy_eq (le_tt _).1 (le_tt _).2 z
end Mt
end
section
set_option linter.all false
set_option autoImplicit false
set_option maxRecDepth 100000
set_option maxHeartbeats 4000000
/-! MtL4: the rule: sorted(a, key=lambda x: b). -/
namespace Mt
open PySem PySem.Spec PyProof.Rows L2
/-- the def's table of code objects -/
def TabOk (X : Cx) (t : Nat × List Nat) : Prop := t.2 = [] ∨ ∃ c, X.env.code = .ref c ∧ LamX.TabB X.base X.mg c t.1 ∧ SS t.2 = X.env.qual ++ "<lambda>"
theorem mapR_cons {f : D → Mem → R D} {d : D} {r ks : List D} {m mE : Mem} (h : mapR f (d :: r) m = .ok ks mE) : ∃ k m1 rest, f d m = .ok k m1 ∧ mapR f r m1 = .ok rest mE ∧ ks = k :: rest := by
  simp only [mapR] at h
  split at h
  · rename_i x m' e
    split at h
    · rename_i xs m'' e2
      cases h
      exact ⟨x, m', xs, e, e2, rfl⟩
    · cases h
    · cases h
  · cases h
  · cases h
theorem mapR_len {f : D → Mem → R D} : ∀ {r ks : List D} {m mE : Mem}, mapR f r m = .ok ks mE → ks.length = r.length
  | [], ks, m, mE, h => by simp only [mapR, R.ok.injEq] at h; rw [← h.1]
  | d :: r, ks, m, mE, h => by
    obtain ⟨k, m1, rest, _, h2, rfl⟩ := mapR_cons h
    simp [mapR_len h2]
theorem mapR_ne {f : D → Mem → R D} : ∀ (r : List D) (m : Mem) (c : Nat) (fs : List D) (m' : Mem), mapR f r m ≠ .exc c fs m'
  | [], m, c, fs, m', h => by simp [mapR] at h
  | d :: r, m, c, fs, m', h => by
    simp only [mapR] at h
    split at h
    · split at h
      · cases h
      · rename_i e
        exact mapR_ne _ _ _ _ _ e
      · cases h
    · cases h
    · cases h
theorem slots_env {ρ : Rho} {H : Hp} {e : Mt.Env} {σ : L2.St} (he : EnvR ρ H e σ) : ∀ {fr : List Nat} {fs : List (Option D)}, slots e fr = some fs → fs.length = fr.length ∧ ∀ (i : Nat) (d : D), fs[i]? = some (some d) → ∃ v, (fr.map (NdefX.slotAt σ))[i]? = some (some v) ∧ Rep ρ H d v
  | [], fs, h => by
    simp only [slots, Option.some.injEq] at h
    subst h
    exact ⟨rfl, fun i d q => by simp at q⟩
  | j :: r, fs, h => by
    simp only [slots] at h
    split at h
    · rename_i d ds e1 e2
      cases h
      obtain ⟨h1, h2⟩ := slots_env he e2
      refine ⟨by simp [h1], fun i d' q => ?_⟩
      cases i with
      | zero =>
        simp only [List.getElem?_cons_zero, Option.some.injEq] at q
        subst q
        obtain ⟨v, k1, k2⟩ := he.2 j _ e1
        exact ⟨v, by simp [NdefX.slotAt_of k1], k2⟩
      | succ i =>
        simp only [List.getElem?_cons_succ] at q
        obtain ⟨v, k1, k2⟩ := h2 i d' q
        exact ⟨v, by simpa using k1, k2⟩
    · cases h
theorem lam_env {ρ : Rho} {H : Hp} {d : D} {x : V} {fs : List (Option D)} {ws : List (Option V)} {N : List Str} (hl : fs.length = ws.length) (hN : N.length = fs.length + 1) (h : ∀ (i : Nat) (d : D), fs[i]? = some (some d) → ∃ v, ws[i]? = some (some v) ∧ Rep ρ H d v) (r : Rep ρ H d x) :
    EnvR ρ H (some d :: fs) (NdefX.startF N [x] ws) := by
  have z : N.length - 1 - ws.length = 0 := by omega
  refine ⟨by unfold NdefX.startF; simp; omega, fun i d' q => ?_⟩
  unfold NdefX.startF
  cases i with
  | zero =>
    simp only [List.getElem?_cons_zero, Option.some.injEq] at q
    subst q
    exact ⟨x, rfl, r⟩
  | succ i =>
    simp only [List.getElem?_cons_succ] at q
    obtain ⟨v, k1, k2⟩ := h i d' q
    refine ⟨v, ?_, k2⟩
    show (ws ++ List.replicate (N.length - 1 - ws.length) none)[i]? = _
    rw [z]
    simpa using k1
theorem each_map {R : Value → PyData → Prop} {f : D → PyData} : ∀ {us : List Value} {ds : List D}, PySem.W.EachIs (fun u d => R u (f d)) us ds → PySem.W.EachIs R us (ds.map f)
  | _, _, .nil => .nil
  | _, _, .cons h t => .cons h (each_map t)
theorem each_zip {ρ : Rho} {H : Hp} : ∀ {us : List Value} {vs : List V} {zs ks : List D}, Vals vs us → Reps ρ H zs vs → ks.length = zs.length → PySem.W.EachIs (fun u (p : D × D) => ∃ v, RelV v u ∧ Rep ρ H p.2 v) us (ks.zip zs)
  | _, _, _, [], .nil, .nil, _ => .nil
  | _, _, _, k :: ks, .cons a t, .cons b r, h => .cons ⟨_, a, b⟩ (each_zip t r (by simpa using h))
  | _, _, _, _ :: _, .nil, .nil, h => by simp at h
  | _, _, _, [], .cons _ _, .cons _ _, h => by simp at h
theorem each_back2 {ρ : Rho} {H : Hp} : ∀ {us : List Value} {ds : List (D × D)}, PySem.W.EachIs (fun u (p : D × D) => ∃ v, RelV v u ∧ Rep ρ H p.2 v) us ds → ∃ vs, Vals vs us ∧ Reps ρ H (ds.map (·.2)) vs
  | _, _, .nil => ⟨[], .nil, .nil⟩
  | _, _, .cons ⟨v, h1, h2⟩ t => let ⟨vs, h3, h4⟩ := each_back2 t; ⟨v :: vs, .cons h1 h3, .cons h2 h4⟩
theorem natsEq_sound : ∀ {a b : List Nat}, natsEq a b = true → a = b
  | [], [], _ => rfl
  | [], _ :: _, h => by cases h
  | _ :: _, [], h => by cases h
  | x :: xs, y :: ys, h => by
    unfold natsEq at h
    split at h
    · rename_i e
      rw [Nat.eq_of_beq_eq_true e, natsEq_sound h]
    · cases h
section
variable {X : Cx} {C : Cls} {W : WX} {ea : Expr} {fa kf : Mt.X} {p pos kpos lpos : Pos} {params : Arguments} {body : Expr} {scope : Scope} {tb : Nat × List Nat} {N fr : List Str} {p0 : Str} {js : List Nat} {k : Nat}
theorem px_sortK (hg : Gl X "sorted") (hm0 : X.mg "sorted" = none) (hr : tb.2 ≠ [] → Room (k + 3) X.A) (tab : TabOk X tb) (ha : PE X ea (tX C W fa)) (hta : tame ea = true)
    (S : NdefX.NScope N [p0] fr scope) (hN : N.length = fr.length + 1) (hdef : defaultsOf params X.env = ([], [])) (hbd : ∀ (q : Str) (cl : List (Str × Addr)) (pm cv ctv u : Value), bindArgs (PySem.W.kla_fn "<lambda>" q params body scope cl pm cv ctv) ⟨[u], []⟩ = pure [(p0, u)])
    (hfree : ∀ y ∈ scope.names, y.2 = .free → X.env.scope.names.lookup y.1 = some .cell ∨ X.env.scope.names.lookup y.1 = some .free) (hfr : ∀ y ∈ fr, (y, NameKind.free) ∈ scope.names) (hjs : js.map (fun j => X.N[j]?) = fr.map some)
    (hbody : tb.2 ≠ [] → ∀ (q : Str) (cl : List (Str × Addr)) (c' f : Addr) (A : Around) (outer : List PySem.Env) (s : Shared) (H : Hp), Room k (A.deeper (NdefX.envF (lamF q params scope cl c') f s.heap.objs.size)) → PE (lamX X.prog X.w X.K X.mg X.base N q params scope cl c' f A outer s H) body (tX C WF kf)) :
    PE X (.Call (.Name "sorted" p) [ea] [⟨some "key", .Lambda params body scope lpos, kpos⟩] pos) (tX C W (xSortK tb kf fa js)) := by
  refine ⟨fun pins s σ H Q I h => ?_⟩
  have h1 : tX C W fa σ H fun v H' => ∃ ρ e d m, EnvR ρ H' e σ ∧ HR ρ m H' ∧ Rep ρ H' d v ∧ Post C ρ H' (match listOf m d with
    | some xs => match (if m.any (isTab tb) then slots e js else none) with
      | some fs => (mapR (fun d m => kf (some d :: fs) m) xs m).bind fun ks m => if sortOk ks then .ok (.lst ((isortK (ks.zip xs)).map (·.2))) m else .bad 76
      | none => .bad 77
    | none => .bad 78) Q (fun cv d H' => W cv d σ H') := tX.bind (g := fun e x m => match listOf m x with
    | some xs => match (if m.any (isTab tb) then slots e js else none) with
      | some fs => (mapR (fun d m => kf (some d :: fs) m) xs m).bind fun ks m => if sortOk ks then .ok (.lst ((isortK (ks.zip xs)).map (·.2))) m else .bad 76
      | none => .bad 77
    | none => .bad 78) h
  refine wpAny_Call_Name_kw (ld_blt I hg hm0 PyProof.Rows.boot_sorted ?_ (by decide) (by decide))
  have pa := pa_cons ha pa_nil (tame_star hta _ _)
  refine PyProof.Rows.callWith_kw (thn (pa.run pos pins s σ H (fun vs H' => ∃ v, vs = [v] ∧ ∃ ρ e d m, EnvR ρ H' e σ ∧ HR ρ m H' ∧ Rep ρ H' d v ∧ Post C ρ H' (match listOf m d with
    | some xs => match (if m.any (isTab tb) then slots e js else none) with
      | some fs => (mapR (fun d m => kf (some d :: fs) m) xs m).bind fun ks m => if sortOk ks then .ok (.lst ((isortK (ks.zip xs)).map (·.2))) m else .bad 76
      | none => .bad 77
    | none => .bad 78) Q (fun cv d H' => W cv d σ H')) I (tX.mono h1 fun v H' q => ⟨v, rfl, q⟩)) fun us s1 ⟨vs, H1, I1, r1, v, ev, ρ, e, d, m, he, hm, rd, q⟩ => ?_) (by rw [tame_star hta]; rfl) (by rw [tame_star hta]; rfl) rfl rfl
  subst ev
  -- what the evaluator says
  split at q
  case h_2 => exact q.elim
  rename_i zs ez
  split at q
  case h_2 => exact q.elim
  rename_i fs efs
  split at efs
  case isFalse => cases efs
  rename_i hany
  obtain ⟨KS, mE, eK, q⟩ : ∃ KS mE, mapR (fun d m => kf (some d :: fs) m) zs m = .ok KS mE ∧ Post C ρ H1 (if sortOk KS then .ok (.lst ((isortK (KS.zip zs)).map (·.2))) mE else .bad 76) Q (fun cv d H' => W cv d σ H') := by
    cases eK : mapR (fun d m => kf (some d :: fs) m) zs m with
    | ok KS mE => rw [eK] at q; exact ⟨KS, mE, rfl, q⟩
    | bad w => rw [eK] at q; exact q.elim
    | exc c fl m' => exact absurd eK (mapR_ne _ _ _ _ _)
  split at q
  case isFalse => exact q.elim
  rename_i hs
  -- the table
  obtain ⟨o, ho, hto⟩ := List.any_eq_true.mp hany
  obtain ⟨i, hi⟩ := List.mem_iff_getElem?.mp ho
  unfold isTab at hto
  split at hto
  case h_2 => cases hto
  rename_i P0 q0
  simp only [Bool.and_eq_true, Bool.not_eq_true'] at hto
  obtain ⟨⟨eP, eq⟩, ne⟩ := hto
  have eP := Nat.eq_of_beq_eq_true eP
  have eq := natsEq_sound eq
  subst eP eq
  obtain ⟨a0, hi2, rfl, ps, hP, htr, hcs⟩ := hm.obj i _ hi
  have hne : tb.2 ≠ [] := fun z => by rw [z] at ne; cases ne
  have hr := hr hne
  have hbody := hbody hne
  rcases tab with t0 | ⟨cc, hcode, TB, hq⟩
  · rw [t0] at ne; cases ne
  have hfree' : ∀ y ∈ scope.names, y.2 = .free → ∃ c, X.env.cells.lookup y.1 = some c := fun y hy e => (hfree y hy e).elim (fun z => I1.ok.has _ (.inl z)) fun z => I1.ok.has _ (.inr z)
  show wpAny _ _ (evalAll ((do let v ← eval (.Lambda params body scope lpos) X.env; standAt pos; pure v) :: [])) _ _ _
  refine wpAny_evalAll_cons (wpAny_bind (lam_new I1 TB hcode hP ⟨htr, fun p' cv z => let ⟨c, k1, _, k3⟩ := hcs p' cv z; ⟨c, k1, k3⟩⟩ hq hdef hfree' fun f c' pm ctv H2 s2 I2 hH hc' hfo hfn hfy => wpAny_bind (wpAny_standAt (wpAny_pure (wpAny_evalAll_nil ?_)))))
  obtain ⟨x2, hm2, nlc⟩ := tab_ext hm hi2 hi hP htr hcs hH
  show wpAny (model X.prog X.w) X.A (call (.builtin "sorted") us [("key", .ref f)]) (EP X pins σ Q) X.xe s2
  obtain ⟨u, rfl, ru⟩ := vals1 r1
  obtain ⟨l, wsl, rfl, hl, rzs⟩ := list_of hm2 (rd.mono x2) ez
  cases ru
  have he2 := he.mono x2
  obtain ⟨fo, efo⟩ : ∃ fo, fo = PySem.W.kla_obj "<lambda>" (SS tb.2) params body scope (cloFrom X.env.cells scope.names []) pm c' ctv := ⟨_, rfl⟩
  have hfo2 : s2.heap.get? f = some fo := by rw [efo]; exact hfo
  have I3 : L2.Inv X ((f, fo) :: pins) σ H2 s2 := I2.pins_of fun p hp => by
    rcases List.mem_cons.mp hp with z | z
    · subst z
      exact ⟨hfo2, hfn, Nat.ne_of_gt (Nat.lt_of_lt_of_le I1.lt hfy), I1.nofs hfy, fun v z => by rw [efo] at z; cases z⟩
    · exact I2.pin p (List.mem_append_right _ z)
  obtain ⟨its, rv, pl, hz⟩ := I3.list (.inl (.inl hl))
  have lw : wsl.length = its.length := rv.length
  have hz' : its.length ≤ sizeLine := by rw [← lw]; exact hz
  have lz : zs.length = its.length := rzs.length.trans lw
  have lK := mapR_len eK
  have I4 : L2.Inv X ((f, fo) :: pins) σ H2 { s2 with heap := PySem.W.copyHeap s2.heap its } := I3.kept (t' := s2.toks) fun b u e => PySem.W.copyHeap_old e
  obtain ⟨h2, h3, h4, h5⟩ := sortOk_of hs
  refine PySem.W.sorted_of_sort (vs := its) (kw := [(Str.ofString "key", .ref f)]) pl.isList hz' (ksk_s1 _ _) (fun x => ksk_l1 _ _) fun E' => ?_
  rw [ksk_t1]
  refine tree_run (fo := fo) (fun j H' ys => ∃ ρ' m' ks, Ext ρ H2 ρ' H' ∧ HR ρ' m' H' ∧ Reps ρ' H' ks ys ∧ ks.length = j ∧ ∃ rest, mapR (fun d m => kf (some d :: fs) m) (zs.drop j) m' = .ok rest mE ∧ ks ++ rest = KS) I4 List.mem_cons_self
    (I3.fpOk (Nat.le_succ _) (I3.hok.fresh (Nat.le_succ _))) (PySem.W.copyHeap_at s2.heap its) hz' ⟨ρ, m, [], Ext.refl _ _, hm2, .nil, rfl, KS, by simpa using eK, rfl⟩ ?turn ?fin
  case turn =>
    rintro j u pins' H' s' ys hu hfm I' ⟨ρ', m', ks, x', hm', rks, hks, rest, eR, eS⟩
    have lj : j < its.length := (List.getElem?_eq_some_iff.mp hu).1
    have lj2 : j < zs.length := by omega
    have hd : zs[j]? = some zs[j] := List.getElem?_eq_getElem lj2
    rw [List.drop_eq_getElem_cons lj2] at eR
    obtain ⟨y, m1, rest', ey, eR', rfl⟩ := mapR_cons eR
    obtain ⟨w, hw, rw'⟩ := rzs.at hd
    obtain ⟨u', hu', rwu⟩ := rv.get hw
    rw [hu] at hu'
    cases hu'
    have pf := I'.pin (f, fo) (List.mem_append_right _ hfm)
    have hc2 : H' c' = some (LamX.CodeO c' (SS tb.2)) := (x'.keep c' _ hc' nlc).1
    have CC := NdefX.cells_of I' (NdefX.Caps.made I'.ok hfree hfr hjs)
    have e0 := I'.env0
    have e1 : Env0 X.prog X.w X.K X.mg X.base X.A.in1.in1 X.stack s' H' := ⟨e0.frames, e0.mod, e0.bs, e0.bsz, e0.funs, e0.frf, e0.hok, e0.bare⟩
    obtain ⟨sl1, sl2⟩ := slots_env (he2.mono x') efs
    have ljs : js.length = fr.length := by simpa using congrArg List.length hjs
    have rc := lam_call (tb := tX C WF kf) (Q := fun v H'' => ∃ ρ'', Ext ρ' H' ρ'' H'' ∧ HR ρ'' m1 H'' ∧ Rep ρ'' H'' y v) S hr.in1.in1 e1 (by rw [← efo]; exact pf.1) hc2 CC rwu (hbd _ _) (fun hrr => hbody _ _ _ _ _ _ _ _ hrr)
      ⟨ρ', some zs[j] :: fs, m', lam_env (by rw [List.length_map]; exact sl1) (by omega) sl2 (rw'.mono x'), hm', by
        have ey : kf (some zs[j] :: fs) m' = .ok y m1 := ey
        rw [ey]
        exact fun ρ'' H'' v a b c => ⟨ρ'', a, b, c⟩⟩
    refine wpAny_call (codeAny_mono rc fun r s'' hq => ?_)
    cases r with
    | error e =>
      obtain ⟨_, _, _, _, _, _, _, _, _, _, _, _, z⟩ := hq
      exact z
    | ok fl =>
      cases fl with
      | next => exact False.elim hq
      | brk => exact False.elim hq
      | cont => exact False.elim hq
      | ret v =>
        obtain ⟨vv, H'', I'', rr, ρ'', x'', hm'', ry⟩ := I'.after hq
        exact ⟨H'', vv, I'', rr, ρ'', m1, ks ++ [y], x'.trans x'', hm'', (rks.mono x'').append (.one ry), by simp [hks], rest', eR', by rw [← eS]; simp⟩
  case fin =>
    rintro H' ys us s' I' ha' rk hlen ⟨ρ', m', ks, x', hm', rks, hks, rest, eR, eS⟩
    have dz : zs.drop its.length = [] := List.drop_eq_nil_of_le (by omega)
    rw [dz] at eR
    simp only [mapR, R.ok.injEq] at eR
    obtain ⟨rfl, rfl⟩ := eR
    rw [List.append_nil] at eS
    subst eS
    obtain ⟨e1, e2⟩ := eachs I' rks rk h4
    refine ⟨ks.map toPy, fun d hd d' hd' => ?_, h3, fun d hd => ?_, each_map e2, fun out ko h' tk c hn mk => ?_⟩
    · obtain ⟨x, hx, rfl⟩ := List.mem_map.mp hd
      obtain ⟨y, hy, rfl⟩ := List.mem_map.mp hd'
      exact alike_py x y (h2 x hx y hy)
    · obtain ⟨x, hx, rfl⟩ := List.mem_map.mp hd
      rw [deep_py]
      have := List.all_eq_true.mp h4 x hx
      unfold fit at this
      rw [Bool.and_eq_true, Nat.ble_eq] at this
      have hu := hr.un
      show X.A.units + 1 + 1 + deep x < cLine
      omega
    · have rzs' := rzs.mono x'
      have hR : PySem.W.EachIs (fun u (p : D × D) => ∃ v, RelV v u ∧ Rep ρ' H' p.2 v) its (ks.zip zs) := each_zip rv rzs' (by omega)
      have ek : (ks.zip zs).map (fun p => toPy p.1) = ks.map toPy := by
        have : (ks.zip zs).map (·.1) = ks := List.map_fst_zip (by omega)
        conv => rhs; rw [← this]
        rw [List.map_map]
        rfl
      have ez : (ks.zip zs).map (·.1) = ks := List.map_fst_zip (by omega)
      rw [← ek] at ko
      have hlo := ko.length (by simp; omega)
      have k1 := PySem.W.keyedOut_each (fun p : D × D => toPy p.1) ko hR
      rw [← isort_key (by rw [ez]; exact hs)] at k1
      obtain ⟨vs', k2, k3⟩ := each_back2 k1
      have hl' : vs'.length ≤ sizeLine := by rw [k2.length, hlo]; exact hz'
      have I5 := mk (.lst vs') ⟨hl', out, c, k2, hn⟩
      refine ⟨rfl, .ref (s2.heap.objs.size + 1), _, I5.pins_of fun p hp => I5.pin p (List.mem_append_right _ (List.mem_cons_of_mem _ hp)), rfl, ?_⟩
      have xn := Ext.new (o := .lst vs') hm' ha'
      exact q _ _ _ ((x2.trans x').trans xn) (hm'.new ha') (.lst upd_same (hm'.fresh ha') (k3.mono xn))
end
end Mt
end
section
set_option linter.all false
set_option autoImplicit false
set_option maxRecDepth 100000
set_option maxHeartbeats 2000000
/-! MtK1: the check that an expression of the program has a term of MtEv's syntax. -/
namespace Mt
open PySem PySem.Spec PyProof.Rows L2

/-- the text: its defs, its constants -/
structure Txt where
  nms : List Str
  glo : List (Str × Int)
/-- a place: the names, the scope, the block's own scope -/
structure Pl where
  N : List Str
  sc : Scope
  fs : Option Scope
inductive Md where
  | v
  | t
  | i (tg : Expr)
def visB (sc : Scope) (x : Str) : Bool := match sc.names.lookup x with
  | some .local => true
  | some .cell => true
  | some .free => true
  | _ => false
def locB (sc : Scope) (x : Str) : Bool := match sc.names.lookup x with
  | some .local => true
  | some .cell => true
  | _ => false
def lclB (sc : Scope) (x : Str) : Bool := match sc.names.lookup x with
  | some .local => true
  | _ => false
def gloB (sc : Scope) (x : Str) : Bool := match sc.names.lookup x with
  | some .globalImplicit => true
  | _ => false
def fnB (p : Pl) (x : Str) : Bool := (match p.fs with
  | none => true
  | some s => match s.names.lookup x with
    | some .cell => true
    | _ => false) || lclB p.sc x
def okN (x : Str) : Bool := !(x == ("__debug__" : Str)) && !(x == ("__classdict__" : Str)) && !(x == ("__name__" : Str))
def bltN : Bl → Str
  | .len => "len"
  | .sum => "sum"
  | .any => "any"
  | .all => "all"
  | .tuple => "tuple"
  | .list => "list"
  | .int => "int"
  | .str => "str"
  | .min => "min"
  | .max => "max"
  | .sorted => "sorted"
  | .dict => "dict"
  | .ptuple => "tuple"
def bmN : Bm → Str
  | .append => "append"
  | .pop => "pop"
  | .pop1 => "pop"
  | .index => "index"
  | .upper => "upper"
  | .count => "count"
/-- names of built-ins that the text leaves alone -/
def bltNames : List Str := ["len", "sum", "any", "all", "tuple", "list", "int", "str", "bool", "min", "max", "sorted", "dict", "range", "enumerate", "zip", "isinstance"]
def bopIs : Bop → Operator → Bool
  | .add, .Add => true
  | .sub, .Sub => true
  | .mul, .Mult => true
  | .fdiv, .FloorDiv => true
  | .mod, .Mod => true
  | .pow, .Pow => true
  | _, _ => false
def copIs : Cop → CmpOp → Bool
  | .eq, .Eq => true
  | .ne, .NotEq => true
  | .lt, .Lt => true
  | .le, .LtE => true
  | .gt, .Gt => true
  | .ge, .GtE => true
  | .isin, .In => true
  | .notin, .NotIn => true
  | .isnone, .Is => true
  | .notnone, .IsNot => true
  | _, _ => false
def plainT : Expr → Bool
  | .Name .. => true
  | .Call .. => true
  | .Subscript .. => true
  | .Constant .. => true
  | .BinOp .. => true
  | .Tuple .. => true
  | .List .. => true
  | .ListComp .. => true
  | _ => false
def upB (m : Md) (x : Expr) : Bool := tame x && match m with
  | .v => true
  | .t => plainT x
  | .i _ => true
def bltOk : Bl → Bool
  | .str => false
  | _ => true
def bmOk (b : Bm) (es : List Expr) : Bool := match b with
  | .append => !es.isEmpty
  | .index => !es.isEmpty
  | .pop => es.isEmpty
  | .upper => es.isEmpty
  | _ => false
def isTupE : Expr → Bool
  | .Tuple .. => true
  | _ => false
def natsB (x : List Nat) (s : Str) : Bool := decide (s = SS x)
def ckC (d : D) (x : Expr) : Bool := match x with
  | .Constant c _ _ => match c with
    | .none => match d with
      | .non => true
      | _ => false
    | .bool b => match d with
      | .bl c => b == c
      | _ => false
    | .int i => match d with
      | .int j => decide (i = j)
      | _ => false
    | .str s => match d with
      | .str y => natsB y s
      | _ => false
    | _ => false
  | _ => false
def ckN (T : Txt) (i : Nat) (d : D) (p : Pl) (x : Expr) : Bool := match x with
  | .Name n _ => match T.glo[i]? with
    | some (y, j) => match d with
      | .int k => decide (n = y) && decide (j = k) && gloB p.sc n && okN n
      | _ => false
    | none => false
  | _ => false
def ckV (i : Nat) (p : Pl) (x : Expr) : Bool := match x with
  | .Name n _ => decide (p.N[i]? = some n) && visB p.sc n && okN n
  | _ => false
mutual
def ckG : A → Pl → Expr → Bool
  | .tgN i, p, .Name x _ => decide (p.N[i]? = some x) && locB p.sc x && fnB p x
  | .tgT a, p, .Tuple es _ _ => ckGs a p es && es.all tgTame && decide (es.length = tgLen a)
  | _, _, _ => false
def ckGs : A → Pl → List Expr → Bool
  | .nil, _, [] => true
  | .cons a b, p, e :: es => ckG a p e && ckGs b p es && tgTame e
  | _, _, _ => false
end
def ownOf (p : Pl) (vs : List Nat) : List (Str × Nat) := vs.map fun i => ((p.N[i]?).getD "", i)
def inB (p : Pl) (scope : Scope) : Pl := ⟨p.N, relS scope p.sc, some scope⟩
/-- a lambda of one parameter: its names -/
def lamPar (params : Arguments) : Option Str := match params with
  | ⟨[], [⟨x, _, _⟩], none, [], [], none, []⟩ => some x
  | _ => none
def lamFr (p : Pl) (fr : List Nat) : List Str := fr.map fun j => (p.N[j]?).getD ""
def lamP (params : Arguments) (scope : Scope) (p : Pl) (fr : List Nat) : Pl := ⟨(lamPar params).getD "" :: lamFr p fr, scope, some scope⟩
def fsNone (p : Pl) : Bool := match p.fs with
  | none => true
  | some _ => false
def lamB (params : Arguments) (scope : Scope) (p : Pl) (fr : List Nat) : Bool := (lamPar params).isSome && (NdefX.nscB ((lamPar params).getD "" :: lamFr p fr) [(lamPar params).getD ""] (lamFr p fr) scope && ((scope.names.all fun y => match y.2 with
      | .free => (match p.sc.names.lookup y.1 with
        | some .cell => true
        | some .free => true
        | _ => false)
      | _ => true) && (((lamFr p fr).all fun y => scope.names.any fun z => decide (z.1 = y) && decide (z.2 = .free)) && decide (fr.map (fun j => p.N[j]?) = (lamFr p fr).map some))))
def isTrueA : A → Bool
  | .con (.bl true) => true
  | _ => false
def baseB : Expr → Bool
  | .Name .. => true
  | .Subscript .. => true
  | .Constant .. => true
  | .ListComp .. => true
  | _ => false

mutual
def ck (T : Txt) : A → Md → Pl → Expr → Bool
  | .con d, m, p, x => upB m x && ckC d x
  | .glo i d, m, p, x => upB m x && ckN T i d p x
  | .var i, m, p, x => upB m x && ckV i p x
  | .tup a, m, p, x => upB m x && match x with
    | .Tuple es _ _ => ckL T a p es
    | _ => false
  | .lst a, m, p, x => upB m x && match x with
    | .List es _ => ckL T a p es
    | _ => false
  | .cellL a, m, p, x => upB m x && match x with
    | .List es _ => ckL T a p es
    | _ => false
  | .cellB op a b, m, p, x => upB m x && match x with
    | .BinOp y o z _ => bopIs op o && (match op with
      | .add => true
      | .mul => true
      | _ => false) && ck T a .v p y && ck T b .v p z
    | _ => false
  | .cellC el tg it t tg2 it2 t2, m, p, x => upB m x && match x with
    | .ListComp e [⟨tx, ix, fs, 0⟩, ⟨tx2, ix2, fs2, 0⟩] scope _ => blkC p.N p.sc scope (ownOf p (tgSlots tg ++ tgSlots tg2)) && ck T it (.i tx) p ix && tame ix && ckG tg (inB p scope) tx && (match fs with
      | [] => isTrueA t
      | [c] => ck T t .t (inB p scope) c
      | _ => false) && ck T it2 (.i tx2) (inB p scope) ix2 && tame ix2 && ckG tg2 (inB p scope) tx2 && (match fs2 with
      | [] => isTrueA t2
      | [c] => ck T t2 .t (inB p scope) c
      | _ => false) && ck T el .v (inB p scope) e
    | _ => false
  | .dnK, m, p, x => upB m x && match x with
    | .Dict [] [] _ => true
    | _ => false
  | .dnT, m, p, x => upB m x && match x with
    | .Dict [] [] _ => true
    | _ => false
  | .bin op a b, m, p, x => upB m x && match x with
    | .BinOp y o z _ => bopIs op o && ck T a .v p y && ck T b .v p z
    | _ => false
  | .neg a, m, p, x => upB m x && match x with
    | .UnaryOp .USub y _ => ck T a .v p y
    | _ => false
  | .not a, m, p, x => match x with
    | .UnaryOp .Not y _ => (match m with
      | .t => ck T a .t p y
      | m => upB m x && ck T a .v p y)
    | _ => false
  | .and a b, m, p, x => match x with
    | .BoolOp .And (y :: z :: es) _ => (match m with
      | .t => ck T a .t p y && (match es with
        | [] => ck T b .t p z
        | w :: ws => ckB T b true true p (z :: w :: ws))
      | m => upB m x && ck T a .v p y && (match es with
        | [] => ck T b .v p z
        | w :: ws => ckB T b false true p (z :: w :: ws)))
    | _ => false
  | .or a b, m, p, x => match x with
    | .BoolOp .Or (y :: z :: es) _ => (match m with
      | .t => ck T a .t p y && (match es with
        | [] => ck T b .t p z
        | w :: ws => ckB T b true false p (z :: w :: ws))
      | m => upB m x && ck T a .v p y && (match es with
        | [] => ck T b .v p z
        | w :: ws => ckB T b false false p (z :: w :: ws)))
    | _ => false
  | .ite t a b, m, p, x => upB m x && match x with
    | .IfExp c y z _ => ck T t .t p c && ck T a .v p y && ck T b .v p z
    | _ => false
  | .cmp op a b, m, p, x => match x with
    | .Compare y [o] [z] _ => copIs op o && ck T a .v p y && ck T b .v p z && tame z
    | _ => false
  | .chain op op' a b c, m, p, x => match x with
    | .Compare y [o, o'] [z, w] _ => copIs op o && copIs op' o' && ck T a .v p y && ck T b .v p z && ck T c .v p w && tame w
    | _ => false
  | .idx a b, m, p, x => upB m x && match x with
    | .Subscript y z _ => ck T a .v p y && ck T b .v p z && tame z
    | _ => false
  | .dget a b, m, p, x => upB m x && match x with
    | .Subscript y z _ => ck T a .v p y && ck T b .v p z && tame z
    | _ => false
  | .din a b, m, p, x => match x with
    | .Compare y [.In] [z] _ => ck T a .v p y && ck T b .v p z && tame z
    | _ => false
  | .dnin a b, m, p, x => match x with
    | .Compare y [.NotIn] [z] _ => ck T a .v p y && ck T b .v p z && tame z
    | _ => false
  | .sl a lo hi, m, p, x => upB m x && match x with
    | .Subscript y (.Slice (some l) (some h) none _) _ => ck T a .v p y && ck T lo .v p l && ck T hi .v p h
    | _ => false
  | .slL a lo, m, p, x => upB m x && match x with
    | .Subscript y (.Slice (some l) none none _) _ => ck T a .v p y && ck T lo .v p l
    | _ => false
  | .slU a hi, m, p, x => upB m x && match x with
    | .Subscript y (.Slice none (some h) none _) _ => ck T a .v p y && ck T hi .v p h
    | _ => false
  | .call f a, m, p, x => upB m x && match x with
    | .Call (.Name n _) es [] _ => decide (T.nms[f]? = some n) && gloB p.sc n && okN n && ckL T a p es && tames es
    | _ => false
  | .blt b a, m, p, x => upB m x && match x with
    | .Call (.Name n _) (e :: es) [] _ => bltOk b && decide (n = bltN b) && gloB p.sc n && ckL T a p (e :: es) && tames (e :: es)
    | _ => false
  | .isi a ts, m, p, x => upB m x && match x with
    | .Call (.Name n _) [y, .Name c _] [] _ => (match ts with
      | [t] => decide (n = "isinstance") && gloB p.sc n && decide (c = Str.ofString (tyN t)) && gloB p.sc c && ck T a .v p y && tame y
      | _ => false)
    | .Call (.Name n _) [y, .Tuple [.Name c _, .Name c2 _] _ _] [] _ => (match ts with
      | [t, t2] => decide (n = "isinstance") && gloB p.sc n && decide (c = Str.ofString (tyN t)) && gloB p.sc c && decide (c2 = Str.ofString (tyN t2)) && gloB p.sc c2 && ck T a .v p y && tame y
      | _ => false)
    | _ => false
  | .bm b o a, m, p, x => upB m x && match x with
    | .Call (.Attribute y n ap) es [] cp => decide (n = bmN b) && baseB y && (ap.endLine == cp.line) && ck T o .v p y && ckL T a p es && tames es && decide (es.length ≤ 1) && bmOk b es
    | _ => false
  | .rng1 hi, m, p, x => match m with
    | .i _ => (match x with
      | .Call (.Name n _) [y] [] _ => decide (n = "range") && gloB p.sc n && ck T hi .v p y && tame y
      | _ => false)
    | _ => false
  | .rng lo hi, m, p, x => match m with
    | .i _ => (match x with
      | .Call (.Name n _) [y, z] [] _ => decide (n = "range") && gloB p.sc n && ck T lo .v p y && tame y && ck T hi .v p z && tame z
      | _ => false)
    | _ => false
  | .enm a, m, p, x => match m with
    | .i tg => isTupE tg && (match x with
      | .Call (.Name n _) [y] [] _ => decide (n = "enumerate") && gloB p.sc n && ck T a .v p y && tame y
      | _ => false)
    | _ => false
  | .zp a b, m, p, x => match m with
    | .i tg => isTupE tg && (match x with
      | .Call (.Name n _) [y, z] [] _ => decide (n = "zip") && gloB p.sc n && ck T a .v p y && tame y && ck T b .v p z && tame z
      | _ => false)
    | _ => false
  | .lrng lo hi, m, p, x => upB m x && match x with
    | .Call (.Name n _) [.Call (.Name n2 _) [y, z] [] _] [] _ => decide (n = "list") && gloB p.sc n && decide (n2 = "range") && gloB p.sc n2 && ck T lo .v p y && tame y && ck T hi .v p z && tame z
    | _ => false
  | .lc el tg it t, m, p, x => upB m x && match x with
    | .ListComp e [⟨tx, ix, fs, 0⟩] scope _ => blkC p.N p.sc scope (ownOf p (tgSlots tg)) && ck T it (.i tx) p ix && tame ix && ckG tg (inB p scope) tx && (match fs with
      | [] => isTrueA t
      | [c] => ck T t .t (inB p scope) c
      | _ => false) && ck T el .v (inB p scope) e
    | _ => false
  | .lc2 el tg it t tg2 it2 t2, m, p, x => upB m x && match x with
    | .ListComp e [⟨tx, ix, fs, 0⟩, ⟨tx2, ix2, fs2, 0⟩] scope _ => blkC p.N p.sc scope (ownOf p (tgSlots tg ++ tgSlots tg2)) && ck T it (.i tx) p ix && tame ix && ckG tg (inB p scope) tx && (match fs with
      | [] => isTrueA t
      | [c] => ck T t .t (inB p scope) c
      | _ => false) && ck T it2 (.i tx2) (inB p scope) ix2 && tame ix2 && ckG tg2 (inB p scope) tx2 && (match fs2 with
      | [] => isTrueA t2
      | [c] => ck T t2 .t (inB p scope) c
      | _ => false) && ck T el .v (inB p scope) e
    | _ => false
  | .dc k v tg it t, m, p, x => upB m x && match x with
    | .DictComp kx e [⟨tx, ix, fs, 0⟩] scope _ => blkC p.N p.sc scope (ownOf p (tgSlots tg)) && ck T it (.i tx) p ix && tame ix && ckG tg (inB p scope) tx && (match fs with
      | [] => isTrueA t
      | [c] => ck T t .t (inB p scope) c
      | _ => false) && ck T k .v (inB p scope) kx && ck T v .v (inB p scope) e
    | _ => false
  | .frz a, m, p, x => upB m x && ck T a .v p x
  | .nil, m, p, x => false
  | .cons a b, m, p, x => false
  | .tgN i, m, p, x => false
  | .tgT a, m, p, x => false
  | .sortK a fr b, m, p, x => upB m x && match x with
    | .Call (.Name n _) [y] [⟨some kn, .Lambda params body scope _, _⟩] _ => decide (n = "sorted") && (gloB p.sc n && (decide (kn = "key") && (fsNone p && (ck T a .v p y && (tame y && (lamB params scope p fr && ck T b .v (lamP params scope p fr) body))))))
    | _ => false
def ckL (T : Txt) : A → Pl → List Expr → Bool
  | .nil, _, [] => true
  | .cons a b, p, e :: es => ck T a .v p e && ckL T b p es && tame e
  | _, _, _ => false
/-- t: as a test; n: and -/
def ckB (T : Txt) : A → Bool → Bool → Pl → List Expr → Bool
  | .and a b, t, true, p, y :: z :: es => ck T a (if t then .t else .v) p y && (match es with
    | [] => ck T b (if t then .t else .v) p z
    | w :: ws => ckB T b t true p (z :: w :: ws))
  | .or a b, t, false, p, y :: z :: es => ck T a (if t then .t else .v) p y && (match es with
    | [] => ck T b (if t then .t else .v) p z
    | w :: ws => ckB T b t false p (z :: w :: ws))
  | _, _, _, _, _ => false
end
end Mt
end
section
set_option linter.all false
set_option autoImplicit false
set_option maxRecDepth 100000
set_option maxHeartbeats 4000000
/-! MtK2: what the check says is so: expressions. -/
namespace Mt
open PySem PySem.Spec PyProof.Rows L2

/-- the text stands: its defs at level k do what f says -/
structure TxOk (T : Txt) (C : Cls) (call : Nat → List D → Mem → R D) (k : Nat) (P : Program) (w : World) (K : PySem.W.Frag) (mg : Str → Option Value) (base : Heap) : Prop where
  fn : ∀ (i : Nat) (x : Str), T.nms[i]? = some x → ∃ (a : Addr) (fd : FuncData) (ps : List Str), mg x = some (.ref a) ∧ PySem.W.keepIn K (.ref a) = true ∧ Binds K fd ps [] ∧ FnOk P w K mg base (L2.CX P w) k a fd ps (spec C (call i))
  glo : ∀ (i : Nat) (x : Str) (j : Int), T.glo[i]? = some (x, j) → ∃ t, mg x = some (.int j t)
  blt : ∀ x ∈ bltNames, mg x = none
structure GX (T : Txt) (C : Cls) (c : Ctx) (k : Nat) (p : Pl) (W : WX) (X : Cx) : Prop where
  tx : TxOk T C c.call k X.prog X.w X.K X.mg X.base
  N : X.N = p.N
  nd : p.N.Nodup
  sc : X.env.scope = p.sc
  fn : ∀ x, X.fn x = match p.fs with
    | none => true
    | some s => s.names.lookup x == some .cell
  calm : X.calm = true
  room : Room k X.A
  takes : Takes X W
  key : c.tab.2 = [] ∨ ∃ c3 k3, k = k3 + 3 ∧ (∀ b, c.key b = ev c3 b) ∧ TxOk T C c3.call k3 X.prog X.w X.K X.mg X.base ∧ c3.tab.2 = []
  tab : p.fs = none → TabOk X c.tab
section
variable {T : Txt} {C : Cls} {c : Ctx} {k : Nat} {p : Pl} {W : WX} {X : Cx}
theorem GX.blk (G : GX T C c k p W X) (scope : Scope) (s : Shared) (H : Hp) (Ca : Addr) (cl : List (Str × Addr)) (fp : List Addr) : GX T C c k (inB p scope) WF (X.blk s H scope (compEnvC scope cl Ca X.env) fp) :=
  ⟨G.tx, G.N, G.nd, by show relS scope X.env.scope = relS scope p.sc; rw [G.sc], fun x => rfl, G.calm, G.room, fun u s' ⟨a, B, sI, pins, σ, H, cls, d, e, I, nb, up, sky, na, os, ag, w⟩ => w.elim, G.key, fun z => nomatch z⟩
theorem GX.un (G : GX T C c k p W X) : X.A.units + 65 < cLine := by have := G.room.un; omega
theorem visOf (G : GX T C c k p W X) {x : Str} (h : visB p.sc x = true) : Vis X.env.scope x := by
  rw [G.sc]
  unfold visB at h
  unfold Vis
  split at h
  · rename_i e; exact .inl e
  · rename_i e; exact .inr (.inl e)
  · rename_i e; exact .inr (.inr e)
  · cases h
theorem locOf (G : GX T C c k p W X) {x : Str} (h : locB p.sc x = true) : Loc X.env.scope x := by
  rw [G.sc]
  unfold locB at h
  unfold L2.Loc
  split at h
  · rename_i e; exact .inl e
  · rename_i e; exact .inr e
  · cases h
theorem gloOf (G : GX T C c k p W X) {x : Str} (h : gloB p.sc x = true) : Gl X x := by
  unfold Gl Env.kindOf
  rw [G.sc]
  unfold gloB at h
  split at h
  · rename_i e; exact e
  · cases h
theorem fnOf (G : GX T C c k p W X) {x : Str} (h : fnB p x = true) : X.fn x = true ∨ X.env.scope.names.lookup x = some .local := by
  rw [G.fn, G.sc]
  unfold fnB at h
  rw [Bool.or_eq_true] at h
  rcases h with h | h
  · left
    split at h
    · rename_i e; first | (rw [e]; done) | rfl
    · rename_i s e
      (try rw [e])
      (try simp only)
      split at h
      · rename_i e2; rw [e2]; rfl
      · cases h
  · right
    unfold lclB at h
    split at h
    · rename_i e; exact e
    · cases h
theorem okN_of {x : Str} (h : okN x = true) : (x == ("__debug__" : Str)) = false ∧ (x == ("__classdict__" : Str)) = false ∧ x ≠ "__name__" := by
  unfold okN at h
  simp only [Bool.and_eq_true, Bool.not_eq_true'] at h
  refine ⟨h.1.1, h.1.2, fun e => ?_⟩
  have := h.2
  rw [e] at this
  simp at this

/-! ### the modes -/
def Snd (C : Cls) (W : WX) (X : Cx) (m : Md) (x : Expr) (f : Mt.X) : Prop := match m with
  | .v => PE X x (tX C W f)
  | .t => PT X x (tT C W f)
  | .i tg => PI X tg x (tI C W f)
theorem plainT_of {x : Expr} (h : plainT x = true) {env : PySem.Env} (whole : Sem Value) : isTrue x env whole = (do let v ← whole; standAt x.pos; holding [v] (truthy v)) := by
  cases x <;> first | rfl | (simp [plainT] at h)
theorem snd_up {m : Md} {x : Expr} {f : Mt.X} (h : PE X x (tX C W f)) (u : upB m x = true) : Snd C W X m x f := by
  unfold upB at u
  rw [Bool.and_eq_true] at u
  cases m with
  | v => exact h
  | t => exact pt_plain h fun whole => plainT_of u.2 whole
  | i tg => exact pi_val h
theorem PW.pt {x : Expr} {t : TT} (h : PW X x t) : PT X x t := ⟨fun pins s σ H Q I q => h.run _ pins s σ H Q I q⟩

/-! ### the leaves -/
theorem sd_con {d : D} {x : Expr} (h : ckC d x = true) : PE X x (tX C W (xCon d)) := by
  unfold ckC at h
  split at h
  · split at h
    · split at h
      · exact px_non
      · cases h
    · split at h
      · rw [beq_iff_eq] at h
        subst h
        exact px_bl
      · cases h
    · split at h
      · rw [decide_eq_true_eq] at h
        subst h
        exact px_int
      · cases h
    · split at h
      · unfold natsB at h
        rw [decide_eq_true_eq] at h
        subst h
        exact px_str
      · cases h
    · cases h
  · cases h
theorem sd_glo {i : Nat} {d : D} {x : Expr} (G : GX T C c k p W X) (h : ckN T i d p x = true) : PE X x (tX C W (xCon d)) := by
  unfold ckN at h
  split at h
  · split at h
    · rename_i y j e
      split at h
      · simp only [Bool.and_eq_true, decide_eq_true_eq] at h
        obtain ⟨⟨⟨rfl, rfl⟩, h3⟩, h4⟩ := h
        obtain ⟨t, ht⟩ := G.tx.glo _ _ _ e
        exact px_glob (v := .int j) (gloOf G h3) ht ⟨t, rfl⟩ (fun _ _ => .int _) (okN_of h4).1
      · cases h
    · cases h
  · cases h
theorem sd_var {i : Nat} {x : Expr} (G : GX T C c k p W X) (h : ckV i p x = true) : PE X x (tX C W (xVar i)) := by
  unfold ckV at h
  split at h
  · simp only [Bool.and_eq_true, decide_eq_true_eq] at h
    exact px_var (by rw [G.N]; exact h.1.1) (visOf G h.1.2) (okN_of h.2).1 (okN_of h.2).2.1
  · cases h
mutual
theorem sd_G (G : GX T C c k p W X) : ∀ (a : A) (x : Expr), ckG a p x = true → PG X x (gT a)
  | .tgN i, .Name x _, h => by
    simp only [ckG, Bool.and_eq_true, decide_eq_true_eq] at h
    exact pg_n (by rw [G.N]; exact G.nd) (by rw [G.N]; exact h.1.1) (locOf G h.1.2) (fnOf G h.2)
  | .tgT a, .Tuple es _ _, h => by
    simp only [ckG, Bool.and_eq_true, decide_eq_true_eq] at h
    exact pg_t G.calm (sd_Gs G a es h.1.1) h.1.2 h.2
theorem sd_Gs (G : GX T C c k p W X) : ∀ (a : A) (es : List Expr), ckGs a p es = true → PGs X es (gTs a)
  | .nil, [], _ => pgs_n
  | .cons a b, e :: es, h => by
    simp only [ckGs, Bool.and_eq_true] at h
    exact pgs_c (sd_G G a e h.1.1) (sd_Gs G b es h.1.2) h.2
end
end
end Mt
end
section
set_option linter.all false
set_option autoImplicit false
set_option maxRecDepth 100000
set_option maxHeartbeats 2000000
/-! MtS5: lists made by + and *, as cells; methods. -/
namespace Mt
open PySem PySem.Spec PyProof.Rows L2
section
variable {X : Cx} {C : Cls} {W : WX} {fa fb fo : Mt.X}
theorem ok_addC : OpR X (binaryOp .Add) (rOpE C (bCell bAdd)) := by
  intro pins s σ H x y v u Q I rx ry h
  obtain ⟨E, ρ, m, dx, dy, hm, ra, rb, h⟩ := h
  unfold bCell bAdd at h
  split at h
  · exact h.elim
  · split at h <;> exact h.elim
  · split at h <;> exact h.elim
  · split at h
    · rename_i xs ys e1 e2
      obtain ⟨a, vs, rfl, h1, r1⟩ := list_of hm ra e1
      obtain ⟨b, ws, rfl, h2, r2⟩ := list_of hm rb e2
      split at h
      · rename_i hl
        refine op_cat pins s σ H _ _ v u Q I rx ry ⟨a, b, vs, ws, rfl, rfl, h1, h2, ?_, fun p hp => ?_⟩
        · rw [← r1.length, ← r2.length, sizeLine_eq]; simpa [lineN] using hl
        · exact Post.newLC hm h hp (r1.append r2)
      · exact h.elim
    · exact h.elim
theorem ok_mulC : OpR X (binaryOp .Mult) (rOpE C (bCell bMul)) := by
  intro pins s σ H x y v u Q I rx ry h
  obtain ⟨E, ρ, m, dx, dy, hm, ra, rb, h⟩ := h
  unfold bCell bMul at h
  split at h
  · cases rb
    split at h
    · split at h <;> exact h.elim
    · split at h <;> exact h.elim
    · exact h.elim
    · split at h
      · rename_i e
        obtain ⟨a, vs, rfl, h1, r1⟩ := list_of hm ra e
        split at h
        · rename_i hl
          simp only [small63, Bool.and_eq_true, decide_eq_true_eq, Nat.ble_eq, lineN] at hl
          refine op_rep pins s σ H _ _ v u Q I rx ry ⟨_, _, _, rfl, rfl, h1, by omega, by omega, ?_, fun p hp => Post.newLC hm h hp (rep_reps r1 _)⟩
          rw [← r1.length, sizeLine_eq]
          exact hl.2
        · exact h.elim
      · exact h.elim
  · exact h.elim
/-! ### methods -/
theorem base_of {o : Expr} (h : baseB o = true) (n : Str) (env : PySem.Env) (whole : Sem Value) : attributeBase o n env whole = whole := by
  cases o <;> first | rfl | (cases h; done)
theorem few_of {e : Expr} (h : tame e = true) {cpos : Pos} {env : PySem.Env} : ((backTo cpos (starEach [e] env)).all (fun x => !x.1) && (backToKw cpos (keywordEach [] env)).all (fun x => x.1.isSome)
      && decide (([e] : List Expr).length + ([] : List Keyword).length + (if ([] : List Keyword).isEmpty then 0 else 1) < 30)) = true := by
  rw [tame_star h]
  rfl
variable {o e : Expr} {T : String} {id : String} {n : Str} {k : Mem → D → Bool} {g : Mem → D → List D → Mt.R D} {ap cp : Pos}
theorem px_bm (pa : PlainAttrs T) (slot : Slot T n id) (hty : typeOf (.builtin id) = pure (.type "method_descriptor")) (hm : MtR X id (rBmE C g)) (hk : ∀ (ρ : Rho) (H : Hp) (m : Mem) (d : D) (v : V), HR ρ m H → Rep ρ H d v → k m d = true → tyV X.K T v H)
    (ho : PE X o (tX C W fo)) (ha : PA X [e] (tXs C W fa)) (ht : tame e = true) (hb : baseB o = true) (hl : (ap.endLine == cp.line) = true) : PE X (.Call (.Attribute o n ap) [e] [] cp) (tX C W (xBm k g fo fa)) :=
  (pe_bm pa slot hty hm ho ha (base_of hb _ _ _) (few_of ht) hl (tame_star ht _ _) rfl).imp (tBM_of hk)
theorem px_bm0 (pa : PlainAttrs T) (slot : Slot T n id) (hty : typeOf (.builtin id) = pure (.type "method_descriptor")) (hm : MtR X id (rBmE C g)) (hk : ∀ (ρ : Rho) (H : Hp) (m : Mem) (d : D) (v : V), HR ρ m H → Rep ρ H d v → k m d = true → tyV X.K T v H)
    (ho : PE X o (tX C W fo)) (hb : baseB o = true) (hl : (ap.endLine == cp.line) = true) : PE X (.Call (.Attribute o n ap) [] [] cp) (tX C W (xBm k g fo (xCon (.tup [])))) :=
  (pe_bm0 pa slot hty hm ho (base_of hb _ _ _) hl).imp fun σ H Q h => by
    have q := tBM_of (X := X) hk σ H Q h
    exact q.mono fun x H1 ⟨ty, q⟩ => by
      refine ⟨ty, ?_⟩
      obtain ⟨ρ, e, m, he, hm, ds, ed, q⟩ := q
      cases ed
      exact q ρ H1 [] (Ext.refl _ _) hm .nil
end
end Mt
end
section
set_option linter.all false
set_option autoImplicit false
set_option maxRecDepth 100000
set_option maxHeartbeats 8000000
/-! MtK3: what the check says is so: expressions, by induction. -/
namespace Mt
open PySem PySem.Spec PyProof.Rows L2
section
variable {T : Txt} {C : Cls} {c : Ctx} {k : Nat}
theorem sd_bop {X : Cx} {op : Bop} {o : Operator} (h : bopIs op o = true) : OpR X (binaryOp o) (rOpE C (bop op)) := by
  cases op <;> cases o <;> simp [bopIs] at h
  · exact opE fun E => ok_add
  · exact opE fun E => ok_sub
  · exact opE fun E => ok_mul
  · exact opE fun E => ok_fdiv
  · exact opE fun E => ok_mod
  · exact opE fun E => ok_pow
theorem sd_cop {X : Cx} {op : Cop} {o : CmpOp} (hu : X.A.units + 65 < cLine) (h : copIs op o = true) : OpR X (compareOp o) (rOpE C (cop op)) := by
  cases op <;> cases o <;> simp [copIs] at h
  · exact opE fun E => ok_eq (by omega)
  · exact opE fun E => ok_ne (by omega)
  · exact opE fun E => ok_lt (by omega)
  · exact opE fun E => ok_le
  · exact opE fun E => ok_gt
  · exact opE fun E => ok_ge
  · exact opE fun E => ok_in hu
  · exact opE fun E => ok_notin hu
  · exact opE fun E => ok_isN
  · exact opE fun E => ok_notN
theorem own_fst {p : Pl} {vs : List Nat} : (ownOf p vs).map (·.2) = vs := by
  unfold ownOf
  rw [List.map_map]
  exact List.map_id' vs
theorem isTrueA_of {t : A} (h : isTrueA t = true) : t = .con (.bl true) := by
  unfold isTrueA at h
  split at h
  · rfl
  · cases h
theorem sd_ifs {X : Cx} {p : Pl} {W : WX} {t : A} {fs : List Expr} (h : (match fs with
      | [] => isTrueA t
      | [c] => ck T t .t p c
      | _ => false) = true) (ih : ∀ c', ck T t .t p c' = true → PT X c' (tT C W (ev c t))) : PTs X fs (tT C W (ev c t)) := by
  split at h
  · rw [isTrueA_of h]
    exact pts_0
  · exact pts_1 (ih _ h)
  · cases h
/-- built-ins with one rule each -/
theorem sd_blt {X : Cx} {W : WX} {p : Pl} (G : GX T C c k p W X) {b : Bl} {fa : Mt.X} {e : Expr} {es : List Expr} {ps pos : Pos} (hb : bltOk b = true) (hg : gloB p.sc (bltN b) = true) (ha : PA X (e :: es) (tXs C W fa)) (ht : tames (e :: es) = true) : PE X (.Call (.Name (bltN b) ps) (e :: es) [] pos) (tX C W (xPack (blR b) fa)) := by
  have g := gloOf G hg
  have m : X.mg (bltN b) = none := G.tx.blt _ (by cases b <;> decide)
  cases b with
  | len => exact px_blt (blE fun E => ok_len) g m PySem.boot_len ha ht (by decide) (by decide)
  | sum => exact px_blt (blE fun E => ok_sum G.calm) g m PyProof.Rows.boot_sum ha ht (by decide) (by decide)
  | any => exact px_blt (blE fun E => ok_any G.calm) g m PyProof.Rows.boot_any ha ht (by decide) (by decide)
  | all => exact px_blt (blE fun E => ok_all G.calm) g m PyProof.Rows.boot_all ha ht (by decide) (by decide)
  | tuple => exact px_bty (blE fun E => ok_tuple) g m PyProof.Rows.boot_tuple ha ht (by decide) (by decide)
  | list => exact px_bty (blE fun E => ok_list) g m PyProof.Rows.boot_list ha ht (by decide) (by decide)
  | int => exact px_bty (blE fun E => ok_int) g m PyProof.Rows.boot_int ha ht (by decide) (by decide)
  | str => cases hb
  | min => exact px_blt (blE fun E => ok_min G.calm) g m PyProof.Rows.boot_min ha ht (by decide) (by decide)
  | max => exact px_blt (blE fun E => ok_max G.calm) g m PyProof.Rows.boot_max ha ht (by decide) (by decide)
  | sorted => exact px_blt (blE fun E => ok_sorted (by have := G.room.un; omega)) g m PyProof.Rows.boot_sorted ha ht (by decide) (by decide)
  | dict => exact px_bty (blE fun E => ok_dictP G.calm) g m PyProof.Rows.boot_dict ha ht (by decide) (by decide)
  | ptuple => exact px_bty (blE fun E => ok_ptp) g m PyProof.Rows.boot_tuple ha ht (by decide) (by decide)
theorem sd_call {X : Cx} {W : WX} {p : Pl} (G : GX T C c k p W X) {f : Nat} {n : Str} {fa : Mt.X} {es : List Expr} {ps pos : Pos} (hn : T.nms[f]? = some n) (hg : gloB p.sc n = true) (hk : okN n = true) (ha : PA X es (tXs C W fa)) (he : es = [] → fa = xCon (.tup [])) (ht : tames es = true) : PE X (.Call (.Name n ps) es [] pos) (tX C W (xCall (c.call f) fa)) := by
  obtain ⟨a, fd, pss, h1, h2, h3, h4⟩ := G.tx.fn f n hn
  cases es with
  | nil =>
    rw [he rfl]
    exact px_call0 G.takes h4 G.room (gloOf G hg) h1 h2 h3 (okN_of hk).1
  | cons e es => exact px_call G.takes h4 G.room (gloOf G hg) h1 h2 h3 ha ht (okN_of hk).1
theorem sd_bm {X : Cx} {W : WX} {p : Pl} (G : GX T C c k p W X) {b : Bm} {fo fa : Mt.X} {o : Expr} {es : List Expr} {ap cp : Pos} (ho : PE X o (tX C W fo)) (ha : PA X es (tXs C W fa)) (he : es = [] → fa = xCon (.tup [])) (ht : tames es = true) (hb : baseB o = true) (hl : (ap.endLine == cp.line) = true) (h1 : es.length ≤ 1) (hm : bmOk b es = true) :
    PE X (.Call (.Attribute o (bmN b) ap) es [] cp) (tX C W (xBm (bmK b) (bmR b) fo fa)) := by
  cases b with
  | append =>
    cases es with
    | nil => cases hm
    | cons e es =>
      cases es with
      | nil =>
        simp only [tames, Bool.and_true] at ht
        exact px_bm PySem.F.plainAttrs_list PySem.F.slot_list_append PySem.F.type_list_append (bmE fun E => ok_append) (fun ρ H m d v hm r h => isL_ty hm r h) ho ha ht hb hl
      | cons e2 es => simp at h1
  | index =>
    cases es with
    | nil => cases hm
    | cons e es =>
      cases es with
      | nil =>
        simp only [tames, Bool.and_true] at ht
        exact px_bm PySem.F.plainAttrs_list PySem.F.slot_list_index PySem.F.type_list_index (bmE fun E => ok_index G.un) (fun ρ H m d v hm r h => isL_ty hm r h) ho ha ht hb hl
      | cons e2 es => simp at h1
  | pop =>
    cases es with
    | cons e es => cases hm
    | nil =>
      rw [he rfl]
      exact px_bm0 PySem.F.plainAttrs_list PySem.F.slot_list_pop PySem.F.type_list_pop (bmE fun E => ok_pop) (fun ρ H m d v hm r h => isL_ty hm r h) ho hb hl
  | upper =>
    cases es with
    | cons e es => cases hm
    | nil =>
      rw [he rfl]
      exact px_bm0 PySem.F.plainAttrs_str PySem.F.slot_str_upper PySem.F.type_str_upper (bmE fun E => ok_upper) (fun ρ H m d v hm r h => isS_ty hm r h) ho hb hl
  | pop1 => cases hm
  | count => cases hm
end
end Mt
end
section
set_option linter.all false
set_option autoImplicit false
set_option maxRecDepth 100000
/-! MtK3b: the equations of the check (printed by unf.py). -/
namespace Mt
open PySem PySem.Spec PyProof.Rows L2
theorem ck_con (T : Txt) (d : D) (m : Md) (p : Pl) (x : Expr) : ck T (.con d) m p x = (upB m x && ckC d x) := rfl
theorem ck_glo (T : Txt) (i : Nat) (d : D) (m : Md) (p : Pl) (x : Expr) : ck T (.glo i d) m p x = (upB m x && ckN T i d p x) := rfl
theorem ck_var (T : Txt) (i : Nat) (m : Md) (p : Pl) (x : Expr) : ck T (.var i) m p x = (upB m x && ckV i p x) := rfl
theorem ck_tup (T : Txt) (a : A) (m : Md) (p : Pl) (x : Expr) : ck T (.tup a) m p x = (upB m x && match x with
    | .Tuple es _ _ => ckL T a p es
    | _ => false) := rfl
theorem ck_lst (T : Txt) (a : A) (m : Md) (p : Pl) (x : Expr) : ck T (.lst a) m p x = (upB m x && match x with
    | .List es _ => ckL T a p es
    | _ => false) := rfl
theorem ck_cellL (T : Txt) (a : A) (m : Md) (p : Pl) (x : Expr) : ck T (.cellL a) m p x = (upB m x && match x with
    | .List es _ => ckL T a p es
    | _ => false) := rfl
theorem ck_cellB (T : Txt) (op : Bop) (a b : A) (m : Md) (p : Pl) (x : Expr) : ck T (.cellB op a b) m p x = (upB m x && match x with
    | .BinOp y o z _ => bopIs op o && (match op with
      | .add => true
      | .mul => true
      | _ => false) && ck T a .v p y && ck T b .v p z
    | _ => false) := rfl
theorem ck_cellC (T : Txt) (el : A) (tg : A) (it : A) (t : A) (tg2 : A) (it2 : A) (t2 : A) (m : Md) (p : Pl) (x : Expr) : ck T (.cellC el tg it t tg2 it2 t2) m p x = (upB m x && match x with
    | .ListComp e [⟨tx, ix, fs, 0⟩, ⟨tx2, ix2, fs2, 0⟩] scope _ => blkC p.N p.sc scope (ownOf p (tgSlots tg ++ tgSlots tg2)) && ck T it (.i tx) p ix && tame ix && ckG tg (inB p scope) tx && (match fs with
      | [] => isTrueA t
      | [c] => ck T t .t (inB p scope) c
      | _ => false) && ck T it2 (.i tx2) (inB p scope) ix2 && tame ix2 && ckG tg2 (inB p scope) tx2 && (match fs2 with
      | [] => isTrueA t2
      | [c] => ck T t2 .t (inB p scope) c
      | _ => false) && ck T el .v (inB p scope) e
    | _ => false) := rfl
theorem ck_dnK (T : Txt)  (m : Md) (p : Pl) (x : Expr) : ck T (.dnK) m p x = (upB m x && match x with
    | .Dict [] [] _ => true
    | _ => false) := rfl
theorem ck_dnT (T : Txt)  (m : Md) (p : Pl) (x : Expr) : ck T (.dnT) m p x = (upB m x && match x with
    | .Dict [] [] _ => true
    | _ => false) := rfl
theorem ck_bin (T : Txt) (op : Bop) (a b : A) (m : Md) (p : Pl) (x : Expr) : ck T (.bin op a b) m p x = (upB m x && match x with
    | .BinOp y o z _ => bopIs op o && ck T a .v p y && ck T b .v p z
    | _ => false) := rfl
theorem ck_neg (T : Txt) (a : A) (m : Md) (p : Pl) (x : Expr) : ck T (.neg a) m p x = (upB m x && match x with
    | .UnaryOp .USub y _ => ck T a .v p y
    | _ => false) := rfl
theorem ck_not (T : Txt) (a : A) (m : Md) (p : Pl) (x : Expr) : ck T (.not a) m p x = (match x with
    | .UnaryOp .Not y _ => (match m with
      | .t => ck T a .t p y
      | m => upB m x && ck T a .v p y)
    | _ => false) := rfl
theorem ck_and (T : Txt) (a : A) (b : A) (m : Md) (p : Pl) (x : Expr) : ck T (.and a b) m p x = (match x with
    | .BoolOp .And (y :: z :: es) _ => (match m with
      | .t => ck T a .t p y && (match es with
        | [] => ck T b .t p z
        | w :: ws => ckB T b true true p (z :: w :: ws))
      | m => upB m x && ck T a .v p y && (match es with
        | [] => ck T b .v p z
        | w :: ws => ckB T b false true p (z :: w :: ws)))
    | _ => false) := rfl
theorem ck_or (T : Txt) (a : A) (b : A) (m : Md) (p : Pl) (x : Expr) : ck T (.or a b) m p x = (match x with
    | .BoolOp .Or (y :: z :: es) _ => (match m with
      | .t => ck T a .t p y && (match es with
        | [] => ck T b .t p z
        | w :: ws => ckB T b true false p (z :: w :: ws))
      | m => upB m x && ck T a .v p y && (match es with
        | [] => ck T b .v p z
        | w :: ws => ckB T b false false p (z :: w :: ws)))
    | _ => false) := rfl
theorem ck_ite (T : Txt) (t : A) (a : A) (b : A) (m : Md) (p : Pl) (x : Expr) : ck T (.ite t a b) m p x = (upB m x && match x with
    | .IfExp c y z _ => ck T t .t p c && ck T a .v p y && ck T b .v p z
    | _ => false) := rfl
theorem ck_cmp (T : Txt) (op : Cop) (a b : A) (m : Md) (p : Pl) (x : Expr) : ck T (.cmp op a b) m p x = (match x with
    | .Compare y [o] [z] _ => copIs op o && ck T a .v p y && ck T b .v p z && tame z
    | _ => false) := rfl
theorem ck_chain (T : Txt) (op op' : Cop) (a b c : A) (m : Md) (p : Pl) (x : Expr) : ck T (.chain op op' a b c) m p x = (match x with
    | .Compare y [o, o'] [z, w] _ => copIs op o && copIs op' o' && ck T a .v p y && ck T b .v p z && ck T c .v p w && tame w
    | _ => false) := rfl
theorem ck_idx (T : Txt) (a : A) (b : A) (m : Md) (p : Pl) (x : Expr) : ck T (.idx a b) m p x = (upB m x && match x with
    | .Subscript y z _ => ck T a .v p y && ck T b .v p z && tame z
    | _ => false) := rfl
theorem ck_dget (T : Txt) (a : A) (b : A) (m : Md) (p : Pl) (x : Expr) : ck T (.dget a b) m p x = (upB m x && match x with
    | .Subscript y z _ => ck T a .v p y && ck T b .v p z && tame z
    | _ => false) := rfl
theorem ck_din (T : Txt) (a : A) (b : A) (m : Md) (p : Pl) (x : Expr) : ck T (.din a b) m p x = (match x with
    | .Compare y [.In] [z] _ => ck T a .v p y && ck T b .v p z && tame z
    | _ => false) := rfl
theorem ck_dnin (T : Txt) (a : A) (b : A) (m : Md) (p : Pl) (x : Expr) : ck T (.dnin a b) m p x = (match x with
    | .Compare y [.NotIn] [z] _ => ck T a .v p y && ck T b .v p z && tame z
    | _ => false) := rfl
theorem ck_sl (T : Txt) (a : A) (lo : A) (hi : A) (m : Md) (p : Pl) (x : Expr) : ck T (.sl a lo hi) m p x = (upB m x && match x with
    | .Subscript y (.Slice (some l) (some h) none _) _ => ck T a .v p y && ck T lo .v p l && ck T hi .v p h
    | _ => false) := rfl
theorem ck_slL (T : Txt) (a : A) (lo : A) (m : Md) (p : Pl) (x : Expr) : ck T (.slL a lo) m p x = (upB m x && match x with
    | .Subscript y (.Slice (some l) none none _) _ => ck T a .v p y && ck T lo .v p l
    | _ => false) := rfl
theorem ck_slU (T : Txt) (a : A) (hi : A) (m : Md) (p : Pl) (x : Expr) : ck T (.slU a hi) m p x = (upB m x && match x with
    | .Subscript y (.Slice none (some h) none _) _ => ck T a .v p y && ck T hi .v p h
    | _ => false) := rfl
theorem ck_call (T : Txt) (f : Nat) (a : A) (m : Md) (p : Pl) (x : Expr) : ck T (.call f a) m p x = (upB m x && match x with
    | .Call (.Name n _) es [] _ => decide (T.nms[f]? = some n) && gloB p.sc n && okN n && ckL T a p es && tames es
    | _ => false) := rfl
theorem ck_blt (T : Txt) (b : Bl) (a : A) (m : Md) (p : Pl) (x : Expr) : ck T (.blt b a) m p x = (upB m x && match x with
    | .Call (.Name n _) (e :: es) [] _ => bltOk b && decide (n = bltN b) && gloB p.sc n && ckL T a p (e :: es) && tames (e :: es)
    | _ => false) := rfl
theorem ck_isi (T : Txt) (a : A) (ts : List Mt.Ty) (m : Md) (p : Pl) (x : Expr) : ck T (.isi a ts) m p x = (upB m x && match x with
    | .Call (.Name n _) [y, .Name c _] [] _ => (match ts with
      | [t] => decide (n = "isinstance") && gloB p.sc n && decide (c = Str.ofString (tyN t)) && gloB p.sc c && ck T a .v p y && tame y
      | _ => false)
    | .Call (.Name n _) [y, .Tuple [.Name c _, .Name c2 _] _ _] [] _ => (match ts with
      | [t, t2] => decide (n = "isinstance") && gloB p.sc n && decide (c = Str.ofString (tyN t)) && gloB p.sc c && decide (c2 = Str.ofString (tyN t2)) && gloB p.sc c2 && ck T a .v p y && tame y
      | _ => false)
    | _ => false) := rfl
theorem ck_bm (T : Txt) (b : Bm) (o a : A) (m : Md) (p : Pl) (x : Expr) : ck T (.bm b o a) m p x = (upB m x && match x with
    | .Call (.Attribute y n ap) es [] cp => decide (n = bmN b) && baseB y && (ap.endLine == cp.line) && ck T o .v p y && ckL T a p es && tames es && decide (es.length ≤ 1) && bmOk b es
    | _ => false) := rfl
theorem ck_rng1 (T : Txt) (hi : A) (m : Md) (p : Pl) (x : Expr) : ck T (.rng1 hi) m p x = (match m with
    | .i _ => (match x with
      | .Call (.Name n _) [y] [] _ => decide (n = "range") && gloB p.sc n && ck T hi .v p y && tame y
      | _ => false)
    | _ => false) := rfl
theorem ck_rng (T : Txt) (lo : A) (hi : A) (m : Md) (p : Pl) (x : Expr) : ck T (.rng lo hi) m p x = (match m with
    | .i _ => (match x with
      | .Call (.Name n _) [y, z] [] _ => decide (n = "range") && gloB p.sc n && ck T lo .v p y && tame y && ck T hi .v p z && tame z
      | _ => false)
    | _ => false) := rfl
theorem ck_enm (T : Txt) (a : A) (m : Md) (p : Pl) (x : Expr) : ck T (.enm a) m p x = (match m with
    | .i tg => isTupE tg && (match x with
      | .Call (.Name n _) [y] [] _ => decide (n = "enumerate") && gloB p.sc n && ck T a .v p y && tame y
      | _ => false)
    | _ => false) := rfl
theorem ck_zp (T : Txt) (a : A) (b : A) (m : Md) (p : Pl) (x : Expr) : ck T (.zp a b) m p x = (match m with
    | .i tg => isTupE tg && (match x with
      | .Call (.Name n _) [y, z] [] _ => decide (n = "zip") && gloB p.sc n && ck T a .v p y && tame y && ck T b .v p z && tame z
      | _ => false)
    | _ => false) := rfl
theorem ck_lrng (T : Txt) (lo : A) (hi : A) (m : Md) (p : Pl) (x : Expr) : ck T (.lrng lo hi) m p x = (upB m x && match x with
    | .Call (.Name n _) [.Call (.Name n2 _) [y, z] [] _] [] _ => decide (n = "list") && gloB p.sc n && decide (n2 = "range") && gloB p.sc n2 && ck T lo .v p y && tame y && ck T hi .v p z && tame z
    | _ => false) := rfl
theorem ck_lc (T : Txt) (el : A) (tg : A) (it : A) (t : A) (m : Md) (p : Pl) (x : Expr) : ck T (.lc el tg it t) m p x = (upB m x && match x with
    | .ListComp e [⟨tx, ix, fs, 0⟩] scope _ => blkC p.N p.sc scope (ownOf p (tgSlots tg)) && ck T it (.i tx) p ix && tame ix && ckG tg (inB p scope) tx && (match fs with
      | [] => isTrueA t
      | [c] => ck T t .t (inB p scope) c
      | _ => false) && ck T el .v (inB p scope) e
    | _ => false) := rfl
theorem ck_lc2 (T : Txt) (el : A) (tg : A) (it : A) (t : A) (tg2 : A) (it2 : A) (t2 : A) (m : Md) (p : Pl) (x : Expr) : ck T (.lc2 el tg it t tg2 it2 t2) m p x = (upB m x && match x with
    | .ListComp e [⟨tx, ix, fs, 0⟩, ⟨tx2, ix2, fs2, 0⟩] scope _ => blkC p.N p.sc scope (ownOf p (tgSlots tg ++ tgSlots tg2)) && ck T it (.i tx) p ix && tame ix && ckG tg (inB p scope) tx && (match fs with
      | [] => isTrueA t
      | [c] => ck T t .t (inB p scope) c
      | _ => false) && ck T it2 (.i tx2) (inB p scope) ix2 && tame ix2 && ckG tg2 (inB p scope) tx2 && (match fs2 with
      | [] => isTrueA t2
      | [c] => ck T t2 .t (inB p scope) c
      | _ => false) && ck T el .v (inB p scope) e
    | _ => false) := rfl
theorem ck_dc (T : Txt) (k : A) (v : A) (tg : A) (it : A) (t : A) (m : Md) (p : Pl) (x : Expr) : ck T (.dc k v tg it t) m p x = (upB m x && match x with
    | .DictComp kx e [⟨tx, ix, fs, 0⟩] scope _ => blkC p.N p.sc scope (ownOf p (tgSlots tg)) && ck T it (.i tx) p ix && tame ix && ckG tg (inB p scope) tx && (match fs with
      | [] => isTrueA t
      | [c] => ck T t .t (inB p scope) c
      | _ => false) && ck T k .v (inB p scope) kx && ck T v .v (inB p scope) e
    | _ => false) := rfl
theorem ck_frz (T : Txt) (a : A) (m : Md) (p : Pl) (x : Expr) : ck T (.frz a) m p x = (upB m x && ck T a .v p x) := rfl
theorem ck_nil (T : Txt)  (m : Md) (p : Pl) (x : Expr) : ck T (.nil) m p x = (false) := rfl
theorem ck_cons (T : Txt) (a : A) (b : A) (m : Md) (p : Pl) (x : Expr) : ck T (.cons a b) m p x = (false) := rfl
theorem ck_tgN (T : Txt) (i : Nat) (m : Md) (p : Pl) (x : Expr) : ck T (.tgN i) m p x = (false) := rfl
theorem ck_tgT (T : Txt) (a : A) (m : Md) (p : Pl) (x : Expr) : ck T (.tgT a) m p x = (false) := rfl
theorem ck_sortK (T : Txt) (a : A) (fr : List Nat) (b : A) (m : Md) (p : Pl) (x : Expr) : ck T (.sortK a fr b) m p x = (upB m x && match x with
    | .Call (.Name n _) [y] [⟨some kn, .Lambda params body scope _, _⟩] _ => decide (n = "sorted") && (gloB p.sc n && (decide (kn = "key") && (fsNone p && (ck T a .v p y && (tame y && (lamB params scope p fr && ck T b .v (lamP params scope p fr) body))))))
    | _ => false) := rfl
theorem ckL_nil (T : Txt) (p : Pl) : ckL T .nil p [] = true := rfl
theorem ckL_cons (T : Txt) (a b : A) (p : Pl) (e : Expr) (es : List Expr) : ckL T (.cons a b) p (e :: es) = (ck T a .v p e && ckL T b p es && tame e) := rfl
theorem ckB_and (T : Txt) (a b : A) (t : Bool) (p : Pl) (y z : Expr) (es : List Expr) : ckB T (.and a b) t true p (y :: z :: es) = (ck T a (if t then .t else .v) p y && (match es with
    | [] => ck T b (if t then .t else .v) p z
    | w :: ws => ckB T b t true p (z :: w :: ws))) := rfl
theorem ckB_or (T : Txt) (a b : A) (t : Bool) (p : Pl) (y z : Expr) (es : List Expr) : ckB T (.or a b) t false p (y :: z :: es) = (ck T a (if t then .t else .v) p y && (match es with
    | [] => ck T b (if t then .t else .v) p z
    | w :: ws => ckB T b t false p (z :: w :: ws))) := rfl
/-- what is no list -/
theorem ckL_no (T : Txt) (a : A) (p : Pl) (es : List Expr) (h : ckL T a p es = true) : (a = .nil ∧ es = []) ∨ ∃ b c e r, a = .cons b c ∧ es = e :: r := by
  cases a <;> first
    | (cases es with
       | nil => exact .inl ⟨rfl, rfl⟩
       | cons e r => cases h)
    | (cases es with
       | nil => cases h
       | cons e r => exact .inr ⟨_, _, _, _, rfl, rfl⟩)
    | cases h
theorem ckB_no (T : Txt) (a : A) (t n : Bool) (p : Pl) (es : List Expr) (h : ckB T a t n p es = true) : ∃ b c y z r, es = y :: z :: r ∧ ((a = .and b c ∧ n = true) ∨ (a = .or b c ∧ n = false)) := by
  cases es with
  | nil => cases a <;> cases n <;> cases h
  | cons y r =>
    cases r with
    | nil => cases a <;> cases n <;> cases h
    | cons z r => cases a <;> cases n <;> first | (exact ⟨_, _, _, _, _, rfl, .inl ⟨rfl, rfl⟩⟩) | (exact ⟨_, _, _, _, _, rfl, .inr ⟨rfl, rfl⟩⟩) | cases h
end Mt
end
section
set_option linter.all false
set_option autoImplicit false
set_option maxRecDepth 100000
set_option maxHeartbeats 2000000
/-! MtK4: what the check says is so: the induction. -/
namespace Mt
open PySem PySem.Spec PyProof.Rows L2
section
variable {T : Txt} {C : Cls} {c : Ctx} {k : Nat}
theorem tyIn (t : Mt.Ty) : Str.ofString (tyN t) ∈ bltNames := by cases t <;> decide
theorem nil_of {a : A} {p : Pl} (h : ckL T a p [] = true) : ev c a = xCon (.tup []) := by
  cases a <;> first | rfl | (simp [ckL] at h)

variable (T C c k) in
structure SD (a : A) : Prop where
  e : ∀ (m : Md) (p : Pl) (x : Expr) (W : WX) (X : Cx), GX T C c k p W X → ck T a m p x = true → Snd C W X m x (ev c a)
  l : ∀ (p : Pl) (es : List Expr) (W : WX) (X : Cx), GX T C c k p W X → ckL T a p es = true → PA X es (tXs C W (ev c a))
  b : ∀ (t n : Bool) (p : Pl) (es : List Expr) (pos : Pos) (W : WX) (X : Cx), GX T C c k p W X → ckB T a t n p es = true →
    (if t then PW X (.BoolOp (if n then .And else .Or) es pos) (tT C W (ev c a)) else PE X (.BoolOp (if n then .And else .Or) es pos) (tX C W (ev c a)))

theorem sdc_con {d : D}  : ∀ (m : Md) (p : Pl) (x : Expr) (W : WX) (X : Cx), GX T C c k p W X → ck T (.con d) m p x = true → Snd C W X m x (ev c (.con d)) := fun m p x W X G h => by
    rw [ck_con, Bool.and_eq_true] at h
    exact snd_up (sd_con h.2) h.1
theorem sdc_glo {i : Nat} {d : D}  : ∀ (m : Md) (p : Pl) (x : Expr) (W : WX) (X : Cx), GX T C c k p W X → ck T (.glo i d) m p x = true → Snd C W X m x (ev c (.glo i d)) := fun m p x W X G h => by
    rw [ck_glo, Bool.and_eq_true] at h
    exact snd_up (sd_glo G h.2) h.1
theorem sdc_var {i : Nat}  : ∀ (m : Md) (p : Pl) (x : Expr) (W : WX) (X : Cx), GX T C c k p W X → ck T (.var i) m p x = true → Snd C W X m x (ev c (.var i)) := fun m p x W X G h => by
    rw [ck_var, Bool.and_eq_true] at h
    exact snd_up (sd_var G h.2) h.1
theorem sdc_tup {a : A} (ih_a : SD T C c k a) : ∀ (m : Md) (p : Pl) (x : Expr) (W : WX) (X : Cx), GX T C c k p W X → ck T (.tup a) m p x = true → Snd C W X m x (ev c (.tup a)) := fun m p x W X G h => by
    rw [ck_tup, Bool.and_eq_true] at h
    obtain ⟨hu, h⟩ := h
    split at h
    · exact snd_up (px_tup (ih_a.l p _ W X G h)) hu
    · cases h
theorem sdc_lst {a : A} (ih_a : SD T C c k a) : ∀ (m : Md) (p : Pl) (x : Expr) (W : WX) (X : Cx), GX T C c k p W X → ck T (.lst a) m p x = true → Snd C W X m x (ev c (.lst a)) := fun m p x W X G h => by
    rw [ck_lst, Bool.and_eq_true] at h
    obtain ⟨hu, h⟩ := h
    split at h
    · exact snd_up (px_lst (ih_a.l p _ W X G h)) hu
    · cases h
theorem sdc_cellL {a : A} (ih_a : SD T C c k a) : ∀ (m : Md) (p : Pl) (x : Expr) (W : WX) (X : Cx), GX T C c k p W X → ck T (.cellL a) m p x = true → Snd C W X m x (ev c (.cellL a)) := fun m p x W X G h => by
    rw [ck_cellL, Bool.and_eq_true] at h
    obtain ⟨hu, h⟩ := h
    split at h
    · exact snd_up (px_cellL (ih_a.l p _ W X G h)) hu
    · cases h
theorem sdc_cellB {op : Bop} {a b : A} (ih_a : SD T C c k a) (ih_b : SD T C c k b) : ∀ (m : Md) (p : Pl) (x : Expr) (W : WX) (X : Cx), GX T C c k p W X → ck T (.cellB op a b) m p x = true → Snd C W X m x (ev c (.cellB op a b)) := fun m p x W X G h => by
    rw [ck_cellB, Bool.and_eq_true] at h
    obtain ⟨hu, h⟩ := h
    split at h
    · simp only [Bool.and_eq_true] at h
      obtain ⟨⟨⟨h1, h2⟩, h3⟩, h4⟩ := h
      have ha := ih_a.e .v p _ W X G h3
      have hb := ih_b.e .v p _ W X G h4
      have e : ev c (.cellB op a b) = x2 (bCell (bop op)) (ev c a) (ev c b) := xCell_x2 _
      rw [e]
      refine snd_up ?_ hu
      cases op with
      | add => rename_i o _ _; cases o <;> simp [bopIs] at h1; exact px_bin ok_addC ha hb
      | mul => rename_i o _ _; cases o <;> simp [bopIs] at h1; exact px_bin ok_mulC ha hb
      | sub => cases h2
      | fdiv => cases h2
      | mod => cases h2
      | pow => cases h2
    · cases h
theorem sdc_dnK   : ∀ (m : Md) (p : Pl) (x : Expr) (W : WX) (X : Cx), GX T C c k p W X → ck T (.dnK) m p x = true → Snd C W X m x (ev c (.dnK)) := fun m p x W X G h => by
    rw [ck_dnK, Bool.and_eq_true] at h
    obtain ⟨hu, h⟩ := h
    split at h
    · exact snd_up px_newK hu
    · cases h
theorem sdc_dnT   : ∀ (m : Md) (p : Pl) (x : Expr) (W : WX) (X : Cx), GX T C c k p W X → ck T (.dnT) m p x = true → Snd C W X m x (ev c (.dnT)) := fun m p x W X G h => by
    rw [ck_dnT, Bool.and_eq_true] at h
    obtain ⟨hu, h⟩ := h
    split at h
    · exact snd_up px_newT hu
    · cases h
theorem sdc_bin {op : Bop} {a b : A} (ih_a : SD T C c k a) (ih_b : SD T C c k b) : ∀ (m : Md) (p : Pl) (x : Expr) (W : WX) (X : Cx), GX T C c k p W X → ck T (.bin op a b) m p x = true → Snd C W X m x (ev c (.bin op a b)) := fun m p x W X G h => by
    rw [ck_bin, Bool.and_eq_true] at h
    obtain ⟨hu, h⟩ := h
    split at h
    · simp only [Bool.and_eq_true] at h
      exact snd_up (px_bin (sd_bop h.1.1) (ih_a.e .v p _ W X G h.1.2) (ih_b.e .v p _ W X G h.2)) hu
    · cases h
theorem sdc_neg {a : A} (ih_a : SD T C c k a) : ∀ (m : Md) (p : Pl) (x : Expr) (W : WX) (X : Cx), GX T C c k p W X → ck T (.neg a) m p x = true → Snd C W X m x (ev c (.neg a)) := fun m p x W X G h => by
    rw [ck_neg, Bool.and_eq_true] at h
    obtain ⟨hu, h⟩ := h
    split at h
    · exact snd_up (px_neg (ih_a.e .v p _ W X G h)) hu
    · cases h
theorem sdc_not {a : A} (ih_a : SD T C c k a) : ∀ (m : Md) (p : Pl) (x : Expr) (W : WX) (X : Cx), GX T C c k p W X → ck T (.not a) m p x = true → Snd C W X m x (ev c (.not a)) := fun m p x W X G h => by
    rw [ck_not] at h
    split at h
    · cases m with
      | t => exact pq_not (ih_a.e .t p _ W X G h)
      | v =>
        simp only [Bool.and_eq_true] at h
        exact snd_up (px_not (ih_a.e .v p _ W X G h.2)) h.1
      | i tg =>
        simp only [Bool.and_eq_true] at h
        exact snd_up (px_not (ih_a.e .v p _ W X G h.2)) h.1
    · cases h
theorem sdc_and {a b : A} (ih_a : SD T C c k a) (ih_b : SD T C c k b) : ∀ (m : Md) (p : Pl) (x : Expr) (W : WX) (X : Cx), GX T C c k p W X → ck T (.and a b) m p x = true → Snd C W X m x (ev c (.and a b)) := fun m p x W X G h => by
    rw [ck_and] at h
    split at h
    · rename_i y z es pos
      have val : upB m (.BoolOp .And (y :: z :: es) pos) = true → ck T a .v p y = true → (match (generalizing := false) es with
        | [] => ck T b .v p z
        | w :: ws => ckB T b false true p (z :: w :: ws)) = true → Snd C W X m (.BoolOp .And (y :: z :: es) pos) (ev c (.and a b)) := fun hu h1 h2 => by
        have h2 : PE X (.BoolOp .And (z :: es) pos) (tX C W (ev c b)) := by
          cases es with
          | nil => exact pe_one (ih_b.e .v p _ W X G h2)
          | cons w ws => exact (ih_b.b false true p _ pos W X G h2)
        exact snd_up (px_and (ih_a.e .v p _ W X G h1) h2) hu
      cases m with
      | t =>
        simp only [Bool.and_eq_true] at h
        obtain ⟨h1, h2⟩ := h
        have h2 : PW X (.BoolOp .And (z :: es) pos) (tT C W (ev c b)) := by
          cases es with
          | nil => exact pw_and1 (ih_b.e .t p _ W X G h2)
          | cons w ws => exact (ih_b.b true true p _ pos W X G h2)
        exact PW.pt (pq_and (ih_a.e .t p _ W X G h1) h2)
      | v =>
        simp only [Bool.and_eq_true] at h
        exact val h.1.1 h.1.2 h.2
      | i tg =>
        simp only [Bool.and_eq_true] at h
        exact val h.1.1 h.1.2 h.2
    · cases h
theorem sdc_or {a b : A} (ih_a : SD T C c k a) (ih_b : SD T C c k b) : ∀ (m : Md) (p : Pl) (x : Expr) (W : WX) (X : Cx), GX T C c k p W X → ck T (.or a b) m p x = true → Snd C W X m x (ev c (.or a b)) := fun m p x W X G h => by
    rw [ck_or] at h
    split at h
    · rename_i y z es pos
      have val : upB m (.BoolOp .Or (y :: z :: es) pos) = true → ck T a .v p y = true → (match (generalizing := false) es with
        | [] => ck T b .v p z
        | w :: ws => ckB T b false false p (z :: w :: ws)) = true → Snd C W X m (.BoolOp .Or (y :: z :: es) pos) (ev c (.or a b)) := fun hu h1 h2 => by
        have h2 : PE X (.BoolOp .Or (z :: es) pos) (tX C W (ev c b)) := by
          cases es with
          | nil => exact pe_one (ih_b.e .v p _ W X G h2)
          | cons w ws => exact (ih_b.b false false p _ pos W X G h2)
        exact snd_up (px_or (ih_a.e .v p _ W X G h1) h2) hu
      cases m with
      | t =>
        simp only [Bool.and_eq_true] at h
        obtain ⟨h1, h2⟩ := h
        have h2 : PW X (.BoolOp .Or (z :: es) pos) (tT C W (ev c b)) := by
          cases es with
          | nil => exact pw_or1 (ih_b.e .t p _ W X G h2)
          | cons w ws => exact (ih_b.b true false p _ pos W X G h2)
        exact PW.pt (pq_or (ih_a.e .t p _ W X G h1) h2)
      | v =>
        simp only [Bool.and_eq_true] at h
        exact val h.1.1 h.1.2 h.2
      | i tg =>
        simp only [Bool.and_eq_true] at h
        exact val h.1.1 h.1.2 h.2
    · cases h
theorem sdc_ite {t a b : A} (ih_t : SD T C c k t) (ih_a : SD T C c k a) (ih_b : SD T C c k b) : ∀ (m : Md) (p : Pl) (x : Expr) (W : WX) (X : Cx), GX T C c k p W X → ck T (.ite t a b) m p x = true → Snd C W X m x (ev c (.ite t a b)) := fun m p x W X G h => by
    rw [ck_ite, Bool.and_eq_true] at h
    obtain ⟨hu, h⟩ := h
    split at h
    · simp only [Bool.and_eq_true] at h
      exact snd_up (px_ite (ih_t.e .t p _ W X G h.1.1) (ih_a.e .v p _ W X G h.1.2) (ih_b.e .v p _ W X G h.2)) hu
    · cases h
theorem sdc_cmp {op : Cop} {a b : A} (ih_a : SD T C c k a) (ih_b : SD T C c k b) : ∀ (m : Md) (p : Pl) (x : Expr) (W : WX) (X : Cx), GX T C c k p W X → ck T (.cmp op a b) m p x = true → Snd C W X m x (ev c (.cmp op a b)) := fun m p x W X G h => by
    rw [ck_cmp] at h
    split at h
    · simp only [Bool.and_eq_true] at h
      obtain ⟨⟨⟨h1, h2⟩, h3⟩, h4⟩ := h
      have ha := ih_a.e .v p _ W X G h2
      have hb := ih_b.e .v p _ W X G h3
      cases m with
      | t => exact pq_cmp (cop_bl op) (sd_cop G.un h1) ha hb h4
      | v => exact px_cmp (sd_cop G.un h1) ha hb h4
      | i tg => exact pi_val (px_cmp (sd_cop G.un h1) ha hb h4)
    · cases h
theorem sdc_chain {op op' : Cop} {a b d : A} (ih_a : SD T C c k a) (ih_b : SD T C c k b) (ih_d : SD T C c k d) : ∀ (m : Md) (p : Pl) (x : Expr) (W : WX) (X : Cx), GX T C c k p W X → ck T (.chain op op' a b d) m p x = true → Snd C W X m x (ev c (.chain op op' a b d)) := fun m p x W X G h => by
    rw [ck_chain] at h
    split at h
    · simp only [Bool.and_eq_true] at h
      obtain ⟨⟨⟨⟨⟨h1, h2⟩, h3⟩, h4⟩, h5⟩, h6⟩ := h
      have ha := ih_a.e .v p _ W X G h3
      have hb := ih_b.e .v p _ W X G h4
      have hd := ih_d.e .v p _ W X G h5
      cases m with
      | t => exact pq_chain (cop_bl op') (sd_cop G.un h1) (sd_cop G.un h2) ha hb hd h6
      | v => exact px_chain (sd_cop G.un h1) (sd_cop G.un h2) ha hb hd h6
      | i tg => exact pi_val (px_chain (sd_cop G.un h1) (sd_cop G.un h2) ha hb hd h6)
    · cases h
theorem sdc_idx {a b : A} (ih_a : SD T C c k a) (ih_b : SD T C c k b) : ∀ (m : Md) (p : Pl) (x : Expr) (W : WX) (X : Cx), GX T C c k p W X → ck T (.idx a b) m p x = true → Snd C W X m x (ev c (.idx a b)) := fun m p x W X G h => by
    rw [ck_idx, Bool.and_eq_true] at h
    obtain ⟨hu, h⟩ := h
    split at h
    · simp only [Bool.and_eq_true] at h
      exact snd_up (px_idx (ixE fun E => ok_idx) (ih_a.e .v p _ W X G h.1.1) (ih_b.e .v p _ W X G h.1.2) h.2) hu
    · cases h
theorem sdc_dget {a b : A} (ih_a : SD T C c k a) (ih_b : SD T C c k b) : ∀ (m : Md) (p : Pl) (x : Expr) (W : WX) (X : Cx), GX T C c k p W X → ck T (.dget a b) m p x = true → Snd C W X m x (ev c (.dget a b)) := fun m p x W X G h => by
    rw [ck_dget, Bool.and_eq_true] at h
    obtain ⟨hu, h⟩ := h
    split at h
    · simp only [Bool.and_eq_true] at h
      exact snd_up (px_dget (by have := G.un; omega) (ih_a.e .v p _ W X G h.1.1) (ih_b.e .v p _ W X G h.1.2) h.2) hu
    · cases h
theorem sdc_din {a b : A} (ih_a : SD T C c k a) (ih_b : SD T C c k b) : ∀ (m : Md) (p : Pl) (x : Expr) (W : WX) (X : Cx), GX T C c k p W X → ck T (.din a b) m p x = true → Snd C W X m x (ev c (.din a b)) := fun m p x W X G h => by
    rw [ck_din] at h
    split at h
    · simp only [Bool.and_eq_true] at h
      obtain ⟨⟨h2, h3⟩, h4⟩ := h
      have ha := ih_a.e .v p _ W X G h2
      have hb := ih_b.e .v p _ W X G h3
      have hu : X.A.units + 1 < cLine := by have := G.un; omega
      cases m with
      | t => exact pq_din hu ha hb h4
      | v => exact px_din hu ha hb h4
      | i tg => exact pi_val (px_din hu ha hb h4)
    · cases h
theorem sdc_dnin {a b : A} (ih_a : SD T C c k a) (ih_b : SD T C c k b) : ∀ (m : Md) (p : Pl) (x : Expr) (W : WX) (X : Cx), GX T C c k p W X → ck T (.dnin a b) m p x = true → Snd C W X m x (ev c (.dnin a b)) := fun m p x W X G h => by
    rw [ck_dnin] at h
    split at h
    · simp only [Bool.and_eq_true] at h
      obtain ⟨⟨h2, h3⟩, h4⟩ := h
      have ha := ih_a.e .v p _ W X G h2
      have hb := ih_b.e .v p _ W X G h3
      have hu : X.A.units + 1 < cLine := by have := G.un; omega
      cases m with
      | t => exact pq_dnin hu ha hb h4
      | v => exact px_dnin hu ha hb h4
      | i tg => exact pi_val (px_dnin hu ha hb h4)
    · cases h
theorem sdc_sl {a lo hi : A} (ih_a : SD T C c k a) (ih_lo : SD T C c k lo) (ih_hi : SD T C c k hi) : ∀ (m : Md) (p : Pl) (x : Expr) (W : WX) (X : Cx), GX T C c k p W X → ck T (.sl a lo hi) m p x = true → Snd C W X m x (ev c (.sl a lo hi)) := fun m p x W X G h => by
    rw [ck_sl, Bool.and_eq_true] at h
    obtain ⟨hu, h⟩ := h
    split at h
    · simp only [Bool.and_eq_true] at h
      exact snd_up (px_sl (ih_a.e .v p _ W X G h.1.1) (ih_lo.e .v p _ W X G h.1.2) (ih_hi.e .v p _ W X G h.2)) hu
    · cases h
theorem sdc_slL {a lo : A} (ih_a : SD T C c k a) (ih_lo : SD T C c k lo) : ∀ (m : Md) (p : Pl) (x : Expr) (W : WX) (X : Cx), GX T C c k p W X → ck T (.slL a lo) m p x = true → Snd C W X m x (ev c (.slL a lo)) := fun m p x W X G h => by
    rw [ck_slL, Bool.and_eq_true] at h
    obtain ⟨hu, h⟩ := h
    split at h
    · simp only [Bool.and_eq_true] at h
      exact snd_up (px_slL (ih_a.e .v p _ W X G h.1) (ih_lo.e .v p _ W X G h.2)) hu
    · cases h
theorem sdc_slU {a hi : A} (ih_a : SD T C c k a) (ih_hi : SD T C c k hi) : ∀ (m : Md) (p : Pl) (x : Expr) (W : WX) (X : Cx), GX T C c k p W X → ck T (.slU a hi) m p x = true → Snd C W X m x (ev c (.slU a hi)) := fun m p x W X G h => by
    rw [ck_slU, Bool.and_eq_true] at h
    obtain ⟨hu, h⟩ := h
    split at h
    · simp only [Bool.and_eq_true] at h
      exact snd_up (px_slU (ih_a.e .v p _ W X G h.1) (ih_hi.e .v p _ W X G h.2)) hu
    · cases h
theorem sdc_call {f : Nat} {a : A} (ih_a : SD T C c k a) : ∀ (m : Md) (p : Pl) (x : Expr) (W : WX) (X : Cx), GX T C c k p W X → ck T (.call f a) m p x = true → Snd C W X m x (ev c (.call f a)) := fun m p x W X G h => by
    rw [ck_call, Bool.and_eq_true] at h
    obtain ⟨hu, h⟩ := h
    split at h
    · simp only [Bool.and_eq_true, decide_eq_true_eq] at h
      obtain ⟨⟨⟨⟨h1, h2⟩, h3⟩, h4⟩, h5⟩ := h
      exact snd_up (sd_call G h1 h2 h3 (ih_a.l p _ W X G h4) (fun e => by rw [e] at h4; exact nil_of h4) h5) hu
    · cases h
theorem sdc_blt {b : Bl} {a : A} (ih_a : SD T C c k a) : ∀ (m : Md) (p : Pl) (x : Expr) (W : WX) (X : Cx), GX T C c k p W X → ck T (.blt b a) m p x = true → Snd C W X m x (ev c (.blt b a)) := fun m p x W X G h => by
    rw [ck_blt, Bool.and_eq_true] at h
    obtain ⟨hu, h⟩ := h
    split at h
    · simp only [Bool.and_eq_true, decide_eq_true_eq] at h
      obtain ⟨⟨⟨⟨h1, rfl⟩, h3⟩, h4⟩, h5⟩ := h
      exact snd_up (sd_blt G h1 h3 (ih_a.l p _ W X G h4) h5) hu
    · cases h
theorem sdc_isi {a : A} {ts : List Mt.Ty} (ih_a : SD T C c k a) : ∀ (m : Md) (p : Pl) (x : Expr) (W : WX) (X : Cx), GX T C c k p W X → ck T (.isi a ts) m p x = true → Snd C W X m x (ev c (.isi a ts)) := fun m p x W X G h => by
    rw [ck_isi, Bool.and_eq_true] at h
    obtain ⟨hu, h⟩ := h
    split at h
    · split at h
      · simp only [Bool.and_eq_true, decide_eq_true_eq] at h
        obtain ⟨⟨⟨⟨⟨rfl, h2⟩, rfl⟩, h4⟩, h5⟩, h6⟩ := h
        exact snd_up (px_isi (gloOf G h2) (G.tx.blt _ (by decide)) (gloOf G h4) (G.tx.blt _ (tyIn _)) (ih_a.e .v p _ W X G h5) h6) hu
      · cases h
    · split at h
      · simp only [Bool.and_eq_true, decide_eq_true_eq] at h
        obtain ⟨⟨⟨⟨⟨⟨⟨rfl, h2⟩, rfl⟩, h4⟩, rfl⟩, h6⟩, h7⟩, h8⟩ := h
        exact snd_up (px_isi2 (gloOf G h2) (G.tx.blt _ (by decide)) (gloOf G h4) (G.tx.blt _ (tyIn _)) (gloOf G h6) (G.tx.blt _ (tyIn _)) (ih_a.e .v p _ W X G h7) h8) hu
      · cases h
    · cases h
theorem sdc_bm {b : Bm} {o a : A} (ih_o : SD T C c k o) (ih_a : SD T C c k a) : ∀ (m : Md) (p : Pl) (x : Expr) (W : WX) (X : Cx), GX T C c k p W X → ck T (.bm b o a) m p x = true → Snd C W X m x (ev c (.bm b o a)) := fun m p x W X G h => by
    rw [ck_bm, Bool.and_eq_true] at h
    obtain ⟨hu, h⟩ := h
    split at h
    · simp only [Bool.and_eq_true, decide_eq_true_eq] at h
      obtain ⟨⟨⟨⟨⟨⟨⟨rfl, h2⟩, h3⟩, h4⟩, h5⟩, h6⟩, h7⟩, h8⟩ := h
      exact snd_up (sd_bm G (ih_o.e .v p _ W X G h4) (ih_a.l p _ W X G h5) (fun e => by rw [e] at h5; exact nil_of h5) h6 h2 h3 h7 h8) hu
    · cases h
theorem sdc_rng1 {hi : A} (ih_hi : SD T C c k hi) : ∀ (m : Md) (p : Pl) (x : Expr) (W : WX) (X : Cx), GX T C c k p W X → ck T (.rng1 hi) m p x = true → Snd C W X m x (ev c (.rng1 hi)) := fun m p x W X G h => by
    rw [ck_rng1] at h
    split at h
    · split at h
      · simp only [Bool.and_eq_true, decide_eq_true_eq] at h
        obtain ⟨⟨⟨rfl, h2⟩, h3⟩, h4⟩ := h
        exact pi_rng1 (gloOf G h2) (G.tx.blt _ (by decide)) (ih_hi.e .v p _ W X G h3) h4
      · cases h
    · cases h
theorem sdc_rng {lo hi : A} (ih_lo : SD T C c k lo) (ih_hi : SD T C c k hi) : ∀ (m : Md) (p : Pl) (x : Expr) (W : WX) (X : Cx), GX T C c k p W X → ck T (.rng lo hi) m p x = true → Snd C W X m x (ev c (.rng lo hi)) := fun m p x W X G h => by
    rw [ck_rng] at h
    split at h
    · split at h
      · simp only [Bool.and_eq_true, decide_eq_true_eq] at h
        obtain ⟨⟨⟨⟨⟨rfl, h2⟩, h3⟩, h4⟩, h5⟩, h6⟩ := h
        exact pi_rng (gloOf G h2) (G.tx.blt _ (by decide)) (ih_lo.e .v p _ W X G h3) (ih_hi.e .v p _ W X G h5) h4 h6
      · cases h
    · cases h
theorem sdc_enm {a : A} (ih_a : SD T C c k a) : ∀ (m : Md) (p : Pl) (x : Expr) (W : WX) (X : Cx), GX T C c k p W X → ck T (.enm a) m p x = true → Snd C W X m x (ev c (.enm a)) := fun m p x W X G h => by
    rw [ck_enm] at h
    split at h
    · simp only [Bool.and_eq_true] at h
      obtain ⟨ht, h⟩ := h
      split at h
      · simp only [Bool.and_eq_true, decide_eq_true_eq] at h
        obtain ⟨⟨⟨rfl, h2⟩, h3⟩, h4⟩ := h
        unfold isTupE at ht
        split at ht
        · exact pi_enum2 (gloOf G h2) (G.tx.blt _ (by decide)) (ih_a.e .v p _ W X G h3) h4
        · cases ht
      · cases h
    · cases h
theorem sdc_zp {a b : A} (ih_a : SD T C c k a) (ih_b : SD T C c k b) : ∀ (m : Md) (p : Pl) (x : Expr) (W : WX) (X : Cx), GX T C c k p W X → ck T (.zp a b) m p x = true → Snd C W X m x (ev c (.zp a b)) := fun m p x W X G h => by
    rw [ck_zp] at h
    split at h
    · simp only [Bool.and_eq_true] at h
      obtain ⟨ht, h⟩ := h
      split at h
      · simp only [Bool.and_eq_true, decide_eq_true_eq] at h
        obtain ⟨⟨⟨⟨⟨rfl, h2⟩, h3⟩, h4⟩, h5⟩, h6⟩ := h
        unfold isTupE at ht
        split at ht
        · exact pi_zip2 (gloOf G h2) (G.tx.blt _ (by decide)) (ih_a.e .v p _ W X G h3) (ih_b.e .v p _ W X G h5) h4 h6
        · cases ht
      · cases h
    · cases h
theorem sdc_lrng {lo hi : A} (ih_lo : SD T C c k lo) (ih_hi : SD T C c k hi) : ∀ (m : Md) (p : Pl) (x : Expr) (W : WX) (X : Cx), GX T C c k p W X → ck T (.lrng lo hi) m p x = true → Snd C W X m x (ev c (.lrng lo hi)) := fun m p x W X G h => by
    rw [ck_lrng, Bool.and_eq_true] at h
    obtain ⟨hu, h⟩ := h
    split at h
    · simp only [Bool.and_eq_true, decide_eq_true_eq] at h
      obtain ⟨⟨⟨⟨⟨⟨⟨rfl, h2⟩, rfl⟩, h4⟩, h5⟩, h6⟩, h7⟩, h8⟩ := h
      exact snd_up (px_lrng G.calm (gloOf G h2) (G.tx.blt _ (by decide)) (gloOf G h4) (G.tx.blt _ (by decide)) (ih_lo.e .v p _ W X G h5) (ih_hi.e .v p _ W X G h7) h6 h8) hu
    · cases h
theorem sdc_lc {el tg it t : A} (ih_el : SD T C c k el) (ih_tg : SD T C c k tg) (ih_it : SD T C c k it) (ih_t : SD T C c k t) : ∀ (m : Md) (p : Pl) (x : Expr) (W : WX) (X : Cx), GX T C c k p W X → ck T (.lc el tg it t) m p x = true → Snd C W X m x (ev c (.lc el tg it t)) := fun m p x W X G h => by
    rw [ck_lc, Bool.and_eq_true] at h
    obtain ⟨hu, h⟩ := h
    split at h
    · rename_i e tx ix fs scope pos
      simp only [Bool.and_eq_true] at h
      obtain ⟨⟨⟨⟨⟨h1, h2⟩, h3⟩, h4⟩, h5⟩, h6⟩ := h
      refine snd_up (px_lc G.calm (by rw [G.N]; exact G.nd) (ih_it.e (.i tx) p _ W X G h2) (own := ownOf p (tgSlots tg)) ?_ (fun i => by rw [own_fst]) ?_ ?_ ?_ h3) hu
      · rw [G.N, G.sc]; exact blkOk_by h1
      · exact fun s H Ca cl fp => sd_G (G.blk scope s H Ca cl fp) tg tx h4
      · exact fun s H Ca cl fp => sd_ifs h5 fun c' hc => ih_t.e .t _ c' WF _ (G.blk scope s H Ca cl fp) hc
      · exact fun s H Ca cl fp => ih_el.e .v _ e WF _ (G.blk scope s H Ca cl fp) h6
    · cases h
theorem sdc_lc2 {el tg it t tg2 it2 t2 : A} (ih_el : SD T C c k el) (ih_tg : SD T C c k tg) (ih_it : SD T C c k it) (ih_t : SD T C c k t) (ih_tg2 : SD T C c k tg2) (ih_it2 : SD T C c k it2) (ih_t2 : SD T C c k t2) : ∀ (m : Md) (p : Pl) (x : Expr) (W : WX) (X : Cx), GX T C c k p W X → ck T (.lc2 el tg it t tg2 it2 t2) m p x = true → Snd C W X m x (ev c (.lc2 el tg it t tg2 it2 t2)) := fun m p x W X G h => by
    rw [ck_lc2, Bool.and_eq_true] at h
    obtain ⟨hu, h⟩ := h
    split at h
    · rename_i e tx ix fs tx2 ix2 fs2 scope pos
      simp only [Bool.and_eq_true] at h
      obtain ⟨⟨⟨⟨⟨⟨⟨⟨⟨h1, h2⟩, h3⟩, h4⟩, h5⟩, h6⟩, h7⟩, h8⟩, h9⟩, h10⟩ := h
      refine snd_up (px_lc2 G.calm (by rw [G.N]; exact G.nd) (ih_it.e (.i tx) p _ W X G h2) (own := ownOf p (tgSlots tg ++ tgSlots tg2)) ?_ (fun i => by rw [own_fst]) ?_ ?_ ?_ ?_ ?_ ?_ h3 h7) hu
      · rw [G.N, G.sc]; exact blkOk_by h1
      · exact fun s H Ca cl fp => sd_G (G.blk scope s H Ca cl fp) tg tx h4
      · exact fun s H Ca cl fp => sd_ifs h5 fun c' hc => ih_t.e .t _ c' WF _ (G.blk scope s H Ca cl fp) hc
      · exact fun s H Ca cl fp => ih_it2.e (.i tx2) _ ix2 WF _ (G.blk scope s H Ca cl fp) h6
      · exact fun s H Ca cl fp => sd_G (G.blk scope s H Ca cl fp) tg2 tx2 h8
      · exact fun s H Ca cl fp => sd_ifs h9 fun c' hc => ih_t2.e .t _ c' WF _ (G.blk scope s H Ca cl fp) hc
      · exact fun s H Ca cl fp => ih_el.e .v _ e WF _ (G.blk scope s H Ca cl fp) h10
    · cases h
theorem sdc_cellC {el tg it t tg2 it2 t2 : A} (ih_el : SD T C c k el) (ih_tg : SD T C c k tg) (ih_it : SD T C c k it) (ih_t : SD T C c k t) (ih_tg2 : SD T C c k tg2) (ih_it2 : SD T C c k it2) (ih_t2 : SD T C c k t2) : ∀ (m : Md) (p : Pl) (x : Expr) (W : WX) (X : Cx), GX T C c k p W X → ck T (.cellC el tg it t tg2 it2 t2) m p x = true → Snd C W X m x (ev c (.cellC el tg it t tg2 it2 t2)) := fun m p x W X G h => by
    rw [ck_cellC, Bool.and_eq_true] at h
    obtain ⟨hu, h⟩ := h
    split at h
    · rename_i e tx ix fs tx2 ix2 fs2 scope pos
      simp only [Bool.and_eq_true] at h
      obtain ⟨⟨⟨⟨⟨⟨⟨⟨⟨h1, h2⟩, h3⟩, h4⟩, h5⟩, h6⟩, h7⟩, h8⟩, h9⟩, h10⟩ := h
      refine snd_up (px_cellC G.calm (by rw [G.N]; exact G.nd) (ih_it.e (.i tx) p _ W X G h2) (own := ownOf p (tgSlots tg ++ tgSlots tg2)) ?_ (fun i => by rw [own_fst]) ?_ ?_ ?_ ?_ ?_ ?_ h3 h7) hu
      · rw [G.N, G.sc]; exact blkOk_by h1
      · exact fun s H Ca cl fp => sd_G (G.blk scope s H Ca cl fp) tg tx h4
      · exact fun s H Ca cl fp => sd_ifs h5 fun c' hc => ih_t.e .t _ c' WF _ (G.blk scope s H Ca cl fp) hc
      · exact fun s H Ca cl fp => ih_it2.e (.i tx2) _ ix2 WF _ (G.blk scope s H Ca cl fp) h6
      · exact fun s H Ca cl fp => sd_G (G.blk scope s H Ca cl fp) tg2 tx2 h8
      · exact fun s H Ca cl fp => sd_ifs h9 fun c' hc => ih_t2.e .t _ c' WF _ (G.blk scope s H Ca cl fp) hc
      · exact fun s H Ca cl fp => ih_el.e .v _ e WF _ (G.blk scope s H Ca cl fp) h10
    · cases h
theorem sdc_dc {kx v tg it t : A} (ih_kx : SD T C c k kx) (ih_v : SD T C c k v) (ih_tg : SD T C c k tg) (ih_it : SD T C c k it) (ih_t : SD T C c k t) : ∀ (m : Md) (p : Pl) (x : Expr) (W : WX) (X : Cx), GX T C c k p W X → ck T (.dc kx v tg it t) m p x = true → Snd C W X m x (ev c (.dc kx v tg it t)) := fun m p x W X G h => by
    rw [ck_dc, Bool.and_eq_true] at h
    obtain ⟨hu, h⟩ := h
    split at h
    · rename_i ke e tx ix fs scope pos
      simp only [Bool.and_eq_true] at h
      obtain ⟨⟨⟨⟨⟨⟨h1, h2⟩, h3⟩, h4⟩, h5⟩, h6⟩, h7⟩ := h
      refine snd_up (px_dc G.calm (by rw [G.N]; exact G.nd) (ih_it.e (.i tx) p _ W X G h2) (own := ownOf p (tgSlots tg)) ?_ (fun i => by rw [own_fst]) ?_ ?_ ?_ ?_ h3) hu
      · rw [G.N, G.sc]; exact blkOk_by h1
      · exact fun s H Ca cl fp => sd_G (G.blk scope s H Ca cl fp) tg tx h4
      · exact fun s H Ca cl fp => sd_ifs h5 fun c' hc => ih_t.e .t _ c' WF _ (G.blk scope s H Ca cl fp) hc
      · exact fun s H Ca cl fp => ih_kx.e .v _ ke WF _ (G.blk scope s H Ca cl fp) h6
      · exact fun s H Ca cl fp => ih_v.e .v _ e WF _ (G.blk scope s H Ca cl fp) h7
    · cases h
theorem sdc_frz {a : A} (ih_a : SD T C c k a) : ∀ (m : Md) (p : Pl) (x : Expr) (W : WX) (X : Cx), GX T C c k p W X → ck T (.frz a) m p x = true → Snd C W X m x (ev c (.frz a)) := fun m p x W X G h => by
    rw [ck_frz, Bool.and_eq_true] at h
    exact snd_up (px_frz (ih_a.e .v p x W X G h.2)) h.1
theorem noL {a : A} {P : Prop} {p : Pl} {es : List Expr} (h : ckL T a p es = true) (h1 : a ≠ .nil) (h2 : ∀ b c, a ≠ .cons b c) : P := by
  rcases ckL_no T a p es h with ⟨e, _⟩ | ⟨b, c, _, _, e, _⟩
  · exact absurd e h1
  · exact absurd e (h2 b c)
theorem noB {a : A} {P : Prop} {t n : Bool} {p : Pl} {es : List Expr} (h : ckB T a t n p es = true) (h1 : ∀ b c, a ≠ .and b c) (h2 : ∀ b c, a ≠ .or b c) : P := by
  obtain ⟨b, c, _, _, _, _, ⟨e, _⟩ | ⟨e, _⟩⟩ := ckB_no T a t n p es h
  · exact absurd e (h1 b c)
  · exact absurd e (h2 b c)
theorem sdl_nil : ∀ (p : Pl) (es : List Expr) (W : WX) (X : Cx), GX T C c k p W X → ckL T .nil p es = true → PA X es (tXs C W (ev c .nil)) := fun p es W X G h => by
  cases es with
  | nil => exact pl_nil
  | cons e es => cases h
theorem sdl_cons {a b : A} (ih_a : SD T C c k a) (ih_b : SD T C c k b) : ∀ (p : Pl) (es : List Expr) (W : WX) (X : Cx), GX T C c k p W X → ckL T (.cons a b) p es = true → PA X es (tXs C W (ev c (.cons a b))) := fun p es W X G h => by
  cases es with
  | nil => cases h
  | cons e es =>
    rw [ckL_cons] at h
    simp only [Bool.and_eq_true] at h
    exact pl_cons (ih_a.e .v p e W X G h.1.1) (ih_b.l p es W X G h.1.2) h.2
theorem sdb_and {a b : A} (ih_a : SD T C c k a) (ih_b : SD T C c k b) : ∀ (t n : Bool) (p : Pl) (es : List Expr) (pos : Pos) (W : WX) (X : Cx), GX T C c k p W X → ckB T (.and a b) t n p es = true →
    (if t then PW X (.BoolOp (if n then .And else .Or) es pos) (tT C W (ev c (.and a b))) else PE X (.BoolOp (if n then .And else .Or) es pos) (tX C W (ev c (.and a b)))) := fun t n p es pos W X G h => by
  obtain ⟨_, _, y, z, r, rfl, ⟨e, rfl⟩ | ⟨e, _⟩⟩ := ckB_no T _ t n p es h
  · cases e
    rw [ckB_and, Bool.and_eq_true] at h
    obtain ⟨h1, h2⟩ := h
    cases t with
    | true =>
      have h2 : PW X (.BoolOp .And (z :: r) pos) (tT C W (ev c b)) := by
        cases r with
        | nil => exact pw_and1 (ih_b.e .t p _ W X G h2)
        | cons w ws => exact (ih_b.b true true p _ pos W X G h2)
      exact pq_and (ih_a.e .t p _ W X G h1) h2
    | false =>
      have h2 : PE X (.BoolOp .And (z :: r) pos) (tX C W (ev c b)) := by
        cases r with
        | nil => exact pe_one (ih_b.e .v p _ W X G h2)
        | cons w ws => exact (ih_b.b false true p _ pos W X G h2)
      exact px_and (ih_a.e .v p _ W X G h1) h2
  · cases e
theorem sdb_or {a b : A} (ih_a : SD T C c k a) (ih_b : SD T C c k b) : ∀ (t n : Bool) (p : Pl) (es : List Expr) (pos : Pos) (W : WX) (X : Cx), GX T C c k p W X → ckB T (.or a b) t n p es = true →
    (if t then PW X (.BoolOp (if n then .And else .Or) es pos) (tT C W (ev c (.or a b))) else PE X (.BoolOp (if n then .And else .Or) es pos) (tX C W (ev c (.or a b)))) := fun t n p es pos W X G h => by
  obtain ⟨_, _, y, z, r, rfl, ⟨e, _⟩ | ⟨e, rfl⟩⟩ := ckB_no T _ t n p es h
  · cases e
  · cases e
    rw [ckB_or, Bool.and_eq_true] at h
    obtain ⟨h1, h2⟩ := h
    cases t with
    | true =>
      have h2 : PW X (.BoolOp .Or (z :: r) pos) (tT C W (ev c b)) := by
        cases r with
        | nil => exact pw_or1 (ih_b.e .t p _ W X G h2)
        | cons w ws => exact (ih_b.b true false p _ pos W X G h2)
      exact pq_or (ih_a.e .t p _ W X G h1) h2
    | false =>
      have h2 : PE X (.BoolOp .Or (z :: r) pos) (tX C W (ev c b)) := by
        cases r with
        | nil => exact pe_one (ih_b.e .v p _ W X G h2)
        | cons w ws => exact (ih_b.b false false p _ pos W X G h2)
      exact px_or (ih_a.e .v p _ W X G h1) h2
theorem bind_one (q : Str) (x : Str) (an : Option Expr) (pp : Pos) (body : Expr) (scope : Scope) (cl : List (Str × Addr)) (pm cv ctv u : Value) :
    bindArgs (PySem.W.kla_fn "<lambda>" q ⟨[], [⟨x, an, pp⟩], none, [], [], none, []⟩ body scope cl pm cv ctv) ⟨[u], []⟩ = pure [(x, u)] := by
  have e : ([(x, u)] : List (Str × Value)).lookup x = some u := by simp [List.lookup]
  unfold bindArgs
  simp [seqItems?, e]
  rfl
theorem sdc_sortK {a b : A} {fr : List Nat} (ih_a : SD T C c k a) (ih_b : ∀ (c : Ctx) (k : Nat), SD T C c k b) : ∀ (m : Md) (p : Pl) (x : Expr) (W : WX) (X : Cx), GX T C c k p W X → ck T (.sortK a fr b) m p x = true → Snd C W X m x (ev c (.sortK a fr b)) := fun m p x W X G h => by
  rw [ck_sortK, Bool.and_eq_true] at h
  obtain ⟨hu, h⟩ := h
  split at h
  case h_2 => cases h
  rename_i n p1 y kn params body scope lpos kpos pos
  simp only [Bool.and_eq_true, decide_eq_true_eq] at h
  obtain ⟨rfl, h2, rfl, h4, h5, h6, h7, h8⟩ := h
  have hfs : p.fs = none := by
    unfold fsNone at h4
    split at h4
    · rename_i e; exact e
    · cases h4
  unfold lamB at h7
  simp only [Bool.and_eq_true, List.all_eq_true, List.any_eq_true, decide_eq_true_eq] at h7
  obtain ⟨g1, g2, g3, g4, g5⟩ := h7
  obtain ⟨p0, hp0⟩ : ∃ p0, lamPar params = some p0 := Option.isSome_iff_exists.mp g1
  have hpar : ∃ an pp, params = ⟨[], [⟨p0, an, pp⟩], none, [], [], none, []⟩ := by
    unfold lamPar at hp0
    split at hp0
    · cases hp0; exact ⟨_, _, rfl⟩
    · cases hp0
  obtain ⟨an, pp, rfl⟩ := hpar
  have egd : (lamPar ⟨[], [⟨p0, an, pp⟩], none, [], [], none, []⟩).getD "" = p0 := rfl
  rw [egd] at g2
  have S := NdefX.nscope_by g2
  have hlf : (lamFr p fr).length = fr.length := by unfold lamFr; simp
  refine snd_up ?_ hu
  have key : ∀ (kf : Mt.X) (k3 : Nat), (c.tab.2 ≠ [] → Room (k3 + 3) X.A) → c.key b = kf → (c.tab.2 ≠ [] → ∀ (q : Str) (cl : List (Str × Addr)) (c' f : Addr) (A : Around) (outer : List PySem.Env) (s : Shared) (H : Hp), Room k3 (A.deeper (NdefX.envF (lamF q ⟨[], [⟨p0, an, pp⟩], none, [], [], none, []⟩ scope cl c') f s.heap.objs.size)) → PE (lamX X.prog X.w X.K X.mg X.base (p0 :: lamFr p fr) q ⟨[], [⟨p0, an, pp⟩], none, [], [], none, []⟩ scope cl c' f A outer s H) body (tX C WF kf)) →
      PE X (.Call (.Name "sorted" p1) [y] [⟨some "key", .Lambda ⟨[], [⟨p0, an, pp⟩], none, [], [], none, []⟩ body scope lpos, kpos⟩] pos) (tX C W (xSortK c.tab (c.key b) (ev c a) fr)) := fun kf k3 hr ek hbd => by
    rw [ek]
    refine px_sortK (gloOf G h2) (G.tx.blt _ (by decide)) hr (G.tab hfs) (ih_a.e .v p _ W X G h5) h6 S (by simp) rfl (fun q cl pm cv ctv u => bind_one q p0 an pp body scope cl pm cv ctv u) (fun z hz e => ?_) (fun z hz => ?_) ?_ hbd
    · have := g3 z hz
      rw [e] at this
      rw [G.sc]
      dsimp only at this
      split at this
      · rename_i e2; exact .inl e2
      · rename_i e2; exact .inr e2
      · cases this
    · obtain ⟨w, hw, e1, e2⟩ := g4 z hz
      obtain ⟨w1, w2⟩ := w
      simp only at e1 e2
      subst e1 e2
      exact hw
    · rw [G.N]; exact g5
  rcases G.key with z | ⟨c3, k3, ek, ec, tx3, t3⟩
  · exact key (c.key b) 0 (fun n => absurd z n) rfl fun n => absurd z n
  · refine key (ev c3 b) k3 (fun _ => by rw [← ek]; exact G.room) (ec b) fun _ q cl c' f A outer s H hrr => ?_
    have G3 : GX T C c3 k3 (lamP ⟨[], [⟨p0, an, pp⟩], none, [], [], none, []⟩ scope p fr) WF (lamX X.prog X.w X.K X.mg X.base (p0 :: lamFr p fr) q ⟨[], [⟨p0, an, pp⟩], none, [], [], none, []⟩ scope cl c' f A outer s H) := by
      refine ⟨tx3, rfl, S.nd, rfl, fun x => ?_, rfl, hrr, fun u s' ⟨a, B, sI, pins, σ, H, cls, d, e, I, nb, up, sky, na, os, ag, w⟩ => w.elim, .inl t3, fun z => nomatch z⟩
      show false = (scope.names.lookup x == some .cell)
      cases e : scope.names.lookup x with
      | none => rfl
      | some kd =>
        have := S.nocell _ (PySem.mem_of_lookup e)
        cases kd <;> first | rfl | exact absurd rfl this
    exact (ih_b c3 k3).e .v _ body WF _ G3 h8
theorem sdOf {a : A} (e : ∀ (m : Md) (p : Pl) (x : Expr) (W : WX) (X : Cx), GX T C c k p W X → ck T a m p x = true → Snd C W X m x (ev c a)) (h1 : a ≠ .nil) (h2 : ∀ b c, a ≠ .cons b c) (h3 : ∀ b c, a ≠ .and b c) (h4 : ∀ b c, a ≠ .or b c) : SD T C c k a :=
  ⟨e, fun p es W X G h => noL h h1 h2, fun t n p es pos W X G h => noB h h3 h4⟩
theorem sdNo {a : A} (e : ∀ m p x, ck T a m p x = false) (h1 : a ≠ .nil) (h2 : ∀ b c, a ≠ .cons b c) (h3 : ∀ b c, a ≠ .and b c) (h4 : ∀ b c, a ≠ .or b c) : SD T C c k a :=
  sdOf (fun m p x W X G h => by rw [e] at h; cases h) h1 h2 h3 h4
theorem sd_all' (a : A) : ∀ (c : Ctx) (k : Nat), SD T C c k a := by
  induction a with

  | con d => intro c k; exact sdOf (sdc_con) (by intro e; cases e) (by intro b c e; cases e) (by intro b c e; cases e) (by intro b c e; cases e)
  | glo i d => intro c k; exact sdOf (sdc_glo) (by intro e; cases e) (by intro b c e; cases e) (by intro b c e; cases e) (by intro b c e; cases e)
  | var i => intro c k; exact sdOf (sdc_var) (by intro e; cases e) (by intro b c e; cases e) (by intro b c e; cases e) (by intro b c e; cases e)
  | tup a ih_a => intro c k; exact sdOf (sdc_tup (ih_a c k)) (by intro e; cases e) (by intro b c e; cases e) (by intro b c e; cases e) (by intro b c e; cases e)
  | lst a ih_a => intro c k; exact sdOf (sdc_lst (ih_a c k)) (by intro e; cases e) (by intro b c e; cases e) (by intro b c e; cases e) (by intro b c e; cases e)
  | cellL a ih_a => intro c k; exact sdOf (sdc_cellL (ih_a c k)) (by intro e; cases e) (by intro b c e; cases e) (by intro b c e; cases e) (by intro b c e; cases e)
  | cellB op a b ih_a ih_b => intro c k; exact sdOf (sdc_cellB (ih_a c k) (ih_b c k)) (by intro e; cases e) (by intro b c e; cases e) (by intro b c e; cases e) (by intro b c e; cases e)
  | dnK  => intro c k; exact sdOf (sdc_dnK) (by intro e; cases e) (by intro b c e; cases e) (by intro b c e; cases e) (by intro b c e; cases e)
  | dnT  => intro c k; exact sdOf (sdc_dnT) (by intro e; cases e) (by intro b c e; cases e) (by intro b c e; cases e) (by intro b c e; cases e)
  | bin op a b ih_a ih_b => intro c k; exact sdOf (sdc_bin (ih_a c k) (ih_b c k)) (by intro e; cases e) (by intro b c e; cases e) (by intro b c e; cases e) (by intro b c e; cases e)
  | neg a ih_a => intro c k; exact sdOf (sdc_neg (ih_a c k)) (by intro e; cases e) (by intro b c e; cases e) (by intro b c e; cases e) (by intro b c e; cases e)
  | not a ih_a => intro c k; exact sdOf (sdc_not (ih_a c k)) (by intro e; cases e) (by intro b c e; cases e) (by intro b c e; cases e) (by intro b c e; cases e)
  | and a b ih_a ih_b => intro c k; exact ⟨sdc_and (ih_a c k) (ih_b c k), fun p es W X G h => noL h (by intro e; cases e) (by intro b c e; cases e), sdb_and (ih_a c k) (ih_b c k)⟩
  | or a b ih_a ih_b => intro c k; exact ⟨sdc_or (ih_a c k) (ih_b c k), fun p es W X G h => noL h (by intro e; cases e) (by intro b c e; cases e), sdb_or (ih_a c k) (ih_b c k)⟩
  | ite t a b ih_t ih_a ih_b => intro c k; exact sdOf (sdc_ite (ih_t c k) (ih_a c k) (ih_b c k)) (by intro e; cases e) (by intro b c e; cases e) (by intro b c e; cases e) (by intro b c e; cases e)
  | cmp op a b ih_a ih_b => intro c k; exact sdOf (sdc_cmp (ih_a c k) (ih_b c k)) (by intro e; cases e) (by intro b c e; cases e) (by intro b c e; cases e) (by intro b c e; cases e)
  | chain op op' a b d ih_a ih_b ih_d => intro c k; exact sdOf (sdc_chain (ih_a c k) (ih_b c k) (ih_d c k)) (by intro e; cases e) (by intro b c e; cases e) (by intro b c e; cases e) (by intro b c e; cases e)
  | idx a b ih_a ih_b => intro c k; exact sdOf (sdc_idx (ih_a c k) (ih_b c k)) (by intro e; cases e) (by intro b c e; cases e) (by intro b c e; cases e) (by intro b c e; cases e)
  | dget a b ih_a ih_b => intro c k; exact sdOf (sdc_dget (ih_a c k) (ih_b c k)) (by intro e; cases e) (by intro b c e; cases e) (by intro b c e; cases e) (by intro b c e; cases e)
  | din a b ih_a ih_b => intro c k; exact sdOf (sdc_din (ih_a c k) (ih_b c k)) (by intro e; cases e) (by intro b c e; cases e) (by intro b c e; cases e) (by intro b c e; cases e)
  | dnin a b ih_a ih_b => intro c k; exact sdOf (sdc_dnin (ih_a c k) (ih_b c k)) (by intro e; cases e) (by intro b c e; cases e) (by intro b c e; cases e) (by intro b c e; cases e)
  | sl a lo hi ih_a ih_lo ih_hi => intro c k; exact sdOf (sdc_sl (ih_a c k) (ih_lo c k) (ih_hi c k)) (by intro e; cases e) (by intro b c e; cases e) (by intro b c e; cases e) (by intro b c e; cases e)
  | slL a lo ih_a ih_lo => intro c k; exact sdOf (sdc_slL (ih_a c k) (ih_lo c k)) (by intro e; cases e) (by intro b c e; cases e) (by intro b c e; cases e) (by intro b c e; cases e)
  | slU a hi ih_a ih_hi => intro c k; exact sdOf (sdc_slU (ih_a c k) (ih_hi c k)) (by intro e; cases e) (by intro b c e; cases e) (by intro b c e; cases e) (by intro b c e; cases e)
  | call f a ih_a => intro c k; exact sdOf (sdc_call (ih_a c k)) (by intro e; cases e) (by intro b c e; cases e) (by intro b c e; cases e) (by intro b c e; cases e)
  | blt b a ih_a => intro c k; exact sdOf (sdc_blt (ih_a c k)) (by intro e; cases e) (by intro b c e; cases e) (by intro b c e; cases e) (by intro b c e; cases e)
  | isi a ts ih_a => intro c k; exact sdOf (sdc_isi (ih_a c k)) (by intro e; cases e) (by intro b c e; cases e) (by intro b c e; cases e) (by intro b c e; cases e)
  | bm b o a ih_o ih_a => intro c k; exact sdOf (sdc_bm (ih_o c k) (ih_a c k)) (by intro e; cases e) (by intro b c e; cases e) (by intro b c e; cases e) (by intro b c e; cases e)
  | rng1 hi ih_hi => intro c k; exact sdOf (sdc_rng1 (ih_hi c k)) (by intro e; cases e) (by intro b c e; cases e) (by intro b c e; cases e) (by intro b c e; cases e)
  | rng lo hi ih_lo ih_hi => intro c k; exact sdOf (sdc_rng (ih_lo c k) (ih_hi c k)) (by intro e; cases e) (by intro b c e; cases e) (by intro b c e; cases e) (by intro b c e; cases e)
  | enm a ih_a => intro c k; exact sdOf (sdc_enm (ih_a c k)) (by intro e; cases e) (by intro b c e; cases e) (by intro b c e; cases e) (by intro b c e; cases e)
  | zp a b ih_a ih_b => intro c k; exact sdOf (sdc_zp (ih_a c k) (ih_b c k)) (by intro e; cases e) (by intro b c e; cases e) (by intro b c e; cases e) (by intro b c e; cases e)
  | lrng lo hi ih_lo ih_hi => intro c k; exact sdOf (sdc_lrng (ih_lo c k) (ih_hi c k)) (by intro e; cases e) (by intro b c e; cases e) (by intro b c e; cases e) (by intro b c e; cases e)
  | lc el tg it t ih_el ih_tg ih_it ih_t => intro c k; exact sdOf (sdc_lc (ih_el c k) (ih_tg c k) (ih_it c k) (ih_t c k)) (by intro e; cases e) (by intro b c e; cases e) (by intro b c e; cases e) (by intro b c e; cases e)
  | lc2 el tg it t tg2 it2 t2 ih_el ih_tg ih_it ih_t ih_tg2 ih_it2 ih_t2 => intro c k; exact sdOf (sdc_lc2 (ih_el c k) (ih_tg c k) (ih_it c k) (ih_t c k) (ih_tg2 c k) (ih_it2 c k) (ih_t2 c k)) (by intro e; cases e) (by intro b c e; cases e) (by intro b c e; cases e) (by intro b c e; cases e)
  | cellC el tg it t tg2 it2 t2 ih_el ih_tg ih_it ih_t ih_tg2 ih_it2 ih_t2 => intro c k; exact sdOf (sdc_cellC (ih_el c k) (ih_tg c k) (ih_it c k) (ih_t c k) (ih_tg2 c k) (ih_it2 c k) (ih_t2 c k)) (by intro e; cases e) (by intro b c e; cases e) (by intro b c e; cases e) (by intro b c e; cases e)
  | dc kx v tg it t ih_kx ih_v ih_tg ih_it ih_t => intro c k; exact sdOf (sdc_dc (ih_kx c k) (ih_v c k) (ih_tg c k) (ih_it c k) (ih_t c k)) (by intro e; cases e) (by intro b c e; cases e) (by intro b c e; cases e) (by intro b c e; cases e)
  | frz a ih_a => intro c k; exact sdOf (sdc_frz (ih_a c k)) (by intro e; cases e) (by intro b c e; cases e) (by intro b c e; cases e) (by intro b c e; cases e)
  | nil => intro c k; exact ⟨fun m p x W X G h => (by rw [ck_nil] at h; cases h), sdl_nil, fun t n p es pos W X G h => noB h (by intro b c e; cases e) (by intro b c e; cases e)⟩
  | cons a b ih_a ih_b => intro c k; exact ⟨fun m p x W X G h => (by rw [ck_cons] at h; cases h), sdl_cons (ih_a c k) (ih_b c k), fun t n p es pos W X G h => noB h (by intro b c e; cases e) (by intro b c e; cases e)⟩
  | tgN i => intro c k; exact sdNo (fun m p x => ck_tgN T i m p x) (by intro e; cases e) (by intro b c e; cases e) (by intro b c e; cases e) (by intro b c e; cases e)
  | tgT a ih_a => intro c k; exact sdNo (fun m p x => ck_tgT T a m p x) (by intro e; cases e) (by intro b c e; cases e) (by intro b c e; cases e) (by intro b c e; cases e)
  | sortK a fr b ih_a ih_b => intro c k; exact sdOf (sdc_sortK (ih_a c k) ih_b) (by intro e; cases e) (by intro b c e; cases e) (by intro b c e; cases e) (by intro b c e; cases e)
theorem sd_all (a : A) : SD T C c k a := sd_all' a c k
end
end Mt
end
section
set_option linter.all false
set_option autoImplicit false
set_option maxRecDepth 100000
set_option maxHeartbeats 2000000
/-! MtK5: the check of statements. -/
namespace Mt
open PySem PySem.Spec PyProof.Rows L2
theorem sw_lc {e : Expr} {gs : List Comprehension} {scope : Scope} {pos px : Pos} {x : Str} {l : Nat} {env : PySem.Env} : swapsWith (.ListComp e gs scope pos) (some (.Name x px)) l env = pure (env.blockKind == .function && env.kindOf x == some .local && px.line == pos.line
      && !(scope.names.any fun (n, k) => n == x && (k == .local || k == .cell))) := rfl
theorem sw_dc {kx e : Expr} {gs : List Comprehension} {scope : Scope} {pos px : Pos} {x : Str} {l : Nat} {env : PySem.Env} : swapsWith (.DictComp kx e gs scope pos) (some (.Name x px)) l env = pure (env.blockKind == .function && env.kindOf x == some .local && px.line == pos.line
      && !(scope.names.any fun (n, k) => n == x && (k == .local || k == .cell))) := rfl
theorem sw_none {x y : Str} {px py pt pt2 : Pos} {k k2 : Nat} {a b : Expr} {env : PySem.Env} (h : env.kindOf x ≠ some .local ∨ env.kindOf y ≠ some .local) : swappedStores [.Tuple [.Name x px, .Name y py] k pt] (.Tuple [a, b] k2 pt2) env = pure none := by
  unfold swappedStores
  dsimp only
  split
  · rfl
  · split
    · rfl
    · split
      · rfl
      · rename_i h3
        exfalso
        apply h3
        clear h3
        generalize (Option.map (fun x : Expr => x.pos.line) [Expr.Name x px, Expr.Name y py].head?).getD 0 = l
        rcases h with h | h
        · have e1 : (env.kindOf x == some .local) = false := by simpa using h
          cases e2 : (env.kindOf y == some .local && py.line == l) <;> simp only [List.filterMap_cons, List.filterMap_nil, e1, e2, Bool.false_and, Bool.false_eq_true, if_false, if_true, ite_true, ite_false, Bool.true_eq_false] <;> rfl
        · have e1 : (env.kindOf y == some .local) = false := by simpa using h
          cases e2 : (env.kindOf x == some .local && px.line == l) <;> simp only [List.filterMap_cons, List.filterMap_nil, e1, e2, Bool.false_and, Bool.false_eq_true, if_false, if_true, ite_true, ite_false, Bool.true_eq_false] <;> rfl
theorem sw_some {x y : Str} {px py pt pt2 : Pos} {k k2 : Nat} {a b : Expr} {env : PySem.Env} (hx : env.kindOf x = some .local) (hy : env.kindOf y = some .local) (hl : (py.line == px.line) = true) (hxy : (y == x) = false) (hk : env.blockKind = .function) (ha : tame a = true) (hb : tame b = true)
    (h1 : ([a, b].all (foldedForSure 8)) = false) (h2 : ([a, b].all (constantsAlone 8)) = false) : swappedStores [.Tuple [.Name x px, .Name y py] k pt] (.Tuple [a, b] k2 pt2) env = pure (some [x, y]) := by
  unfold swappedStores
  dsimp only
  generalize hL : List.filterMap _ [Expr.Name x px, Expr.Name y py] = L
  have nm : L = [x, y] := by
    rw [← hL]
    have e0 : (Option.map (fun x : Expr => x.pos.line) [Expr.Name x px, Expr.Name y py].head?).getD 0 = px.line := rfl
    rw [e0]
    simp only [List.filterMap_cons, List.filterMap_nil, hx, hy, hl]
    simp
  subst nm
  have e1 : ([x, y] : List Str).eraseDups = [x, y] := by
    rw [List.eraseDups_cons]
    simp only [List.filter_cons, List.filter_nil, hxy]
    simp [List.eraseDups_cons]
  rw [if_neg (by rw [hk]; intro z; exact Bool.noConfusion z), if_neg (by intro z; cases a <;> cases b <;> first | (cases z; done) | (cases ha; done) | (cases hb; done)), if_neg (by rw [e1]; simp), if_neg (by rw [h1]; decide), if_neg (by rw [h2]; decide)]
def noComp : Expr → Bool
  | .ListComp .. => false
  | .DictComp .. => false
  | _ => true
def noTup : Expr → Bool
  | .Tuple .. => false
  | _ => true
theorem tame_sw {e : Expr} (h : tame e = true) (hl : noComp e = true) (t : Option Expr) (l : Nat) (env : PySem.Env) : swapsWith e t l env = pure false := by
  cases e <;> first | rfl | (cases h; done) | (cases hl; done)
theorem tame_swT {e : Expr} (h : tame e = true) {es : List Expr} {k : Nat} {pos : Pos} (l : Nat) (env : PySem.Env) : swapsWithSole [.Tuple es k pos] e l env = pure false := by
  cases e <;> first | rfl | (simp [tame] at h)
theorem tame_swS {e : Expr} (h : tame e = true) {o i : Expr} {pos : Pos} (l : Nat) (env : PySem.Env) : swapsWithSole [.Subscript o i pos] e l env = pure false := by
  cases e <;> first | rfl | (simp [tame] at h)
theorem tame_st {e : Expr} (h : tame e = true) (hl : noTup e = true) {ts : List Expr} {k : Nat} {pos : Pos} (env : PySem.Env) : swappedStores [.Tuple ts k pos] e env = pure none := by
  cases e <;> first | rfl | (cases h; done) | (cases hl; done)
/-! ### the check -/
def isCallE : Expr → Bool
  | .Call .. => true
  | _ => false
def funB (p : Pl) : Bool := match p.sc.kind with
  | .function => true
  | _ => false
def isLc : A → Bool
  | .lc .. => true
  | .lc2 .. => true
  | _ => false
/-- name = e -/
def ckSet (T : Txt) (i : Nat) (a : A) (p : Pl) (x : Str) (px : Pos) (e : Expr) : Bool :=
  decide (p.N[i]? = some x) && locB p.sc x && fnB p x && tame e && ck T a .v p e && (match e with
    | .ListComp _ _ scope pos => if lclB p.sc x then isLc a && funB p && (px.line == pos.line) && !(scope.names.any fun (n, k) => n == x && (k == .local || k == .cell)) else true
    | .DictComp .. => !lclB p.sc x
    | _ => true)
/-- a, b = x, y -/
def ckPar (T : Txt) (i j : Nat) (a : A) (p : Pl) (x y : Str) (px py : Pos) (e1 e2 : Expr) : Bool :=
  decide (p.N[i]? = some x) && decide (p.N[j]? = some y) && !(y == x) && funB p && tame e1 && tame e2 && ckL T a p [e1, e2] && lclB p.sc x && lclB p.sc y && (py.line == px.line) && !([e1, e2].all (foldedForSure 8)) && !([e1, e2].all (constantsAlone 8)) && !Nat.beq i j
def ckAsg (T : Txt) (tg a : A) (p : Pl) (t : Expr) (e : Expr) : Bool :=
  match t with
  | .Name x px => (match tg with
    | .tgN i => ckSet T i a p x px e
    | _ => false)
  | .Tuple ts _ _ => (match e with
    | .Tuple es _ _ => (match tg with
      | .tgT (.cons (.tgN i) (.cons (.tgN j) .nil)) => (match ts with
        | [.Name x px, .Name y py] => (match es with
          | [e1, e2] => if lclB p.sc x && lclB p.sc y then (match a with
              | .tup b => ckPar T i j b p x y px py e1 e2
              | _ => false) else ckG tg p t && ck T a .v p e
          | _ => false)
        | _ => false)
      | _ => false)
    | e => tame e && noTup e && ckG tg p t && ck T a .v p e)
  | _ => false
def cks (T : Txt) : S → Pl → List Stmt → Bool
  | .skip, _, ss => (match ss with
    | [] => true
    | [.Pass _] => true
    | _ => false)
  | .seq s t, p, ss => (match ss with
    | st :: r => cks T s p [st] && cks T t p r
    | _ => false)
  | .expr a, p, ss => (match ss with
    | [.Expr e _] => isCallE e && ck T a .v p e
    | _ => false)
  | .asg tg a, p, ss => (match ss with
    | [.Assign [t] e _] => ckAsg T tg a p t e
    | _ => false)
  | .put o i a, p, ss => (match ss with
    | [.Assign [.Subscript y z _] e _] => ck T o .v p y && ck T i .v p z && ck T a .v p e && tame z && tame e
    | _ => false)
  | .putD o i a, p, ss => (match ss with
    | [.Assign [.Subscript y z _] e _] => ck T o .v p y && ck T i .v p z && ck T a .v p e && tame z && tame e
    | _ => false)
  | .aug i op a, p, ss => (match ss with
    | [.AugAssign (.Name x _) o e _] => decide (p.N[i]? = some x) && locB p.sc x && fnB p x && bopIs op o && (match op with
      | .add => true
      | .sub => true
      | .mul => true
      | _ => false) && ck T a .v p e
    | _ => false)
  | .augAt o i op a, p, ss => (match ss with
    | [.AugAssign (.Subscript y z _) oo e _] => ck T o .v p y && ck T i .v p z && tame z && bopIs op oo && (match op with
      | .add => true
      | .sub => true
      | .mul => true
      | _ => false) && ck T a .v p e
    | _ => false)
  | .ret a, p, ss => (match ss with
    | [.Return (some e) _] => ck T a .v p e
    | [.Return none _] => (match a with
      | .con .non => true
      | _ => false)
    | _ => false)
  | .ite t a b, p, ss => (match ss with
    | [.If c sa sb _] => ck T t .t p c && cks T a p sa && cks T b p sb
    | _ => false)
  | .loop tg it b, p, ss => (match ss with
    | [.For tx ix body [] _] => ckG tg p tx && ck T it (.i tx) p ix && tame ix && cks T b p body
    | _ => false)
  | .whl t b, p, ss => (match ss with
    | [.While c body [] _] => ck T t .t p c && cks T b p body
    | _ => false)
  | .brk, _, ss => (match ss with
    | [.Break _] => true
    | _ => false)
  | .cnt, _, ss => (match ss with
    | [.Continue _] => true
    | _ => false)
  | .dead, _, ss => (match ss with
    | [_] => true
    | _ => false)
  | .frz _, _, _ => false
  | .raise _ _, _, _ => false
  | .zret k i a b el tg, p, ss => (match ss with
    | [.Assign [.Name x _] (.Call (.Name z _) [ea, eb] [] _) _, .Return (some (.Tuple [.Name y _, .Call (.Name t _) [.ListComp e [⟨.Tuple elts kk tpos, .Name x2 _, [], 0⟩] scope _] [] _] _ _)) _] =>
      !Nat.beq k i && (decide (z = "zip") && (gloB p.sc z && (decide (t = "tuple") && (gloB p.sc t && (ck T a .v p ea && (ck T b .v p eb && (tame ea && (tame eb && (decide (p.N[k]? = some x) && (locB p.sc x && (fnB p x && (visB p.sc x && (okN x && (decide (x2 = x) && (ckV i p (.Name y tpos) && (blkC p.N p.sc scope (ownOf p (tgSlots tg)) && (ckG tg (inB p scope) (.Tuple elts kk tpos) && ck T el .v (inB p scope) e)))))))))))))))))
    | _ => false)
end Mt
end
section
set_option linter.all false
set_option autoImplicit false
set_option maxRecDepth 100000
set_option maxHeartbeats 2000000
/-! MtZ1: several new objects are tracked at once. -/
namespace Mt
open PySem PySem.Spec PyProof.Rows L2
theorem laids {X : Cx} {pins : List (Addr × Obj)} {σ : L2.St} {H H' : Hp} {s : Shared} {h' : Heap} {t' : Nat} (I : L2.Inv X pins σ H s) (k : ∀ b u, s.heap.get? b = some u → h'.get? b = some u) (same : ∀ b o, H b = some o → H' b = some o) (young : ∀ b, b < s.heap.objs.size → H b = none → H' b = none)
    (new : ∀ b o, H b = none → H' b = some o → ObjOk X.prog X.w H' h' b o) : L2.Inv X pins σ H' { s with heap := h', toks := t' } := by
  refine I.un ⟨fun b u q _ _ _ => k b u q, fun b u q _ _ _ => ⟨u.slots, k b u q⟩, fun b u q n _ => young b (Heap.lt_size q) n, fun b u q _ => ⟨u, k b u q⟩, fun b xs q => same b _ q, fun b u xs q => same b _ q, fun b ps q => ⟨#[], by rw [same b _ q]; simp⟩⟩ fun b u e => ?_
  cases hb : H b with
  | none => exact new b u hb e
  | some o =>
    have := same b o hb
    rw [e] at this
    cases this
    exact (I.hok b _ hb).stay (fun c v _ q => k c v q) (fun c q => same c _ q) fun c xs q => same c _ q
end Mt
end
section
set_option linter.all false
set_option autoImplicit false
set_option maxRecDepth 100000
set_option maxHeartbeats 2000000
/-! MtZ2: zip of two tuples as a value. -/
namespace Mt
open PySem PySem.Spec PyProof.Rows L2
def zipO (n a b : Addr) (c : Addr) : Option HO :=
  if c = n then some (.ext fun h => h.IsTupleIter n a 0)
  else if c = n + 1 then some (.ext fun h => h.IsTupleIter (n + 1) b 0)
  else if c = n + 2 then some (.ext fun h => IsPair h (n + 2) (.ref n) (.ref (n + 1)))
  else if c = n + 3 then some (.ext fun h => IsPair h (n + 3) .none .none)
  else if c = n + 4 then some (.ext fun h => IsZip h (n + 4) (n + 2) (n + 3) .none)
  else none
def zipH (H : Hp) (n a b : Addr) : Hp := fun c => match zipO n a b c with
  | some o => some o
  | none => H c
def tZipV (X : Cx) (ta tb : TE) : TE := fun σ H Q => ta σ H fun x H1 => tb σ H1 fun y H2 => ∃ a b xs ys, x = .ref a ∧ y = .ref b ∧ SqT X.K H2 a xs ∧ SqT X.K H2 b ys ∧ ∀ n, (∀ c, n ≤ c → H2 c = none) → X.s_0.heap.objs.size ≤ n → Q (.ref (n + 4)) (zipH H2 n a b)

theorem zipO_lt {n a b c : Addr} (h : c < n) : zipO n a b c = none := by
  unfold zipO
  have k : ∀ j : Nat, c ≠ n + j := fun j => Nat.ne_of_lt (Nat.lt_of_lt_of_le h (Nat.le_add_right _ _))
  rw [if_neg (show c ≠ n from k 0), if_neg (k 1), if_neg (k 2), if_neg (k 3), if_neg (k 4)]
theorem zipH_old {H : Hp} {n a b c : Addr} (h : c < n) : zipH H n a b c = H c := by
  unfold zipH
  rw [zipO_lt h]
section
variable {X : Cx} {C : Cls} {W : WX} {fa fb : Mt.X} {a b : Expr} {p pos : Pos}
theorem pe_zipV (hg : Gl X "zip") (hm : X.mg "zip" = none) (ha : PE X a (tX C W fa)) (hb : PE X b (tX C W fb)) (ht : tame a = true) (ht2 : tame b = true) : PE X (.Call (.Name "zip" p) [a, b] [] pos) (tZipV X (tX C W fa) (tX C W fb)) := by
  refine ⟨fun pins s σ H Q I h => ?_⟩
  have pa := pa_cons ha (pa_cons hb pa_nil (tame_star ht2 _ _)) (tame_star ht _ _)
  refine Call_ (ld_blt I hg hm PyProof.Rows.boot_zip (PyProof.Rows.callWith_type1 (thn (pa.run pos pins s σ H (fun vs H2 => ∃ x y, vs = [x, y] ∧ ∃ a b xs ys, x = .ref a ∧ y = .ref b ∧ SqT X.K H2 a xs ∧ SqT X.K H2 b ys ∧ ∀ n, (∀ c, n ≤ c → H2 c = none) → X.s_0.heap.objs.size ≤ n → Q (.ref (n + 4)) (zipH H2 n a b)) I ?_) fun us s1 ⟨vs, H1, I1, r1, x, y, ev, l1, l2, xs, ys, e1, e2, h1, h2, q⟩ => ?_) (tame_star ht _ _) (tames_plain (es := [b]) (by simp [tames, ht2]))))
  · exact tX.mono (show tX C W fa σ H _ from h) fun x H1 h => tX.mono h fun y H2 h => ⟨x, y, rfl, h⟩
  subst ev e1 e2
  cases r1 with
  | cons r rr =>
    cases rr with
    | cons r' rr =>
      cases rr
      cases r
      cases r'
      obtain ⟨its, rv, p1, _⟩ := I1.tuple h1
      obtain ⟨its2, rv2, p2, _⟩ := I1.tuple h2
      refine RZ.call_zipT (show s1.heap.IsTuple l1 its.toArray from p1) (show s1.heap.IsTuple l2 its2.toArray from p2) fun h' hz hTI hTO hi1 hi2 hsz hk => ?_
      refine ⟨.ref (s1.heap.objs.size + 4), zipH H1 s1.heap.objs.size l1 l2, laids (t' := s1.toks) I1 hk (fun c o e => ?_) (fun c hc e => ?_) (fun c o e e' => ?_), rfl, q _ (fun c hc => I1.hok.fresh hc) I1.sz⟩
      · by_cases hc : c < s1.heap.objs.size
        · rw [zipH_old hc]; exact e
        · rw [I1.hok.fresh (Nat.le_of_not_lt hc)] at e; cases e
      · rw [zipH_old hc]; exact e
      · unfold zipH at e'
        split at e'
        · rename_i o' eo
          cases e'
          unfold zipO at eo
          (repeat' split at eo) <;> first
            | (cases eo; done)
            | skip
          · rename_i z; subst z; cases eo
            exact ⟨hi1, let ⟨o, ho, _⟩ := hi1; ⟨o, ho⟩, fun h1 h2 z k => z.at fun o q => k o q⟩
          · rename_i z; subst z; cases eo
            exact ⟨hi2, let ⟨o, ho, _⟩ := hi2; ⟨o, ho⟩, fun h1 h2 z k => z.at fun o q => k o q⟩
          · rename_i z; subst z; cases eo
            exact ⟨hTI, ⟨_, hTI⟩, fun h1 h2 z k => k _ z⟩
          · rename_i z; subst z; cases eo
            exact ⟨hTO, ⟨_, hTO⟩, fun h1 h2 z k => k _ z⟩
          · rename_i z; subst z; cases eo
            exact ⟨hz, ⟨_, hz⟩, fun h1 h2 z k => k _ z⟩
        · rw [e] at e'; cases e'
end
end Mt
end
section
set_option linter.all false
set_option autoImplicit false
set_option maxRecDepth 100000
set_option maxHeartbeats 2000000
/-! MtZ3: a zip held in a name is walked. -/
namespace Mt
open PySem PySem.Spec PyProof.Rows L2
theorem zipH_drop {H : Hp} {n a b : Addr} (h : ∀ c, n ≤ c → H c = none) : ItX.dropH (ItX.dropH (ItX.dropH (ItX.dropH (ItX.dropH (zipH H n a b) n) (n + 1)) (n + 2)) (n + 3)) (n + 4) = H := by
  funext c
  unfold ItX.dropH
  by_cases h4 : c = n + 4
  · rw [if_pos h4, h c (by rw [h4]; exact Nat.le_add_right _ _)]
  · rw [if_neg h4]
    by_cases h3 : c = n + 3
    · rw [if_pos h3, h c (by rw [h3]; exact Nat.le_add_right _ _)]
    · rw [if_neg h3]
      by_cases h2 : c = n + 2
      · rw [if_pos h2, h c (by rw [h2]; exact Nat.le_add_right _ _)]
      · rw [if_neg h2]
        by_cases h1 : c = n + 1
        · rw [if_pos h1, h c (by rw [h1]; exact Nat.le_add_right _ _)]
        · rw [if_neg h1]
          by_cases h0 : c = n
          · rw [if_pos h0, h c (by rw [h0]; exact Nat.le_refl _)]
          · rw [if_neg h0]
            unfold zipH zipO
            rw [if_neg h0, if_neg h1, if_neg h2, if_neg h3, if_neg h4]

theorem zipH_at {H : Hp} {n a b c : Addr} {o : HO} (h : zipO n a b c = some o) : zipH H n a b c = some o := by unfold zipH; rw [h]
section
variable {X : Cx} {pins : List (Addr × Obj)} {σ : L2.St} {H : Hp} {s : Shared} {n a b : Addr}
theorem ne_add {n : Addr} {i j : Nat} (h : i ≠ j) : (n + i : Addr) ≠ n + j := fun e => h (Nat.add_left_cancel e)
theorem ne_add0 {n : Addr} {i : Nat} (h : i ≠ 0) : (n + i : Addr) ≠ n := fun e => h (Nat.add_left_cancel (k := 0) e)
theorem z0 : zipO n a b n = some (.ext fun h => h.IsTupleIter n a 0) := by unfold zipO; rw [if_pos rfl]
theorem z1 : zipO n a b (n + 1) = some (.ext fun h => h.IsTupleIter (n + 1) b 0) := by unfold zipO; rw [if_neg (ne_add0 (by decide)), if_pos rfl]
theorem z2 : zipO n a b (n + 2) = some (.ext fun h => IsPair h (n + 2) (.ref n) (.ref (n + 1))) := by unfold zipO; rw [if_neg (ne_add0 (by decide)), if_neg (ne_add (by decide)), if_pos rfl]
theorem z3 : zipO n a b (n + 3) = some (.ext fun h => IsPair h (n + 3) .none .none) := by unfold zipO; rw [if_neg (ne_add0 (by decide)), if_neg (ne_add (by decide)), if_neg (ne_add (by decide)), if_pos rfl]
theorem z4 : zipO n a b (n + 4) = some (.ext fun h => IsZip h (n + 4) (n + 2) (n + 3) .none) := by unfold zipO; rw [if_neg (ne_add0 (by decide)), if_neg (ne_add (by decide)), if_neg (ne_add (by decide)), if_neg (ne_add (by decide)), if_pos rfl]
theorem zip_facts (I : L2.Inv X pins σ (zipH H n a b) s) : s.heap.IsTupleIter n a 0 ∧ s.heap.IsTupleIter (n + 1) b 0 ∧ IsPair s.heap (n + 2) (.ref n) (.ref (n + 1)) ∧ IsPair s.heap (n + 3) .none .none ∧ IsZip s.heap (n + 4) (n + 2) (n + 3) .none := by
  have k0 := I.hok n _ (zipH_at z0)
  have k1 := I.hok (n + 1) _ (zipH_at z1)
  have k2 := I.hok (n + 2) _ (zipH_at z2)
  have k3 := I.hok (n + 3) _ (zipH_at z3)
  have k4 := I.hok (n + 4) _ (zipH_at z4)
  exact ⟨k0.1, k1.1, k2.1, k3.1, k4.1⟩
theorem zip_drop (I : L2.Inv X pins σ (zipH H n a b) s) (h : ∀ c, n ≤ c → H c = none) : L2.Inv X pins σ H s := by
  have i0 := ItX.inv_drop I (zipH_at z0)
  have i1 := ItX.inv_drop i0 (a := n + 1) (by rw [ItX.dropH_ne (ne_add0 (by decide))]; exact zipH_at z1)
  have i2 := ItX.inv_drop i1 (a := n + 2) (by rw [ItX.dropH_ne (ne_add (by decide)), ItX.dropH_ne (ne_add0 (by decide))]; exact zipH_at z2)
  have i3 := ItX.inv_drop i2 (a := n + 3) (by rw [ItX.dropH_ne (ne_add (by decide)), ItX.dropH_ne (ne_add (by decide)), ItX.dropH_ne (ne_add0 (by decide))]; exact zipH_at z3)
  have i4 := ItX.inv_drop i3 (a := n + 4) (by rw [ItX.dropH_ne (ne_add (by decide)), ItX.dropH_ne (ne_add (by decide)), ItX.dropH_ne (ne_add (by decide)), ItX.dropH_ne (ne_add0 (by decide))]; exact zipH_at z4)
  rw [zipH_drop h] at i4
  exact i4
end
end Mt
end
section
set_option linter.all false
set_option autoImplicit false
set_option maxRecDepth 100000
set_option maxHeartbeats 2000000
/-! MtZ4: a zip held in a name is walked: the walk; two statements. -/
namespace Mt
open PySem PySem.Spec PyProof.Rows L2
def iZN (n0 k : Nat) : TI := fun σ H R => ∃ (n a b : Addr) (H0 : Hp) (xs ys : List V), σ[k]? = some (some (.ref (n + 4))) ∧ H = zipH H0 n a b ∧ (∀ c, n ≤ c → H0 c = none) ∧ n0 ≤ n ∧ H0 a = some (.tup xs) ∧ H0 b = some (.tup ys) ∧ ∀ K, R (RZ.ItzT K a b) H0
section
variable {X : Cx} {C : Cls} {W : WX} {elts : List Expr} {kk : Nat} {tpos p : Pos} {k : Nat} {x : Str}
theorem pi_zipN (hN : X.N[k]? = some x) (hv : Vis X.env.scope x) (hd : (x == ("__debug__" : Str)) = false) (hcd : (x == ("__classdict__" : Str)) = false) : PI X (.Tuple elts kk tpos) (.Name x p) (iZN X.s_0.heap.objs.size k) := by
  refine ⟨fun pins s σ H R I h => ?_⟩
  obtain ⟨n, a, b, H0, xs, ys, hs, eH0, fr, hn, ha, hb, q⟩ := h
  refine thn ((pe_var (pos := p) (i := k) hN hv hd hcd).run pins s σ H (fun v H1 => v = .ref (n + 4) ∧ H1 = H) I ⟨.ref (n + 4), hs, rfl, rfl⟩) fun u s1 ⟨v, H1, I1, r1, ev, eH⟩ => ?_
  subst ev
  rw [eH, eH0] at I1
  cases r1
  obtain ⟨f0, f1, f2, f3, f4⟩ := zip_facts I1
  have la : a < n := Nat.lt_of_not_le fun z => by rw [fr a z] at ha; cases ha
  have lb : b < n := Nat.lt_of_not_le fun z => by rw [fr b z] at hb; cases hb
  have fp : ∀ (c : Addr) (o : HO), zipO n a b c = some o → n ≤ c → FpOk X pins H0 c := fun c o e hc =>
    ⟨fr c hc, (ItX.inv_fp I1 (zipH_at e) (Nat.le_trans hn hc)).2⟩
  have tn := RZ.turn_zipT (P := X.prog) (w := X.w) (K := X.K) (elts := elts) (kk := kk) (tpos := tpos) (PySem.W.ktu_apart n a b la lb)
  refine tn.self X.A 0 s1 _ _ ⟨f4, f2, ⟨_, _, f3⟩, f0, f1⟩ ?_
  refine ⟨n + 4, [n + 4, n + 2, n + 3, n, n + 1], _, _, H0, rfl, zip_drop I1 fr, tn, ⟨f4, f2, ⟨_, _, f3⟩, f0, f1⟩, fun c hc => ?_, q _⟩
  have e' : c = n + 4 ∨ c = n + 2 ∨ c = n + 3 ∨ c = n ∨ c = n + 1 := by simpa using hc
  rcases e' with z | z | z | z | z <;> subst z
  · exact fp _ _ z4 (Nat.le_add_right _ _)
  · exact fp _ _ z2 (Nat.le_add_right _ _)
  · exact fp _ _ z3 (Nat.le_add_right _ _)
  · exact fp _ _ z0 (Nat.le_refl _)
  · exact fp _ _ z1 (Nat.le_add_right _ _)
end
theorem EnvR.hold {ρ : Rho} {H : Hp} {e : Mt.Env} {σ : L2.St} {i : Nat} {v : V} (h : EnvR ρ H e σ) : EnvR ρ H (e.set i none) (σ.set i (some v)) := by
  refine ⟨by simp [h.1], fun j d' q => ?_⟩
  by_cases hi : i = j
  · subst hi
    have hl : i < e.length := by have := (List.getElem?_eq_some_iff.mp q).1; simpa using this
    rw [List.getElem?_set_self hl] at q
    cases q
  · rw [List.getElem?_set_ne hi] at q ⊢
    exact h.2 j d' q
/-- the walk of a comprehension, from where it starts -/
theorem lc_run {C : Cls} {tg : A} {ft fel : Mt.X} {vs : List Nat} (hs : ∀ i, i ∈ tgSlots tg ↔ i ∈ vs) {ρ0 : Rho} {H0 : Hp} {J : It} {e : Mt.Env} {σ : L2.St} {xs ys : List D} {m mE : Mem} {Q : VK} (he : EnvR ρ0 H0 e σ) (hm : HR ρ0 m H0) (w : WalkR ρ0 H0 J xs)
    (L : lcGo (turn tg ft (give1 fel) (wipeE e (tgSlots tg))) xs [] m = .ok ys mE) (q : ∀ ρ' H' v, Ext ρ0 H0 ρ' H' → HR ρ' mE H' → Rep ρ' H' (.lst ys) v → Q v H') : ∀ Da, H0 Da = none → ∃ Wk : Nat → Nat → Hp → Prop, (∃ n, Wk 0 n (upd H0 Da (.lst []))) ∧ ∀ i n H, Wk i n H →
      (J.stop i H ∧ Q (.ref Da) H) ∨ (J.go i H ∧ ∃ Nx : Hp → Prop, (∀ H', Nx H' → ∃ n', n' < n ∧ Wk (i + 1) n' H') ∧ ∀ x H', J.yld i H x H' → gT tg x (L2.wipe σ vs) H' fun σ2 H2 => L2.wipe σ2 vs = L2.wipe σ vs ∧ tT C WF ft σ2 H2 fun b H3 =>
        if b = true then tX C WF fel σ2 H3 fun y H4 => ∃ acc, H4 Da = some (.lst acc) ∧ acc.length < sizeLine ∧ Nx (upd H4 Da (.lst (acc ++ [y]))) else Nx H3) := fun Da hD => by
  have hlen := (lcGo_len L).2 (Nat.zero_le _)
  have B0 : Bs conL ρ0 H0 Da (ρ0.ban Da) m (upd H0 Da (.lst [])) [] := Bs.start hm hD ⟨[], rfl, .nil⟩
  refine walk_run (pre := []) conL_ok w B0 B0.sub L (fun ρ1 H1 B s => ?_) fun ρ1 m1 H1 acc1 d x zs m3 Nx B s r hf hl hN => ?_
  · obtain ⟨x1, hr1, nl, sb⟩ := B.done
    obtain ⟨o, ho, vs, rfl, rr⟩ := B.con
    exact q _ _ _ x1 hr1 (.lst ho nl (rr.sub sb))
  · have ews : ∀ i ∈ tgSlots tg, i ∈ vs := fun i hi => (hs i).mp hi
    have he1 : EnvR ρ1 H1 (wipeE e (tgSlots tg)) (L2.wipe σ vs) := by
      rw [wipe_iff hs]
      exact (he.sub s).wipe _
    refine turn_run he1 B.hr r ews hf (fun σ2 ρ2 H3 e' m2 x2 hr2 he2 hw hg => ?_) fun ρ2 H3 x2 hr2 ez => ?_
    · refine ⟨ρ2, e', m2, he2, hr2, ?_⟩
      unfold give1 at hg
      cases e3 : fel e' m2 with
      | bad w => rw [e3] at hg; cases hg
      | exc c fs m => rw [e3] at hg; cases hg
      | ok y m4 =>
        rw [e3] at hg
        have hg : R.ok [y] m4 = R.ok zs m3 := hg
        cases hg
        intro ρ3 H4 v x3 hr3 r3
        have B3 := (B.ext conL_ok x2 hr2).ext conL_ok x3 hr3
        obtain ⟨o, ho, ws, rfl, rr⟩ := B3.con
        refine ⟨ws, ho, ?_, hN ρ3 _ (B3.add ⟨ws ++ [v], rfl, ?_⟩ hD) ((s.trans x2.toSub).trans (x3.toSub.trans (Sub.ban B3.in_)))⟩
        · rw [← rr.length, sizeLine_eq]
          have hl : acc1.length + 1 ≤ ys.length := hl
          have : ys.length ≤ 16777216 := hlen
          simp only [List.nil_append]
          omega
        · have := (rr.sub (Sub.ban (o := .lst (ws ++ [v])) B3.in_)).append (.one (r3.sub (Sub.ban B3.in_)))
          simpa using this
    · subst ez
      have B2 := B.ext conL_ok x2 hr2
      exact hN ρ2 H3 (by simpa using B2) (s.trans x2.toSub)
theorem toF_ok' {α : Type} {a : α} {m : Mem} {e : Mt.Env} {f : α → Mem → F} : (R.ok a m).toF e f = f a m := rfl
section
variable {X : Cx} {C : Cls} {W : WX} {ea eb elt : Expr} {fa fb fel : Mt.X} {elts : List Expr} {kk k2 : Nat} {tpos p1 p2 p3 p4 p5 p6 p7 p8 p9 px pos : Pos} {k i : Nat} {x y : Str} {scope : Scope} {own : List (Str × Nat)} {tg : A}
theorem ys_zret (hc : X.calm = true) (hN : X.N.Nodup) (hki : k ≠ i) (hgz : Gl X "zip") (hmz : X.mg "zip" = none) (hgt : Gl X "tuple") (hmt : X.mg "tuple" = none)
    (ha : PE X ea (tX C W fa)) (hb : PE X eb (tX C W fb)) (hta : tame ea = true) (htb : tame eb = true)
    (hk : X.N[k]? = some x) (hlx : Loc X.env.scope x) (hfx : X.fn x = true ∨ X.env.scope.names.lookup x = some .local) (hvx : Vis X.env.scope x) (hdx : (x == ("__debug__" : Str)) = false) (hcx : (x == ("__classdict__" : Str)) = false)
    (hi : X.N[i]? = some y) (hvy : Vis X.env.scope y) (hdy : (y == ("__debug__" : Str)) = false) (hcy : (y == ("__classdict__" : Str)) = false)
    (ok : BlkOk X.N X.env.scope scope own) (hs : ∀ i, i ∈ tgSlots tg ↔ i ∈ own.map (·.2)) (hg : AllBlk X scope fun X => PG X (.Tuple elts kk tpos) (gT tg)) (he : AllBlk X scope fun X => PE X elt (tX C WF fel)) :
    PSs X [.Assign [.Name x p1] (.Call (.Name "zip" p2) [ea, eb] [] p3) p4, .Return (some (.Tuple [.Name y p5, .Call (.Name "tuple" p6) [.ListComp elt [⟨.Tuple elts kk tpos, .Name x px, [], 0⟩] scope p7] [] p8] k2 p9)) pos] (tY C W (yZret k i fa fb fel tg)) := by
  have s1 := ps_set (i := k) (x := x) (pos := p4) (pos' := p1) hN hk hlx (pe_zipV (p := p2) (pos := p3) hgz hmz ha hb hta htb) (tame_sw (e := .Call ..) rfl rfl _ _ _) hfx
  have w := pi_zipN (X := X) (elts := elts) (kk := kk) (tpos := tpos) (p := px) hk hvx hdx hcx
  have lc := pe_lc (pos := p7) hc hN w ok hg (fun s H Ca cl fp => pts_0 (C := C) (W := WF)) he (tame_folded (e := .Name x px) rfl _)
  have tp := pe_callTy (p := p6) (pos := p8) (blE (C := C) (fun E => ok_tuple)) hgt hmt PyProof.Rows.boot_tuple (pa_cons lc pa_nil (tame_star (e := .ListComp ..) rfl _ _)) (by decide) (by decide) (tame_star (e := .ListComp ..) rfl _ _) (tames_plain (es := []) rfl)
  have s2 := ps_ret (pos := pos) (pe_tup (x1 := k2) (pos := p9) (pa_cons (pe_var (pos := p5) hi hvy hdy hcy) (pa_cons tp pa_nil (tame_star (e := .Call ..) rfl _ _)) (tame_star (e := .Name ..) rfl _ _)))
  refine (pss_cons s1 (pss_one s2)).imp fun De σ H h => ?_
  have ea1 := tY.exp (g := fun e x m => (fb e m).toF e fun y m => (zpT m x y).toF e fun zs m => match zget e k i with
    | some p => (lcGo (turn tg (xCon (.bl true)) (give1 fel) (wipeE (e.set k none) (tgSlots tg))) zs [] m).toF e fun ys m => .rt (.tup [p, .tup ys]) m
    | none => .bad 98) h
  refine ea1.mono fun v1 H1 ⟨ρ1, e, d1, m1, he1, hm1, r1, q1⟩ => ?_
  refine (tX.go (f := fun y m => (zpT m d1 y).toF e fun zs m => match zget e k i with
    | some p => (lcGo (turn tg (xCon (.bl true)) (give1 fel) (wipeE (e.set k none) (tgSlots tg))) zs [] m).toF e fun ys m => .rt (.tup [p, .tup ys]) m
    | none => .bad 98) he1 hm1 q1).mono fun v2 H2 ⟨ρ2, d2, m2, x2, hm2, r2, q2⟩ => ?_
  have he2 := he1.mono x2
  have r1' := r1.mono x2
  unfold zpT at q2
  split at q2
  case h_2 => exact q2.elim
  rename_i _ _ xs ys _
  simp only [toF_ok'] at q2
  split at q2
  case h_2 => exact q2.elim
  rename_i p ep
  cases r1' with
  | @tup a1 vs1 _ ha1 na1 ra1 =>
    cases r2 with
    | @tup b1 vs2 _ hb1 nb1 rb1 =>
      refine ⟨a1, b1, vs1, vs2, rfl, rfl, .inl (.inl ha1), .inl (.inl hb1), fun n fr hn => ?_⟩
      cases eL : lcGo (turn tg (xCon (.bl true)) (give1 fel) (wipeE (e.set k none) (tgSlots tg))) _ [] m2 with
      | bad w => rw [eL] at q2; exact q2.elim
      | exc c fs m' => exact absurd eL (lcGo_ne _ _ _ _ _ _)
      | ok zs mE =>
        rw [eL] at q2
        have ek : k < e.length ∧ e[i]? = some (some p) := by
          unfold zget at ep
          split at ep
          · rename_i q1 q2
            cases ep
            exact ⟨(List.getElem?_eq_some_iff.mp q1).1, q2⟩
          · cases ep
        obtain ⟨vp, hp, rp⟩ := he2.2 i p ek.2
        have hii : (σ.set k (some (.ref (n + 4))))[i]? = some (some vp) := by rw [List.getElem?_set_ne hki]; exact hp
        have hkl : k < σ.length := by rw [← he2.1]; exact ek.1
        refine ⟨vp, hii, ?_⟩
        refine ⟨n, a1, b1, H2, vs1, vs2, List.getElem?_set_self hkl, rfl, fr, hn, ha1, hb1, fun K => ?_⟩
        refine lc_run (C := C) (Q := fun x H1 => rBlE C oTuple [x] H1 fun y H3 => [vp, y].length ≤ sizeLine ∧ ∀ p, H3 p = none → De.rt (.ref p) (upd H3 p (.tup [vp, y]))) hs (he2.hold (i := k) (v := .ref (n + 4))) hm2 (walk_zt ha1 na1 ra1 hb1 nb1 rb1) eL fun ρ' H' v x3 hm3 r3 => ?_
        refine ⟨fun _ _ _ => False, ρ', mE, [.lst zs], hm3, .one r3, ?_⟩
        intro ρ4 H4 v4 x4 hm4 r4
        refine ⟨by show 2 ≤ sizeLine; decide, fun T hT => ?_⟩
        have xT := Ext.new (o := .tup [vp, v4]) hm4 hT
        have rr : Reps ρ4 (upd H4 T (.tup [vp, v4])) [p, .tup zs] [vp, v4] := .cons (((rp.mono x3).mono x4).mono xT) (.one (r4.mono xT))
        exact q2 ρ4 _ _ ((x3.trans x4).trans xT) (hm4.new hT) (.tup upd_same (hm4.fresh hT) rr)
end
end Mt
end
section
set_option linter.all false
set_option autoImplicit false
set_option maxRecDepth 100000
set_option maxHeartbeats 2000000
/-! MtK6: what the check of statements says is so. -/
namespace Mt
open PySem PySem.Spec PyProof.Rows L2
theorem execs_one (st : Stmt) (env : PySem.Env) : execs [st] env = exec st env := by
  rw [execs_cons]
  have : (fun f : Flow => match f with
    | .next => execs [] env
    | f => pure f) = (pure : Flow → Sem Flow) := by
    funext f
    cases f <;> rfl
  show (exec st env >>= fun f : Flow => match f with
    | .next => execs [] env
    | f => pure f) = _
  rw [this, bind_pure]
theorem PSs.one {X : Cx} {st : Stmt} {t : TS} (h : PSs X [st] t) : PS X st t := ⟨fun pins s σ H D I q => by
  have := h.run pins s σ H D I q
  rw [execs_one] at this
  exact this⟩
section
variable {T : Txt} {C : Cls} {c : Ctx} {k : Nat} {p : Pl} {W : WX} {X : Cx}
theorem blockK (G : GX T C c k p W X) (h : funB p = true) : X.env.blockKind = .function ∧ X.env.scope.kind = .function := by
  unfold funB at h
  split at h
  · rename_i e
    have e2 : X.env.scope.kind = .function := by rw [G.sc]; exact e
    exact ⟨by unfold Env.blockKind; rw [e2]; rfl, e2⟩
  · cases h
theorem lclOf (G : GX T C c k p W X) {x : Str} (h : lclB p.sc x = true) : X.env.scope.names.lookup x = some .local := by
  rw [G.sc]
  unfold lclB at h
  split at h
  · rename_i e; exact e
  · cases h
theorem nlclOf (G : GX T C c k p W X) {x : Str} (h : lclB p.sc x = false) : X.env.kindOf x ≠ some .local := by
  unfold Env.kindOf
  rw [G.sc]
  intro e
  unfold lclB at h
  rw [e] at h
  cases h
theorem sd_setLc (G : GX T C c k p W X) {i : Nat} {a : A} {x : Str} {px pos pos' : Pos} {e : Expr} {gs : List Comprehension} {scope : Scope} (hi : X.N[i]? = some x) (hx : lclB p.sc x = true) (hf : funB p = true) (hl : (px.line == pos.line) = true) (hn : (scope.names.any fun (n, k) => n == x && (k == .local || k == .cell)) = false) (ha : isLc a = true)
    (h : ck T a .v p (.ListComp e gs scope pos) = true) : PS X (.Assign [.Name x px] (.ListComp e gs scope pos) pos') (tY C W (yAsg (.tgN i) (ev c a))) := by
  have hN : X.N.Nodup := by rw [G.N]; exact G.nd
  have hy := lclOf G hx
  have sw := sw_true (elt := e) (gs := gs) (l := pos'.line) (env := X.env) (blockK G hf).2 hy hl hn
  unfold isLc at ha
  split at ha
  · rename_i el tg it t
    rw [ck_lc, Bool.and_eq_true] at h
    obtain ⟨hu, h⟩ := h
    split at h
    · rename_i e' tx ix fs scope' pos'' q
      cases q
      simp only [Bool.and_eq_true] at h
      obtain ⟨⟨⟨⟨⟨h1, h2⟩, h3⟩, h4⟩, h5⟩, h6⟩ := h
      refine (ps_setLc (wi := tI C W (ev c it)) (g := gT tg) (tt := tT C WF (ev c t)) (te := tX C WF (ev c el)) G.calm hN hi hy sw ((sd_all it).e (.i tx) p _ W X G h2) (own := ownOf p (tgSlots tg)) ?_ ?_ ?_ ?_ (tame_folded h3 _)).imp fun De σ H q => ?_
      · rw [G.N, G.sc]; exact blkOk_by h1
      · exact fun s H Ca cl fp => sd_G (G.blk scope s H Ca cl fp) tg tx h4
      · exact fun s H Ca cl fp => sd_ifs h5 fun c' hc => (sd_all t).e .t _ c' WF _ (G.blk scope s H Ca cl fp) hc
      · exact fun s H Ca cl fp => (sd_all el).e .v _ e WF _ (G.blk scope s H Ca cl fp) h6
      · exact tLc_of (fun i => by rw [own_fst]) _ _ _ (asgN_of De σ H q)
    · cases h
  · rename_i el tg it t tg2 it2 t2
    rw [ck_lc2, Bool.and_eq_true] at h
    obtain ⟨hu, h⟩ := h
    split at h
    · rename_i e' tx ix fs tx2 ix2 fs2 scope' pos'' q
      cases q
      simp only [Bool.and_eq_true] at h
      obtain ⟨⟨⟨⟨⟨⟨⟨⟨⟨h1, h2⟩, h3⟩, h4⟩, h5⟩, h6⟩, h7⟩, h8⟩, h9⟩, h10⟩ := h
      refine (ps_setLc2 (wi := tI C W (ev c it)) (g := gT tg) (tt := tT C WF (ev c t)) (wi1 := tI C WF (ev c it2)) (g1 := gT tg2) (tt1 := tT C WF (ev c t2)) (te := tX C WF (ev c el)) (vs1 := tgSlots tg2) G.calm hN hi hy sw ((sd_all it).e (.i tx) p _ W X G h2) (own := ownOf p (tgSlots tg ++ tgSlots tg2)) ?_ (fun i h => by rw [own_fst]; exact List.mem_append_right _ h) ?_ ?_ ?_ ?_ ?_ ?_ (tame_folded h3 _) (fun env => tame_folded h7 env)).imp fun De σ H q => ?_
      · rw [G.N, G.sc]; exact blkOk_by h1
      · exact fun s H Ca cl fp => sd_G (G.blk scope s H Ca cl fp) tg tx h4
      · exact fun s H Ca cl fp => sd_ifs h5 fun c' hc => (sd_all t).e .t _ c' WF _ (G.blk scope s H Ca cl fp) hc
      · exact fun s H Ca cl fp => (sd_all it2).e (.i tx2) _ ix2 WF _ (G.blk scope s H Ca cl fp) h6
      · exact fun s H Ca cl fp => sd_G (G.blk scope s H Ca cl fp) tg2 tx2 h8
      · exact fun s H Ca cl fp => sd_ifs h9 fun c' hc => (sd_all t2).e .t _ c' WF _ (G.blk scope s H Ca cl fp) hc
      · exact fun s H Ca cl fp => (sd_all el).e .v _ e WF _ (G.blk scope s H Ca cl fp) h10
      · exact tLc2_of (fun i => by rw [own_fst]) rfl _ _ _ (asgN_of De σ H q)
    · cases h
  · cases ha
theorem sd_set (G : GX T C c k p W X) {i : Nat} {a : A} {x : Str} {px pos' : Pos} {e : Expr} (h : ckSet T i a p x px e = true) : PS X (.Assign [.Name x px] e pos') (tY C W (yAsg (.tgN i) (ev c a))) := by
  unfold ckSet at h
  simp only [Bool.and_eq_true, decide_eq_true_eq] at h
  obtain ⟨⟨⟨⟨⟨h1, h2⟩, h3⟩, h4⟩, h5⟩, h6⟩ := h
  have hN : X.N.Nodup := by rw [G.N]; exact G.nd
  have hi : X.N[i]? = some x := by rw [G.N]; exact h1
  have plain : swapsWith e (some (.Name x px)) pos'.line X.env = pure false → PS X (.Assign [.Name x px] e pos') (tY C W (yAsg (.tgN i) (ev c a))) := fun hs =>
    ys_set hN hi (locOf G h2) ((sd_all a).e .v p e W X G h5) hs (fnOf G h3)
  split at h6
  · rename_i e0 gs scope pos
    split at h6
    · rename_i hl
      simp only [Bool.and_eq_true, Bool.not_eq_true'] at h6
      exact sd_setLc G hi hl h6.1.1.2 h6.1.2 h6.2 h6.1.1.1 h5
    · rename_i hl
      refine plain ?_
      rw [sw_lc]
      have : (X.env.kindOf x == some .local) = false := by simpa using nlclOf G (by simpa using hl)
      rw [this, Bool.and_false]
      rfl
  · refine plain ?_
    rw [sw_dc]
    have : (X.env.kindOf x == some .local) = false := by simpa using nlclOf G (by simpa using h6)
    rw [this, Bool.and_false]
    rfl
  · rename_i hn1 hn2
    refine plain (tame_sw h4 ?_ _ _ _)
    cases e <;> first | rfl | exact absurd rfl (hn1 _ _ _ _) | exact absurd rfl (hn2 _ _ _ _ _)
theorem sd_par (G : GX T C c k p W X) {i j : Nat} {a : A} {x y : Str} {px py pt pt2 pos : Pos} {k1 k2 : Nat} {e1 e2 : Expr} (h : ckPar T i j a p x y px py e1 e2 = true) :
    PS X (.Assign [.Tuple [.Name x px, .Name y py] k1 pt] (.Tuple [e1, e2] k2 pt2) pos) (tY C W (yAsg (.tgT (.cons (.tgN i) (.cons (.tgN j) .nil))) (ev c (.tup a)))) := by
  unfold ckPar at h
  simp only [Bool.and_eq_true, decide_eq_true_eq, Bool.not_eq_true'] at h
  obtain ⟨⟨⟨⟨⟨⟨⟨⟨⟨⟨⟨⟨h1, h2⟩, h3⟩, h4⟩, h5⟩, h6⟩, h7⟩, h8⟩, h9⟩, h10⟩, h11⟩, h12⟩, h13⟩ := h
  have hN : X.N.Nodup := by rw [G.N]; exact G.nd
  have hij : i ≠ j := by
    intro e
    subst e
    simp at h13
  exact ys_par G.calm hN (by rw [G.N]; exact h1) (by rw [G.N]; exact h2) hij (lclOf G h8) (lclOf G h9) ((sd_all a).l p _ W X G h7) (sw_some (lclOf G h8) (lclOf G h9) h10 h3 (blockK G h4).1 h5 h6 h11 h12)
theorem sd_asg (G : GX T C c k p W X) {tg a : A} {t e : Expr} {pos : Pos} (h : ckAsg T tg a p t e = true) : PS X (.Assign [t] e pos) (tY C W (yAsg tg (ev c a))) := by
  unfold ckAsg at h
  split at h
  · split at h
    · exact sd_set G h
    · cases h
  · split at h
    · split at h
      · split at h
        · split at h
          · split at h
            · split at h
              · exact sd_par G h
              · cases h
            · rename_i hl
              simp only [Bool.and_eq_true] at h
              have or_of : ∀ {u v : Bool}, ¬ (u && v) = true → u = false ∨ v = false := fun {u v} z => by cases u <;> cases v <;> simp at z ⊢
              have hl := or_of hl
              refine ys_asg ((sd_all a).e .v p _ W X G h.2) (sd_G G _ _ h.1) (tame_swT (by rfl) _ _) (sw_none ?_) rfl
              exact hl.imp (nlclOf G) (nlclOf G)
          · cases h
        · cases h
      · cases h
    · simp only [Bool.and_eq_true] at h
      exact ys_asg ((sd_all a).e .v p _ W X G h.2) (sd_G G tg _ h.1.2) (tame_swT h.1.1.1 _ _) (tame_st h.1.1.1 h.1.1.2 _) rfl
  · cases h
end
theorem cks_skip (T : Txt)  (p : Pl) (ss : List Stmt) : cks T (.skip) p ss = (match ss with
    | [] => true
    | [.Pass _] => true
    | _ => false) := rfl
theorem cks_seq (T : Txt) (s t : S) (p : Pl) (ss : List Stmt) : cks T (.seq s t) p ss = (match ss with
    | st :: r => cks T s p [st] && cks T t p r
    | _ => false) := rfl
theorem cks_expr (T : Txt) (a : A) (p : Pl) (ss : List Stmt) : cks T (.expr a) p ss = (match ss with
    | [.Expr e _] => isCallE e && ck T a .v p e
    | _ => false) := rfl
theorem cks_asg (T : Txt) (tg a : A) (p : Pl) (ss : List Stmt) : cks T (.asg tg a) p ss = (match ss with
    | [.Assign [t] e _] => ckAsg T tg a p t e
    | _ => false) := rfl
theorem cks_put (T : Txt) (o i a : A) (p : Pl) (ss : List Stmt) : cks T (.put o i a) p ss = (match ss with
    | [.Assign [.Subscript y z _] e _] => ck T o .v p y && ck T i .v p z && ck T a .v p e && tame z && tame e
    | _ => false) := rfl
theorem cks_putD (T : Txt) (o i a : A) (p : Pl) (ss : List Stmt) : cks T (.putD o i a) p ss = (match ss with
    | [.Assign [.Subscript y z _] e _] => ck T o .v p y && ck T i .v p z && ck T a .v p e && tame z && tame e
    | _ => false) := rfl
theorem cks_aug (T : Txt) (i : Nat) (op : Bop) (a : A) (p : Pl) (ss : List Stmt) : cks T (.aug i op a) p ss = (match ss with
    | [.AugAssign (.Name x _) o e _] => decide (p.N[i]? = some x) && locB p.sc x && fnB p x && bopIs op o && (match op with
      | .add => true
      | .sub => true
      | .mul => true
      | _ => false) && ck T a .v p e
    | _ => false) := rfl
theorem cks_augAt (T : Txt) (o i : A) (op : Bop) (a : A) (p : Pl) (ss : List Stmt) : cks T (.augAt o i op a) p ss = (match ss with
    | [.AugAssign (.Subscript y z _) oo e _] => ck T o .v p y && ck T i .v p z && tame z && bopIs op oo && (match op with
      | .add => true
      | .sub => true
      | .mul => true
      | _ => false) && ck T a .v p e
    | _ => false) := rfl
theorem cks_ret (T : Txt) (a : A) (p : Pl) (ss : List Stmt) : cks T (.ret a) p ss = (match ss with
    | [.Return (some e) _] => ck T a .v p e
    | [.Return none _] => (match a with
      | .con .non => true
      | _ => false)
    | _ => false) := rfl
theorem cks_ite (T : Txt) (t : A) (a b : S) (p : Pl) (ss : List Stmt) : cks T (.ite t a b) p ss = (match ss with
    | [.If c sa sb _] => ck T t .t p c && cks T a p sa && cks T b p sb
    | _ => false) := rfl
theorem cks_loop (T : Txt) (tg it : A) (b : S) (p : Pl) (ss : List Stmt) : cks T (.loop tg it b) p ss = (match ss with
    | [.For tx ix body [] _] => ckG tg p tx && ck T it (.i tx) p ix && tame ix && cks T b p body
    | _ => false) := rfl
theorem cks_whl (T : Txt) (t : A) (b : S) (p : Pl) (ss : List Stmt) : cks T (.whl t b) p ss = (match ss with
    | [.While c body [] _] => ck T t .t p c && cks T b p body
    | _ => false) := rfl
theorem cks_brk (T : Txt)  (p : Pl) (ss : List Stmt) : cks T (.brk) p ss = (match ss with
    | [.Break _] => true
    | _ => false) := rfl
theorem cks_cnt (T : Txt)  (p : Pl) (ss : List Stmt) : cks T (.cnt) p ss = (match ss with
    | [.Continue _] => true
    | _ => false) := rfl
theorem cks_dead (T : Txt)  (p : Pl) (ss : List Stmt) : cks T (.dead) p ss = (match ss with
    | [_] => true
    | _ => false) := rfl
theorem cks_zret (T : Txt) (k i : Nat) (a b el tg : A) (p : Pl) (ss : List Stmt) : cks T (.zret k i a b el tg) p ss = (match ss with
    | [.Assign [.Name x _] (.Call (.Name z _) [ea, eb] [] _) _, .Return (some (.Tuple [.Name y _, .Call (.Name t _) [.ListComp e [⟨.Tuple elts kk tpos, .Name x2 _, [], 0⟩] scope _] [] _] _ _)) _] =>
      !Nat.beq k i && (decide (z = "zip") && (gloB p.sc z && (decide (t = "tuple") && (gloB p.sc t && (ck T a .v p ea && (ck T b .v p eb && (tame ea && (tame eb && (decide (p.N[k]? = some x) && (locB p.sc x && (fnB p x && (visB p.sc x && (okN x && (decide (x2 = x) && (ckV i p (.Name y tpos) && (blkC p.N p.sc scope (ownOf p (tgSlots tg)) && (ckG tg (inB p scope) (.Tuple elts kk tpos) && ck T el .v (inB p scope) e)))))))))))))))))
    | _ => false) := rfl
section
variable {T : Txt} {C : Cls} {c : Ctx} {k : Nat} {p : Pl} {W : WX} {X : Cx}
theorem ys_skips {ss : List Stmt} (h : cks T .skip p ss = true) : PSs X ss (tY C W ySkip) := by
  rw [cks_skip] at h
  split at h
  · exact ys_nil
  · exact ys_one ys_pass
  · cases h
theorem ipOf {op : Bop} {o : Operator} (h2 : (match op with
      | .add => true
      | .sub => true
      | .mul => true
      | _ => false) = true) (h : bopIs op o = true) : PIp X o (rIpE C (bop op)) := by
  cases op <;> cases o <;> first | (cases h; done) | (cases h2; done) | exact ipE_add | exact ipE_sub | exact ipE_mul
theorem sds (G : GX T C c k p W X) (hp : PassesOwn (model X.prog X.w) X.A X.env X.xe) (s : S) : ∀ (ss : List Stmt), cks T s p ss = true → PSs X ss (tY C W (es c s)) := by
  induction s with
  | skip => exact fun ss h => ys_skips h
  | seq s t ihs iht =>
    intro ss h
    rw [cks_seq] at h
    split at h
    · rw [Bool.and_eq_true] at h
      exact ys_seq (PSs.one (ihs _ h.1)) (iht _ h.2)
    · cases h
  | expr a =>
    intro ss h
    rw [cks_expr] at h
    split at h
    · rw [Bool.and_eq_true] at h
      refine ys_one (ys_expr ((sd_all a).e .v p _ W X G h.2) ?_)
      have h1 := h.1
      unfold isCallE at h1
      split at h1
      · rfl
      · cases h1
    · cases h
  | asg tg a =>
    intro ss h
    rw [cks_asg] at h
    split at h
    · exact ys_one (sd_asg G h)
    · cases h
  | put o i a =>
    intro ss h
    rw [cks_put] at h
    split at h
    · simp only [Bool.and_eq_true] at h
      exact ys_one (ys_put ((sd_all o).e .v p _ W X G h.1.1.1.1) ((sd_all i).e .v p _ W X G h.1.1.1.2) ((sd_all a).e .v p _ W X G h.1.1.2) (tame_swS h.2 _ _) h.1.2)
    · cases h
  | putD o i a =>
    intro ss h
    rw [cks_putD] at h
    split at h
    · simp only [Bool.and_eq_true] at h
      exact ys_one (ys_putD (by have := G.un; omega) ((sd_all o).e .v p _ W X G h.1.1.1.1) ((sd_all i).e .v p _ W X G h.1.1.1.2) ((sd_all a).e .v p _ W X G h.1.1.2) (tame_swS h.2 _ _) h.1.2)
    · cases h
  | aug i op a =>
    intro ss h
    rw [cks_aug] at h
    split at h
    · simp only [Bool.and_eq_true, decide_eq_true_eq] at h
      obtain ⟨⟨⟨⟨⟨h1, h2⟩, h3⟩, h4⟩, h5⟩, h6⟩ := h
      exact ys_one (ys_aug (ipOf h5 h4) (by rw [G.N]; exact G.nd) (by rw [G.N]; exact h1) (locOf G h2) ((sd_all a).e .v p _ W X G h6) (fnOf G h3))
    · cases h
  | augAt o i op a =>
    intro ss h
    rw [cks_augAt] at h
    split at h
    · simp only [Bool.and_eq_true] at h
      obtain ⟨⟨⟨⟨⟨h1, h2⟩, h3⟩, h4⟩, h5⟩, h6⟩ := h
      exact ys_one (ys_augAt (ipOf h5 h4) ((sd_all o).e .v p _ W X G h1) ((sd_all i).e .v p _ W X G h2) ((sd_all a).e .v p _ W X G h6) h3)
    · cases h
  | ret a =>
    intro ss h
    rw [cks_ret] at h
    split at h
    · exact ys_one (ys_ret ((sd_all a).e .v p _ W X G h))
    · split at h
      · exact ys_one ys_retN
      · cases h
    · cases h
  | ite t a b iha ihb =>
    intro ss h
    rw [cks_ite] at h
    split at h
    · simp only [Bool.and_eq_true] at h
      exact ys_one (ys_if ((sd_all t).e .t p _ W X G h.1.1) (iha _ h.1.2) (ihb _ h.2))
    · cases h
  | loop tg it b ihb =>
    intro ss h
    rw [cks_loop] at h
    split at h
    · simp only [Bool.and_eq_true] at h
      exact ys_one (ys_for hp G.calm ((sd_all it).e (.i _) p _ W X G h.1.1.2) (sd_G G tg _ h.1.1.1) (ihb _ h.2) h.1.2)
    · cases h
  | whl t b ihb =>
    intro ss h
    rw [cks_whl] at h
    split at h
    · simp only [Bool.and_eq_true] at h
      exact ys_one (ys_while hp ((sd_all t).e .t p _ W X G h.1) (ihb _ h.2))
    · cases h
  | brk =>
    intro ss h
    rw [cks_brk] at h
    split at h
    · exact ys_one ys_brk
    · cases h
  | cnt =>
    intro ss h
    rw [cks_cnt] at h
    split at h
    · exact ys_one ys_cnt
    · cases h
  | dead =>
    intro ss h
    rw [cks_dead] at h
    split at h
    · exact ys_one ys_dead
    · cases h
  | frz i => intro ss h; cases h
  | raise c a => intro ss h; cases h
  | zret j i a b el tg =>
    intro ss h
    rw [cks_zret] at h
    split at h
    · simp only [Bool.and_eq_true, decide_eq_true_eq, Bool.not_eq_true'] at h
      obtain ⟨h1, rfl, h3, rfl, h5, h6, h7, h8, h9, h10, h11, h12, h13, h14, rfl, h16, h17, h18, h19⟩ := h
      unfold ckV at h16
      simp only [Bool.and_eq_true, decide_eq_true_eq] at h16
      have hji : j ≠ i := fun e => by rw [e] at h1; simp at h1
      refine ys_zret G.calm (by rw [G.N]; exact G.nd) hji (gloOf G h3) (G.tx.blt _ (by decide)) (gloOf G h5) (G.tx.blt _ (by decide)) ((sd_all a).e .v p _ W X G h6) ((sd_all b).e .v p _ W X G h7) h8 h9
        (by rw [G.N]; exact h10) (locOf G h11) (fnOf G h12) (visOf G h13) (okN_of h14).1 (okN_of h14).2.1 (by rw [G.N]; exact h16.1.1) (visOf G h16.1.2) (okN_of h16.2).1 (okN_of h16.2).2.1 (own := ownOf p (tgSlots tg)) ?_ (fun i => by rw [own_fst]) ?_ ?_
      · rw [G.N, G.sc]; exact blkOk_by h17
      · exact fun s H Ca cl fp => sd_G (G.blk _ s H Ca cl fp) tg _ h18
      · exact fun s H Ca cl fp => (sd_all el).e .v _ _ WF _ (G.blk _ s H Ca cl fp) h19
    · cases h
end
end Mt
end
section
set_option linter.all false
set_option autoImplicit false
set_option maxRecDepth 100000
set_option maxHeartbeats 2000000
/-! MtF1: all defs of the text do what run says, level by level. -/
namespace Mt
open PySem PySem.Spec PyProof.Rows L2
/-- a def of the text: its name, its parameters, its names, its statement -/
structure Df where
  nm : Str
  ps : List Str
  N : List Str
  args : Arguments
  body : List Stmt
  sc : Scope
def scB (d : Df) : Bool := (match d.sc.kind with
  | .function => true
  | _ => false) && !d.sc.isCoroutine && !d.sc.isGenerator && decide d.N.Nodup && decide (d.N.take d.ps.length = d.ps) && d.ps.all (locB d.sc) && d.sc.names.all fun y => match y.2 with
    | .free => false
    | _ => true
def dfB (T : Txt) (d : Df) (f : Fn) : Bool := scB d && Nat.beq f.ps d.ps.length && Nat.beq f.ns d.N.length && cks T f.body ⟨d.N, d.sc, none⟩ d.body
theorem scB_of {d : Df} (h : scB d = true) : FnScope d.N d.ps d.sc := by
  unfold scB at h
  simp only [Bool.and_eq_true, Bool.not_eq_true', decide_eq_true_eq, List.all_eq_true] at h
  obtain ⟨⟨⟨⟨⟨⟨h1, h2⟩, h3⟩, h4⟩, h5⟩, h6⟩, h7⟩ := h
  refine ⟨?_, h2, h3, h4, h5, fun x hx => ?_, fun y hy e => ?_⟩
  · split at h1
    · rename_i e; exact e
    · cases h1
  · have := h6 x hx
    unfold locB at this
    split at this
    · rename_i e; exact .inl e
    · rename_i e; exact .inr e
    · cases this
  · have := h7 y hy
    rw [e] at this
    cases this
theorem env_start {ρ : Rho} {H : Hp} {ds : List D} {vs : List V} {N : List Str} {ns ps : Nat} (r : Reps ρ H ds vs) (hn : ns = N.length) (hp : ps = ds.length) (hl : ds.length ≤ N.length) : EnvR ρ H (ds.map some ++ List.replicate (ns - ps) none) (L2.start N vs) := by
  have hv := r.length
  refine ⟨by unfold L2.start; simp; omega, fun i d e => ?_⟩
  by_cases hi : i < ds.length
  · rw [List.getElem?_append_left (by simpa using hi), List.getElem?_map] at e
    cases ed : ds[i]? with
    | none => rw [ed] at e; cases e
    | some d' =>
      rw [ed] at e
      cases e
      obtain ⟨v, h1, h2⟩ := r.at ed
      refine ⟨v, ?_, h2⟩
      unfold L2.start
      rw [List.getElem?_append_left (by simp; omega), List.getElem?_map, h1]
      rfl
  · rw [List.getElem?_append_right (by simpa using hi)] at e
    rw [List.getElem?_replicate] at e
    split at e <;> cases e
/-- a def's end: what it made is forgotten or not -/
theorem drop_of {C : Cls} {ρ : Rho} {H : Hp} {d : D} {m m' : Mem} {Q : VK} {E : XK} {b : Bool} (hm : HR ρ m H) (h : Post C ρ H ((if b then dropTo m.length else id) (.ok d m')) Q E) : Post C ρ H (.ok d m') Q E := by
  cases b with
  | false => exact h
  | true =>
    rw [if_pos rfl] at h
    unfold dropTo at h
    simp only at h
    split at h
    · exact h
    · split at h
      · rename_i hb
        rw [Bool.and_eq_true] at hb
        intro ρ' H' v x hm' r
        have hl : m.length ≤ ρ'.c.length := by rw [← hm.len]; exact x.len
        refine h _ _ _ (by rw [← hm.len]; exact x.take) (hm'.take hl hb.2) (Rep.cut hl r hb.1)
      · exact h.elim
section
variable {T : Txt} {C : Cls} {fs : List Fn} {ds : List Df} {P : Program} {w : World} {K : PySem.W.Frag} {mg : Str → Option Value} {base : Heap}
/-- the text stands in the frame -/
structure Stands (T : Txt) (ds : List Df) (K : PySem.W.Frag) (mg : Str → Option Value) : Prop where
  fn : ∀ (i : Nat) (d : Df), ds[i]? = some d → ∃ f fd, FunD K d.nm d.nm d.args d.body d.sc [] [] f fd ∧ mg d.nm = some (.ref f) ∧ Binds K fd d.ps []
  glo : ∀ (i : Nat) (x : Str) (j : Int), T.glo[i]? = some (x, j) → ∃ t, mg x = some (.int j t)
  blt : ∀ x ∈ bltNames, mg x = none
theorem run_len {k i : Nat} {d : Df} {f : Fn} (hf : fs[i]? = some f) (hp : f.ps = d.ps.length) : ∀ vs H Q E, spec C (run fs k i) vs H Q E → vs.length = d.ps.length := fun vs H Q E ⟨ρ, m, xs, hm, r, h⟩ => by
  cases k with
  | zero => exact h.elim
  | succ k =>
    unfold run at h
    rw [hf] at h
    simp only at h
    unfold runF at h
    split at h
    · rename_i hb
      rw [← r.length, Nat.eq_of_beq_eq_true hb, hp]
    · exact h.elim
/-- the context of a body at level k + 1 -/
def ctxAt (fs : List Fn) (k : Nat) (t : Nat × List Nat) : Ctx := ⟨run fs k, fun b e m => match k with
        | 0 => .bad 95
        | k + 1 => match k with
          | 0 => .bad 95
          | k + 1 => match k with
            | 0 => .bad 95
            | k + 1 => ev ⟨run fs k, fun _ _ _ => .bad 96, (0, [])⟩ b e m, tabAt k t⟩
theorem run_succ {k i : Nat} {f : Fn} (hf : fs[i]? = some f) (xs : List D) (m : Mem) : run fs (k + 1) i xs m = runF (ctxAt fs k f.tab) f xs m := by
  conv => lhs; unfold run
  rw [hf]
  rfl
theorem fn_ok {k i : Nat} {d : Df} {f : Fn} {a : Addr} {fd : FuncData} (txs : ∀ j, j ≤ k → TxOk T C (run fs j) j P w K mg base) (tb : f.tab.2 = [] ∨ ∃ c, fd.code = .ref c ∧ LamX.TabB base mg c f.tab.1 ∧ SS f.tab.2 = d.nm ++ ".<locals>." ++ "<lambda>") (hf : fs[i]? = some f) (hb : dfB T d f = true) (F : FunD K d.nm d.nm d.args d.body d.sc [] [] a fd) :
    FnOk P w K mg base (L2.CX P w) (k + 1) a fd d.ps (spec C (run fs (k + 1) i)) := by
  unfold dfB at hb
  simp only [Bool.and_eq_true] at hb
  obtain ⟨⟨⟨h1, h2⟩, h3⟩, h4⟩ := hb
  have hps := Nat.eq_of_beq_eq_true h2
  have hns := Nat.eq_of_beq_eq_true h3
  have S := scB_of h1
  have tx := txs k (Nat.le_refl _)
  obtain ⟨oc, od, dV, kV, doc, pm, an, cdv, ct, osl, rfl, lk, hcd, _, _⟩ := F.ex
  refine fn_of lk hcd S (run_len hf hps) fun A outer s H vs Q E hr hsp => ?_
  have G : GX T C (ctxAt fs k f.tab) k ⟨d.N, d.sc, none⟩ (fun cv dd _ H' => E cv dd H') (cxOf (L2.CX P w) P w K mg base d.N d.nm d.sc a cdv A outer s H E) :=
    ⟨tx, rfl, S.nd, rfl, fun _ => rfl, rfl, hr, takes_of rfl rfl rfl rfl, by
      match k, txs with
      | 0, _ => exact .inl rfl
      | 1, _ => exact .inl rfl
      | 2, _ => exact .inl rfl
      | k3 + 3, txs => exact .inr ⟨⟨run fs k3, fun _ _ _ => .bad 96, (0, [])⟩, k3, rfl, fun b => rfl, txs k3 (by omega), rfl⟩, fun _ => by
      show TabOk _ (tabAt k f.tab)
      match k with
      | 0 => exact .inl rfl
      | 1 => exact .inl rfl
      | 2 => exact .inl rfl
      | k3 + 3 =>
        rcases tb with z | ⟨c, h1, h2, h3⟩
        · exact .inl z
        · exact .inr ⟨c, h1, h2, h3⟩⟩
  refine ⟨_, sds G (passes_of (K := fun e s'' => L2.CX P w outer H s E e s'') (E₁ := fun e s'' => L2.CX P w outer H s E e s'') rfl) f.body d.body h4, ?_⟩
  obtain ⟨ρ, m, xs, hm, r, h⟩ := hsp
  rw [run_succ hf] at h
  unfold runF at h
  split at h
  case isFalse => exact h.elim
  rename_i hb
  have hxs := Nat.eq_of_beq_eq_true hb
  have hle : xs.length ≤ d.N.length := by
    have := congrArg List.length S.pre
    rw [List.length_take] at this
    omega
  refine ⟨ρ, _, m, env_start r hns hxs.symm hle, hm, ?_⟩
  cases e : es (ctxAt fs k f.tab) f.body (xs.map some ++ List.replicate (f.ns - f.ps) none) m with
  | nx e' m' =>
    rw [e] at h
    exact fun ρ' H' σ' x y z => drop_of hm h ρ' H' .non x y .non
  | rt d' m' =>
    rw [e] at h
    exact fun ρ' H' v x y z => drop_of hm h ρ' H' v x y z
  | exc c fl e' m' =>
    rw [e] at h
    exact fun ρ' H' σ' cv dd x y z u => h ρ' H' cv dd x y u
  | bad w => rw [e] at h; exact h
  | bk e' m' => rw [e] at h; exact h.elim
  | ct e' m' => rw [e] at h; exact h.elim
/-- where the tables of code objects lie -/
def TabsAt (ds : List Df) (fs : List Fn) (K : PySem.W.Frag) (mg : Str → Option Value) (base : Heap) : Prop := ∀ (i : Nat) (d : Df) (f : Fn), ds[i]? = some d → fs[i]? = some f → f.tab.2 = [] ∨
  ∀ (a : Addr) (fd : FuncData) (oc : Value) (od : Option Addr) (osl : Array (Option Value)), mg d.nm = some (.ref a) → K.lookup a = some ⟨oc, od, .func fd, osl⟩ → ∃ c, fd.code = .ref c ∧ LamX.TabB base mg c f.tab.1 ∧ SS f.tab.2 = d.nm ++ ".<locals>." ++ "<lambda>"
theorem tab_of {a : Addr} {fd : FuncData} {i : Nat} {d : Df} {f : Fn} (ht : TabsAt ds fs K mg base) (h1 : ds[i]? = some d) (h2 : fs[i]? = some f) (F : FunD K d.nm d.nm d.args d.body d.sc [] [] a fd) (hm : mg d.nm = some (.ref a)) : f.tab.2 = [] ∨ ∃ c, fd.code = .ref c ∧ LamX.TabB base mg c f.tab.1 ∧ SS f.tab.2 = d.nm ++ ".<locals>." ++ "<lambda>" := by
  rcases ht i d f h1 h2 with z | z
  · exact .inl z
  · obtain ⟨oc, od, _, _, _, _, _, _, _, osl, _, lk, _⟩ := F.ex
    exact .inr (z a fd oc od osl hm lk)
theorem all_ok (st : Stands T ds K mg) (ht : TabsAt ds fs K mg base) (hn : T.nms = ds.map (·.nm)) (hd : ∀ (i : Nat) (d : Df), ds[i]? = some d → ∃ f, fs[i]? = some f ∧ dfB T d f = true) : ∀ k, TxOk T C (run fs k) k P w K mg base := by
  have pick : ∀ (i : Nat) (x : Str), T.nms[i]? = some x → ∃ d, ds[i]? = some d ∧ d.nm = x := fun i x e => by
    rw [hn, List.getElem?_map] at e
    cases ed : ds[i]? with
    | none => rw [ed] at e; cases e
    | some d => rw [ed] at e; cases e; exact ⟨d, rfl, rfl⟩
  have all : ∀ k j, j ≤ k → TxOk T C (run fs j) j P w K mg base := by
    intro k
    induction k with
    | zero =>
      intro j hj
      have : j = 0 := by omega
      subst this
      refine ⟨fun i x e => ?_, st.glo, st.blt⟩
      obtain ⟨d, h1, rfl⟩ := pick i x e
      obtain ⟨a, fd, F, h2, h3⟩ := st.fn i d h1
      refine ⟨a, fd, d.ps, h2, F.kp, h3, fun vs H Q E ⟨ρ, m, xs, hm, r, h⟩ => h.elim, fun A outer s H args us vs Q E hr e0 hb r ⟨ρ, m, xs, hm, r', h⟩ => h.elim⟩
    | succ k ih =>
      intro j hj
      by_cases hk : j ≤ k
      · exact ih j hk
      · have : j = k + 1 := by omega
        subst this
        refine ⟨fun i x e => ?_, st.glo, st.blt⟩
        obtain ⟨d, h1, rfl⟩ := pick i x e
        obtain ⟨a, fd, F, h2, h3⟩ := st.fn i d h1
        obtain ⟨f, h4, h5⟩ := hd i d h1
        exact ⟨a, fd, d.ps, h2, F.kp, h3, fn_ok ih (tab_of ht h1 h4 F h2) h4 h5 F⟩
  exact fun k => all k k (Nat.le_refl _)
end
end Mt
end
section
set_option Elab.async false
set_option linter.all false
set_option autoImplicit false
set_option maxRecDepth 100000
set_option maxHeartbeats 2000000
/-! MtH: the head by facts; no list among what the facts reach; tables of code objects; the end. -/
namespace Mt
open PySem PySem.Spec PyProof.Rows L2
/-! ### what the facts reach, but for tables -/
def isTabO : Option Obj → Bool
  | some o => match o.cls with
    | .none => true
    | _ => false
  | none => false
def kT (n : Nat) (g : Addr → Option Obj) : PySem.W.Frag := He.frG g ((He.asD g n).filter fun a => !isTabO (g a))
def nlK (K : PySem.W.Frag) : Bool := K.all fun p => decide (p.2.cls ≠ .type "list")
theorem lookup_mem {K : PySem.W.Frag} {a : Addr} {o : Obj} : K.lookup a = some o → (a, o) ∈ K := by
  induction K with
  | nil => intro h; cases h
  | cons p K ih =>
    obtain ⟨b, u⟩ := p
    intro h
    rw [List.lookup_cons] at h
    cases e : (a == b) with
    | true =>
      rw [e] at h
      cases h
      rw [eq_of_beq e]
      exact List.mem_cons_self
    | false =>
      rw [e] at h
      exact List.mem_cons_of_mem _ (ih h)
theorem nlK_ok {K : PySem.W.Frag} (h : nlK K = true) {a : Addr} {o : Obj} (e : K.lookup a = some o) : o.cls ≠ .type "list" :=
  of_decide_eq_true (List.all_eq_true.mp h _ (lookup_mem e))
/-! ### the tables -/
def tabObj0 : Obj := { cls := .none, data := .fields #[] }
def isTab0 : Option Obj → Bool
  | some ⟨.none, none, .fields vs, sl⟩ => vs.isEmpty && sl.isEmpty
  | _ => false
theorem isTab0_ok {o : Option Obj} (h : isTab0 o = true) : o = some tabObj0 := by
  unfold isTab0 at h
  split at h
  · rename_i vs sl
    rw [Bool.and_eq_true, Array.isEmpty_iff, Array.isEmpty_iff] at h
    rw [h.1, h.2]
    rfl
  · cases h
/-- the code object of the def x, its table -/
def codeVs (K : PySem.W.Frag) (c : Addr) : Option (Array Value) := match K.lookup c with
  | some ⟨.type t, _, .fields vs, _⟩ => if t = "code" then some vs else none
  | _ => none
def codeOfF (K : PySem.W.Frag) (x : Str) : Option Addr := match K.lookup (He.ga K x) with
  | some ⟨_, _, .func fd, _⟩ => (match fd.code with
    | .ref c => some c
    | _ => none)
  | _ => none
def tabIn (K : PySem.W.Frag) (x : Str) : Option (Addr × Addr) := match codeOfF K x with
  | some c => (match codeVs K c with
    | some vs => (match (vs[11]? : Option Value) with
      | some (.ref P) => some (c, P)
      | _ => none)
    | none => none)
  | none => none
def hdB (vs : Array Value) (P c : Addr) : Bool := (match vs.getD 11 .none with
    | .ref Q => decide (Q = P)
    | _ => false) && ((match vs.getD 18 .none with
    | .str _ _ => true
    | _ => false) && ((match vs.getD 7 .none with
    | .int _ _ => true
    | _ => false) && ((match vs.getD 9 .none with
    | .bool _ => true
    | _ => false) && ((match vs.getD 10 .none with
    | .int _ _ => true
    | _ => false) && decide (c ≠ P)))))
def tabFact (g : Addr → Option Obj) (K : PySem.W.Frag) (x : Str) : Bool := match tabIn K x with
  | some (c, P) => (match codeVs K c with
    | some vs => hdB vs P c
    | none => false) && (isTab0 (g P) && (K.lookup P).isNone)
  | none => false
def difB (K : PySem.W.Frag) (tn : List Str) : Bool := decide ((tn.map (tabIn K)).Nodup) && decide ((tn.map fun x => (tabIn K x).map (·.2)).Nodup)
def SaysL (fa : List He.Fa) (fn : List He.DefD) (tn : List Str) (K : PySem.W.Frag) (h : Heap) : Prop := nlK K = true ∧ He.SaysD fa fn K ∧ (∀ x ∈ tn, tabFact h.get? K x = true) ∧ difB K tn = true
abbrev AlL : Type := Bool × He.AlD × Bool × Bool
def obsLG (n : Nat) (fa : List He.Fa) (fn : List He.DefD) (tn : List Str) (g : Addr → Option Obj) : AlL := (nlK (kT n g), He.obsD fa fn (kT n g), tn.all (fun x => tabFact g (kT n g) x), difB (kT n g) tn)
theorem tabFact_keeps {h h' : Heap} {K : PySem.W.Frag} {x : Str} (k : ∀ b o, h.get? b = some o → h'.get? b = some o) (e : tabFact h.get? K x = true) : tabFact h'.get? K x = true := by
  unfold tabFact at e ⊢
  split at e
  · rename_i c P _
    simp only [Bool.and_eq_true] at e ⊢
    exact ⟨e.1, by rw [k _ _ (isTab0_ok e.2.1)]; rfl, e.2.2⟩
  · cases e
def hookL (n : Nat) (fa : List He.Fa) (fn : List He.DefD) (tn : List Str) : PySem.W.Hook where
  α := AlL
  obs := fun s => obsLG n fa fn tn s.heap.get?
  val := fun _ => (true, He.valD fn, true, true)
  says := fun _ h => ∃ K : PySem.W.Frag, K.In h ∧ SaysL fa fn tn K h
  of := fun _ s e => ⟨kT n s.heap.get?, He.frG_in, congrArg (fun z : AlL => z.1) e, congrArg (fun z : AlL => z.2.1) e, List.all_eq_true.mp (congrArg (fun z : AlL => z.2.2.1) e), congrArg (fun z : AlL => z.2.2.2) e⟩
  keeps := fun _ _ _ ⟨K, hK, c1, c2, c3, c4⟩ k => ⟨K, PySem.W.Frag.In.keeps hK k, c1, c2, fun x hx => tabFact_keeps k (c3 x hx), c4⟩
theorem obsLG_eq {n : Nat} {fa : List He.Fa} {fn : List He.DefD} {tn : List Str} {g : Addr → Option Obj} {s : Shared} (h : ∀ a, g a = s.heap.get? a) : obsLG n fa fn tn g = (show AlL from (hookL n fa fn tn).obs s) := by
  have e : g = s.heap.get? := funext h
  rw [e] <;> rfl
theorem tab_hd {h : Heap} {K : PySem.W.Frag} {x : Str} (kin : K.In h) (e : tabFact h.get? K x = true) : ∃ c P, tabIn K x = some (c, P) ∧ codeOfF K x = some c ∧ PySem.W.CodeHd h c P ∧ h.get? P = some tabObj0 ∧ K.lookup P = none := by
  unfold tabFact at e
  split at e
  case h_2 => cases e
  rename_i c P et
  simp only [Bool.and_eq_true, Option.isNone_iff_eq_none] at e
  obtain ⟨e1, e2, e3⟩ := e
  refine ⟨c, P, et, ?_, ?_, isTab0_ok e2, e3⟩
  · unfold tabIn at et
    split at et
    · rename_i c' ec
      split at et
      · split at et
        · cases et; exact ec
        · cases et
      · cases et
    · cases et
  · split at e1
    case h_2 => cases e1
    rename_i vs ev
    have ev2 := ev
    unfold codeVs at ev2
    split at ev2
    case h_2 => cases ev2
    rename_i t od vs' sl lk
    split at ev2
    case isFalse => cases ev2
    rename_i tc
    cases ev2
    subst tc
    have h11 : vs[11]? = some (.ref P) := by
      unfold tabIn at et
      split at et
      · rename_i c' ec
        split at et
        · rename_i vs2 ev2
          split at et
          · rename_i P' e11
            cases et
            rw [ev] at ev2
            cases ev2
            exact e11
          · cases et
        · cases et
      · cases et
    unfold hdB at e1
    simp only [Bool.and_eq_true, decide_eq_true_eq] at e1
    obtain ⟨a1, a2, a3, a4, a5, a6⟩ := e1
    have b1 : vs.getD 11 .none = .ref P := by
      split at a1
      · rename_i Q eq; rw [of_decide_eq_true a1] at eq; exact eq
      · cases a1
    have b2 : ∃ f t, vs.getD 18 .none = .str f t := by
      split at a2
      · rename_i f t eq; exact ⟨f, t, eq⟩
      · cases a2
    have b3 : ∃ f t, vs.getD 7 .none = .int f t := by
      split at a3
      · rename_i f t eq; exact ⟨f, t, eq⟩
      · cases a3
    have b4 : ∃ f, vs.getD 9 .none = .bool f := by
      split at a4
      · rename_i f eq; exact ⟨f, eq⟩
      · cases a4
    have b5 : ∃ f t, vs.getD 10 .none = .int f t := by
      split at a5
      · rename_i f t eq; exact ⟨f, t, eq⟩
      · cases a5
    obtain ⟨f, tf, b2⟩ := b2
    obtain ⟨fl, tg, b3⟩ := b3
    obtain ⟨inF, b4⟩ := b4
    obtain ⟨tx, tt, b5⟩ := b5
    exact ⟨_, vs, f, tf, fl, tg, inF, tx, tt, kin _ _ lk, rfl, rfl, h11, b1, b2, b3, b4, b5, a6⟩
/-! ### the text stands -/
/-- one value for a parameter each -/
def BB (d : Df) : Prop := ∀ (kV doc pm : Value) (an : Option Addr) (cdv ct : Value) (us : List Value), us.length = d.ps.length → bindArgs (PySem.W.fnOf d.nm d.nm d.args d.body d.sc .none kV doc pm an cdv ct) ⟨us, []⟩ = pure (d.ps.zip us)
def hdD (d : Df) : He.DefD := ⟨(d.nm, none), d.nm, d.nm, d.args, d.body, d.sc, [], []⟩
section
variable {T : Txt} {ds : List Df} {fs : List Fn} {fa : List He.Fa} {K : PySem.W.Frag} {h : Heap} {mg : Str → Option Value}
theorem factM {fn : List He.DefD} (c : He.SaysD fa fn K) {f : He.Fa} (h : f ∈ fa) : f.ok K = true := by
  obtain ⟨i, hi⟩ := List.mem_iff_getElem?.mp h
  exact c.fact i hi
def faOf (T : Txt) : List He.Fa := T.nms.map He.Fa.glo ++ T.glo.map (fun p => He.Fa.int p.1 p.2) ++ bltNames.map He.Fa.free
theorem glo_at (hn : T.nms = ds.map (·.nm)) (X : K.In h) (G : h.Ns mainGlobals mg) (c : He.SaysD (faOf T) (ds.map hdD) K) {d : Df} (hm : d ∈ ds) : mg d.nm = some (.ref (He.ga K d.nm)) := by
  refine He.glo_ok X G (factM c (List.mem_append_left _ (List.mem_append_left _ ?_)))
  rw [hn]
  exact List.mem_map_of_mem (f := He.Fa.glo) (List.mem_map_of_mem (f := fun d : Df => d.nm) hm)
theorem stands_of (hn : T.nms = ds.map (·.nm)) (hb : ∀ d ∈ ds, BB d) (X : K.In h) (G : h.Ns mainGlobals mg) (c : He.SaysD (faOf T) (ds.map hdD) K) : Stands T ds K mg := by
  refine ⟨fun i d e => ?_, fun i x j e => ?_, fun x hx => ?_⟩
  · have hm := List.mem_of_getElem? e
    obtain ⟨fd, F⟩ := c.def_ i (d := hdD d) (by rw [List.getElem?_map, e]; rfl)
    exact ⟨He.ga K d.nm, fd, F, glo_at hn X G c hm, FunD.bindsN F (hb d hm)⟩
  · exact He.int_ok X G (factM c (List.mem_append_left _ (List.mem_append_right _ (List.mem_map_of_mem (f := fun p : Str × Int => He.Fa.int p.1 p.2) (List.mem_of_getElem? e)))))
  · exact He.free_ok X G (factM c (List.mem_append_right _ (List.mem_map_of_mem (f := He.Fa.free) hx)))
/-- the defs that make lambdas, by the list of tables -/
def tqB (tq : List (Str × List Nat)) : List Df → List Fn → Bool
  | d :: ds, f :: fs => (decide (f.tab.2 = []) || decide (tq[f.tab.1]? = some (d.nm, f.tab.2)) && decide (SS f.tab.2 = d.nm ++ ".<locals>." ++ "<lambda>")) && tqB tq ds fs
  | [], _ => true
  | _, [] => true
theorem tqB_at {tq : List (Str × List Nat)} : ∀ {ds : List Df} {fs : List Fn} {i : Nat} {d : Df} {f : Fn}, tqB tq ds fs = true → ds[i]? = some d → fs[i]? = some f → f.tab.2 = [] ∨ tq[f.tab.1]? = some (d.nm, f.tab.2) ∧ SS f.tab.2 = d.nm ++ ".<locals>." ++ "<lambda>"
  | [], _, _, _, _, _, h, _ => by simp at h
  | _ :: _, [], _, _, _, _, _, h => by simp at h
  | d :: ds, f :: fs, 0, _, _, h, h1, h2 => by
    simp at h1 h2
    subst h1 h2
    unfold tqB at h
    simp only [Bool.and_eq_true, Bool.or_eq_true, decide_eq_true_eq] at h
    exact h.1
  | d :: ds, f :: fs, i + 1, _, _, h, h1, h2 => by
    unfold tqB at h
    rw [Bool.and_eq_true] at h
    exact tqB_at (i := i) h.2 (by simpa using h1) (by simpa using h2)
/-- the memory at the start: the tables -/
def memT : List Nat → List (Str × List Nat) → Mem
  | p :: P, x :: tq => some (.tab p x.2) :: memT P tq
  | _, _ => []
theorem memT_at : ∀ {P : List Nat} {tq : List (Str × List Nat)} {i : Nat} {o : Option Ob}, (memT P tq)[i]? = some o → ∃ p x, P[i]? = some p ∧ tq[i]? = some x ∧ o = some (.tab p x.2)
  | [], _, i, o, h => by simp [memT] at h
  | _ :: _, [], i, o, h => by simp [memT] at h
  | p :: P, x :: tq, 0, o, h => by
    simp only [memT, List.getElem?_cons_zero, Option.some.injEq] at h
    exact ⟨p, x, rfl, rfl, h.symm⟩
  | p :: P, x :: tq, i + 1, o, h => by
    simp only [memT, List.getElem?_cons_succ] at h
    obtain ⟨p', x', h1, h2, h3⟩ := memT_at h
    exact ⟨p', x', by simpa using h1, by simpa using h2, h3⟩
theorem memT_len : ∀ {P : List Nat} {tq : List (Str × List Nat)}, P.length = tq.length → (memT P tq).length = P.length
  | [], [], _ => rfl
  | _ :: P, _ :: tq, h => by simp [memT, memT_len (P := P) (tq := tq) (by simpa using h)]
  | [], _ :: _, h => by simp at h
  | _ :: _, [], h => by simp at h
end
def C0 : Mt.Cls := ⟨fun _ => .none, fun _ => []⟩
theorem ints_rep {ρ : Rho} {H : Hp} : ∀ ns : List Int, Reps ρ H (ns.map D.int) (ns.map V.int)
  | [] => .nil
  | i :: r => .cons (.int i) (ints_rep r)
theorem law_spec {fs : List Fn} {k i : Nat} {K : PySem.W.Frag} {P : List Nat} {tq : List (Str × List Nat)} (hK : nlK K = true) (hP : P.Nodup) (hl : P.length = tq.length) {H : Hp} {a : Addr} {ns : List Int} (ht : ∀ p ∈ P, H p = some (.tbl #[])) (hs : SqL K H a (ns.map V.int)) (hm : ∃ m, run fs k i [.scr (ns.map .int)] (memT P tq) = .ok (.bl true) m) :
    spec C0 (run fs k i) [.ref a] H (fun v _ => v = .bl true) fun _ _ _ => False := by
  rcases hs with hr | ⟨o, its, n, e, hc, _⟩
  case inr => exact absurd hc (nlK_ok hK e)
  obtain ⟨m, hm⟩ := hm
  have at_ : ∀ (i : Nat) (b : Addr), (P.map some)[i]? = some (some b) → P[i]? = some b := fun i b h => by
    rw [List.getElem?_map] at h
    cases e : P[i]? with
    | none => rw [e] at h; cases h
    | some p => rw [e] at h; cases h; rfl
  have nl : ¬ live (⟨P.map some, []⟩ : Rho) a := fun l => by
    rcases l with ⟨n, hn⟩ | hb
    · have h1 := ht a (List.mem_of_getElem? (at_ n a hn))
      rcases hr with hr | ⟨o, hr⟩ <;> rw [h1] at hr <;> cases hr
    · cases hb
  refine ⟨⟨P.map some, []⟩, memT P tq, [.scr (ns.map .int)], ⟨by rw [memT_len hl]; simp, fun i j a h1 h2 => ?_, fun i o h => ?_, fun i h => ?_, fun a h => absurd h (List.not_mem_nil), fun i a h => (by simp)⟩, .cons (.scr hr nl (ints_rep ns)) .nil, ?_⟩
  · have e1 := at_ i a h1
    have e2 := at_ j a h2
    obtain ⟨l1, q1⟩ := List.getElem?_eq_some_iff.mp e1
    obtain ⟨l2, q2⟩ := List.getElem?_eq_some_iff.mp e2
    exact (List.getElem_inj hP).mp (q1.trans q2.symm)
  · obtain ⟨p, x, h1, h2, h3⟩ := memT_at h
    cases h3
    refine ⟨p, by rw [List.getElem?_map, h1]; rfl, rfl, #[], ht p (List.mem_of_getElem? h1), True.intro, fun pos cv q => ?_⟩
    have q' : codeAmong pos [] = some cv := q
    simp [codeAmong] at q'
  · obtain ⟨p, x, h1, h2, h3⟩ := memT_at h
    cases h3
  · rw [hm]
    intro ρ' H' v x y r
    cases r
    rfl
theorem walk_law {l : PySem.W.OpenLaw} {T : Txt} {ds : List Df} {fs : List Fn} {tq : List (Str × List Nat)} {i k : Nat} {dl : Df} {q : Program} {loose : List Str} {XP : (Str → Option Value) → Heap → Prop} {d : DefRec} {x : Str}
    (hn : l.most = some 63) (hdf : d.params.defaults = []) (hr : Room (k + 1) callerA) (hT : T.nms = ds.map (·.nm)) (hb : ∀ d ∈ ds, BB d)
    (hd : ∀ (i : Nat) (d : Df), ds[i]? = some d → ∃ f, fs[i]? = some f ∧ dfB T d f = true) (htq : tqB tq ds fs = true) (hi : ds[i]? = some dl) (hps : dl.ps = [x]) (hnm : d.name = dl.nm)
    (hm : ∀ P : List Nat, P.length = tq.length → ∀ ns : List Int, ns.length ≤ 63 → ∃ m, run (withTabs P fs) (k + 1) i [.scr (ns.map .int)] (memT P tq) = .ok (.bl true) m) :
    PySem.W.WalkO q loose XP (hookL 4 (faOf T) (ds.map hdD) (tq.map (·.1))).says l.row.toRowW d [] (fun f vs => PySem.call f vs) := by
  refine LamX.walk_ofTsE (l := l) (n := 63) (k := k + 1) (x := x) (CX := fun w => L2.CX l.prog w) hn (by decide) hdf hr ?F ?C
  case C =>
    intro w H s e s' hc
    obtain ⟨_, _, _, _, _, _, _, _, _, _, _, _, z⟩ := hc
    exact z
  intro w mg f1 h hY hG hmg
  obtain ⟨K, kin, cK, cS, cT, cD⟩ := hY
  refine ⟨K, kin, ?_⟩
  have st : Stands T ds K mg := stands_of hT hb kin hG cS
  obtain ⟨f0, hf0, hok⟩ := hd i dl hi
  obtain ⟨f, fd, F, hmf, hbd⟩ := st.fn i dl hi
  rw [hnm, hmf] at hmg
  cases hmg
  have bnd := FunD.bindsA (ps := dl.ps) F (hb dl (List.mem_of_getElem? hi))
  rw [hps] at bnd
  obtain ⟨PS, ePS⟩ : ∃ PS, PS = tq.map fun x => (tabIn K x.1).getD (0, 0) := ⟨_, rfl⟩
  have hPS : ∀ (j : Nat) (x : Str × List Nat), tq[j]? = some x → ∃ c P, PS[j]? = some (c, P) ∧ tabIn K x.1 = some (c, P) ∧ codeOfF K x.1 = some c ∧ PySem.W.CodeHd h c P ∧ h.get? P = some tabObj0 ∧ K.lookup P = none := fun j x e => by
    obtain ⟨c, P, h1, h2, h3, h4, h5⟩ := tab_hd kin (cT x.1 (List.mem_map_of_mem (f := fun x : Str × List Nat => x.1) (List.mem_of_getElem? e)))
    exact ⟨c, P, by rw [ePS, List.getElem?_map, e, Option.map_some, h1]; rfl, h1, h2, h3, h4, h5⟩
  have mPS : ∀ p ∈ PS, PySem.W.CodeHd h p.1 p.2 ∧ h.get? p.2 = some tabObj0 ∧ K.lookup p.2 = none := fun p hp => by
    obtain ⟨j, hj⟩ := List.mem_iff_getElem?.mp hp
    have hj2 := hj
    rw [ePS, List.getElem?_map] at hj2
    cases e : tq[j]? with
    | none => rw [e] at hj2; cases hj2
    | some x =>
      obtain ⟨c, P, h1, _, _, h3, h4, h5⟩ := hPS j x e
      rw [hj] at h1
      cases h1
      exact ⟨h3, h4, h5⟩
  have nd : (PS.map (·.2)).Nodup := by
    unfold difB at cD
    rw [Bool.and_eq_true, decide_eq_true_eq, decide_eq_true_eq] at cD
    have e : ((tq.map (·.1)).map fun x => (tabIn K x).map (·.2)) = (PS.map (·.2)).map some := by
      refine List.ext_getElem? fun j => ?_
      simp only [List.getElem?_map]
      cases e : tq[j]? with
      | none => rw [ePS, List.getElem?_map, e]; rfl
      | some x =>
        obtain ⟨c, P, h1, h2, _⟩ := hPS j x e
        rw [h1]
        simp [h2]
    have := cD.2
    rw [e] at this
    rw [List.Nodup, List.pairwise_map] at this
    exact this.imp fun hab z => hab (congrArg some z)
  have lP : (PS.map (·.2)).length = tq.length := by rw [ePS]; simp
  refine ⟨fd, PS, spec C0 (run (withTabs (PS.map (·.2)) fs) (k + 1) i), fun p hp => (mPS p hp).2.1, fun p hp => (mPS p hp).2.2, fun p hp => (mPS p hp).1, fun s u => bnd s [u] rfl, fun H a ns hl _ ht hs => ?_, fun base kb nb tb => ?_⟩
  · exact law_spec (P := PS.map (·.2)) (tq := tq) cK nd lP (fun p hp => by
      obtain ⟨pp, hpp, rfl⟩ := List.mem_map.mp hp
      exact ht pp hpp) hs (hm _ lP ns hl)
  · have at_ : ∀ (j : Nat) (g : Fn), (withTabs (PS.map (·.2)) fs)[j]? = some g → ∃ g0, fs[j]? = some g0 ∧ g = { g0 with tab := ((PS.map (·.2)).getD g0.tab.1 0, g0.tab.2) } := fun j g e => by
      unfold withTabs at e
      rw [List.getElem?_map] at e
      cases e0 : fs[j]? with
      | none => rw [e0] at e; cases e
      | some g0 => rw [e0] at e; cases e; exact ⟨g0, rfl, rfl⟩
    have hd' : ∀ (j : Nat) (d : Df), ds[j]? = some d → ∃ f, (withTabs (PS.map (·.2)) fs)[j]? = some f ∧ dfB T d f = true := fun j d e => by
      obtain ⟨g, h1, h2⟩ := hd j d e
      exact ⟨{ g with tab := ((PS.map (·.2)).getD g.tab.1 0, g.tab.2) }, by unfold withTabs; rw [List.getElem?_map, h1]; rfl, h2⟩
    have tabs : TabsAt ds (withTabs (PS.map (·.2)) fs) K mg base := fun j dj g e1 e2 => by
      obtain ⟨g0, e3, rfl⟩ := at_ j g e2
      rcases tqB_at htq e1 e3 with z | ⟨z1, z2⟩
      · exact .inl z
      · right
        intro a fd' oc od osl hma hka
        obtain ⟨c, P, p1, p2, p3, _⟩ := hPS _ _ z1
        have ga := glo_at hT kin hG cS (List.mem_of_getElem? e1)
        rw [hma] at ga
        cases ga
        unfold codeOfF at p3
        rw [hka] at p3
        dsimp only at p3
        split at p3
        case h_2 => cases p3
        rename_i c' ec
        cases p3
        refine ⟨c, ec, ?_, z2⟩
        have tb' := tb (c, P) (List.mem_of_getElem? p1)
        have : (PS.map (·.2)).getD g0.tab.1 0 = P := by
          rw [List.getD_eq_getElem?_getD, List.getElem?_map, p1]
          rfl
        show LamX.TabB base mg c ((PS.map (·.2)).getD g0.tab.1 0)
        rw [this]
        exact tb'
    obtain ⟨fl, hfl, hokl⟩ := hd' i dl hi
    have txs : ∀ j, j ≤ k → TxOk T C0 (run (withTabs (PS.map (·.2)) fs) j) j l.prog w K mg base := fun j _ => all_ok st tabs hT hd' j
    have ok := fn_ok txs (tab_of tabs hi hfl F hmf) hfl hokl F
    rw [hps] at ok
    exact ok
/-- all defs checked -/
def dfsB (T : Txt) : List Df → List Fn → Bool
  | d :: ds, f :: fs => dfB T d f && dfsB T ds fs
  | [], _ => true
  | _ :: _, [] => false
theorem dfsB_at {T : Txt} : ∀ {ds : List Df} {fs : List Fn}, dfsB T ds fs = true → ∀ (i : Nat) (d : Df), ds[i]? = some d → ∃ f, fs[i]? = some f ∧ dfB T d f = true
  | [], _, _, _, _, h => by simp at h
  | _ :: _, [], h, _, _, _ => by cases h
  | d :: ds, f :: fs, h, 0, _, e => by
    simp at e
    subst e
    unfold dfsB at h
    rw [Bool.and_eq_true] at h
    exact ⟨f, rfl, h.1⟩
  | d :: ds, f :: fs, h, i + 1, d', e => by
    unfold dfsB at h
    rw [Bool.and_eq_true] at h
    obtain ⟨g, h1, h2⟩ := dfsB_at h.2 i d' (by simpa using e)
    exact ⟨g, by simpa using h1, h2⟩
end Mt
end
section
set_option linter.all false
set_option maxRecDepth 100000
namespace K00
open Mt
/-- 0 whole(value): 0 value -/
def f_whole : Fn := ⟨1, 1, (.ret (.and (.isi (.var 0) [.int]) (.not (.isi (.var 0) [.bool])))), true, (0, [])⟩
/-- 1 within(value, low, high): 0 value 1 low 2 high -/
def f_within : Fn := ⟨3, 3, (.ret (.and (.call 0 (.cons (.var 0) .nil)) (.chain .le .le (.var 1) (.var 0) (.var 2)))), true, (0, [])⟩
/-- 2 need_number(value, low, high): 0 value 1 low 2 high -/
def f_need_number : Fn := ⟨3, 3, (.ite (.not (.call 1 (.cons (.var 0) (.cons (.var 1) (.cons (.var 2) .nil)))))
    .dead
    .skip), true, (0, [])⟩
/-- 3 tuple_of(value, low, high): 0 value 1 low 2 high -/
def f_tuple_of : Fn := ⟨3, 3, (.ret (.and (.isi (.var 0) [.tuple]) (.chain .le .le (.var 1) (.blt .len (.cons (.var 0) .nil)) (.var 2)))), true, (0, [])⟩
/-- 4 is_word(value, small): 0 value 1 small 2 letters 3 sign -/
def f_is_word : Fn := ⟨2, 4, (.seq (.ite (.or (.not (.isi (.var 0) [.str])) (.not (.chain .le .le (.con (.int 1)) (.blt .len (.cons (.var 0) .nil)) (.con (.int 12)))))
    (.ret (.con (.bl false)))
    .skip)
    (.seq (.asg (.tgN 2) (.con (.str [97, 98, 99, 100, 101, 102, 103, 104, 105, 106, 107, 108, 109, 110, 111, 112, 113, 114, 115, 116, 117, 118, 119, 120, 121, 122])))
    (.seq (.ite (.not (.blt .all (.cons (.lc (.or (.cmp .isin (.var 3) (.var 2)) (.cmp .isin (.var 3) (.bm .upper (.var 2) .nil))) (.tgN 3) (.var 0) (.con (.bl true))) .nil)))
    (.ret (.con (.bl false)))
    .skip)
    (.ret (.cmp .isin (.idx (.var 0) (.con (.int 0))) (.ite (.var 1) (.var 2) (.bm .upper (.var 2) .nil))))))), true, (0, [])⟩
/-- 5 is_makers(value, names): 0 value 1 names 2 maker 3 kind -/
def f_is_makers : Fn := ⟨2, 4, (.seq (.ite (.not (.call 3 (.cons (.var 0) (.cons (.con (.int 1)) (.cons (.glo 1 (.int 8)) .nil)))))
    (.ret (.con (.bl false)))
    .skip)
    (.seq (.loop (.tgN 2) (.var 0)
    (.seq (.ite (.or (.not (.call 3 (.cons (.var 2) (.cons (.con (.int 2)) (.cons (.con (.int 2)) .nil))))) (.or (.not (.call 4 (.cons (.idx (.var 2) (.con (.int 0))) (.cons (.con (.bl false)) .nil)))) (.not (.call 3 (.cons (.idx (.var 2) (.con (.int 1))) (.cons (.con (.int 0)) (.cons (.glo 2 (.int 4)) .nil)))))))
    (.ret (.con (.bl false)))
    .skip)
    (.ite (.not (.blt .all (.cons (.lc (.and (.isi (.var 3) [.str]) (.cmp .isin (.var 3) (.var 1))) (.tgN 3) (.idx (.var 2) (.con (.int 1))) (.con (.bl true))) .nil)))
    (.ret (.con (.bl false)))
    .skip)))
    (.ret (.cmp .eq (.blt .len (.cons (.dc (.idx (.var 2) (.con (.int 0))) (.con (.bl true)) (.tgN 2) (.var 0) (.con (.bl true))) .nil)) (.blt .len (.cons (.var 0) .nil)))))), true, (0, [])⟩
/-- 6 is_body(value, names): 0 value 1 names -/
def f_is_body : Fn := ⟨2, 2, (.seq (.ite (.or (.not (.isi (.var 0) [.tuple])) (.cmp .eq (.var 0) (.tup .nil)))
    (.ret (.con (.bl false)))
    .skip)
    (.seq (.ite (.cmp .eq (.idx (.var 0) (.con (.int 0))) (.con (.str [109, 97, 107, 101, 114, 115])))
    (.ret (.and (.cmp .eq (.blt .len (.cons (.var 0) .nil)) (.con (.int 2))) (.call 5 (.cons (.idx (.var 0) (.con (.int 1))) (.cons (.var 1) .nil)))))
    .skip)
    (.seq (.ite (.cmp .eq (.idx (.var 0) (.con (.int 0))) (.con (.str [110, 117, 109, 98, 101, 114, 115])))
    (.ret (.and (.cmp .eq (.blt .len (.cons (.var 0) .nil)) (.con (.int 3))) (.and (.call 1 (.cons (.idx (.var 0) (.con (.int 1))) (.cons (.con (.int 0)) (.cons (.glo 3 (.int 99)) .nil)))) (.call 1 (.cons (.idx (.var 0) (.con (.int 2))) (.cons (.idx (.var 0) (.con (.int 1))) (.cons (.glo 3 (.int 99)) .nil)))))))
    .skip)
    (.ret (.and (.cmp .eq (.idx (.var 0) (.con (.int 0))) (.con (.str [114, 111, 119, 115]))) (.and (.cmp .eq (.blt .len (.cons (.var 0) .nil)) (.con (.int 2))) (.and (.isi (.idx (.var 0) (.con (.int 1))) [.str]) (.cmp .isin (.idx (.var 0) (.con (.int 1))) (.var 1))))))))), true, (0, [])⟩
/-- 7 need_program(program): 0 program 1 names 2 kind 3 index 4 other 5 filled -/
def f_need_program : Fn := ⟨1, 6, (.seq (.ite (.not (.call 3 (.cons (.var 0) (.cons (.con (.int 1)) (.cons (.glo 0 (.int 8)) .nil)))))
    .dead
    .skip)
    (.seq (.asg (.tgN 1) (.lc (.idx (.var 2) (.con (.int 0))) (.tgN 2) (.var 0) (.and (.call 3 (.cons (.var 2) (.cons (.con (.int 2)) (.cons (.con (.int 2)) .nil)))) (.call 4 (.cons (.idx (.var 2) (.con (.int 0))) (.cons (.con (.bl false)) .nil))))))
    (.seq (.loop (.tgT (.cons (.tgN 3) (.cons (.tgN 2) .nil))) (.enm (.var 0))
    (.seq (.ite (.or (.not (.call 3 (.cons (.var 2) (.cons (.con (.int 2)) (.cons (.con (.int 2)) .nil))))) (.or (.not (.call 4 (.cons (.idx (.var 2) (.con (.int 0))) (.cons (.con (.bl false)) .nil)))) (.not (.call 6 (.cons (.idx (.var 2) (.con (.int 1))) (.cons (.var 1) .nil))))))
    .dead
    .skip)
    (.ite (.cmp .isin (.idx (.var 2) (.con (.int 0))) (.lc (.idx (.var 4) (.con (.int 0))) (.tgN 4) (.slU (.var 0) (.var 3)) (.con (.bl true))))
    .dead
    .skip)))
    (.seq (.asg (.tgN 5) (.call 10 (.cons (.var 0) .nil)))
    (.loop (.tgT (.cons (.tgN 3) (.cons (.tgN 2) .nil))) (.enm (.var 0))
    (.ite (.dnin (.idx (.var 2) (.con (.int 0))) (.var 5))
    .dead
    .skip)))))), true, (0, [])⟩
/-- 8 body_of(program, kind): 0 program 1 kind 2 name 3 body -/
def f_body_of : Fn := ⟨2, 4, (.ret (.idx (.lc (.var 3) (.tgT (.cons (.tgN 2) (.cons (.tgN 3) .nil))) (.var 0) (.cmp .eq (.var 2) (.var 1))) (.con (.int 0)))), true, (0, [])⟩
/-- 9 need_kind(program, kind): 0 program 1 kind 2 name 3 body -/
def f_need_kind : Fn := ⟨2, 4, (.seq (.expr (.call 7 (.cons (.var 0) .nil)))
    (.ite (.or (.not (.isi (.var 1) [.str])) (.cmp .notin (.var 1) (.lc (.var 2) (.tgT (.cons (.tgN 2) (.cons (.tgN 3) .nil))) (.var 0) (.con (.bl true)))))
    .dead
    .skip)), true, (0, [])⟩
/-- 10 filled_of(program): 0 program 1 found 2 name 3 body 4 turn 5 kind 6 maker 7 kinds -/
def f_filled_of : Fn := ⟨1, 8, (.seq (.asg (.tgN 1) (.dc (.var 2) (.con (.bl true)) (.tgT (.cons (.tgN 2) (.cons (.tgN 3) .nil))) (.var 0) (.cmp .ne (.idx (.var 3) (.con (.int 0))) (.con (.str [109, 97, 107, 101, 114, 115])))))
    (.seq (.loop (.tgN 4) (.rng1 (.blt .len (.cons (.var 0) .nil)))
    (.loop (.tgT (.cons (.tgN 2) (.cons (.tgN 3) .nil))) (.var 0)
    (.ite (.and (.cmp .eq (.idx (.var 3) (.con (.int 0))) (.con (.str [109, 97, 107, 101, 114, 115]))) (.blt .any (.cons (.lc (.blt .all (.cons (.lc (.din (.var 5) (.var 1)) (.tgN 5) (.var 7) (.con (.bl true))) .nil)) (.tgT (.cons (.tgN 6) (.cons (.tgN 7) .nil))) (.idx (.var 3) (.con (.int 1))) (.con (.bl true))) .nil)))
    (.putD (.var 1) (.var 2) (.con (.bl true)))
    .skip)))
    (.ret (.var 1)))), false, (0, [])⟩
/-- 11 kinds(program): 0 program 1 name 2 body -/
def f_kinds : Fn := ⟨1, 3, (.seq (.expr (.call 7 (.cons (.var 0) .nil)))
    (.ret (.blt .tuple (.cons (.lc (.var 1) (.tgT (.cons (.tgN 1) (.cons (.tgN 2) .nil))) (.var 0) (.con (.bl true))) .nil)))), true, (0, [])⟩
/-- 12 parts_of(body): 0 body 1 maker 2 kinds 3 kind -/
def f_parts_of : Fn := ⟨1, 4, (.seq (.ite (.cmp .eq (.idx (.var 0) (.con (.int 0))) (.con (.str [109, 97, 107, 101, 114, 115])))
    (.ret (.cellC (.var 3) (.tgT (.cons (.tgN 1) (.cons (.tgN 2) .nil))) (.idx (.var 0) (.con (.int 1))) (.con (.bl true)) (.tgN 3) (.var 2) (.con (.bl true))))
    .skip)
    (.ret (.ite (.cmp .eq (.idx (.var 0) (.con (.int 0))) (.con (.str [114, 111, 119, 115]))) (.cellL (.cons (.idx (.var 0) (.con (.int 1))) .nil)) (.cellL .nil)))), false, (0, [])⟩
/-- 13 reach_of(program, kind): 0 program 1 kind 2 found 3 rim 4 here -/
def f_reach_of : Fn := ⟨2, 5, (.seq (.asg (.tgT (.cons (.tgN 2) (.cons (.tgN 3) .nil))) (.tup (.cons (.cellL .nil) (.cons (.call 12 (.cons (.call 8 (.cons (.var 0) (.cons (.var 1) .nil))) .nil)) .nil))))
    (.seq (.whl (.cmp .ne (.var 3) (.lst .nil))
    (.seq (.asg (.tgN 4) (.bm .pop (.var 3) .nil))
    (.ite (.cmp .notin (.var 4) (.var 2))
    (.seq (.expr (.bm .append (.var 2) (.cons (.var 4) .nil)))
    (.asg (.tgN 3) (.cellB .add (.var 3) (.call 12 (.cons (.call 8 (.cons (.var 0) (.cons (.var 4) .nil))) .nil)))))
    .skip)))
    (.ret (.frz (.var 2))))), true, (0, [])⟩
/-- 14 endless_of(program, kind): 0 program 1 kind 2 name -/
def f_endless_of : Fn := ⟨2, 3, (.seq (.loop (.tgN 2) (.bin .add (.lst (.cons (.var 1) .nil)) (.call 13 (.cons (.var 0) (.cons (.var 1) .nil))))
    (.ite (.or (.cmp .eq (.idx (.call 8 (.cons (.var 0) (.cons (.var 2) .nil))) (.con (.int 0))) (.con (.str [114, 111, 119, 115]))) (.cmp .isin (.var 2) (.call 13 (.cons (.var 0) (.cons (.var 2) .nil)))))
    (.ret (.con (.bl true)))
    .skip))
    (.ret (.con (.bl false)))), true, (0, [])⟩
/-- 15 is_endless(program, kind): 0 program 1 kind -/
def f_is_endless : Fn := ⟨2, 2, (.seq (.expr (.call 9 (.cons (.var 0) (.cons (.var 1) .nil))))
    (.ret (.call 14 (.cons (.var 0) (.cons (.var 1) .nil))))), true, (0, [])⟩
/-- 16 count_of(program, kind): 0 program 1 kind 2 body 3 found 4 maker 5 fields 6 many 7 field -/
def f_count_of : Fn := ⟨2, 8, (.seq (.asg (.tgN 2) (.call 8 (.cons (.var 0) (.cons (.var 1) .nil))))
    (.seq (.ite (.cmp .eq (.idx (.var 2) (.con (.int 0))) (.con (.str [110, 117, 109, 98, 101, 114, 115])))
    (.ret (.bin .add (.bin .sub (.idx (.var 2) (.con (.int 2))) (.idx (.var 2) (.con (.int 1)))) (.con (.int 1))))
    .skip)
    (.seq (.asg (.tgN 3) (.con (.int 0)))
    (.seq (.loop (.tgT (.cons (.tgN 4) (.cons (.tgN 5) .nil))) (.idx (.var 2) (.con (.int 1)))
    (.seq (.asg (.tgN 6) (.con (.int 1)))
    (.seq (.loop (.tgN 7) (.var 5)
    (.aug 6 .mul (.call 16 (.cons (.var 0) (.cons (.var 7) .nil)))))
    (.aug 3 .add (.var 6)))))
    (.ret (.var 3)))))), true, (0, [])⟩
/-- 17 count_all(program, kind): 0 program 1 kind -/
def f_count_all : Fn := ⟨2, 2, (.seq (.expr (.call 9 (.cons (.var 0) (.cons (.var 1) .nil))))
    (.ret (.ite (.call 14 (.cons (.var 0) (.cons (.var 1) .nil))) (.con .non) (.call 16 (.cons (.var 0) (.cons (.var 1) .nil)))))), true, (0, [])⟩
/-- 18 fields_of(program, kind, maker): 0 program 1 kind 2 maker 3 body 4 name 5 fields -/
def f_fields_of : Fn := ⟨3, 6, (.seq (.asg (.tgN 3) (.call 8 (.cons (.var 0) (.cons (.var 1) .nil))))
    (.seq (.loop (.tgT (.cons (.tgN 4) (.cons (.tgN 5) .nil))) (.ite (.cmp .eq (.idx (.var 3) (.con (.int 0))) (.con (.str [109, 97, 107, 101, 114, 115]))) (.idx (.var 3) (.con (.int 1))) (.tup .nil))
    (.ite (.cmp .eq (.var 4) (.var 2))
    (.ret (.var 5))
    .skip))
    (.ret (.con .non)))), true, (0, [])⟩
/-- 19 is_value_of(program, kind, value): 0 program 1 kind 2 value 3 body 4 part 5 fields 6 field -/
def f_is_value_of : Fn := ⟨3, 7, (.seq (.asg (.tgN 3) (.call 8 (.cons (.var 0) (.cons (.var 1) .nil))))
    (.seq (.ite (.cmp .eq (.idx (.var 3) (.con (.int 0))) (.con (.str [110, 117, 109, 98, 101, 114, 115])))
    (.ret (.and (.call 0 (.cons (.var 2) .nil)) (.chain .le .le (.idx (.var 3) (.con (.int 1))) (.var 2) (.idx (.var 3) (.con (.int 2))))))
    .skip)
    (.seq (.ite (.not (.isi (.var 2) [.tuple]))
    (.ret (.con (.bl false)))
    .skip)
    (.seq (.ite (.cmp .eq (.idx (.var 3) (.con (.int 0))) (.con (.str [114, 111, 119, 115])))
    (.ret (.blt .all (.cons (.lc (.call 19 (.cons (.var 0) (.cons (.idx (.var 3) (.con (.int 1))) (.cons (.var 4) .nil)))) (.tgN 4) (.var 2) (.con (.bl true))) .nil)))
    .skip)
    (.seq (.ite (.or (.cmp .ne (.blt .len (.cons (.var 2) .nil)) (.con (.int 2))) (.or (.not (.isi (.idx (.var 2) (.con (.int 0))) [.str])) (.not (.isi (.idx (.var 2) (.con (.int 1))) [.tuple]))))
    (.ret (.con (.bl false)))
    .skip)
    (.seq (.asg (.tgN 5) (.call 18 (.cons (.var 0) (.cons (.var 1) (.cons (.idx (.var 2) (.con (.int 0))) .nil)))))
    (.seq (.ite (.or (.cmp .isnone (.var 5) (.con .non)) (.cmp .ne (.blt .len (.cons (.var 5) .nil)) (.blt .len (.cons (.idx (.var 2) (.con (.int 1))) .nil))))
    (.ret (.con (.bl false)))
    .skip)
    (.ret (.blt .all (.cons (.lc (.call 19 (.cons (.var 0) (.cons (.var 6) (.cons (.var 4) .nil)))) (.tgT (.cons (.tgN 6) (.cons (.tgN 4) .nil))) (.zp (.var 5) (.idx (.var 2) (.con (.int 1)))) (.con (.bl true))) .nil)))))))))), true, (0, [])⟩
/-- 20 is_value(program, kind, value): 0 program 1 kind 2 value -/
def f_is_value : Fn := ⟨3, 3, (.seq (.expr (.call 9 (.cons (.var 0) (.cons (.var 1) .nil))))
    (.ret (.call 19 (.cons (.var 0) (.cons (.var 1) (.cons (.var 2) .nil)))))), true, (0, [])⟩
/-- 21 need_value(program, kind, value): 0 program 1 kind 2 value -/
def f_need_value : Fn := ⟨3, 3, (.seq (.expr (.call 9 (.cons (.var 0) (.cons (.var 1) .nil))))
    (.ite (.not (.call 19 (.cons (.var 0) (.cons (.var 1) (.cons (.var 2) .nil)))))
    .dead
    .skip)), true, (0, [])⟩
/-- 22 size_of(value): 0 value 1 parts 2 part -/
def f_size_of : Fn := ⟨1, 3, (.seq (.ite (.call 0 (.cons (.var 0) .nil))
    (.ret (.con (.int 1)))
    .skip)
    (.seq (.asg (.tgN 1) (.ite (.and (.cmp .eq (.blt .len (.cons (.var 0) .nil)) (.con (.int 2))) (.isi (.idx (.var 0) (.con (.int 0))) [.str])) (.idx (.var 0) (.con (.int 1))) (.var 0)))
    (.ret (.bin .add (.con (.int 1)) (.blt .sum (.cons (.lc (.call 22 (.cons (.var 2) .nil)) (.tgN 2) (.var 1) (.con (.bl true))) .nil)))))), true, (0, [])⟩
/-- 23 size(program, kind, value): 0 program 1 kind 2 value -/
def f_size : Fn := ⟨3, 3, (.seq (.expr (.call 21 (.cons (.var 0) (.cons (.var 1) (.cons (.var 2) .nil)))))
    (.ret (.call 22 (.cons (.var 2) .nil)))), true, (0, [])⟩
/-- 24 key_of(program, kind, value): 0 program 1 kind 2 value 3 body 4 part 5 at 6 maker 7 fields 8 pairs 9 field -/
def f_key_of : Fn := ⟨3, 10, (.seq (.asg (.tgN 3) (.call 8 (.cons (.var 0) (.cons (.var 1) .nil))))
    (.seq (.ite (.cmp .eq (.idx (.var 3) (.con (.int 0))) (.con (.str [110, 117, 109, 98, 101, 114, 115])))
    (.ret (.tup (.cons (.var 2) .nil)))
    .skip)
    (.seq (.ite (.cmp .eq (.idx (.var 3) (.con (.int 0))) (.con (.str [114, 111, 119, 115])))
    (.ret (.tup (.cons (.blt .len (.cons (.var 2) .nil)) (.cons (.blt .tuple (.cons (.lc (.tup (.cons (.call 22 (.cons (.var 4) .nil)) (.cons (.call 24 (.cons (.var 0) (.cons (.idx (.var 3) (.con (.int 1))) (.cons (.var 4) .nil)))) .nil))) (.tgN 4) (.var 2) (.con (.bl true))) .nil)) .nil))))
    .skip)
    (.seq (.asg (.tgN 5) (.bm .index (.lc (.var 6) (.tgT (.cons (.tgN 6) (.cons (.tgN 7) .nil))) (.idx (.var 3) (.con (.int 1))) (.con (.bl true))) (.cons (.idx (.var 2) (.con (.int 0))) .nil)))
    (.zret 8 5 (.idx (.idx (.idx (.var 3) (.con (.int 1))) (.var 5)) (.con (.int 1))) (.idx (.var 2) (.con (.int 1))) (.tup (.cons (.call 22 (.cons (.var 4) .nil)) (.cons (.call 24 (.cons (.var 0) (.cons (.var 9) (.cons (.var 4) .nil)))) .nil))) (.tgT (.cons (.tgN 9) (.cons (.tgN 4) .nil)))))))), true, (0, [])⟩
/-- 25 ordered(program, kind, values): 0 program 1 kind 2 values -/
def f_ordered : Fn := ⟨3, 3, (.ret (.sortK (.var 2) [0, 1] (.tup (.cons (.call 22 (.cons (.var 0) .nil)) (.cons (.call 24 (.cons (.var 1) (.cons (.var 2) (.cons (.var 0) .nil)))) .nil))))), true, (0, [111, 114, 100, 101, 114, 101, 100, 46, 60, 108, 111, 99, 97, 108, 115, 62, 46, 60, 108, 97, 109, 98, 100, 97, 62])⟩
/-- 26 comes_before(program, kind, one, other): 0 program 1 kind 2 one 3 other -/
def f_comes_before : Fn := ⟨4, 4, (.seq (.expr (.call 21 (.cons (.var 0) (.cons (.var 1) (.cons (.var 2) .nil)))))
    (.seq (.expr (.call 21 (.cons (.var 0) (.cons (.var 1) (.cons (.var 3) .nil)))))
    (.ret (.cmp .lt (.tup (.cons (.call 22 (.cons (.var 2) .nil)) (.cons (.call 24 (.cons (.var 0) (.cons (.var 1) (.cons (.var 2) .nil)))) .nil))) (.tup (.cons (.call 22 (.cons (.var 3) .nil)) (.cons (.call 24 (.cons (.var 0) (.cons (.var 1) (.cons (.var 3) .nil)))) .nil))))))), true, (0, [])⟩
/-- 27 number_of(program, kind, many, known): 0 program 1 kind 2 many 3 known 4 body 5 maker 6 fields -/
def f_number_of : Fn := ⟨4, 7, (.seq (.ite (.cmp .lt (.var 2) (.con (.int 1)))
    (.ret (.con (.int 0)))
    .skip)
    (.seq (.ite (.dnin (.tup (.cons (.var 1) (.cons (.var 2) .nil))) (.var 3))
    (.seq (.asg (.tgN 4) (.call 8 (.cons (.var 0) (.cons (.var 1) .nil))))
    (.ite (.cmp .eq (.idx (.var 4) (.con (.int 0))) (.con (.str [110, 117, 109, 98, 101, 114, 115])))
    (.putD (.var 3) (.tup (.cons (.var 1) (.cons (.var 2) .nil))) (.ite (.cmp .eq (.var 2) (.con (.int 1))) (.bin .add (.bin .sub (.idx (.var 4) (.con (.int 2))) (.idx (.var 4) (.con (.int 1)))) (.con (.int 1))) (.con (.int 0))))
    (.ite (.cmp .eq (.idx (.var 4) (.con (.int 0))) (.con (.str [114, 111, 119, 115])))
    (.putD (.var 3) (.tup (.cons (.var 1) (.cons (.var 2) .nil))) (.call 28 (.cons (.var 0) (.cons (.idx (.var 4) (.con (.int 1))) (.cons (.bin .sub (.var 2) (.con (.int 1))) (.cons (.var 3) .nil))))))
    (.putD (.var 3) (.tup (.cons (.var 1) (.cons (.var 2) .nil))) (.blt .sum (.cons (.lc (.call 29 (.cons (.var 0) (.cons (.var 6) (.cons (.bin .sub (.var 2) (.con (.int 1))) (.cons (.var 3) .nil))))) (.tgT (.cons (.tgN 5) (.cons (.tgN 6) .nil))) (.idx (.var 4) (.con (.int 1))) (.con (.bl true))) .nil))))))
    .skip)
    (.ret (.dget (.var 3) (.tup (.cons (.var 1) (.cons (.var 2) .nil))))))), true, (0, [])⟩
/-- 28 rows_of(program, kind, many, known): 0 program 1 kind 2 many 3 known 4 found 5 first -/
def f_rows_of : Fn := ⟨4, 6, (.seq (.ite (.cmp .eq (.var 2) (.con (.int 0)))
    (.ret (.con (.int 1)))
    .skip)
    (.seq (.ite (.dnin (.tup (.cons (.var 1) (.cons (.var 2) (.cons (.con (.str [114, 111, 119, 115])) .nil)))) (.var 3))
    (.seq (.asg (.tgN 4) (.con (.int 0)))
    (.seq (.loop (.tgN 5) (.rng (.con (.int 1)) (.bin .add (.var 2) (.con (.int 1))))
    (.aug 4 .add (.bin .mul (.call 27 (.cons (.var 0) (.cons (.var 1) (.cons (.var 5) (.cons (.var 3) .nil))))) (.call 28 (.cons (.var 0) (.cons (.var 1) (.cons (.bin .sub (.var 2) (.var 5)) (.cons (.var 3) .nil))))))))
    (.putD (.var 3) (.tup (.cons (.var 1) (.cons (.var 2) (.cons (.con (.str [114, 111, 119, 115])) .nil)))) (.var 4))))
    .skip)
    (.ret (.dget (.var 3) (.tup (.cons (.var 1) (.cons (.var 2) (.cons (.con (.str [114, 111, 119, 115])) .nil)))))))), true, (0, [])⟩
/-- 29 splits_of(program, fields, many, known): 0 program 1 fields 2 many 3 known 4 ways 5 field 6 later 7 at 8 first -/
def f_splits_of : Fn := ⟨4, 9, (.seq (.asg (.tgN 4) (.bin .add (.lst (.cons (.con (.int 1)) .nil)) (.bin .mul (.lst (.cons (.con (.int 0)) .nil)) (.var 2))))
    (.seq (.loop (.tgN 5) (.var 1)
    (.seq (.asg (.tgN 6) (.cellB .mul (.lst (.cons (.con (.int 0)) .nil)) (.bin .add (.var 2) (.con (.int 1)))))
    (.seq (.loop (.tgN 7) (.rng1 (.bin .add (.var 2) (.con (.int 1))))
    (.loop (.tgN 8) (.rng (.con (.int 1)) (.bin .add (.bin .sub (.var 2) (.var 7)) (.con (.int 1))))
    (.augAt (.var 6) (.bin .add (.var 7) (.var 8)) .add (.bin .mul (.idx (.var 4) (.var 7)) (.call 27 (.cons (.var 0) (.cons (.var 5) (.cons (.var 8) (.cons (.var 3) .nil)))))))))
    (.asg (.tgN 4) (.var 6)))))
    (.ret (.idx (.var 4) (.var 2))))), true, (0, [])⟩
/-- 30 count_values(program, kind, many): 0 program 1 kind 2 many -/
def f_count_values : Fn := ⟨3, 3, (.seq (.expr (.call 9 (.cons (.var 0) (.cons (.var 1) .nil))))
    (.seq (.expr (.call 2 (.cons (.var 2) (.cons (.con (.int 1)) (.cons (.glo 5 (.int 40)) .nil)))))
    (.ret (.call 27 (.cons (.var 0) (.cons (.var 1) (.cons (.var 2) (.cons .dnT .nil)))))))), true, (0, [])⟩
/-- 31 all_of(program, kind, many): 0 program 1 kind 2 many 3 body 4 found 5 maker 6 fields 7 parts -/
def f_all_of : Fn := ⟨3, 8, (.seq (.asg (.tgN 3) (.call 8 (.cons (.var 0) (.cons (.var 1) .nil))))
    (.seq (.ite (.cmp .lt (.var 2) (.con (.int 1)))
    (.ret (.lst .nil))
    .skip)
    (.seq (.ite (.cmp .eq (.idx (.var 3) (.con (.int 0))) (.con (.str [110, 117, 109, 98, 101, 114, 115])))
    (.ret (.ite (.cmp .eq (.var 2) (.con (.int 1))) (.lrng (.idx (.var 3) (.con (.int 1))) (.bin .add (.idx (.var 3) (.con (.int 2))) (.con (.int 1)))) (.lst .nil)))
    .skip)
    (.seq (.ite (.cmp .eq (.idx (.var 3) (.con (.int 0))) (.con (.str [114, 111, 119, 115])))
    (.ret (.call 32 (.cons (.var 0) (.cons (.idx (.var 3) (.con (.int 1))) (.cons (.bin .sub (.var 2) (.con (.int 1))) .nil)))))
    .skip)
    (.seq (.asg (.tgN 4) (.lst .nil))
    (.seq (.loop (.tgT (.cons (.tgN 5) (.cons (.tgN 6) .nil))) (.idx (.var 3) (.con (.int 1)))
    (.asg (.tgN 4) (.bin .add (.var 4) (.lc (.tup (.cons (.var 5) (.cons (.var 7) .nil))) (.tgN 7) (.call 33 (.cons (.var 0) (.cons (.var 6) (.cons (.bin .sub (.var 2) (.con (.int 1))) .nil)))) (.con (.bl true))))))
    (.ret (.var 4)))))))), true, (0, [])⟩
/-- 32 lists_of(program, kind, many): 0 program 1 kind 2 many 3 found 4 first 5 rests 6 value 7 rest -/
def f_lists_of : Fn := ⟨3, 8, (.seq (.ite (.cmp .eq (.var 2) (.con (.int 0)))
    (.ret (.lst (.cons (.tup .nil) .nil)))
    .skip)
    (.seq (.asg (.tgN 3) (.lst .nil))
    (.seq (.loop (.tgN 4) (.rng (.con (.int 1)) (.bin .add (.var 2) (.con (.int 1))))
    (.seq (.asg (.tgN 5) (.call 32 (.cons (.var 0) (.cons (.var 1) (.cons (.bin .sub (.var 2) (.var 4)) .nil)))))
    (.asg (.tgN 3) (.bin .add (.var 3) (.lc2 (.bin .add (.tup (.cons (.var 6) .nil)) (.var 7)) (.tgN 6) (.call 31 (.cons (.var 0) (.cons (.var 1) (.cons (.var 4) .nil)))) (.con (.bl true)) (.tgN 7) (.var 5) (.con (.bl true)))))))
    (.ret (.var 3))))), true, (0, [])⟩
/-- 33 tuples_of(program, fields, many): 0 program 1 fields 2 many 3 found 4 first 5 rests 6 value 7 rest -/
def f_tuples_of : Fn := ⟨3, 8, (.seq (.ite (.cmp .eq (.var 1) (.tup .nil))
    (.ret (.ite (.cmp .eq (.var 2) (.con (.int 0))) (.lst (.cons (.tup .nil) .nil)) (.lst .nil)))
    .skip)
    (.seq (.asg (.tgN 3) (.lst .nil))
    (.seq (.loop (.tgN 4) (.rng (.con (.int 1)) (.bin .add (.var 2) (.con (.int 1))))
    (.seq (.asg (.tgN 5) (.call 33 (.cons (.var 0) (.cons (.slL (.var 1) (.con (.int 1))) (.cons (.bin .sub (.var 2) (.var 4)) .nil)))))
    (.ite (.cmp .ne (.var 5) (.lst .nil))
    (.asg (.tgN 3) (.bin .add (.var 3) (.lc2 (.bin .add (.tup (.cons (.var 6) .nil)) (.var 7)) (.tgN 6) (.call 31 (.cons (.var 0) (.cons (.idx (.var 1) (.con (.int 0))) (.cons (.var 4) .nil)))) (.con (.bl true)) (.tgN 7) (.var 5) (.con (.bl true)))))
    .skip)))
    (.ret (.var 3))))), true, (0, [])⟩
/-- 34 values(program, kind, many): 0 program 1 kind 2 many -/
def f_values : Fn := ⟨3, 3, (.seq (.expr (.call 9 (.cons (.var 0) (.cons (.var 1) .nil))))
    (.seq (.expr (.call 2 (.cons (.var 2) (.cons (.con (.int 1)) (.cons (.glo 5 (.int 40)) .nil)))))
    (.seq (.ite (.cmp .gt (.call 27 (.cons (.var 0) (.cons (.var 1) (.cons (.var 2) (.cons .dnT .nil))))) (.glo 4 (.int 3000)))
    .dead
    .skip)
    (.ret (.call 25 (.cons (.var 0) (.cons (.var 1) (.cons (.call 31 (.cons (.var 0) (.cons (.var 1) (.cons (.var 2) .nil)))) .nil)))))))), true, (0, [])⟩
/-- 35 firsts(program, kind, many, most): 0 program 1 kind 2 many 3 most 4 body 5 found 6 length 7 maker 8 fields 9 parts 10 told -/
def f_firsts : Fn := ⟨4, 11, (.seq (.asg (.tgN 4) (.call 8 (.cons (.var 0) (.cons (.var 1) .nil))))
    (.seq (.ite (.cmp .eq (.idx (.var 4) (.con (.int 0))) (.con (.str [110, 117, 109, 98, 101, 114, 115])))
    (.ret (.ite (.cmp .eq (.var 2) (.con (.int 1))) (.lrng (.idx (.var 4) (.con (.int 1))) (.bin .add (.blt .min (.cons (.idx (.var 4) (.con (.int 2))) (.cons (.bin .sub (.bin .add (.idx (.var 4) (.con (.int 1))) (.var 3)) (.con (.int 1))) .nil))) (.con (.int 1)))) (.lst .nil)))
    .skip)
    (.seq (.asg (.tgN 5) (.lst .nil))
    (.seq (.ite (.cmp .eq (.idx (.var 4) (.con (.int 0))) (.con (.str [114, 111, 119, 115])))
    (.seq (.loop (.tgN 6) (.rng1 (.var 2))
    (.ite (.cmp .lt (.blt .len (.cons (.var 5) .nil)) (.var 3))
    (.asg (.tgN 5) (.bin .add (.var 5) (.call 36 (.cons (.var 0) (.cons (.bin .mul (.tup (.cons (.idx (.var 4) (.con (.int 1))) .nil)) (.var 6)) (.cons (.bin .sub (.var 2) (.con (.int 1))) (.cons (.bin .sub (.var 3) (.blt .len (.cons (.var 5) .nil))) .nil)))))))
    .skip))
    (.ret (.var 5)))
    .skip)
    (.seq (.loop (.tgT (.cons (.tgN 7) (.cons (.tgN 8) .nil))) (.idx (.var 4) (.con (.int 1)))
    (.ite (.cmp .lt (.blt .len (.cons (.var 5) .nil)) (.var 3))
    (.seq (.asg (.tgN 9) (.call 36 (.cons (.var 0) (.cons (.var 8) (.cons (.bin .sub (.var 2) (.con (.int 1))) (.cons (.bin .sub (.var 3) (.blt .len (.cons (.var 5) .nil))) .nil))))))
    (.asg (.tgN 5) (.bin .add (.var 5) (.lc (.tup (.cons (.var 7) (.cons (.var 10) .nil))) (.tgN 10) (.var 9) (.con (.bl true))))))
    .skip))
    (.ret (.var 5))))))), true, (0, [])⟩
/-- 36 first_tuples(program, fields, many, most): 0 program 1 fields 2 many 3 most 4 found 5 first 6 value 7 rests 8 rest -/
def f_first_tuples : Fn := ⟨4, 9, (.seq (.ite (.cmp .eq (.var 1) (.tup .nil))
    (.ret (.ite (.cmp .eq (.var 2) (.con (.int 0))) (.lst (.cons (.tup .nil) .nil)) (.lst .nil)))
    .skip)
    (.seq (.asg (.tgN 4) (.lst .nil))
    (.seq (.loop (.tgN 5) (.rng (.con (.int 1)) (.bin .add (.var 2) (.con (.int 1))))
    (.ite (.and (.cmp .lt (.blt .len (.cons (.var 4) .nil)) (.var 3)) (.cmp .gt (.call 29 (.cons (.var 0) (.cons (.slL (.var 1) (.con (.int 1))) (.cons (.bin .sub (.var 2) (.var 5)) (.cons .dnT .nil))))) (.con (.int 0))))
    (.loop (.tgN 6) (.call 35 (.cons (.var 0) (.cons (.idx (.var 1) (.con (.int 0))) (.cons (.var 5) (.cons (.bin .sub (.var 3) (.blt .len (.cons (.var 4) .nil))) .nil)))))
    (.seq (.asg (.tgN 7) (.ite (.cmp .lt (.blt .len (.cons (.var 4) .nil)) (.var 3)) (.call 36 (.cons (.var 0) (.cons (.slL (.var 1) (.con (.int 1))) (.cons (.bin .sub (.var 2) (.var 5)) (.cons (.bin .sub (.var 3) (.blt .len (.cons (.var 4) .nil))) .nil))))) (.lst .nil)))
    (.asg (.tgN 4) (.bin .add (.var 4) (.lc (.bin .add (.tup (.cons (.var 6) .nil)) (.var 8)) (.tgN 8) (.var 7) (.con (.bl true)))))))
    .skip))
    (.ret (.var 4))))), true, (0, [])⟩
/-- 37 least_of(program, kind): 0 program 1 kind 2 many -/
def f_least_of : Fn := ⟨2, 3, (.seq (.asg (.tgN 2) (.con (.int 1)))
    (.seq (.whl (.cmp .eq (.call 27 (.cons (.var 0) (.cons (.var 1) (.cons (.var 2) (.cons .dnT .nil))))) (.con (.int 0)))
    (.aug 2 .add (.con (.int 1))))
    (.ret (.idx (.call 35 (.cons (.var 0) (.cons (.var 1) (.cons (.var 2) (.cons (.con (.int 1)) .nil))))) (.con (.int 0)))))), true, (0, [])⟩
/-- 38 least(program, kind): 0 program 1 kind -/
def f_least : Fn := ⟨2, 2, (.seq (.expr (.call 9 (.cons (.var 0) (.cons (.var 1) .nil))))
    (.ret (.call 37 (.cons (.var 0) (.cons (.var 1) .nil))))), true, (0, [])⟩
/-- 39 _law_ordered(_law_program_here, _law_kind, _law_some_here): 0 _law_program_here 1 _law_kind 2 _law_some_here 3 _law_keys 4 _law_at 5 _law_value 6 _law_key_here -/
def f__law_ordered : Fn := ⟨3, 7, (.seq (.asg (.tgN 3) (.blt .sorted (.cons (.lc (.tup (.cons (.call 49 (.cons (.var 0) (.cons (.var 1) (.cons (.var 5) .nil)))) (.cons (.var 4) .nil))) (.tgT (.cons (.tgN 4) (.cons (.tgN 5) .nil))) (.enm (.var 2)) (.con (.bl true))) .nil)))
    (.ret (.lc (.idx (.var 2) (.var 4)) (.tgT (.cons (.tgN 6) (.cons (.tgN 4) .nil))) (.var 3) (.con (.bl true))))), true, (0, [])⟩
/-- 40 _law_taken(_law_row, _law_many): 0 _law_row 1 _law_many 2 _law_found 3 _law_cell -/
def f__law_taken : Fn := ⟨2, 4, (.seq (.ite (.cmp .gt (.idx (.var 0) (.con (.int 3))) (.con (.int 0)))
    (.seq (.asg (.tgN 2) (.bin .mod (.blt .int (.cons (.idx (.var 0) (.con (.int 3))) .nil)) (.var 1)))
    (.seq (.put (.var 0) (.con (.int 3)) (.bin .fdiv (.idx (.var 0) (.con (.int 3))) (.var 1)))
    (.ret (.var 2))))
    .skip)
    (.seq (.put (.var 0) (.con (.int 1)) (.bin .add (.idx (.var 0) (.con (.int 1))) (.con (.int 1))))
    (.seq (.ite (.cmp .gt (.idx (.var 0) (.con (.int 1))) (.blt .len (.cons (.idx (.var 0) (.con (.int 0))) .nil)))
    (.seq (.put (.var 0) (.con (.int 2)) (.bin .mod (.blt .int (.cons (.bin .add (.bin .mul (.idx (.var 0) (.con (.int 2))) (.con (.int 48271))) (.con (.int 11))) .nil)) (.con (.int 2147483647))))
    (.ret (.bin .mod (.blt .int (.cons (.bin .fdiv (.idx (.var 0) (.con (.int 2))) (.con (.int 7))) .nil)) (.var 1))))
    .skip)
    (.seq (.asg (.tgN 3) (.idx (.idx (.var 0) (.con (.int 0))) (.bin .sub (.idx (.var 0) (.con (.int 1))) (.con (.int 1)))))
    (.seq (.put (.var 0) (.con (.int 2)) (.bin .mod (.blt .int (.cons (.bin .add (.bin .add (.bin .mul (.idx (.var 0) (.con (.int 2))) (.con (.int 48271))) (.var 3)) (.con (.int 11))) .nil)) (.con (.int 2147483647))))
    (.seq (.ite (.cmp .ge (.var 3) (.bin .pow (.con (.int 10)) (.con (.int 18))))
    (.put (.var 0) (.con (.int 3)) (.bin .fdiv (.var 3) (.var 1)))
    .skip)
    (.ret (.bin .mod (.blt .int (.cons (.var 3) .nil)) (.var 1))))))))), true, (0, [])⟩
/-- 41 _law_pick(_law_row, _law_things): 0 _law_row 1 _law_things -/
def f__law_pick : Fn := ⟨2, 2, (.ret (.idx (.var 1) (.call 40 (.cons (.var 0) (.cons (.blt .len (.cons (.var 1) .nil)) .nil))))), true, (0, [])⟩
/-- 42 _law_program(_law_row): 0 _law_row 1 _law_low 2 _law_some_here 3 _law_kind 4 _law_way 5 _law_inner 6 _law_last -/
def f__law_program : Fn := ⟨1, 7, (.seq (.asg (.tgN 1) (.call 40 (.cons (.var 0) (.cons (.con (.int 3)) .nil))))
    (.seq (.asg (.tgN 2) (.lst (.cons (.tup (.cons (.con (.str [78, 117, 109])) (.cons (.tup (.cons (.con (.str [110, 117, 109, 98, 101, 114, 115])) (.cons (.var 1) (.cons (.bin .add (.var 1) (.call 40 (.cons (.var 0) (.cons (.con (.int 4)) .nil)))) .nil)))) .nil))) .nil)))
    (.seq (.ite (.cmp .eq (.call 40 (.cons (.var 0) (.cons (.con (.int 2)) .nil))) (.con (.int 0)))
    (.asg (.tgN 2) (.bin .add (.var 2) (.lst (.cons (.tup (.cons (.con (.str [83, 105, 103, 110])) (.cons (.tup (.cons (.con (.str [109, 97, 107, 101, 114, 115])) (.cons (.tup (.cons (.tup (.cons (.con (.str [80, 108, 117, 115])) (.cons (.tup .nil) .nil))) (.cons (.tup (.cons (.con (.str [77, 105, 110, 117, 115])) (.cons (.tup .nil) .nil))) .nil))) .nil))) .nil))) .nil))))
    .skip)
    (.seq (.ite (.cmp .eq (.call 40 (.cons (.var 0) (.cons (.con (.int 2)) .nil))) (.con (.int 0)))
    (.asg (.tgN 2) (.bin .add (.var 2) (.lst (.cons (.tup (.cons (.con (.str [76, 105, 115, 116])) (.cons (.tup (.cons (.con (.str [114, 111, 119, 115])) (.cons (.call 41 (.cons (.var 0) (.cons (.lc (.idx (.var 3) (.con (.int 0))) (.tgN 3) (.var 2) (.con (.bl true))) .nil))) .nil))) .nil))) .nil))))
    .skip)
    (.seq (.asg (.tgN 4) (.call 40 (.cons (.var 0) (.cons (.con (.int 4)) .nil))))
    (.seq (.ite (.cmp .eq (.var 4) (.con (.int 0)))
    (.asg (.tgN 2) (.bin .add (.var 2) (.lst (.cons (.tup (.cons (.con (.str [84, 114, 101, 101])) (.cons (.tup (.cons (.con (.str [109, 97, 107, 101, 114, 115])) (.cons (.tup (.cons (.tup (.cons (.con (.str [76, 101, 97, 102])) (.cons (.tup .nil) .nil))) (.cons (.tup (.cons (.con (.str [78, 111, 100, 101])) (.cons (.tup (.cons (.con (.str [78, 117, 109])) (.cons (.con (.str [84, 114, 101, 101])) .nil))) .nil))) .nil))) .nil))) .nil))) .nil))))
    .skip)
    (.seq (.ite (.cmp .eq (.var 4) (.con (.int 1)))
    (.seq (.asg (.tgN 5) (.call 41 (.cons (.var 0) (.cons (.lc (.idx (.var 3) (.con (.int 0))) (.tgN 3) (.var 2) (.con (.bl true))) .nil))))
    (.asg (.tgN 2) (.bin .add (.var 2) (.lst (.cons (.tup (.cons (.con (.str [84, 114, 101, 101])) (.cons (.tup (.cons (.con (.str [109, 97, 107, 101, 114, 115])) (.cons (.tup (.cons (.tup (.cons (.con (.str [76, 101, 97, 102])) (.cons (.tup (.cons (.var 5) .nil)) .nil))) (.cons (.tup (.cons (.con (.str [70, 111, 114, 107])) (.cons (.tup (.cons (.con (.str [84, 114, 101, 101])) (.cons (.con (.str [84, 114, 101, 101])) .nil))) .nil))) .nil))) .nil))) .nil))) .nil)))))
    .skip)
    (.seq (.ite (.cmp .eq (.var 4) (.con (.int 2)))
    (.seq (.asg (.tgN 6) (.idx (.idx (.var 2) (.neg (.con (.int 1)))) (.con (.int 0))))
    (.asg (.tgN 2) (.bin .add (.var 2) (.lst (.cons (.tup (.cons (.con (.str [80, 97, 105, 114])) (.cons (.tup (.cons (.con (.str [109, 97, 107, 101, 114, 115])) (.cons (.tup (.cons (.tup (.cons (.con (.str [80, 97, 105, 114])) (.cons (.tup (.cons (.var 6) (.cons (.var 6) .nil))) .nil))) .nil)) .nil))) .nil))) .nil)))))
    .skip)
    (.seq (.ite (.cmp .eq (.call 40 (.cons (.var 0) (.cons (.con (.int 3)) .nil))) (.con (.int 0)))
    (.seq (.asg (.tgN 6) (.idx (.idx (.var 2) (.neg (.con (.int 1)))) (.con (.int 0))))
    (.asg (.tgN 2) (.bin .add (.var 2) (.lst (.cons (.tup (.cons (.con (.str [66, 111, 120])) (.cons (.tup (.cons (.con (.str [109, 97, 107, 101, 114, 115])) (.cons (.tup (.cons (.tup (.cons (.con (.str [78, 111, 110, 101])) (.cons (.tup .nil) .nil))) (.cons (.tup (.cons (.con (.str [79, 110, 101])) (.cons (.tup (.cons (.var 6) .nil)) .nil))) (.cons (.tup (.cons (.con (.str [84, 119, 111])) (.cons (.tup (.cons (.con (.str [78, 117, 109])) (.cons (.var 6) .nil))) .nil))) .nil)))) .nil))) .nil))) .nil)))))
    .skip)
    (.ret (.blt .ptuple (.cons (.var 2) .nil)))))))))))), true, (0, [])⟩
/-- 43 _law_alike(_law_found, _law_due): 0 _law_found 1 _law_due 2 _law_k -/
def f__law_alike : Fn := ⟨2, 3, (.seq (.ite (.isi (.var 1) [.tuple, .list])
    (.seq (.ite (.or (.not (.isi (.var 0) [.tuple, .list])) (.cmp .ne (.isi (.var 0) [.list]) (.isi (.var 1) [.list])))
    (.ret (.con (.bl false)))
    .skip)
    (.seq (.ite (.cmp .ne (.blt .len (.cons (.var 0) .nil)) (.blt .len (.cons (.var 1) .nil)))
    (.ret (.con (.bl false)))
    .skip)
    (.ret (.cmp .eq (.lc (.var 2) (.tgN 2) (.rng1 (.blt .len (.cons (.var 1) .nil))) (.not (.call 43 (.cons (.idx (.var 0) (.var 2)) (.cons (.idx (.var 1) (.var 2)) .nil))))) (.lst .nil)))))
    .skip)
    (.seq (.ite (.or (.cmp .isnone (.var 1) (.con .non)) (.isi (.var 1) [.str]))
    (.ret (.and (.cmp .eq (.var 0) (.var 1)) (.cmp .eq (.isi (.var 0) [.str]) (.isi (.var 1) [.str]))))
    .skip)
    (.ret (.and (.isi (.var 0) [.int]) (.and (.cmp .eq (.isi (.var 0) [.bool]) (.isi (.var 1) [.bool])) (.cmp .eq (.var 0) (.var 1))))))), true, (0, [])⟩
/-- 44 _law_body(_law_program_here, _law_kind): 0 _law_program_here 1 _law_kind -/
def f__law_body : Fn := ⟨2, 2, (.ret (.dget (.blt .dict (.cons (.var 0) .nil)) (.var 1))), true, (0, [])⟩
/-- 45 _law_rows(_law_program_here, _law_kind, _law_much): 0 _law_program_here 1 _law_kind 2 _law_much 3 _law_found 4 _law_first 5 _law_value 6 _law_rest -/
def f__law_rows : Fn := ⟨3, 7, (.seq (.asg (.tgN 3) (.ite (.cmp .eq (.var 2) (.con (.int 0))) (.lst (.cons (.tup .nil) .nil)) (.lst .nil)))
    (.seq (.loop (.tgN 4) (.rng (.con (.int 1)) (.bin .add (.var 2) (.con (.int 1))))
    (.loop (.tgN 5) (.call 47 (.cons (.var 0) (.cons (.var 1) (.cons (.var 4) .nil))))
    (.asg (.tgN 3) (.bin .add (.var 3) (.lc (.bin .add (.tup (.cons (.var 5) .nil)) (.var 6)) (.tgN 6) (.call 45 (.cons (.var 0) (.cons (.var 1) (.cons (.bin .sub (.var 2) (.var 4)) .nil)))) (.con (.bl true)))))))
    (.ret (.var 3)))), true, (0, [])⟩
/-- 46 _law_fields(_law_program_here, _law_fields_here, _law_much): 0 _law_program_here 1 _law_fields_here 2 _law_much 3 _law_found 4 _law_first 5 _law_rests 6 _law_value 7 _law_rest -/
def f__law_fields : Fn := ⟨3, 8, (.seq (.ite (.cmp .eq (.var 1) (.tup .nil))
    (.ret (.ite (.cmp .eq (.var 2) (.con (.int 0))) (.lst (.cons (.tup .nil) .nil)) (.lst .nil)))
    .skip)
    (.seq (.asg (.tgN 3) (.lst .nil))
    (.seq (.loop (.tgN 4) (.rng (.con (.int 1)) (.bin .add (.var 2) (.con (.int 1))))
    (.seq (.asg (.tgN 5) (.call 46 (.cons (.var 0) (.cons (.slL (.var 1) (.con (.int 1))) (.cons (.bin .sub (.var 2) (.var 4)) .nil)))))
    (.loop (.tgN 6) (.ite (.cmp .ne (.var 5) (.lst .nil)) (.call 47 (.cons (.var 0) (.cons (.idx (.var 1) (.con (.int 0))) (.cons (.var 4) .nil)))) (.lst .nil))
    (.asg (.tgN 3) (.bin .add (.var 3) (.lc (.bin .add (.tup (.cons (.var 6) .nil)) (.var 7)) (.tgN 7) (.var 5) (.con (.bl true))))))))
    (.ret (.var 3))))), true, (0, [])⟩
/-- 47 _law_values(_law_program_here, _law_kind, _law_much): 0 _law_program_here 1 _law_kind 2 _law_much 3 _law_body_here 4 _law_found 5 _law_maker 6 _law_fields_here 7 _law_parts -/
def f__law_values : Fn := ⟨3, 8, (.seq (.asg (.tgN 3) (.call 44 (.cons (.var 0) (.cons (.var 1) .nil))))
    (.seq (.ite (.cmp .lt (.var 2) (.con (.int 1)))
    (.ret (.lst .nil))
    .skip)
    (.seq (.ite (.cmp .eq (.idx (.var 3) (.con (.int 0))) (.con (.str [110, 117, 109, 98, 101, 114, 115])))
    (.ret (.ite (.cmp .eq (.var 2) (.con (.int 1))) (.lrng (.idx (.var 3) (.con (.int 1))) (.bin .add (.idx (.var 3) (.con (.int 2))) (.con (.int 1)))) (.lst .nil)))
    .skip)
    (.seq (.ite (.cmp .eq (.idx (.var 3) (.con (.int 0))) (.con (.str [114, 111, 119, 115])))
    (.ret (.call 45 (.cons (.var 0) (.cons (.idx (.var 3) (.con (.int 1))) (.cons (.bin .sub (.var 2) (.con (.int 1))) .nil)))))
    .skip)
    (.seq (.asg (.tgN 4) (.lst .nil))
    (.seq (.loop (.tgT (.cons (.tgN 5) (.cons (.tgN 6) .nil))) (.idx (.var 3) (.con (.int 1)))
    (.asg (.tgN 4) (.bin .add (.var 4) (.lc (.tup (.cons (.var 5) (.cons (.var 7) .nil))) (.tgN 7) (.call 46 (.cons (.var 0) (.cons (.var 6) (.cons (.bin .sub (.var 2) (.con (.int 1))) .nil)))) (.con (.bl true))))))
    (.ret (.var 4)))))))), true, (0, [])⟩
/-- 48 _law_size(_law_value): 0 _law_value 1 _law_parts 2 _law_part -/
def f__law_size : Fn := ⟨1, 3, (.seq (.ite (.isi (.var 0) [.int])
    (.ret (.con (.int 1)))
    .skip)
    (.seq (.asg (.tgN 1) (.ite (.and (.cmp .eq (.blt .len (.cons (.var 0) .nil)) (.con (.int 2))) (.isi (.idx (.var 0) (.con (.int 0))) [.str])) (.idx (.var 0) (.con (.int 1))) (.var 0)))
    (.ret (.bin .add (.con (.int 1)) (.blt .sum (.cons (.lc (.call 48 (.cons (.var 2) .nil)) (.tgN 2) (.var 1) (.con (.bl true))) .nil)))))), true, (0, [])⟩
/-- 49 _law_key(_law_program_here, _law_kind, _law_value): 0 _law_program_here 1 _law_kind 2 _law_value 3 _law_body_here 4 _law_part 5 _law_at 6 _law_maker 7 _law_fields_here 8 _law_parts 9 _law_spot -/
def f__law_key : Fn := ⟨3, 10, (.seq (.asg (.tgN 3) (.call 44 (.cons (.var 0) (.cons (.var 1) .nil))))
    (.seq (.ite (.cmp .eq (.idx (.var 3) (.con (.int 0))) (.con (.str [110, 117, 109, 98, 101, 114, 115])))
    (.ret (.tup (.cons (.con (.int 1)) (.cons (.tup (.cons (.var 2) .nil)) .nil))))
    .skip)
    (.seq (.ite (.cmp .eq (.idx (.var 3) (.con (.int 0))) (.con (.str [114, 111, 119, 115])))
    (.ret (.tup (.cons (.call 48 (.cons (.var 2) .nil)) (.cons (.tup (.cons (.blt .len (.cons (.var 2) .nil)) (.cons (.blt .tuple (.cons (.lc (.call 49 (.cons (.var 0) (.cons (.idx (.var 3) (.con (.int 1))) (.cons (.var 4) .nil)))) (.tgN 4) (.var 2) (.con (.bl true))) .nil)) .nil))) .nil))))
    .skip)
    (.seq (.asg (.tgN 5) (.bm .index (.lc (.idx (.var 6) (.con (.int 0))) (.tgN 6) (.idx (.var 3) (.con (.int 1))) (.con (.bl true))) (.cons (.idx (.var 2) (.con (.int 0))) .nil)))
    (.seq (.asg (.tgN 7) (.idx (.idx (.idx (.var 3) (.con (.int 1))) (.var 5)) (.con (.int 1))))
    (.seq (.asg (.tgN 8) (.lc (.call 49 (.cons (.var 0) (.cons (.idx (.var 7) (.var 9)) (.cons (.idx (.idx (.var 2) (.con (.int 1))) (.var 9)) .nil)))) (.tgN 9) (.rng1 (.blt .len (.cons (.var 7) .nil))) (.con (.bl true))))
    (.ret (.tup (.cons (.call 48 (.cons (.var 2) .nil)) (.cons (.tup (.cons (.var 5) (.cons (.blt .tuple (.cons (.var 8) .nil)) .nil))) .nil)))))))))), true, (0, [])⟩
/-- 50 _law_some(_law_program_here, _law_kind, _law_many): 0 _law_program_here 1 _law_kind 2 _law_many 3 _law_found 4 _law_much 5 _law_more -/
def f__law_some : Fn := ⟨3, 6, (.seq (.asg (.tgN 3) (.lst .nil))
    (.seq (.loop (.tgN 4) (.rng (.con (.int 1)) (.con (.int 16)))
    (.seq (.asg (.tgN 5) (.ite (.or (.cmp .eq (.var 3) (.lst .nil)) (.cmp .lt (.var 4) (.con (.int 9)))) (.call 47 (.cons (.var 0) (.cons (.var 1) (.cons (.var 4) .nil)))) (.lst .nil)))
    (.seq (.ite (.and (.cmp .ne (.var 3) (.lst .nil)) (.cmp .gt (.bin .add (.blt .len (.cons (.var 3) .nil)) (.blt .len (.cons (.var 5) .nil))) (.var 2)))
    (.ret (.var 3))
    .skip)
    (.asg (.tgN 3) (.bin .add (.var 3) (.var 5))))))
    (.ret (.var 3)))), true, (0, [])⟩
/-- 51 law(_law_script): 0 _law_script 1 _law_row 2 _law_program_here 3 _law_names 4 _law_kind 5 _law_many 6 _law_some_here 7 _law_ordered_here 8 _law_whole 9 _law_keys 10 _law_at 11 _law_value 12 _law_one 13 _law_other 14 _law_due 15 _law_far 16 _law_step 17 _law_ends 18 _law_endless -/
def f_law : Fn := ⟨1, 19, (.seq (.asg (.tgN 1) (.cellL (.cons (.var 0) (.cons (.con (.int 0)) (.cons (.con (.int 8300)) (.cons (.con (.int 0)) .nil))))))
    (.seq (.asg (.tgN 2) (.call 42 (.cons (.var 1) .nil)))
    (.seq (.asg (.tgN 3) (.lc (.idx (.var 4) (.con (.int 0))) (.tgN 4) (.var 2) (.con (.bl true))))
    (.seq (.ite (.not (.call 43 (.cons (.call 11 (.cons (.var 2) .nil)) (.cons (.blt .tuple (.cons (.var 3) .nil)) .nil))))
    (.ret (.con (.bl false)))
    .skip)
    (.seq (.asg (.tgT (.cons (.tgN 4) (.cons (.tgN 5) .nil))) (.tup (.cons (.call 41 (.cons (.var 1) (.cons (.var 3) .nil))) (.cons (.bin .add (.con (.int 1)) (.call 40 (.cons (.var 1) (.cons (.con (.int 6)) .nil)))) .nil))))
    (.seq (.asg (.tgN 6) (.call 47 (.cons (.var 2) (.cons (.var 4) (.cons (.var 5) .nil)))))
    (.seq (.ite (.not (.call 43 (.cons (.call 30 (.cons (.var 2) (.cons (.var 4) (.cons (.var 5) .nil)))) (.cons (.blt .len (.cons (.var 6) .nil)) .nil))))
    (.ret (.con (.bl false)))
    .skip)
    (.seq (.asg (.tgN 7) (.call 39 (.cons (.var 2) (.cons (.var 4) (.cons (.var 6) .nil)))))
    (.seq (.ite (.and (.cmp .le (.blt .len (.cons (.var 6) .nil)) (.con (.int 400))) (.not (.call 43 (.cons (.call 34 (.cons (.var 2) (.cons (.var 4) (.cons (.var 5) .nil)))) (.cons (.var 7) .nil)))))
    (.ret (.con (.bl false)))
    .skip)
    (.seq (.asg (.tgN 8) (.call 50 (.cons (.var 2) (.cons (.var 4) (.cons (.con (.int 60)) .nil)))))
    (.seq (.asg (.tgN 9) (.blt .sorted (.cons (.lc (.tup (.cons (.call 49 (.cons (.var 2) (.cons (.var 4) (.cons (.var 11) .nil)))) (.cons (.var 10) .nil))) (.tgT (.cons (.tgN 10) (.cons (.tgN 11) .nil))) (.enm (.var 8)) (.con (.bl true))) .nil)))
    (.seq (.ite (.not (.call 43 (.cons (.call 38 (.cons (.var 2) (.cons (.var 4) .nil))) (.cons (.idx (.var 8) (.idx (.idx (.var 9) (.con (.int 0))) (.con (.int 1)))) .nil))))
    (.ret (.con (.bl false)))
    .skip)
    (.seq (.asg (.tgT (.cons (.tgN 12) (.cons (.tgN 13) .nil))) (.tup (.cons (.call 41 (.cons (.var 1) (.cons (.var 8) .nil))) (.cons (.call 41 (.cons (.var 1) (.cons (.var 8) .nil))) .nil))))
    (.seq (.asg (.tgN 14) (.lst (.cons (.call 48 (.cons (.var 12) .nil)) (.cons (.cmp .lt (.call 49 (.cons (.var 2) (.cons (.var 4) (.cons (.var 12) .nil)))) (.call 49 (.cons (.var 2) (.cons (.var 4) (.cons (.var 13) .nil))))) (.cons (.con (.bl true)) .nil)))))
    (.seq (.ite (.not (.call 43 (.cons (.lst (.cons (.call 23 (.cons (.var 2) (.cons (.var 4) (.cons (.var 12) .nil)))) (.cons (.call 26 (.cons (.var 2) (.cons (.var 4) (.cons (.var 12) (.cons (.var 13) .nil))))) (.cons (.call 20 (.cons (.var 2) (.cons (.var 4) (.cons (.var 12) .nil)))) .nil)))) (.cons (.var 14) .nil))))
    (.ret (.con (.bl false)))
    .skip)
    (.seq (.asg (.tgN 15) (.lc (.var 16) (.tgN 16) (.rng (.con (.int 7)) (.con (.int 22))) (.cmp .gt (.call 30 (.cons (.var 2) (.cons (.var 4) (.cons (.var 16) .nil)))) (.con (.int 0)))))
    (.seq (.asg (.tgN 17) (.blt .sum (.cons (.lc (.call 30 (.cons (.var 2) (.cons (.var 4) (.cons (.var 16) .nil)))) (.tgN 16) (.rng (.con (.int 1)) (.con (.int 22))) (.con (.bl true))) .nil)))
    (.seq (.asg (.tgN 18) (.cmp .isnone (.call 17 (.cons (.var 2) (.cons (.var 4) .nil))) (.con .non)))
    (.seq (.ite (.or (.cmp .ne (.call 15 (.cons (.var 2) (.cons (.var 4) .nil))) (.var 18)) (.and (.not (.var 18)) (.cmp .ne (.call 17 (.cons (.var 2) (.cons (.var 4) .nil))) (.var 17))))
    (.ret (.con (.bl false)))
    .skip)
    (.ret (.or (.not (.var 18)) (.cmp .ne (.var 15) (.lst .nil))))))))))))))))))))))), true, (0, [])⟩
def fns : List Fn := [f_whole, f_within, f_need_number, f_tuple_of, f_is_word, f_is_makers, f_is_body, f_need_program, f_body_of, f_need_kind, f_filled_of, f_kinds, f_parts_of, f_reach_of, f_endless_of, f_is_endless, f_count_of, f_count_all, f_fields_of, f_is_value_of, f_is_value, f_need_value, f_size_of, f_size, f_key_of, f_ordered, f_comes_before, f_number_of, f_rows_of, f_splits_of, f_count_values, f_all_of, f_lists_of, f_tuples_of, f_values, f_firsts, f_first_tuples, f_least_of, f_least, f__law_ordered, f__law_taken, f__law_pick, f__law_program, f__law_alike, f__law_body, f__law_rows, f__law_fields, f__law_values, f__law_size, f__law_key, f__law_some, f_law]
def consts : List D := [(.int 8), (.int 8), (.int 4), (.int 99), (.int 3000), (.int 40)]
abbrev ix_whole : Nat := 0
abbrev ix_within : Nat := 1
abbrev ix_need_number : Nat := 2
abbrev ix_tuple_of : Nat := 3
abbrev ix_is_word : Nat := 4
abbrev ix_is_makers : Nat := 5
abbrev ix_is_body : Nat := 6
abbrev ix_need_program : Nat := 7
abbrev ix_body_of : Nat := 8
abbrev ix_need_kind : Nat := 9
abbrev ix_filled_of : Nat := 10
abbrev ix_kinds : Nat := 11
abbrev ix_parts_of : Nat := 12
abbrev ix_reach_of : Nat := 13
abbrev ix_endless_of : Nat := 14
abbrev ix_is_endless : Nat := 15
abbrev ix_count_of : Nat := 16
abbrev ix_count_all : Nat := 17
abbrev ix_fields_of : Nat := 18
abbrev ix_is_value_of : Nat := 19
abbrev ix_is_value : Nat := 20
abbrev ix_need_value : Nat := 21
abbrev ix_size_of : Nat := 22
abbrev ix_size : Nat := 23
abbrev ix_key_of : Nat := 24
abbrev ix_ordered : Nat := 25
abbrev ix_comes_before : Nat := 26
abbrev ix_number_of : Nat := 27
abbrev ix_rows_of : Nat := 28
abbrev ix_splits_of : Nat := 29
abbrev ix_count_values : Nat := 30
abbrev ix_all_of : Nat := 31
abbrev ix_lists_of : Nat := 32
abbrev ix_tuples_of : Nat := 33
abbrev ix_values : Nat := 34
abbrev ix_firsts : Nat := 35
abbrev ix_first_tuples : Nat := 36
abbrev ix_least_of : Nat := 37
abbrev ix_least : Nat := 38
abbrev ix__law_ordered : Nat := 39
abbrev ix__law_taken : Nat := 40
abbrev ix__law_pick : Nat := 41
abbrev ix__law_program : Nat := 42
abbrev ix__law_alike : Nat := 43
abbrev ix__law_body : Nat := 44
abbrev ix__law_rows : Nat := 45
abbrev ix__law_fields : Nat := 46
abbrev ix__law_values : Nat := 47
abbrev ix__law_size : Nat := 48
abbrev ix__law_key : Nat := 49
abbrev ix__law_some : Nat := 50
abbrev ix_law : Nat := 51
end K00
end
section
set_option linter.all false
set_option maxRecDepth 100000
namespace K00
open PySem L2 Mt
def top (i : Nat) : Stmt := PySem.Challenge.pw_matchtrees_k00_whole_programs.main.body.getD i (.Pass ⟨0, 0, 0, 0⟩)
def T : Txt := ⟨[(Str.ofString "whole"), (Str.ofString "within"), (Str.ofString "need_number"), (Str.ofString "tuple_of"), (Str.ofString "is_word"), (Str.ofString "is_makers"), (Str.ofString "is_body"), (Str.ofString "need_program"), (Str.ofString "body_of"), (Str.ofString "need_kind"), (Str.ofString "filled_of"), (Str.ofString "kinds"), (Str.ofString "parts_of"), (Str.ofString "reach_of"), (Str.ofString "endless_of"), (Str.ofString "is_endless"), (Str.ofString "count_of"), (Str.ofString "count_all"), (Str.ofString "fields_of"), (Str.ofString "is_value_of"), (Str.ofString "is_value"), (Str.ofString "need_value"), (Str.ofString "size_of"), (Str.ofString "size"), (Str.ofString "key_of"), (Str.ofString "ordered"), (Str.ofString "comes_before"), (Str.ofString "number_of"), (Str.ofString "rows_of"), (Str.ofString "splits_of"), (Str.ofString "count_values"), (Str.ofString "all_of"), (Str.ofString "lists_of"), (Str.ofString "tuples_of"), (Str.ofString "values"), (Str.ofString "firsts"), (Str.ofString "first_tuples"), (Str.ofString "least_of"), (Str.ofString "least"), (Str.ofString "_law_ordered"), (Str.ofString "_law_taken"), (Str.ofString "_law_pick"), (Str.ofString "_law_program"), (Str.ofString "_law_alike"), (Str.ofString "_law_body"), (Str.ofString "_law_rows"), (Str.ofString "_law_fields"), (Str.ofString "_law_values"), (Str.ofString "_law_size"), (Str.ofString "_law_key"), (Str.ofString "_law_some"), (Str.ofString "law")], [(Str.ofString "MOST_KINDS", 8), (Str.ofString "MOST_MAKERS", 8), (Str.ofString "MOST_FIELDS", 4), (Str.ofString "MOST_NUMBER", 99), (Str.ofString "MOST_LISTED", 3000), (Str.ofString "MOST_SIZE", 40)]⟩
def d_whole : Df := ⟨Str.ofString "whole", [(Str.ofString "value")], [(Str.ofString "value")], defArgs (top 13), defBody (top 13), defScope (top 13)⟩
def d_within : Df := ⟨Str.ofString "within", [(Str.ofString "value"), (Str.ofString "low"), (Str.ofString "high")], [(Str.ofString "value"), (Str.ofString "low"), (Str.ofString "high")], defArgs (top 14), defBody (top 14), defScope (top 14)⟩
def d_need_number : Df := ⟨Str.ofString "need_number", [(Str.ofString "value"), (Str.ofString "low"), (Str.ofString "high")], [(Str.ofString "value"), (Str.ofString "low"), (Str.ofString "high")], defArgs (top 15), defBody (top 15), defScope (top 15)⟩
def d_tuple_of : Df := ⟨Str.ofString "tuple_of", [(Str.ofString "value"), (Str.ofString "low"), (Str.ofString "high")], [(Str.ofString "value"), (Str.ofString "low"), (Str.ofString "high")], defArgs (top 16), defBody (top 16), defScope (top 16)⟩
def d_is_word : Df := ⟨Str.ofString "is_word", [(Str.ofString "value"), (Str.ofString "small")], [(Str.ofString "value"), (Str.ofString "small"), (Str.ofString "letters"), (Str.ofString "sign")], defArgs (top 17), defBody (top 17), defScope (top 17)⟩
def d_is_makers : Df := ⟨Str.ofString "is_makers", [(Str.ofString "value"), (Str.ofString "names")], [(Str.ofString "value"), (Str.ofString "names"), (Str.ofString "maker"), (Str.ofString "kind")], defArgs (top 18), defBody (top 18), defScope (top 18)⟩
def d_is_body : Df := ⟨Str.ofString "is_body", [(Str.ofString "value"), (Str.ofString "names")], [(Str.ofString "value"), (Str.ofString "names")], defArgs (top 19), defBody (top 19), defScope (top 19)⟩
def d_need_program : Df := ⟨Str.ofString "need_program", [(Str.ofString "program")], [(Str.ofString "program"), (Str.ofString "names"), (Str.ofString "kind"), (Str.ofString "index"), (Str.ofString "other"), (Str.ofString "filled")], defArgs (top 20), defBody (top 20), defScope (top 20)⟩
def d_body_of : Df := ⟨Str.ofString "body_of", [(Str.ofString "program"), (Str.ofString "kind")], [(Str.ofString "program"), (Str.ofString "kind"), (Str.ofString "name"), (Str.ofString "body")], defArgs (top 21), defBody (top 21), defScope (top 21)⟩
def d_need_kind : Df := ⟨Str.ofString "need_kind", [(Str.ofString "program"), (Str.ofString "kind")], [(Str.ofString "program"), (Str.ofString "kind"), (Str.ofString "name"), (Str.ofString "body")], defArgs (top 22), defBody (top 22), defScope (top 22)⟩
def d_filled_of : Df := ⟨Str.ofString "filled_of", [(Str.ofString "program")], [(Str.ofString "program"), (Str.ofString "found"), (Str.ofString "name"), (Str.ofString "body"), (Str.ofString "turn"), (Str.ofString "kind"), (Str.ofString "maker"), (Str.ofString "kinds")], defArgs (top 23), defBody (top 23), defScope (top 23)⟩
def d_kinds : Df := ⟨Str.ofString "kinds", [(Str.ofString "program")], [(Str.ofString "program"), (Str.ofString "name"), (Str.ofString "body")], defArgs (top 24), defBody (top 24), defScope (top 24)⟩
def d_parts_of : Df := ⟨Str.ofString "parts_of", [(Str.ofString "body")], [(Str.ofString "body"), (Str.ofString "maker"), (Str.ofString "kinds"), (Str.ofString "kind")], defArgs (top 25), defBody (top 25), defScope (top 25)⟩
def d_reach_of : Df := ⟨Str.ofString "reach_of", [(Str.ofString "program"), (Str.ofString "kind")], [(Str.ofString "program"), (Str.ofString "kind"), (Str.ofString "found"), (Str.ofString "rim"), (Str.ofString "here")], defArgs (top 26), defBody (top 26), defScope (top 26)⟩
def d_endless_of : Df := ⟨Str.ofString "endless_of", [(Str.ofString "program"), (Str.ofString "kind")], [(Str.ofString "program"), (Str.ofString "kind"), (Str.ofString "name")], defArgs (top 27), defBody (top 27), defScope (top 27)⟩
def d_is_endless : Df := ⟨Str.ofString "is_endless", [(Str.ofString "program"), (Str.ofString "kind")], [(Str.ofString "program"), (Str.ofString "kind")], defArgs (top 28), defBody (top 28), defScope (top 28)⟩
def d_count_of : Df := ⟨Str.ofString "count_of", [(Str.ofString "program"), (Str.ofString "kind")], [(Str.ofString "program"), (Str.ofString "kind"), (Str.ofString "body"), (Str.ofString "found"), (Str.ofString "maker"), (Str.ofString "fields"), (Str.ofString "many"), (Str.ofString "field")], defArgs (top 29), defBody (top 29), defScope (top 29)⟩
def d_count_all : Df := ⟨Str.ofString "count_all", [(Str.ofString "program"), (Str.ofString "kind")], [(Str.ofString "program"), (Str.ofString "kind")], defArgs (top 30), defBody (top 30), defScope (top 30)⟩
def d_fields_of : Df := ⟨Str.ofString "fields_of", [(Str.ofString "program"), (Str.ofString "kind"), (Str.ofString "maker")], [(Str.ofString "program"), (Str.ofString "kind"), (Str.ofString "maker"), (Str.ofString "body"), (Str.ofString "name"), (Str.ofString "fields")], defArgs (top 31), defBody (top 31), defScope (top 31)⟩
def d_is_value_of : Df := ⟨Str.ofString "is_value_of", [(Str.ofString "program"), (Str.ofString "kind"), (Str.ofString "value")], [(Str.ofString "program"), (Str.ofString "kind"), (Str.ofString "value"), (Str.ofString "body"), (Str.ofString "part"), (Str.ofString "fields"), (Str.ofString "field")], defArgs (top 35), defBody (top 35), defScope (top 35)⟩
def d_is_value : Df := ⟨Str.ofString "is_value", [(Str.ofString "program"), (Str.ofString "kind"), (Str.ofString "value")], [(Str.ofString "program"), (Str.ofString "kind"), (Str.ofString "value")], defArgs (top 36), defBody (top 36), defScope (top 36)⟩
def d_need_value : Df := ⟨Str.ofString "need_value", [(Str.ofString "program"), (Str.ofString "kind"), (Str.ofString "value")], [(Str.ofString "program"), (Str.ofString "kind"), (Str.ofString "value")], defArgs (top 37), defBody (top 37), defScope (top 37)⟩
def d_size_of : Df := ⟨Str.ofString "size_of", [(Str.ofString "value")], [(Str.ofString "value"), (Str.ofString "parts"), (Str.ofString "part")], defArgs (top 38), defBody (top 38), defScope (top 38)⟩
def d_size : Df := ⟨Str.ofString "size", [(Str.ofString "program"), (Str.ofString "kind"), (Str.ofString "value")], [(Str.ofString "program"), (Str.ofString "kind"), (Str.ofString "value")], defArgs (top 39), defBody (top 39), defScope (top 39)⟩
def d_key_of : Df := ⟨Str.ofString "key_of", [(Str.ofString "program"), (Str.ofString "kind"), (Str.ofString "value")], [(Str.ofString "program"), (Str.ofString "kind"), (Str.ofString "value"), (Str.ofString "body"), (Str.ofString "part"), (Str.ofString "at"), (Str.ofString "maker"), (Str.ofString "fields"), (Str.ofString "pairs"), (Str.ofString "field")], defArgs (top 40), defBody (top 40), defScope (top 40)⟩
def d_ordered : Df := ⟨Str.ofString "ordered", [(Str.ofString "program"), (Str.ofString "kind"), (Str.ofString "values")], [(Str.ofString "program"), (Str.ofString "kind"), (Str.ofString "values")], defArgs (top 41), defBody (top 41), defScope (top 41)⟩
def d_comes_before : Df := ⟨Str.ofString "comes_before", [(Str.ofString "program"), (Str.ofString "kind"), (Str.ofString "one"), (Str.ofString "other")], [(Str.ofString "program"), (Str.ofString "kind"), (Str.ofString "one"), (Str.ofString "other")], defArgs (top 42), defBody (top 42), defScope (top 42)⟩
def d_number_of : Df := ⟨Str.ofString "number_of", [(Str.ofString "program"), (Str.ofString "kind"), (Str.ofString "many"), (Str.ofString "known")], [(Str.ofString "program"), (Str.ofString "kind"), (Str.ofString "many"), (Str.ofString "known"), (Str.ofString "body"), (Str.ofString "maker"), (Str.ofString "fields")], defArgs (top 43), defBody (top 43), defScope (top 43)⟩
def d_rows_of : Df := ⟨Str.ofString "rows_of", [(Str.ofString "program"), (Str.ofString "kind"), (Str.ofString "many"), (Str.ofString "known")], [(Str.ofString "program"), (Str.ofString "kind"), (Str.ofString "many"), (Str.ofString "known"), (Str.ofString "found"), (Str.ofString "first")], defArgs (top 44), defBody (top 44), defScope (top 44)⟩
def d_splits_of : Df := ⟨Str.ofString "splits_of", [(Str.ofString "program"), (Str.ofString "fields"), (Str.ofString "many"), (Str.ofString "known")], [(Str.ofString "program"), (Str.ofString "fields"), (Str.ofString "many"), (Str.ofString "known"), (Str.ofString "ways"), (Str.ofString "field"), (Str.ofString "later"), (Str.ofString "at"), (Str.ofString "first")], defArgs (top 45), defBody (top 45), defScope (top 45)⟩
def d_count_values : Df := ⟨Str.ofString "count_values", [(Str.ofString "program"), (Str.ofString "kind"), (Str.ofString "many")], [(Str.ofString "program"), (Str.ofString "kind"), (Str.ofString "many")], defArgs (top 46), defBody (top 46), defScope (top 46)⟩
def d_all_of : Df := ⟨Str.ofString "all_of", [(Str.ofString "program"), (Str.ofString "kind"), (Str.ofString "many")], [(Str.ofString "program"), (Str.ofString "kind"), (Str.ofString "many"), (Str.ofString "body"), (Str.ofString "found"), (Str.ofString "maker"), (Str.ofString "fields"), (Str.ofString "parts")], defArgs (top 47), defBody (top 47), defScope (top 47)⟩
def d_lists_of : Df := ⟨Str.ofString "lists_of", [(Str.ofString "program"), (Str.ofString "kind"), (Str.ofString "many")], [(Str.ofString "program"), (Str.ofString "kind"), (Str.ofString "many"), (Str.ofString "found"), (Str.ofString "first"), (Str.ofString "rests"), (Str.ofString "value"), (Str.ofString "rest")], defArgs (top 48), defBody (top 48), defScope (top 48)⟩
def d_tuples_of : Df := ⟨Str.ofString "tuples_of", [(Str.ofString "program"), (Str.ofString "fields"), (Str.ofString "many")], [(Str.ofString "program"), (Str.ofString "fields"), (Str.ofString "many"), (Str.ofString "found"), (Str.ofString "first"), (Str.ofString "rests"), (Str.ofString "value"), (Str.ofString "rest")], defArgs (top 49), defBody (top 49), defScope (top 49)⟩
def d_values : Df := ⟨Str.ofString "values", [(Str.ofString "program"), (Str.ofString "kind"), (Str.ofString "many")], [(Str.ofString "program"), (Str.ofString "kind"), (Str.ofString "many")], defArgs (top 50), defBody (top 50), defScope (top 50)⟩
def d_firsts : Df := ⟨Str.ofString "firsts", [(Str.ofString "program"), (Str.ofString "kind"), (Str.ofString "many"), (Str.ofString "most")], [(Str.ofString "program"), (Str.ofString "kind"), (Str.ofString "many"), (Str.ofString "most"), (Str.ofString "body"), (Str.ofString "found"), (Str.ofString "length"), (Str.ofString "maker"), (Str.ofString "fields"), (Str.ofString "parts"), (Str.ofString "told")], defArgs (top 51), defBody (top 51), defScope (top 51)⟩
def d_first_tuples : Df := ⟨Str.ofString "first_tuples", [(Str.ofString "program"), (Str.ofString "fields"), (Str.ofString "many"), (Str.ofString "most")], [(Str.ofString "program"), (Str.ofString "fields"), (Str.ofString "many"), (Str.ofString "most"), (Str.ofString "found"), (Str.ofString "first"), (Str.ofString "value"), (Str.ofString "rests"), (Str.ofString "rest")], defArgs (top 52), defBody (top 52), defScope (top 52)⟩
def d_least_of : Df := ⟨Str.ofString "least_of", [(Str.ofString "program"), (Str.ofString "kind")], [(Str.ofString "program"), (Str.ofString "kind"), (Str.ofString "many")], defArgs (top 53), defBody (top 53), defScope (top 53)⟩
def d_least : Df := ⟨Str.ofString "least", [(Str.ofString "program"), (Str.ofString "kind")], [(Str.ofString "program"), (Str.ofString "kind")], defArgs (top 54), defBody (top 54), defScope (top 54)⟩
def d__law_ordered : Df := ⟨Str.ofString "_law_ordered", [(Str.ofString "_law_program_here"), (Str.ofString "_law_kind"), (Str.ofString "_law_some_here")], [(Str.ofString "_law_program_here"), (Str.ofString "_law_kind"), (Str.ofString "_law_some_here"), (Str.ofString "_law_keys"), (Str.ofString "_law_at"), (Str.ofString "_law_value"), (Str.ofString "_law_key_here")], defArgs (top 56), defBody (top 56), defScope (top 56)⟩
def d__law_taken : Df := ⟨Str.ofString "_law_taken", [(Str.ofString "_law_row"), (Str.ofString "_law_many")], [(Str.ofString "_law_row"), (Str.ofString "_law_many"), (Str.ofString "_law_found"), (Str.ofString "_law_cell")], defArgs (top 57), defBody (top 57), defScope (top 57)⟩
def d__law_pick : Df := ⟨Str.ofString "_law_pick", [(Str.ofString "_law_row"), (Str.ofString "_law_things")], [(Str.ofString "_law_row"), (Str.ofString "_law_things")], defArgs (top 58), defBody (top 58), defScope (top 58)⟩
def d__law_program : Df := ⟨Str.ofString "_law_program", [(Str.ofString "_law_row")], [(Str.ofString "_law_row"), (Str.ofString "_law_low"), (Str.ofString "_law_some_here"), (Str.ofString "_law_kind"), (Str.ofString "_law_way"), (Str.ofString "_law_inner"), (Str.ofString "_law_last")], defArgs (top 59), defBody (top 59), defScope (top 59)⟩
def d__law_alike : Df := ⟨Str.ofString "_law_alike", [(Str.ofString "_law_found"), (Str.ofString "_law_due")], [(Str.ofString "_law_found"), (Str.ofString "_law_due"), (Str.ofString "_law_k")], defArgs (top 60), defBody (top 60), defScope (top 60)⟩
def d__law_body : Df := ⟨Str.ofString "_law_body", [(Str.ofString "_law_program_here"), (Str.ofString "_law_kind")], [(Str.ofString "_law_program_here"), (Str.ofString "_law_kind")], defArgs (top 61), defBody (top 61), defScope (top 61)⟩
def d__law_rows : Df := ⟨Str.ofString "_law_rows", [(Str.ofString "_law_program_here"), (Str.ofString "_law_kind"), (Str.ofString "_law_much")], [(Str.ofString "_law_program_here"), (Str.ofString "_law_kind"), (Str.ofString "_law_much"), (Str.ofString "_law_found"), (Str.ofString "_law_first"), (Str.ofString "_law_value"), (Str.ofString "_law_rest")], defArgs (top 62), defBody (top 62), defScope (top 62)⟩
def d__law_fields : Df := ⟨Str.ofString "_law_fields", [(Str.ofString "_law_program_here"), (Str.ofString "_law_fields_here"), (Str.ofString "_law_much")], [(Str.ofString "_law_program_here"), (Str.ofString "_law_fields_here"), (Str.ofString "_law_much"), (Str.ofString "_law_found"), (Str.ofString "_law_first"), (Str.ofString "_law_rests"), (Str.ofString "_law_value"), (Str.ofString "_law_rest")], defArgs (top 63), defBody (top 63), defScope (top 63)⟩
def d__law_values : Df := ⟨Str.ofString "_law_values", [(Str.ofString "_law_program_here"), (Str.ofString "_law_kind"), (Str.ofString "_law_much")], [(Str.ofString "_law_program_here"), (Str.ofString "_law_kind"), (Str.ofString "_law_much"), (Str.ofString "_law_body_here"), (Str.ofString "_law_found"), (Str.ofString "_law_maker"), (Str.ofString "_law_fields_here"), (Str.ofString "_law_parts")], defArgs (top 64), defBody (top 64), defScope (top 64)⟩
def d__law_size : Df := ⟨Str.ofString "_law_size", [(Str.ofString "_law_value")], [(Str.ofString "_law_value"), (Str.ofString "_law_parts"), (Str.ofString "_law_part")], defArgs (top 65), defBody (top 65), defScope (top 65)⟩
def d__law_key : Df := ⟨Str.ofString "_law_key", [(Str.ofString "_law_program_here"), (Str.ofString "_law_kind"), (Str.ofString "_law_value")], [(Str.ofString "_law_program_here"), (Str.ofString "_law_kind"), (Str.ofString "_law_value"), (Str.ofString "_law_body_here"), (Str.ofString "_law_part"), (Str.ofString "_law_at"), (Str.ofString "_law_maker"), (Str.ofString "_law_fields_here"), (Str.ofString "_law_parts"), (Str.ofString "_law_spot")], defArgs (top 66), defBody (top 66), defScope (top 66)⟩
def d__law_some : Df := ⟨Str.ofString "_law_some", [(Str.ofString "_law_program_here"), (Str.ofString "_law_kind"), (Str.ofString "_law_many")], [(Str.ofString "_law_program_here"), (Str.ofString "_law_kind"), (Str.ofString "_law_many"), (Str.ofString "_law_found"), (Str.ofString "_law_much"), (Str.ofString "_law_more")], defArgs (top 67), defBody (top 67), defScope (top 67)⟩
def d_law : Df := ⟨Str.ofString "law", [(Str.ofString "_law_script")], [(Str.ofString "_law_script"), (Str.ofString "_law_row"), (Str.ofString "_law_program_here"), (Str.ofString "_law_names"), (Str.ofString "_law_kind"), (Str.ofString "_law_many"), (Str.ofString "_law_some_here"), (Str.ofString "_law_ordered_here"), (Str.ofString "_law_whole"), (Str.ofString "_law_keys"), (Str.ofString "_law_at"), (Str.ofString "_law_value"), (Str.ofString "_law_one"), (Str.ofString "_law_other"), (Str.ofString "_law_due"), (Str.ofString "_law_far"), (Str.ofString "_law_step"), (Str.ofString "_law_ends"), (Str.ofString "_law_endless")], defArgs (top 68), defBody (top 68), defScope (top 68)⟩
def tq : List (Str × List Nat) := [(Str.ofString "ordered", [111, 114, 100, 101, 114, 101, 100, 46, 60, 108, 111, 99, 97, 108, 115, 62, 46, 60, 108, 97, 109, 98, 100, 97, 62])]
def ds : List Df := [d_whole, d_within, d_need_number, d_tuple_of, d_is_word, d_is_makers, d_is_body, d_need_program, d_body_of, d_need_kind, d_filled_of, d_kinds, d_parts_of, d_reach_of, d_endless_of, d_is_endless, d_count_of, d_count_all, d_fields_of, d_is_value_of, d_is_value, d_need_value, d_size_of, d_size, d_key_of, d_ordered, d_comes_before, d_number_of, d_rows_of, d_splits_of, d_count_values, d_all_of, d_lists_of, d_tuples_of, d_values, d_firsts, d_first_tuples, d_least_of, d_least, d__law_ordered, d__law_taken, d__law_pick, d__law_program, d__law_alike, d__law_body, d__law_rows, d__law_fields, d__law_values, d__law_size, d__law_key, d__law_some, d_law]
end K00
end
section
set_option linter.all false
set_option maxRecDepth 100000
set_option maxHeartbeats 0
namespace K00
open PySem Mt
theorem tq_ok : tqB tq ds fns = true := by decide +kernel
theorem dfs_ok : dfsB T ds fns = true := by decide +kernel
theorem hd_all : ∀ (i : Nat) (d : Df), ds[i]? = some d → ∃ f, fns[i]? = some f ∧ dfB T d f = true := dfsB_at dfs_ok
end K00
end
section
set_option Elab.async false
set_option linter.all false
set_option maxRecDepth 100000
set_option maxHeartbeats 0
namespace K00
open PySem PySem.Spec PyProof.Rows L2 Mt
abbrev hdR : PySem.W.OpenRow := PySem.W.OpenLaw.row PySem.Challenge.rw_matchtrees_k00_whole_programs
abbrev hk : PySem.W.Hook := hookL 4 (faOf T) (ds.map hdD) (tq.map (·.1))
def ob (s : PySem.W.SharedT) : AlL := obsLG 4 (faOf T) (ds.map hdD) (tq.map (·.1)) (HandSHeadRun.getT s)
theorem ob_eq (s : PySem.W.SharedT) : ob s = hk.obs s.abs := obsLG_eq (HandSHeadRun.getT_eq s)
def loose0 : List Str := [(Str.ofString "MatchError"), (Str.ofString "BadProgram"), (Str.ofString "Hollow"), (Str.ofString "BadKind"), (Str.ofString "BadValue"), (Str.ofString "BadNumber"), (Str.ofString "TooMany"), (Str.ofString "MOST_KINDS"), (Str.ofString "MOST_MAKERS"), (Str.ofString "MOST_FIELDS"), (Str.ofString "MOST_NUMBER"), (Str.ofString "whole"), (Str.ofString "within"), (Str.ofString "need_number"), (Str.ofString "tuple_of"), (Str.ofString "is_word"), (Str.ofString "is_makers"), (Str.ofString "is_body"), (Str.ofString "need_program"), (Str.ofString "body_of"), (Str.ofString "need_kind"), (Str.ofString "filled_of"), (Str.ofString "kinds"), (Str.ofString "parts_of"), (Str.ofString "reach_of"), (Str.ofString "endless_of"), (Str.ofString "is_endless"), (Str.ofString "count_of"), (Str.ofString "count_all"), (Str.ofString "fields_of"), (Str.ofString "MOST_LISTED"), (Str.ofString "MOST_SIZE"), (Str.ofString "is_value_of"), (Str.ofString "is_value"), (Str.ofString "need_value"), (Str.ofString "size_of"), (Str.ofString "size"), (Str.ofString "key_of"), (Str.ofString "ordered"), (Str.ofString "comes_before")]
def loose1 : List Str := [(Str.ofString "number_of"), (Str.ofString "rows_of"), (Str.ofString "splits_of"), (Str.ofString "count_values"), (Str.ofString "all_of"), (Str.ofString "lists_of"), (Str.ofString "tuples_of"), (Str.ofString "values"), (Str.ofString "firsts"), (Str.ofString "first_tuples"), (Str.ofString "least_of"), (Str.ofString "least"), (Str.ofString "_law_ordered"), (Str.ofString "_law_taken"), (Str.ofString "_law_pick"), (Str.ofString "_law_program"), (Str.ofString "_law_alike"), (Str.ofString "_law_body"), (Str.ofString "_law_rows"), (Str.ofString "_law_fields"), (Str.ofString "_law_values"), (Str.ofString "_law_size"), (Str.ofString "_law_key"), (Str.ofString "_law_some")]
def loose : List Str := loose0 ++ loose1
abbrev qv : Program := PySem.W.view hdR.prog [68]
theorem hd_run (w : World) : HandSHeadRun.RunEq hdR qv hk ob 4000 loose w := by
  intro os
  kernel_rfl
end K00
end
section
set_option linter.all false
set_option autoImplicit false
set_option maxRecDepth 100000
/-! KB: equations of the evaluator, for simp. -/
namespace Mt
section
variable {c : Ctx} {a b d lo hi el tg it t tg2 it2 t2 k v o i : A} {s u : S}
@[simp] theorem ev_con {x : D} : ev c (.con x) = xCon x := id rfl
@[simp] theorem ev_glo {n : Nat} {x : D} : ev c (.glo n x) = xCon x := id rfl
@[simp] theorem ev_var {n : Nat} : ev c (.var n) = xVar n := id rfl
@[simp] theorem ev_nil : ev c .nil = xCon (.tup []) := id rfl
@[simp] theorem ev_cons : ev c (.cons a b) = xCons (ev c a) (ev c b) := id rfl
@[simp] theorem ev_tup : ev c (.tup a) = xTup (ev c a) := id rfl
@[simp] theorem ev_lst : ev c (.lst a) = xLst (ev c a) := id rfl
@[simp] theorem ev_cellL : ev c (.cellL a) = xCell (xLst (ev c a)) := id rfl
@[simp] theorem ev_cellB {op : Bop} : ev c (.cellB op a b) = xCell (x2 (bop op) (ev c a) (ev c b)) := id rfl
@[simp] theorem ev_cellC : ev c (.cellC el tg it t tg2 it2 t2) = xCell (xLc2 (ev c el) tg (ev c it) (ev c t) tg2 (ev c it2) (ev c t2)) := id rfl
@[simp] theorem ev_dnK : ev c .dnK = xNewK := id rfl
@[simp] theorem ev_dnT : ev c .dnT = xNewT := id rfl
@[simp] theorem ev_bin {op : Bop} : ev c (.bin op a b) = x2 (bop op) (ev c a) (ev c b) := id rfl
@[simp] theorem ev_neg : ev c (.neg a) = xNeg (ev c a) := id rfl
@[simp] theorem ev_not : ev c (.not a) = xNot (ev c a) := id rfl
@[simp] theorem ev_and : ev c (.and a b) = xAnd (ev c a) (ev c b) := id rfl
@[simp] theorem ev_or : ev c (.or a b) = xOr (ev c a) (ev c b) := id rfl
@[simp] theorem ev_ite : ev c (.ite t a b) = xIte (ev c t) (ev c a) (ev c b) := id rfl
@[simp] theorem ev_cmp {op : Cop} : ev c (.cmp op a b) = x2 (cop op) (ev c a) (ev c b) := id rfl
@[simp] theorem ev_chain {op op' : Cop} : ev c (.chain op op' a b d) = xChain (cop op) (cop op') (ev c a) (ev c b) (ev c d) := id rfl
@[simp] theorem ev_idx : ev c (.idx a b) = x2 idxR (ev c a) (ev c b) := id rfl
@[simp] theorem ev_dget : ev c (.dget a b) = x2 dgetR (ev c a) (ev c b) := id rfl
@[simp] theorem ev_din : ev c (.din a b) = x2 dinR (ev c a) (ev c b) := id rfl
@[simp] theorem ev_dnin : ev c (.dnin a b) = x2 dninR (ev c a) (ev c b) := id rfl
@[simp] theorem ev_sl : ev c (.sl a lo hi) = xSl (ev c a) (ev c lo) (ev c hi) := id rfl
@[simp] theorem ev_slL : ev c (.slL a lo) = x2 slLR (ev c a) (ev c lo) := id rfl
@[simp] theorem ev_slU : ev c (.slU a hi) = x2 slUR (ev c a) (ev c hi) := id rfl
@[simp] theorem ev_call {f : Nat} : ev c (.call f a) = xCall (c.call f) (ev c a) := id rfl
@[simp] theorem ev_blt {f : Bl} : ev c (.blt f a) = xPack (blR f) (ev c a) := id rfl
@[simp] theorem ev_isi {ts : List Ty} : ev c (.isi a ts) = xIsi (ev c a) ts := id rfl
@[simp] theorem ev_bm {f : Bm} : ev c (.bm f o a) = xBm (bmK f) (bmR f) (ev c o) (ev c a) := id rfl
@[simp] theorem ev_rng1 : ev c (.rng1 hi) = x1 rng1R (ev c hi) := id rfl
@[simp] theorem ev_rng : ev c (.rng lo hi) = x2 rngR (ev c lo) (ev c hi) := id rfl
@[simp] theorem ev_lrng : ev c (.lrng lo hi) = x2 lrngR (ev c lo) (ev c hi) := id rfl
@[simp] theorem ev_enm : ev c (.enm a) = x1 enmR (ev c a) := id rfl
@[simp] theorem ev_zp : ev c (.zp a b) = x2 zpR (ev c a) (ev c b) := id rfl
@[simp] theorem ev_lc : ev c (.lc el tg it t) = xLc (ev c el) tg (ev c it) (ev c t) := id rfl
@[simp] theorem ev_lc2 : ev c (.lc2 el tg it t tg2 it2 t2) = xLc2 (ev c el) tg (ev c it) (ev c t) tg2 (ev c it2) (ev c t2) := id rfl
@[simp] theorem ev_dc : ev c (.dc k v tg it t) = xDc (ev c k) (ev c v) tg (ev c it) (ev c t) := id rfl
@[simp] theorem ev_sortK {fr : List Nat} : ev c (.sortK a fr b) = xSortK c.tab (c.key b) (ev c a) fr := id rfl
@[simp] theorem ev_frz : ev c (.frz a) = x1 frzR (ev c a) := id rfl
@[simp] theorem es_skip : es c .skip = ySkip := id rfl
@[simp] theorem es_seq : es c (.seq s u) = ySeq (es c s) (es c u) := id rfl
@[simp] theorem es_expr : es c (.expr a) = yExpr (ev c a) := id rfl
@[simp] theorem es_asg : es c (.asg tg a) = yAsg tg (ev c a) := id rfl
@[simp] theorem es_put : es c (.put o i a) = yPut setL (ev c o) (ev c i) (ev c a) := id rfl
@[simp] theorem es_putD : es c (.putD o i a) = yPut setD (ev c o) (ev c i) (ev c a) := id rfl
@[simp] theorem es_aug {n : Nat} {op : Bop} : es c (.aug n op a) = yAug n (bop op) (ev c a) := id rfl
@[simp] theorem es_augAt {op : Bop} : es c (.augAt o i op a) = yAugAt (ev c o) (ev c i) (bop op) (ev c a) := id rfl
@[simp] theorem es_ret : es c (.ret a) = yRet (ev c a) := id rfl
@[simp] theorem es_ite : es c (.ite t s u) = yIte (ev c t) (es c s) (es c u) := id rfl
@[simp] theorem es_loop : es c (.loop tg it s) = yLoop tg (ev c it) (es c s) := id rfl
@[simp] theorem es_whl : es c (.whl t s) = yWhl (ev c t) (es c s) := id rfl
@[simp] theorem es_dead : es c .dead = yDead := id rfl
@[simp] theorem es_zret {n j : Nat} : es c (.zret n j a b el tg) = yZret n j (ev c a) (ev c b) (ev c el) tg := id rfl
end
section
variable {α β : Type} {m m' : Mem} {e : Env} {x y z : D} {xs ys : List D}
@[simp] theorem bnd_ok {a : α} {f : α → Mem → R β} : (R.ok a m).bind f = f a m := id rfl
@[simp] theorem bind_exc {n : Nat} {fs : List D} {f : α → Mem → R β} : (R.exc n fs m : R α).bind f = R.exc n fs m := id rfl
@[simp] theorem toF_ok {a : α} {f : α → Mem → F} : (R.ok a m).toF e f = f a m := id rfl
@[simp] theorem toF_exc {n : Nat} {fs : List D} {f : α → Mem → F} : (R.exc n fs m : R α).toF e f = F.exc n fs e m := id rfl
@[simp] theorem fbind_nx {g : Env → Mem → F} : (F.nx e m).bind g = g e m := id rfl
@[simp] theorem fbind_rt {g : Env → Mem → F} : (F.rt x m).bind g = F.rt x m := id rfl
@[simp] theorem fbind_exc {n : Nat} {fs : List D} {g : Env → Mem → F} : (F.exc n fs e m).bind g = F.exc n fs e m := id rfl
@[simp] theorem xCon_ok : xCon x e m = .ok x m := id rfl
@[simp] theorem xVar_0 {r : Env} : xVar 0 (some x :: r) m = .ok x m := id rfl
@[simp] theorem xVar_s {n : Nat} {w : Option D} {r : Env} : xVar (n + 1) (w :: r) m = xVar n r m := id rfl
theorem bind_congr {r r' : R α} {f : α → Mem → R β} (h : r = r') : r.bind f = r'.bind f := by rw [h]
theorem toF_congr {r r' : R α} {f : α → Mem → F} (h : r = r') : r.toF e f = r'.toF e f := by rw [h]
theorem fbind_congr {r r' : F} {g : Env → Mem → F} (h : r = r') : r.bind g = r'.bind g := by rw [h]
end
section
variable {m m' : Mem} {e : Env} {a b d t it t2 it2 el o i v k lo hi : X} {tg tg2 : A} {s u : Y}
@[simp] theorem xCons_eq : xCons a b e m = (a e m).bind fun x m => (b e m).bind fun y m => match y with
  | .tup ys => .ok (.tup (x :: ys)) m
  | _ => .bad 61 := id rfl
@[simp] theorem xTup_eq : xTup a e m = (a e m).bind fun x m => match x with
  | .tup xs => if Nat.ble xs.length lineN then .ok (.tup xs) m else .bad 61
  | _ => .bad 61 := id rfl
@[simp] theorem xLst_eq : xLst a e m = (a e m).bind fun x m => match x with
  | .tup xs => if Nat.ble xs.length lineN then .ok (.lst xs) m else .bad 61
  | _ => .bad 61 := id rfl
@[simp] theorem xCell_e : xCell a e m = (a e m).bind fun x m => match x with
  | .lst xs => .ok (.ref m.length) (m ++ [some (.lst xs)])
  | _ => .bad 62 := id rfl
@[simp] theorem xNewK_eq : xNewK e m = .ok (.ref m.length) (m ++ [some (.dK [])]) := id rfl
@[simp] theorem xNewT_eq : xNewT e m = .ok (.ref m.length) (m ++ [some (.dT [])]) := id rfl
@[simp] theorem x1_eq {f : Mem → D → R D} : x1 f a e m = (a e m).bind fun x m => f m x := id rfl
@[simp] theorem x2_eq {f : Mem → D → D → R D} : x2 f a b e m = (a e m).bind fun x m => (b e m).bind fun y m => f m x y := id rfl
@[simp] theorem xNeg_eq : xNeg a e m = (a e m).bind fun x m => match x with
  | .int i => .ok (.int (-i)) m
  | _ => .bad 63 := id rfl
@[simp] theorem xNot_eq : xNot a e m = (a e m).bind fun x m => match truth m x with
  | some b => .ok (.bl (!b)) m
  | none => .bad 64 := id rfl
@[simp] theorem xAnd_eq : xAnd a b e m = (a e m).bind fun x m => match x with
  | .bl true => b e m
  | .bl false => .ok (.bl false) m
  | _ => .bad 65 := id rfl
@[simp] theorem xOr_eq : xOr a b e m = (a e m).bind fun x m => match x with
  | .bl true => .ok (.bl true) m
  | .bl false => b e m
  | _ => .bad 65 := id rfl
@[simp] theorem xIte_eq : xIte t a b e m = (t e m).bind fun x m => match truth m x with
  | some true => a e m
  | some false => b e m
  | none => .bad 66 := id rfl
@[simp] theorem xChain_eq {f g : Mem → D → D → R D} : xChain f g a b d e m = (a e m).bind fun x m => (b e m).bind fun y m => (f m x y).bind fun z m => match z with
  | .bl true => (d e m).bind fun w m => g m y w
  | .bl false => .ok (.bl false) m
  | _ => .bad 67 := id rfl
@[simp] theorem xPack_eq {f : Mem → List D → R D} : xPack f a e m = (a e m).bind fun x m => match x with
  | .tup xs => f m xs
  | _ => .bad 61 := id rfl
@[simp] theorem xCall_eq {f : List D → Mem → R D} : xCall f a e m = (a e m).bind fun x m => match x with
  | .tup xs => f xs m
  | _ => .bad 61 := id rfl
@[simp] theorem xIsi_eq {ts : List Ty} : xIsi a ts e m = (a e m).bind fun x m => match isTys m x ts with
  | some b => .ok (.bl b) m
  | none => .bad 68 := id rfl
@[simp] theorem xBm_eq {k : Mem → D → Bool} {f : Mem → D → List D → R D} : xBm k f o a e m = (o e m).bind fun x m => match k m x with
  | true => (a e m).bind fun y m => match y with
    | .tup ys => f m x ys
    | _ => .bad 61
  | false => .bad 48 := id rfl
@[simp] theorem xLc_eq : xLc el tg it t e m = (it e m).bind fun x m => match itOf m x with
  | some (xs, m) => (lcGo (turn tg t (give1 el) (wipeE e (tgSlots tg))) xs [] m).bind fun ys m => .ok (.lst ys) m
  | none => .bad 73 := id rfl
@[simp] theorem xLc2_eq : xLc2 el tg it t tg2 it2 t2 e m = (it e m).bind fun x m => match itOf m x with
  | some (xs, m) => (lcGo (turn tg t (inner el tg2 it2 t2) (wipeE e (tgSlots tg ++ tgSlots tg2))) xs [] m).bind fun ys m => .ok (.lst ys) m
  | none => .bad 73 := id rfl
@[simp] theorem xDc_eq : xDc k v tg it t e m = (it e m).bind fun x m => match itOf m x with
  | some (xs, m) => (lcGo (turn tg t (give2 k v) (wipeE e (tgSlots tg))) xs [] m).bind fun ys m => match pairK ys with
    | some kvs => .ok (.ref m.length) (m ++ [some (.dK (mergeK [] kvs))])
    | none => .bad 74
  | none => .bad 73 := id rfl
@[simp] theorem ySkip_eq : ySkip e m = .nx e m := id rfl
@[simp] theorem ySeq_eq : ySeq s u e m = (s e m).bind u := id rfl
@[simp] theorem yExpr_eq : yExpr a e m = (a e m).toF e fun _ m => .nx e m := id rfl
@[simp] theorem yAsg_eq : yAsg tg a e m = (a e m).toF e fun x m => match assign tg x e with
  | some e' => .nx e' m
  | none => .bad 83 := id rfl
@[simp] theorem yRet_eq : yRet a e m = (a e m).toF e fun x m => .rt x m := id rfl
@[simp] theorem yIte_eq : yIte t s u e m = (t e m).toF e fun x m => match truth m x with
  | some true => s e m
  | some false => u e m
  | none => .bad 87 := id rfl
@[simp] theorem yLoop_eq : yLoop tg it s e m = (it e m).toF e fun x m => match itOf m x with
  | some (xs, m) => forGo tg s xs e m
  | none => .bad 88 := id rfl
@[simp] theorem yPut_eq {f : Mem → D → D → D → Option Mem} : yPut f o i a e m = (a e m).toF e fun x m => (o e m).toF e fun y m => (i e m).toF e fun z m => match f m y z x with
  | some m' => .nx e m'
  | none => .bad 84 := id rfl
end
section
variable {e : Env} {m : Mem} {x : D} {a r : A} {d : D} {ds : List D}
@[simp] theorem asg_0 {w : Option D} {r : Env} : assign (.tgN 0) x (w :: r) = some (some x :: r) := id rfl
theorem asg_N {n : Nat} (h : n < e.length) : assign (.tgN n) x e = some (e.set n (some x)) := by
  show (if Nat.blt n e.length then _ else _) = _
  rw [if_pos (by simpa [Nat.blt_eq] using h)]
@[simp] theorem asg_T : assign (.tgT a) (.tup ds) e = assigns a ds e := id rfl
@[simp] theorem asgs_nil : assigns .nil [] e = some e := id rfl
@[simp] theorem asgs_cons : assigns (.cons a r) (d :: ds) e = (match assign a d e with
    | some e' => assigns r ds e'
    | none => none) := id rfl
end
/-! ### calls -/
def ctxK (fs : List Fn) (k : Nat) (t : Nat × List Nat) : Ctx := ⟨run fs k, fun b e m => match k with
        | 0 => .bad 95
        | k + 1 => match k with
          | 0 => .bad 95
          | k + 1 => match k with
            | 0 => .bad 95
            | k + 1 => ev ⟨run fs k, fun _ _ _ => .bad 96, (0, [])⟩ b e m, tabAt k t⟩
@[simp] theorem ctxK_call {fs : List Fn} {k : Nat} {t : Nat × List Nat} : (ctxK fs k t).call = run fs k := id rfl
theorem run_sc {fs : List Fn} {k i : Nat} {f : Fn} (hf : fs[i]? = some f) (xs : List D) (m : Mem) : run fs (k + 1) i xs m = runF (ctxK fs k f.tab) f xs m := by
  conv => lhs; unfold run
  rw [hf]
  rfl
theorem run_wt {P : List Nat} {fs : List Fn} {k i : Nat} {f : Fn} (hf : fs[i]? = some f) (xs : List D) (m : Mem) : run (withTabs P fs) (k + 1) i xs m = runF (ctxK (withTabs P fs) k (P.getD f.tab.1 0, f.tab.2)) f xs m := by
  have h : (withTabs P fs)[i]? = some { f with tab := (P.getD f.tab.1 0, f.tab.2) } := by unfold withTabs; rw [List.getElem?_map, hf]; rfl
  rw [run_sc h]
  rfl
/-- the end of a def that gives back the memory as it was -/
theorem runF_rt {c : Ctx} {f : Fn} {xs : List D} {m : Mem} {d : D} (hl : Nat.beq xs.length f.ps = true) (h : es c f.body (xs.map some ++ List.replicate (f.ns - f.ps) none) m = .rt d m) : runF c f xs m = .ok d m := by
  unfold runF
  rw [if_pos hl, h]
  show (if f.drop then dropTo m.length else id) (R.ok d m) = _
  cases f.drop with
  | false => rfl
  | true =>
    show dropTo m.length (R.ok d m) = _
    unfold dropTo
    simp
theorem runF_nx {c : Ctx} {f : Fn} {xs : List D} {m : Mem} {e : Env} (hl : Nat.beq xs.length f.ps = true) (h : es c f.body (xs.map some ++ List.replicate (f.ns - f.ps) none) m = .nx e m) : runF c f xs m = .ok .non m := by
  unfold runF
  rw [if_pos hl, h]
  show (if f.drop then dropTo m.length else id) (R.ok .non m) = _
  cases f.drop with
  | false => rfl
  | true =>
    show dropTo m.length (R.ok .non m) = _
    unfold dropTo
    simp
@[simp] theorem le1N : 1 ≤ lineN := by unfold lineN; omega
@[simp] theorem le2N : 2 ≤ lineN := by unfold lineN; omega
@[simp] theorem le3N : 3 ≤ lineN := by unfold lineN; omega
@[simp] theorem le4N : 4 ≤ lineN := by unfold lineN; omega
@[simp] theorem le5N : 5 ≤ lineN := by unfold lineN; omega
end Mt
end
section
set_option linter.all false
set_option autoImplicit false
set_option maxRecDepth 100000
/-! KL: loops. -/
namespace Mt
section
variable {α : Type}
theorem lcGo_map {f : D → Mem → R (List D)} {h : α → D} {g : α → List D} {m : Mem} : ∀ {l : List α} {acc : List D}, (∀ x ∈ l, f (h x) m = .ok (g x) m) → acc.length + (l.flatMap g).length ≤ lineN →
    lcGo f (l.map h) acc m = .ok (acc ++ l.flatMap g) m
  | [], acc, _, _ => by simp [lcGo]
  | x :: l, acc, hf, hl => by
    have h1 := hf x (by simp)
    rw [List.flatMap_cons, List.length_append] at hl
    show (match f (h x) m with
      | .ok xs m' => if Nat.ble (acc.length + xs.length) lineN then lcGo f (l.map h) (acc ++ xs) m' else .bad 50
      | .exc _ _ _ => .bad 51
      | .bad w => .bad w) = _
    rw [h1]
    show (if Nat.ble (acc.length + (g x).length) lineN then lcGo f (l.map h) (acc ++ g x) m else .bad 50) = _
    rw [if_pos (by rw [Nat.ble_eq]; omega), lcGo_map (fun y hy => hf y (by simp [hy])) (by rw [List.length_append]; omega)]
    simp
theorem lcGo_map1 {f : D → Mem → R (List D)} {h g : α → D} {m : Mem} {l : List α} (hf : ∀ x ∈ l, f (h x) m = .ok [g x] m) (hl : l.length ≤ lineN) : lcGo f (l.map h) [] m = .ok (l.map g) m := by
  have e : (l.flatMap fun x => [g x]) = l.map g := by
    clear hf hl
    induction l with
    | nil => rfl
    | cons a l ih => rw [List.flatMap_cons, ih]; rfl
  rw [lcGo_map (g := fun x => [g x]) hf]
  · rw [e]; rfl
  · rw [e]; simpa using hl
theorem lcGo_one {f : D → Mem → R (List D)} {g : D → D} {m : Mem} {l : List D} (hf : ∀ x ∈ l, f x m = .ok [g x] m) (hl : l.length ≤ lineN) : lcGo f l [] m = .ok (l.map g) m := by
  have := lcGo_map1 (h := id) (f := f) (g := g) (m := m) (l := l) hf hl
  simpa using this
theorem lcGo_filter {f : D → Mem → R (List D)} {h g : α → D} {p : α → Bool} {m : Mem} {l : List α} (hf : ∀ x ∈ l, f (h x) m = .ok (if p x then [g x] else []) m) (hl : l.length ≤ lineN) : lcGo f (l.map h) [] m = .ok ((l.filter p).map g) m := by
  have e : (l.flatMap fun x => if p x then [g x] else []) = (l.filter p).map g := by
    clear hf hl
    induction l with
    | nil => rfl
    | cons a l ih =>
      rw [List.flatMap_cons, ih, List.filter_cons]
      cases p a <;> rfl
  rw [lcGo_map hf]
  · rw [e]; rfl
  · rw [e]
    have := List.length_filter_le p l
    simp; omega
/-- a walk by an invariant: P what is so ahead of the i-th item -/
theorem forGo_inv {tg : A} {b : Y} {h : α → D} (P : List α → Env → Mem → Prop) : ∀ {l r : List α} {e : Env} {m : Mem}, P r e m → (∀ (r' : List α) (x : α) (l' : List α), r ++ l = r' ++ x :: l' → ∀ e m, P r' e m → ∃ e1, assign tg (h x) e = some e1 ∧ ∃ e2 m2, (b e1 m = .nx e2 m2 ∨ b e1 m = .ct e2 m2) ∧ P (r' ++ [x]) e2 m2) →
    ∃ e2 m2, forGo tg b (l.map h) e m = .nx e2 m2 ∧ P (r ++ l) e2 m2
  | [], r, e, m, h0, _ => ⟨e, m, rfl, by simpa using h0⟩
  | x :: l, r, e, m, h0, hs => by
    obtain ⟨e1, a1, e2, m2, b1, p1⟩ := hs r x l rfl e m h0
    obtain ⟨e3, m3, c1, c2⟩ := forGo_inv (tg := tg) (b := b) (h := h) P (l := l) (r := r ++ [x]) p1 (fun r' y l' q => hs r' y l' (by rw [← q]; simp))
    refine ⟨e3, m3, ?_, by simpa using c2⟩
    rw [← c1]
    show (match assign tg (h x) e with
      | none => F.bad 80
      | some e' => match b e' m with
        | .nx e2 m2 => forGo tg b (l.map h) e2 m2
        | .ct e2 m2 => forGo tg b (l.map h) e2 m2
        | .bk e2 m2 => .nx e2 m2
        | .rt d2 m2 => .rt d2 m2
        | .exc c fs e2 m2 => .exc c fs e2 m2
        | .bad w => .bad w) = _
    rw [a1]
    dsimp only
    rcases b1 with b1 | b1 <;> rw [b1]
end
/-! ### further equations -/
section
variable {e : Env} {m : Mem} {d x y : D} {tg : A} {t el : X} {b1 b2 : Bool}
@[simp] theorem turn_eq {f : Env → Mem → R (List D)} : turn tg t f e d m = match assign tg d e with
  | some e' => (t e' m).bind fun b m => match truth m b with
    | some true => f e' m
    | some false => .ok [] m
    | none => .bad 71
  | none => .bad 72 := id rfl
@[simp] theorem give1_eq : give1 el e m = (el e m).bind fun y m => .ok [y] m := id rfl
@[simp] theorem truth_bl : truth m (.bl b1) = some b1 := id rfl
@[simp] theorem tgS_N {n : Nat} : tgSlots (.tgN n) = [n] := id rfl
@[simp] theorem tgS_T {a : A} : tgSlots (.tgT a) = tgSlots a := id rfl
@[simp] theorem tgS_nil : tgSlots .nil = [] := id rfl
@[simp] theorem tgS_cons {a b : A} : tgSlots (.cons a b) = tgSlots a ++ tgSlots b := id rfl
@[simp] theorem wipe_nil : wipeE e [] = e := id rfl
@[simp] theorem wipe_cons {i : Nat} {r : List Nat} : wipeE e (i :: r) = (wipeE e r).set i none := id rfl
@[simp] theorem cop_eq : cop .eq = cEq := id rfl
@[simp] theorem cop_ne : cop .ne = cNe := id rfl
@[simp] theorem cop_lt : cop .lt = cLt := id rfl
@[simp] theorem cop_le : cop .le = cLe := id rfl
@[simp] theorem cop_gt : cop .gt = cGt := id rfl
@[simp] theorem cop_ge : cop .ge = cGe := id rfl
@[simp] theorem cop_in : cop .isin = cIn := id rfl
@[simp] theorem cop_ni : cop .notin = cNotin := id rfl
@[simp] theorem cop_isn : cop .isnone = cIsN := id rfl
@[simp] theorem cop_nin : cop .notnone = cNotN := id rfl
@[simp] theorem bop_add : bop .add = bAdd := id rfl
@[simp] theorem bop_sub : bop .sub = bSub := id rfl
@[simp] theorem bop_mul : bop .mul = bMul := id rfl
@[simp] theorem bop_fdiv : bop .fdiv = bDiv := id rfl
@[simp] theorem bop_mod : bop .mod = bMod := id rfl
@[simp] theorem bop_pow : bop .pow = bPow := id rfl
@[simp] theorem cLe_int {i j : Int} : cLe m (.int i) (.int j) = .ok (.bl (decide (i ≤ j))) m := id rfl
@[simp] theorem cLt_int {i j : Int} : cLt m (.int i) (.int j) = .ok (.bl (decide (i < j))) m := id rfl
@[simp] theorem cGt_int {i j : Int} : cGt m (.int i) (.int j) = .ok (.bl (decide (j < i))) m := id rfl
@[simp] theorem cGe_int {i j : Int} : cGe m (.int i) (.int j) = .ok (.bl (decide (j ≤ i))) m := id rfl
@[simp] theorem bAdd_int {i j : Int} : bAdd m (.int i) (.int j) = .ok (.int (i + j)) m := id rfl
@[simp] theorem bSub_int {i j : Int} : bSub m (.int i) (.int j) = .ok (.int (i - j)) m := id rfl
end
/-- texts that == may be asked of -/
def okS (n : List Nat) : Bool := n.all (fun c => Nat.blt c 1114112) && Nat.ble n.length 1000
theorem fit_str {n : List Nat} (h : okS n = true) : fit (.str n) = true := by
  unfold fit
  rw [Bool.and_eq_true]
  exact ⟨h, rfl⟩
theorem natsEq_dec : ∀ {a b : List Nat}, natsEq a b = decide (a = b)
  | [], [] => by simp [natsEq]
  | [], _ :: _ => by simp [natsEq]
  | _ :: _, [] => by simp [natsEq]
  | x :: xs, y :: ys => by
    show (match Nat.beq x y with
      | true => natsEq xs ys
      | false => false) = _
    by_cases h : x = y
    · subst h
      have : Nat.beq x x = true := Nat.beq_refl x
      rw [this]
      dsimp only
      rw [natsEq_dec]
      simp
    · have : Nat.beq x y = false := by
        cases e : Nat.beq x y with
        | false => rfl
        | true => exact absurd (Nat.eq_of_beq_eq_true e) h
      rw [this]
      simp [h]
theorem cEq_str {m : Mem} {a b : List Nat} (ha : okS a = true) (hb : okS b = true) : cEq m (.str a) (.str b) = .ok (.bl (decide (a = b))) m := by
  unfold cEq
  show (if fit (.str a) && fit (.str b) then _ else _) = _
  rw [fit_str ha, fit_str hb, Bool.and_true, if_pos rfl]
  show R.ok (D.bl (natsEq a b)) m = _
  rw [natsEq_dec]
theorem cNe_str {m : Mem} {a b : List Nat} (ha : okS a = true) (hb : okS b = true) : cNe m (.str a) (.str b) = .ok (.bl (!decide (a = b))) m := by
  unfold cNe
  show (if fit (.str a) && fit (.str b) then _ else _) = _
  rw [fit_str ha, fit_str hb, Bool.and_true, if_pos rfl]
  show R.ok (D.bl (!natsEq a b)) m = _
  rw [natsEq_dec]
theorem fit_int {i : Int} : fit (.int i) = true := rfl
@[simp] theorem cEq_int {m : Mem} {i j : Int} : cEq m (.int i) (.int j) = .ok (.bl (decide (i = j))) m := id rfl
@[simp] theorem cNe_int {m : Mem} {i j : Int} : cNe m (.int i) (.int j) = .ok (.bl (!decide (i = j))) m := id rfl
end Mt
end
section
set_option linter.all false
set_option autoImplicit false
set_option maxRecDepth 100000
/-! KM1: programs; what the defs of programs do. -/
namespace K00
open Mt
abbrev Nm := List Nat
/-- the text, its tables' places put in -/
abbrev FS (P : List Nat) : List Fn := withTabs P fns
inductive Body where
  | num (lo hi : Int)
  | rows (k : Nm)
  | mk (ms : List (Nm × List Nm))
abbrev Prog := List (Nm × Body)
abbrev sNum : Nm := [110, 117, 109, 98, 101, 114, 115]
abbrev sRows : Nm := [114, 111, 119, 115]
abbrev sMk : Nm := [109, 97, 107, 101, 114, 115]
def eF (fs : List Nm) : D := .tup (fs.map .str)
def eM (m : Nm × List Nm) : D := .tup [.str m.1, eF m.2]
def Body.tag : Body → Nm
  | .num _ _ => sNum
  | .rows _ => sRows
  | .mk _ => sMk
def eB : Body → D
  | .num lo hi => .tup [.str sNum, .int lo, .int hi]
  | .rows k => .tup [.str sRows, .str k]
  | .mk ms => .tup [.str sMk, .tup (ms.map eM)]
def eK (x : Nm × Body) : D := .tup [.str x.1, eB x.2]
def eP (p : Prog) : D := .ptp (p.map eK)
def lk (p : Prog) (k : Nm) : Option Body := (p.find? fun x => decide (x.1 = k)).map (·.2)
/-- names that == may be asked of -/
def okP (p : Prog) : Prop := ∀ x ∈ p, okS x.1 = true
theorem eP_it {p : Prog} {m : Mem} : itOf m (eP p) = some (p.map eK, m) := rfl
theorem lk_filter {p : Prog} {k : Nm} {b : Body} (h : lk p k = some b) : ∃ r, (p.filter fun x => decide (x.1 = k)).map (fun x => eB x.2) = eB b :: r := by
  unfold lk at h
  induction p with
  | nil => cases h
  | cons x p ih =>
    rw [List.find?_cons] at h
    rw [List.filter_cons]
    cases e : decide (x.1 = k) with
    | true =>
      rw [e] at h
      cases h
      exact ⟨_, rfl⟩
    | false =>
      rw [e] at h
      exact ih h
theorem run_body {P : List Nat} {k : Nat} {p : Prog} {kd : Nm} {b : Body} {m : Mem} (hp : okP p) (hl : p.length ≤ 1000) (hk : okS kd = true) (h : lk p kd = some b) : run (FS P) (k+1) ix_body_of [eP p, .str kd] m = .ok (eB b) m := by
  rw [run_wt (f := f_body_of) rfl]
  apply runF_rt rfl
  have hf : ∀ x ∈ p, turn (.tgT (.cons (.tgN 2) (.cons (.tgN 3) .nil))) (x2 cEq (xVar 2) (xVar 1)) (give1 (xVar 3)) [some (eP p), some (.str kd), none, none] (eK x) m = .ok (if decide (x.1 = kd) then [eB x.2] else []) m := fun x hx => by
    simp [eK, asg_N, cEq_str (hp x hx) hk]
    by_cases e : x.1 = kd <;> simp [e]
  simp [f_body_of, eP_it]
  rw [lcGo_filter (g := fun x => eB x.2) (p := fun x => decide (x.1 = kd)) hf (by unfold lineN; omega)]
  obtain ⟨r, hr⟩ := lk_filter h
  rw [hr]
  rfl
end K00
end
section
set_option linter.all false
set_option autoImplicit false
set_option maxRecDepth 100000
/-! KM2: the checks of programs. -/
namespace Mt
/-- nothing of the memory tells of later cells -/
def GoodM (m : Mem) : Prop := m.all (belowO m.length) = true
theorem runF_rtd {c : Ctx} {f : Fn} {xs : List D} {m m2 : Mem} {d : D} (hl : Nat.beq xs.length f.ps = true) (hd : f.drop = true) (hg : GoodM m) (hb : below m.length d = true) (h : es c f.body (xs.map some ++ List.replicate (f.ns - f.ps) none) m = .rt d (m ++ m2)) : runF c f xs m = .ok d m := by
  unfold runF
  rw [if_pos hl, h]
  show (if f.drop then dropTo m.length else id) (R.ok d (m ++ m2)) = _
  rw [hd, if_pos rfl]
  unfold dropTo
  dsimp only
  have ht : (m ++ m2).take m.length = m := by simp
  rw [ht]
  split
  · rename_i h1
    have : m2 = [] := by
      rw [Nat.ble_eq, List.length_append] at h1
      exact List.eq_nil_of_length_eq_zero (by omega)
    subst this
    simp
  · rw [if_pos (by rw [Bool.and_eq_true]; exact ⟨hb, hg⟩)]
section
variable {e : Env} {m : Mem} {xs : List D} {x y : D}
@[simp] theorem blR_len : blR .len = oLen := id rfl
@[simp] theorem blR_sum : blR .sum = oSum := id rfl
@[simp] theorem blR_any : blR .any = oAny := id rfl
@[simp] theorem blR_all : blR .all = oAll := id rfl
@[simp] theorem blR_tuple : blR .tuple = oTuple := id rfl
@[simp] theorem blR_list : blR .list = oList := id rfl
@[simp] theorem blR_int : blR .int = oInt := id rfl
@[simp] theorem blR_min : blR .min = oMin := id rfl
@[simp] theorem blR_sorted : blR .sorted = oSorted := id rfl
@[simp] theorem blR_dict : blR .dict = oDict := id rfl
@[simp] theorem oLen_tup : oLen m [.tup xs] = .ok (.int xs.length) m := id rfl
@[simp] theorem oLen_lst : oLen m [.lst xs] = .ok (.int xs.length) m := id rfl
@[simp] theorem oLen_ptp : oLen m [.ptp xs] = .ok (.int xs.length) m := id rfl
@[simp] theorem itOf_tup : itOf m (.tup xs) = some (xs, m) := id rfl
@[simp] theorem itOf_lst : itOf m (.lst xs) = some (xs, m) := id rfl
@[simp] theorem itOf_ptp : itOf m (.ptp xs) = some (xs, m) := id rfl
@[simp] theorem idx_tup0 : idxR m (.tup (x :: xs)) (.int 0) = .ok x m := by
  show atL m (x :: xs) (.int 0) = _
  unfold atL
  show (match ix (xs.length + 1) 0 with
    | some k => match (x :: xs)[k]? with
      | some d => R.ok d m
      | none => .bad 20
    | none => .bad 20) = _
  have : ix (xs.length + 1) 0 = some 0 := by
    show (if Nat.blt 0 (xs.length + 1) then some 0 else none) = _
    rw [if_pos (by simp [Nat.blt_eq])]
  rw [this]
  rfl
@[simp] theorem idx_tup1 : idxR m (.tup (y :: x :: xs)) (.int 1) = .ok x m := by
  show atL m (y :: x :: xs) (.int 1) = _
  unfold atL
  show (match ix (xs.length + 2) 1 with
    | some k => match (y :: x :: xs)[k]? with
      | some d => R.ok d m
      | none => .bad 20
    | none => .bad 20) = _
  have : ix (xs.length + 2) 1 = some 1 := by
    show (if Nat.blt 1 (xs.length + 2) then some 1 else none) = _
    rw [if_pos (by simp [Nat.blt_eq])]
  rw [this]
  rfl
theorem allBools_true {α : Type} (l : List α) : allBools (l.map fun _ => D.bl true) = some (l.map fun _ => true) := by
  induction l with
  | nil => rfl
  | cons a l ih =>
    show (match allBools (l.map fun _ => D.bl true) with
      | some is => some (true :: is)
      | none => none) = _
    rw [ih]
    rfl
theorem oAll_true {α : Type} {l : List α} : oAll m [.lst (l.map fun _ => D.bl true)] = .ok (.bl true) m := by
  show (match allBools (l.map fun _ => D.bl true) with
    | some is => R.ok (D.bl (is.all id)) m
    | none => .bad 32) = _
  rw [allBools_true]
  dsimp only
  congr 2
  induction l with
  | nil => rfl
  | cons a l ih => simpa using ih
end
end Mt
namespace K00
open Mt
theorem run_tupleOf {P : List Nat} {k : Nat} {xs : List D} {lo hi : Int} {m : Mem} : run (FS P) (k+1) ix_tuple_of [.tup xs, .int lo, .int hi] m = .ok (.bl (decide (lo ≤ xs.length) && decide ((xs.length : Int) ≤ hi))) m := by
  rw [run_wt (f := f_tuple_of) rfl]
  apply runF_rt rfl
  simp [f_tuple_of, isTys, isTy]
  by_cases h : lo ≤ xs.length <;> simp [h]
theorem run_tupleOfP {P : List Nat} {k : Nat} {xs : List D} {lo hi : Int} {m : Mem} : run (FS P) (k+1) ix_tuple_of [.ptp xs, .int lo, .int hi] m = .ok (.bl (decide (lo ≤ xs.length) && decide ((xs.length : Int) ≤ hi))) m := by
  rw [run_wt (f := f_tuple_of) rfl]
  apply runF_rt rfl
  simp [f_tuple_of, isTys, isTy]
  by_cases h : lo ≤ xs.length <;> simp [h]
/-- a name that begins great -/
def isW (n : Nm) : Prop := ∀ (c : Ctx) (m : Mem), es c f_is_word.body [some (.str n), some (.bl false), none, none] m = .rt (.bl true) m
theorem run_word {P : List Nat} {k : Nat} {n : Nm} {m : Mem} (h : isW n) : run (FS P) (k+1) ix_is_word [.str n, .bl false] m = .ok (.bl true) m := by
  rw [run_wt (f := f_is_word) rfl]
  exact runF_rt rfl (h _ _)
theorem isW_Num : isW [78, 117, 109] := fun _ _ => rfl
theorem isW_Sign : isW [83, 105, 103, 110] := fun _ _ => rfl
structure MkOk (ms : List (Nm × List Nm)) (ns : List Nm) : Prop where
  n1 : 1 ≤ ms.length
  n8 : ms.length ≤ 8
  w : ∀ x ∈ ms, isW x.1 ∧ okS x.1 = true ∧ x.2.length ≤ 4 ∧ ∀ f ∈ x.2, f ∈ ns
  nd : (ms.map (·.1)).Nodup
theorem memEq_str {n : Nm} {ns : List Nm} : memEq (.str n) (ns.map .str) = decide (n ∈ ns) := by
  induction ns with
  | nil => rfl
  | cons a l ih =>
    show (match eqv (.str a) (.str n) with
      | true => true
      | false => memEq (.str n) (l.map .str)) = _
    show (match natsEq a n with
      | true => true
      | false => memEq (.str n) (l.map .str)) = _
    rw [natsEq_dec, ih]
    by_cases h : a = n
    · simp [h]
    · have : n ≠ a := fun e => h e.symm
      simp [h, this]
theorem plains_str : ∀ {ns : List Nm}, (∀ n ∈ ns, okS n = true) → plains (ns.map .str) = true
  | [], _ => rfl
  | a :: l, h => by
    show (match plain (.str a) with
      | true => plains (l.map .str)
      | false => false) = true
    have : plain (.str a) = true := h a (by simp)
    rw [this]
    exact plains_str fun n hn => h n (by simp [hn])
theorem deeps_str : ∀ {ns : List Nm}, deeps (ns.map .str) = 0
  | [] => rfl
  | a :: l => by
    show Nat.max 0 (deeps (l.map .str)) = 0
    rw [deeps_str]
    rfl
theorem fit_strs {ns : List Nm} (h : ∀ n ∈ ns, okS n = true) : fit (.lst (ns.map .str)) = true := by
  unfold fit
  rw [Bool.and_eq_true]
  refine ⟨plains_str h, ?_⟩
  show Nat.ble (deeps (ns.map .str) + 1) 64 = true
  rw [deeps_str]
  rfl
theorem cIn_strs {m : Mem} {n : Nm} {ns : List Nm} (hn : okS n = true) (h : ∀ n ∈ ns, okS n = true) : cIn m (.str n) (.lst (ns.map .str)) = .ok (.bl (decide (n ∈ ns))) m := by
  unfold cIn isinR
  show (match (if fit (.str n) && fit (.lst (ns.map .str)) then some (memEq (.str n) (ns.map .str)) else none) with
    | some b => R.ok (D.bl b) m
    | none => .bad 12) = _
  rw [fit_str hn, fit_strs h, memEq_str]
  rfl
theorem cNotin_strs {m : Mem} {n : Nm} {ns : List Nm} (hn : okS n = true) (h : ∀ n ∈ ns, okS n = true) : cNotin m (.str n) (.lst (ns.map .str)) = .ok (.bl (!decide (n ∈ ns))) m := by
  unfold cNotin isinR
  show (match (if fit (.str n) && fit (.lst (ns.map .str)) then some (memEq (.str n) (ns.map .str)) else none) with
    | some b => R.ok (D.bl (!b)) m
    | none => .bad 12) = _
  rw [fit_str hn, fit_strs h, memEq_str]
  rfl
end K00
end
section
set_option linter.all false
set_option autoImplicit false
set_option maxRecDepth 100000
/-! KM3: the checks of programs, went on. -/
namespace Mt
@[simp] theorem keyk_0 {kvs : List (Ky × D)} : putK = putK := id rfl
def sk (n : List Nat) : Ky := .s n
theorem hasK_iff {kvs : List (Ky × D)} {n : List Nat} : hasK (.s n) kvs = kvs.any fun p => kyEq p.1 (.s n) := by
  induction kvs with
  | nil => rfl
  | cons p r ih =>
    show (match kyEq p.1 (.s n) with
      | true => true
      | false => hasK (.s n) r) = _
    rw [ih, List.any_cons]
    cases kyEq p.1 (.s n) <;> rfl
theorem kyEq_s {a b : List Nat} : kyEq (.s a) (.s b) = decide (a = b) := natsEq_dec
theorem merge_nd : ∀ {ns : List (List Nat)} {acc : List (Ky × D)} {v : D}, ns.Nodup → (∀ n ∈ ns, hasK (.s n) acc = false) → (mergeK acc (ns.map fun n => (Ky.s n, v))).length = acc.length + ns.length
  | [], _, _, _, _ => rfl
  | n :: ns, acc, v, h, hn => by
    have h1 := hn n (by simp)
    rw [List.nodup_cons] at h
    show (mergeK (putK (.s n) v acc) (ns.map fun n => (Ky.s n, v))).length = _
    have e : putK (.s n) v acc = acc ++ [(.s n, v)] := by unfold putK; rw [h1]
    rw [e, merge_nd h.2 (fun k hk => ?_)]
    · simp; omega
    · rw [hasK_iff, List.any_append, ← hasK_iff, hn k (by simp [hk])]
      have : kyEq (.s n) (.s k) = false := by
        rw [kyEq_s]
        exact decide_eq_false fun e => h.1 (e ▸ hk)
      simp [this]
theorem pairK_s : ∀ {α : Type} {l : List α} {g : α → List Nat} {v : D}, pairK (l.map fun x => D.tup [.str (g x), v]) = some (l.map fun x => (Ky.s (g x), v))
  | _, [], _, _ => rfl
  | _, a :: l, g, v => by
    show (match kyOf (.str (g a)), pairK (l.map fun x => D.tup [.str (g x), v]) with
      | some q, some s => some ((q, v) :: s)
      | _, _ => none) = _
    rw [pairK_s]
    rfl
@[simp] theorem give2_eq {k v : X} {e : Env} {m : Mem} : give2 k v e m = (k e m).bind fun y m => (v e m).bind fun z m => match kyOf y with
  | some _ => .ok [.tup [y, z]] m
  | none => .bad 74 := id rfl
@[simp] theorem kyOf_str {n : List Nat} : kyOf (.str n) = some (.s n) := id rfl
theorem oLen_dK {m : Mem} {kvs : List (Ky × D)} : oLen (m ++ [some (.dK kvs)]) [.ref m.length] = .ok (.int kvs.length) (m ++ [some (.dK kvs)]) := by
  show (match (m ++ [some (Ob.dK kvs)])[m.length]? with
    | some (some (.lst z)) => R.ok (D.int z.length) (m ++ [some (Ob.dK kvs)])
    | some (some (.dK z)) => R.ok (D.int z.length) (m ++ [some (Ob.dK kvs)])
    | some (some (.dT z)) => R.ok (D.int z.length) (m ++ [some (Ob.dK kvs)])
    | _ => R.bad 30) = _
  rw [List.getElem?_append_right (Nat.le_refl _), Nat.sub_self]
  rfl
end Mt
namespace K00
open Mt
theorem run_makers {P : List Nat} {k : Nat} {ms : List (Nm × List Nm)} {ns : List Nm} {m : Mem} (hg : GoodM m) (hns : ∀ n ∈ ns, okS n = true) (h : MkOk ms ns) : run (FS P) (k+2) ix_is_makers [.tup (ms.map eM), .lst (ns.map .str)] m = .ok (.bl true) m := by
  rw [run_wt (f := f_is_makers) rfl]
  have t1 : run (FS P) (k+1) 3 [.tup (ms.map eM), .int 1, .int 8] m = .ok (.bl true) m := by
    rw [run_tupleOf]
    have := h.n1; have := h.n8
    simp; omega
  have hloop : ∃ e2 m2, forGo (.tgN 2) (es (ctxK (FS P) (k+1) (P.getD 0 0, [])) (.seq (.ite (.or (.not (.call 3 (.cons (.var 2) (.cons (.con (.int 2)) (.cons (.con (.int 2)) .nil))))) (.or (.not (.call 4 (.cons (.idx (.var 2) (.con (.int 0))) (.cons (.con (.bl false)) .nil)))) (.not (.call 3 (.cons (.idx (.var 2) (.con (.int 1))) (.cons (.con (.int 0)) (.cons (.glo 2 (.int 4)) .nil)))))))
    (.ret (.con (.bl false)))
    .skip)
    (.ite (.not (.blt .all (.cons (.lc (.and (.isi (.var 3) [.str]) (.cmp .isin (.var 3) (.var 1))) (.tgN 3) (.idx (.var 2) (.con (.int 1))) (.con (.bl true))) .nil)))
    (.ret (.con (.bl false)))
    .skip))) (ms.map eM) [some (.tup (ms.map eM)), some (.lst (ns.map .str)), none, none] m = .nx e2 m2 ∧ (m2 = m ∧ ∃ a, e2 = [some (.tup (ms.map eM)), some (.lst (ns.map .str)), a, none]) := by
    refine forGo_inv (fun _ e m2 => m2 = m ∧ ∃ a, e = [some (.tup (ms.map eM)), some (.lst (ns.map .str)), a, none]) (r := []) ⟨rfl, _, rfl⟩ fun r' x l' hx e m2 ⟨hm, a, he⟩ => ?_
    subst hm he
    have hx : x ∈ ms := by
      have : x ∈ r' ++ x :: l' := by simp
      rw [← hx] at this
      simpa using this
    obtain ⟨w1, w2, w3, w4⟩ := h.w x hx
    refine ⟨_, asg_N (by simp), [some (.tup (ms.map eM)), some (.lst (ns.map .str)), some (eM x), none], m2, .inl ?_, rfl, _, rfl⟩
    have t2 : run (FS P) (k+1) 3 [eM x, .int 2, .int 2] m2 = .ok (.bl true) m2 := by unfold eM; rw [run_tupleOf]; rfl
    have t3 : run (FS P) (k+1) 3 [eF x.2, .int 0, .int 4] m2 = .ok (.bl true) m2 := by unfold eF; rw [run_tupleOf]; simp <;> omega
    have t4 : idxR m2 (eM x) (.int 0) = .ok (.str x.1) m2 := idx_tup0
    have t5 : idxR m2 (eM x) (.int 1) = .ok (eF x.2) m2 := idx_tup1
    have t6 : run (FS P) (k+1) 4 [.str x.1, .bl false] m2 = .ok (.bl true) m2 := run_word w1
    have t7 : lcGo (turn (.tgN 3) (xCon (.bl true)) (give1 (xAnd (xIsi (xVar 3) [.str]) (x2 cIn (xVar 3) (xVar 1)))) [some (.tup (ms.map eM)), some (.lst (ns.map .str)), some (eM x), none]) (x.2.map .str) [] m2 = .ok (x.2.map fun _ => D.bl true) m2 := by
      refine lcGo_map1 (h := D.str) (g := fun _ => D.bl true) (fun f hf => ?_) (by unfold lineN; omega)
      have hf' := w4 f hf
      simp [asg_N, isTys, isTy, cIn_strs (hns f hf') hns, hf']
    simp [t2, t3, t4, t5, t6]
    simp [eF, t7, oAll_true]
  obtain ⟨e2, m2, l1, rfl, a, rfl⟩ := hloop
  have t8 : lcGo (turn (.tgN 2) (xCon (.bl true)) (give2 (x2 idxR (xVar 2) (xCon (.int 0))) (xCon (.bl true))) [some (.tup (ms.map eM)), some (.lst (ns.map .str)), none, none]) (ms.map eM) [] m2 = .ok (ms.map fun x => D.tup [.str x.1, .bl true]) m2 := by
    refine lcGo_map1 (h := eM) (g := fun x => D.tup [.str x.1, .bl true]) (fun f hf => ?_) (by have := h.n8; unfold lineN; omega)
    have t4 : idxR m2 (eM f) (.int 0) = .ok (.str f.1) m2 := idx_tup0
    simp [asg_N, t4]
  have len : (mergeK [] (ms.map fun x => (Ky.s x.1, D.bl true))).length = ms.length := by
    have := merge_nd (ns := ms.map (·.1)) (acc := []) (v := D.bl true) h.nd (fun n hn => rfl)
    rw [List.map_map] at this
    simpa [Function.comp_def] using this
  refine runF_rtd (m2 := [some (.dK (mergeK [] (ms.map fun x => (Ky.s x.1, D.bl true))))]) rfl rfl hg rfl ?_
  simp [f_is_makers, t1]
  simp at l1
  rw [l1]
  simp [t8, pairK_s, oLen_dK, len]
end K00
end
section
set_option linter.all false
set_option autoImplicit false
set_option maxRecDepth 100000
/-! KM4: filled_of. -/
namespace Mt
theorem rngL_eq : ∀ (n : Nat) (lo : Int), rngL lo n = (List.range n).map fun i => D.int (lo + (i : Nat))
  | 0, _ => rfl
  | n + 1, lo => by
    rw [List.range_succ_eq_map, List.map_cons, List.map_map]
    show D.int lo :: rngL (lo + 1) n = _
    rw [rngL_eq n (lo + 1)]
    congr 1
    · congr 1; simp
    · refine List.map_congr_left fun i _ => ?_
      simp only [Function.comp]
      congr 1
      push_cast
      omega
theorem enmL_eq {α : Type} {h : α → D} : ∀ (l : List α) (k : Nat), enmL (k : Int) (l.map h) = (l.zipIdx k).map fun q => D.tup [.int (q.2 : Nat), h q.1]
  | [], _ => rfl
  | a :: l, k => by
    rw [List.zipIdx_cons, List.map_cons, List.map_cons]
    show D.tup [.int k, h a] :: enmL ((k : Int) + 1) (l.map h) = _
    have : ((k : Int) + 1) = ((k + 1 : Nat) : Int) := by push_cast; rfl
    rw [this, enmL_eq l (k + 1)]
theorem allBools_map {α : Type} {p : α → Bool} (l : List α) : allBools (l.map fun x => D.bl (p x)) = some (l.map p) := by
  induction l with
  | nil => rfl
  | cons a l ih =>
    show (match allBools (l.map fun x => D.bl (p x)) with
      | some is => some (p a :: is)
      | none => none) = _
    rw [ih]
    rfl
theorem oAll_map {α : Type} {m : Mem} {p : α → Bool} {l : List α} : oAll m [.lst (l.map fun x => D.bl (p x))] = .ok (.bl (l.all p)) m := by
  show (match allBools (l.map fun x => D.bl (p x)) with
    | some is => R.ok (D.bl (is.all id)) m
    | none => .bad 32) = _
  rw [allBools_map]
  simp [List.all_map]
theorem oAny_map {α : Type} {m : Mem} {p : α → Bool} {l : List α} : oAny m [.lst (l.map fun x => D.bl (p x))] = .ok (.bl (l.any p)) m := by
  show (match allBools (l.map fun x => D.bl (p x)) with
    | some is => R.ok (D.bl (is.any id)) m
    | none => .bad 32) = _
  rw [allBools_map]
  simp [List.any_map]
theorem findK_some {k : Ky} : ∀ {kvs : List (Ky × D)}, (findK k kvs).isSome = hasK k kvs
  | [] => rfl
  | p :: r => by
    show (match kyEq p.1 k with
      | true => some p.2
      | false => findK k r).isSome = (match kyEq p.1 k with
      | true => true
      | false => hasK k r)
    cases kyEq p.1 k with
    | true => rfl
    | false => exact findK_some
theorem at_last {m : Mem} {o : Option Ob} : (m ++ [o])[m.length]? = some o := by simp
theorem dinR_last {m : Mem} {kvs : List (Ky × D)} {n : List Nat} : dinR (m ++ [some (.dK kvs)]) (.str n) (.ref m.length) = .ok (.bl (hasK (.s n) kvs)) (m ++ [some (.dK kvs)]) := by
  unfold dinR dictOf
  dsimp only
  rw [at_last]
  show R.ok (D.bl (findK (.s n) kvs).isSome) _ = _
  rw [findK_some]
theorem dninR_last {m : Mem} {kvs : List (Ky × D)} {n : List Nat} : dninR (m ++ [some (.dK kvs)]) (.str n) (.ref m.length) = .ok (.bl (!hasK (.s n) kvs)) (m ++ [some (.dK kvs)]) := by
  unfold dninR dictOf
  dsimp only
  rw [at_last]
  show R.ok (D.bl (!(findK (.s n) kvs).isSome)) _ = _
  rw [findK_some]
theorem set_last {m : Mem} {o o' : Option Ob} : (m ++ [o]).set m.length o' = m ++ [o'] := by simp
theorem setD_last {m : Mem} {kvs : List (Ky × D)} {n : List Nat} {d : D} (h : kvs.length < lineN) : setD (m ++ [some (.dK kvs)]) (.ref m.length) (.str n) d = some (m ++ [some (.dK (putK (.s n) d kvs))]) := by
  unfold setD
  dsimp only
  rw [at_last]
  dsimp only [kyOf]
  rw [if_pos (by rw [Nat.blt_eq]; exact h), set_last]
theorem setK_len {k : Ky} {d : D} : ∀ {l : List (Ky × D)}, (setK k d l).length = l.length
  | [] => rfl
  | p :: r => by
    show (match kyEq p.1 k with
      | true => (p.1, d) :: setK k d r
      | false => p :: setK k d r).length = _
    cases kyEq p.1 k with
    | true => simp [setK_len]
    | false => simp [setK_len]
theorem putK_len {k : Ky} {d : D} {l : List (Ky × D)} : (putK k d l).length ≤ l.length + 1 := by
  unfold putK
  split
  · rw [setK_len]; omega
  · simp
@[simp] theorem rng1_int {m : Mem} {n : Nat} (h : n ≤ 1000) : rng1R m (.int n) = .ok (.tup (rngL 0 n)) m := by
  show (if small63 (n : Int) then R.ok (D.tup (rngL 0 ((n : Int)).toNat)) m else .bad 69) = _
  rw [if_pos]
  · rfl
  · unfold small63
    rw [Bool.and_eq_true, decide_eq_true_eq, decide_eq_true_eq]
    omega
end Mt
namespace K00
open Mt
def mkAny (kvs : List (Ky × D)) (ms : List (Nm × List Nm)) : Bool := ms.any fun x => x.2.all fun f => hasK (.s f) kvs
def step1 (kvs : List (Ky × D)) (x : Nm × Body) : List (Ky × D) := match x.2 with
  | .mk ms => if mkAny kvs ms then putK (.s x.1) (.bl true) kvs else kvs
  | _ => kvs
def stepK (p : Prog) (kvs : List (Ky × D)) : List (Ky × D) := p.foldl step1 kvs
def isMk : Body → Bool
  | .mk _ => true
  | _ => false
def found0 (p : Prog) : List (Ky × D) := mergeK [] ((p.filter fun x => !isMk x.2).map fun x => (Ky.s x.1, D.bl true))
def iterK (p : Prog) : Nat → List (Ky × D) → List (Ky × D)
  | 0, kvs => kvs
  | n + 1, kvs => stepK p (iterK p n kvs)
def filledK (p : Prog) : List (Ky × D) := iterK p p.length (found0 p)
theorem step1_len {kvs : List (Ky × D)} {x : Nm × Body} : (step1 kvs x).length ≤ kvs.length + 1 := by
  unfold step1
  split
  · split
    · exact putK_len
    · omega
  · omega
theorem stepK_len : ∀ {p : Prog} {kvs : List (Ky × D)}, (stepK p kvs).length ≤ kvs.length + p.length
  | [], kvs => by simp [stepK]
  | x :: p, kvs => by
    show (stepK p (step1 kvs x)).length ≤ _
    have h1 := stepK_len (p := p) (kvs := step1 kvs x)
    have h2 := step1_len (kvs := kvs) (x := x)
    rw [List.length_cons]
    omega
theorem iterK_len {p : Prog} {kvs : List (Ky × D)} : ∀ n, (iterK p n kvs).length ≤ kvs.length + n * p.length
  | 0 => by simp [iterK]
  | n + 1 => by
    have h1 := stepK_len (p := p) (kvs := iterK p n kvs)
    have h2 := iterK_len (p := p) (kvs := kvs) n
    show (stepK p (iterK p n kvs)).length ≤ _
    have : (n + 1) * p.length = n * p.length + p.length := by rw [Nat.add_mul]; omega
    omega
theorem merge_len : ∀ {l acc : List (Ky × D)}, (mergeK acc l).length ≤ acc.length + l.length
  | [], acc => by simp [mergeK]
  | x :: l, acc => by
    show (mergeK (putK x.1 x.2 acc) l).length ≤ _
    have h1 := merge_len (l := l) (acc := putK x.1 x.2 acc)
    have h2 := putK_len (k := x.1) (d := x.2) (l := acc)
    rw [List.length_cons]
    omega
theorem eB_tag {m : Mem} {b : Body} : idxR m (eB b) (.int 0) = .ok (.str b.tag) m := by cases b <;> exact idx_tup0
theorem cEq_mk {m : Mem} {b : Body} : cEq m (.str b.tag) (.str [109, 97, 107, 101, 114, 115]) = .ok (.bl (isMk b)) m := by cases b <;> rfl
theorem cNe_mk {m : Mem} {b : Body} : cNe m (.str b.tag) (.str [109, 97, 107, 101, 114, 115]) = .ok (.bl (!isMk b)) m := by cases b <;> rfl
theorem ok_tag {b : Body} : okS b.tag = true := by cases b <;> rfl
theorem tag_mk {b : Body} : (b.tag = sMk) = (isMk b = true) := by cases b <;> simp [Body.tag, isMk]
theorem run_filled {P : List Nat} {k : Nat} {p : Prog} {m : Mem} (h8 : p.length ≤ 8) (hf : ∀ x ∈ p, ∀ ms, x.2 = .mk ms → ms.length ≤ 8 ∧ ∀ y ∈ ms, y.2.length ≤ 4) : run (FS P) (k+1) ix_filled_of [eP p] m = .ok (.ref m.length) (m ++ [some (.dK (filledK p))]) := by
  rw [run_wt (f := f_filled_of) rfl]
  have t1 : lcGo (turn (.tgT (.cons (.tgN 2) (.cons (.tgN 3) .nil))) (x2 cNe (x2 idxR (xVar 3) (xCon (.int 0))) (xCon (.str sMk))) (give2 (xVar 2) (xCon (.bl true))) [some (eP p), none, none, none, none, none, none, none]) (p.map eK) [] m = .ok ((p.filter fun x => !isMk x.2).map fun x => D.tup [.str x.1, .bl true]) m := by
    refine lcGo_filter (fun x hx => ?_) (by unfold lineN; omega)
    simp [eK, asg_N, eB_tag, cNe_mk]
    cases isMk x.2 <;> simp
  have inner : ∀ (e : Env) (kvs : List (Ky × D)), kvs.length + p.length ≤ lineN → (∃ a b c, e = [some (eP p), some (.ref m.length), a, b, c, none, none, none]) →
      ∃ e2, forGo (.tgT (.cons (.tgN 2) (.cons (.tgN 3) .nil))) (es (ctxK (FS P) k (P.getD 0 0, [])) (.ite (.and (.cmp .eq (.idx (.var 3) (.con (.int 0))) (.con (.str [109, 97, 107, 101, 114, 115]))) (.blt .any (.cons (.lc (.blt .all (.cons (.lc (.din (.var 5) (.var 1)) (.tgN 5) (.var 7) (.con (.bl true))) .nil)) (.tgT (.cons (.tgN 6) (.cons (.tgN 7) .nil))) (.idx (.var 3) (.con (.int 1))) (.con (.bl true))) .nil)))
    (.putD (.var 1) (.var 2) (.con (.bl true)))
    .skip)) (p.map eK) e (m ++ [some (.dK kvs)]) = .nx e2 (m ++ [some (.dK (stepK p kvs))]) ∧ ∃ a b c, e2 = [some (eP p), some (.ref m.length), a, b, c, none, none, none] := by
    intro e kvs hl he
    obtain ⟨e2, m2, h1, h2, h3, h4⟩ := forGo_inv (tg := .tgT (.cons (.tgN 2) (.cons (.tgN 3) .nil))) (b := es (ctxK (FS P) k (P.getD 0 0, [])) (.ite (.and (.cmp .eq (.idx (.var 3) (.con (.int 0))) (.con (.str [109, 97, 107, 101, 114, 115]))) (.blt .any (.cons (.lc (.blt .all (.cons (.lc (.din (.var 5) (.var 1)) (.tgN 5) (.var 7) (.con (.bl true))) .nil)) (.tgT (.cons (.tgN 6) (.cons (.tgN 7) .nil))) (.idx (.var 3) (.con (.int 1))) (.con (.bl true))) .nil)))
    (.putD (.var 1) (.var 2) (.con (.bl true)))
    .skip)) (h := eK) (fun r e m2 => m2 = m ++ [some (.dK (r.foldl step1 kvs))] ∧ (r.foldl step1 kvs).length ≤ kvs.length + r.length ∧ ∃ a b c, e = [some (eP p), some (.ref m.length), a, b, c, none, none, none]) (l := p) (r := []) (e := e) (m := m ++ [some (.dK kvs)]) ⟨rfl, by simp, he⟩ (fun r' x l' hx e m2 ⟨hm, hlen, a, b, c, hee⟩ => by
      subst hm hee
      have hxm : x ∈ p := by
        have : x ∈ r' ++ x :: l' := by simp
        rw [← hx] at this
        simpa using this
      have hr : r'.length < p.length := by
        have := congrArg List.length hx
        simp at this
        omega
      refine ⟨[some (eP p), some (.ref m.length), some (.str x.1), some (eB x.2), c, none, none, none], by simp [eK, asg_N], [some (eP p), some (.ref m.length), some (.str x.1), some (eB x.2), c, none, none, none], _, .inl ?_, rfl, ?_, _, _, _, rfl⟩
      · rw [List.foldl_append]
        generalize r'.foldl step1 kvs = kv2 at hlen
        have hb : kv2.length < lineN := by omega
        cases hB : x.2 with
        | num lo hi => simp [eB_tag, cEq_mk, isMk, step1, hB]
        | rows kk => simp [eB_tag, cEq_mk, isMk, step1, hB]
        | mk ms =>
          obtain ⟨h1, h2⟩ := hf x hxm ms hB
          have i1 : idxR (m ++ [some (.dK kv2)]) (eB (.mk ms)) (.int 1) = .ok (.tup (ms.map eM)) (m ++ [some (.dK kv2)]) := idx_tup1
          have t2 : lcGo (turn (.tgT (.cons (.tgN 6) (.cons (.tgN 7) .nil))) (xCon (.bl true)) (give1 (xPack oAll (xCons (xLc (x2 dinR (xVar 5) (xVar 1)) (.tgN 5) (xVar 7) (xCon (.bl true))) (xCon (.tup []))))) [some (eP p), some (.ref m.length), some (.str x.1), some (eB (.mk ms)), c, none, none, none]) (ms.map eM) [] (m ++ [some (.dK kv2)]) = .ok (ms.map fun y => D.bl (y.2.all fun f => hasK (.s f) kv2)) (m ++ [some (.dK kv2)]) := by
            refine lcGo_map1 (fun y hy => ?_) (by unfold lineN; omega)
            have t3 : lcGo (turn (.tgN 5) (xCon (.bl true)) (give1 (x2 dinR (xVar 5) (xVar 1))) [some (eP p), some (.ref m.length), some (.str x.1), some (eB (.mk ms)), c, none, some (.str y.1), some (eF y.2)]) (y.2.map .str) [] (m ++ [some (.dK kv2)]) = .ok (y.2.map fun f => D.bl (hasK (.s f) kv2)) (m ++ [some (.dK kv2)]) := by
              refine lcGo_map1 (fun f hff => ?_) (by have := h2 y hy; unfold lineN; omega)
              simp [asg_N, dinR_last]
            simp [eM, asg_N]
            simp [eF] at t3 ⊢
            simp [t3, oAll_map]
          simp [eB_tag, cEq_mk, isMk, step1, hB, i1]
          simp [t2, oAny_map]
          cases hany : ms.any fun y => y.2.all fun f => hasK (.s f) kv2 with
          | true => simp [mkAny, hany, setD_last hb]
          | false => simp [mkAny, hany]
      · rw [List.foldl_append, List.length_append]
        have := step1_len (kvs := r'.foldl step1 kvs) (x := x)
        simp only [List.foldl_cons, List.foldl_nil, List.length_cons, List.length_nil]
        omega)
    subst h2
    exact ⟨e2, by simpa [stepK] using h1, h4⟩
  have outer : ∃ e2 m2, forGo (.tgN 4) (es (ctxK (FS P) k (P.getD 0 0, [])) (.loop (.tgT (.cons (.tgN 2) (.cons (.tgN 3) .nil))) (.var 0) (.ite (.and (.cmp .eq (.idx (.var 3) (.con (.int 0))) (.con (.str [109, 97, 107, 101, 114, 115]))) (.blt .any (.cons (.lc (.blt .all (.cons (.lc (.din (.var 5) (.var 1)) (.tgN 5) (.var 7) (.con (.bl true))) .nil)) (.tgT (.cons (.tgN 6) (.cons (.tgN 7) .nil))) (.idx (.var 3) (.con (.int 1))) (.con (.bl true))) .nil)))
    (.putD (.var 1) (.var 2) (.con (.bl true)))
    .skip))) ((List.range p.length).map fun i => D.int (0 + (i : Nat))) [some (eP p), some (.ref m.length), none, none, none, none, none, none] (m ++ [some (.dK (found0 p))]) = .nx e2 m2 ∧ (m2 = m ++ [some (.dK (filledK p))] ∧ ∃ a b c, e2 = [some (eP p), some (.ref m.length), a, b, c, none, none, none]) := by
    obtain ⟨e2, m2, h1, h2⟩ := forGo_inv (h := fun i : Nat => D.int (0 + (i : Nat))) (tg := .tgN 4) (b := es (ctxK (FS P) k (P.getD 0 0, [])) (.loop (.tgT (.cons (.tgN 2) (.cons (.tgN 3) .nil))) (.var 0) (.ite (.and (.cmp .eq (.idx (.var 3) (.con (.int 0))) (.con (.str [109, 97, 107, 101, 114, 115]))) (.blt .any (.cons (.lc (.blt .all (.cons (.lc (.din (.var 5) (.var 1)) (.tgN 5) (.var 7) (.con (.bl true))) .nil)) (.tgT (.cons (.tgN 6) (.cons (.tgN 7) .nil))) (.idx (.var 3) (.con (.int 1))) (.con (.bl true))) .nil)))
    (.putD (.var 1) (.var 2) (.con (.bl true)))
    .skip))) (fun (r : List Nat) e m2 => m2 = m ++ [some (.dK (iterK p r.length (found0 p)))] ∧ ∃ a b c, e = [some (eP p), some (.ref m.length), a, b, c, none, none, none]) (l := List.range p.length) (r := []) (e := [some (eP p), some (.ref m.length), none, none, none, none, none, none]) (m := m ++ [some (.dK (found0 p))]) ⟨rfl, _, _, _, rfl⟩ (fun r' i l' hx e m2 ⟨hm, a, b, c, hee⟩ => by
      subst hm hee
      have hr : r'.length < p.length := by
        have := congrArg List.length hx
        simp at this
        omega
      have hl0 : (found0 p).length ≤ p.length := by
        have h1 := merge_len (acc := []) (l := (p.filter fun x => !isMk x.2).map fun x => (Ky.s x.1, D.bl true))
        have h2 := List.length_filter_le (fun x : Nm × Body => !isMk x.2) p
        simp at h1
        unfold found0
        omega
      have hli := iterK_len (p := p) (kvs := found0 p) r'.length
      have hmul : r'.length * p.length ≤ 8 * 8 := Nat.mul_le_mul (by omega) h8
      refine ⟨[some (eP p), some (.ref m.length), a, b, some (.int (0 + (i : Nat))), none, none, none], by simp [asg_N], ?_⟩
      obtain ⟨e2, g1, g2⟩ := inner [some (eP p), some (.ref m.length), a, b, some (.int (0 + (i : Nat))), none, none, none] (iterK p r'.length (found0 p)) (by unfold lineN; omega) ⟨_, _, _, rfl⟩
      refine ⟨e2, m ++ [some (.dK (stepK p (iterK p r'.length (found0 p))))], .inl ?_, ?_, g2⟩
      · show yLoop _ _ _ _ _ = _
        simp only [yLoop_eq, ev_var, xVar_0, toF_ok, eP_it]
        exact g1
      · rw [List.length_append]; rfl)
    refine ⟨e2, m2, h1, ?_⟩
    simpa [filledK] using h2
  obtain ⟨e2, m2, h1, rfl, a, b, c, rfl⟩ := outer
  have hd : Nat.beq [eP p].length f_filled_of.ps = true := rfl
  unfold runF
  rw [if_pos hd]
  have he : es (ctxK (FS P) k (P.getD f_filled_of.tab.1 0, f_filled_of.tab.2)) f_filled_of.body ([eP p].map some ++ List.replicate (f_filled_of.ns - f_filled_of.ps) none) m = .rt (.ref m.length) (m ++ [some (.dK (filledK p))]) := by
    have hlen : oLen m [eP p] = .ok (.int p.length) m := by unfold eP; rw [oLen_ptp]; simp
    simp [f_filled_of, eP_it, t1, pairK_s]
    have hlen2 : oLen (m ++ [some (.dK (mergeK [] ((p.filter fun x => !isMk x.2).map fun x => (Ky.s x.1, D.bl true))))]) [eP p] = .ok (.int p.length) (m ++ [some (.dK (mergeK [] ((p.filter fun x => !isMk x.2).map fun x => (Ky.s x.1, D.bl true))))]) := by unfold eP; rw [oLen_ptp]; simp
    simp [asg_N, hlen2, rng1_int (show p.length ≤ 1000 by omega), rngL_eq]
    simp [found0] at h1
    rw [h1]
    simp
  rw [he]
  rfl
end K00
end
section
set_option linter.all false
set_option autoImplicit false
set_option maxRecDepth 100000
/-! KM5: need_program, need_kind. -/
namespace Mt
theorem runF_nxd {c : Ctx} {f : Fn} {xs : List D} {m m2 : Mem} {e : Env} (hl : Nat.beq xs.length f.ps = true) (hd : f.drop = true) (hg : GoodM m) (h : es c f.body (xs.map some ++ List.replicate (f.ns - f.ps) none) m = .nx e (m ++ m2)) : runF c f xs m = .ok .non m := by
  have h2 : runF c f xs m = (if f.drop then dropTo m.length else id) (.ok .non (m ++ m2)) := by
    unfold runF
    rw [if_pos hl, h]
  have h3 := runF_rtd (c := ⟨c.call, c.key, c.tab⟩) (f := { f with body := .ret (.con .non) }) (xs := xs) (m := m) (m2 := []) (d := .non) hl hd hg rfl (by rw [List.append_nil]; rfl)
  rw [h2, hd, if_pos rfl]
  unfold dropTo
  dsimp only
  have ht : (m ++ m2).take m.length = m := by simp
  rw [ht]
  split
  · rename_i h1
    have : m2 = [] := by
      rw [Nat.ble_eq, List.length_append] at h1
      exact List.eq_nil_of_length_eq_zero (by omega)
    subst this
    simp
  · rw [if_pos (by rw [Bool.and_eq_true]; exact ⟨rfl, hg⟩)]
end Mt
namespace K00
open Mt
def names (p : Prog) : List Nm := p.map (·.1)
def BodyOk (ns : List Nm) : Body → Prop
  | .num lo hi => 0 ≤ lo ∧ lo ≤ hi ∧ hi ≤ 99
  | .rows k => k ∈ ns
  | .mk ms => MkOk ms ns
structure WfP (p : Prog) : Prop where
  n1 : 1 ≤ p.length
  n8 : p.length ≤ 8
  w : ∀ x ∈ p, isW x.1 ∧ okS x.1 = true
  nd : (names p).Nodup
  b : ∀ x ∈ p, BodyOk (names p) x.2
  fil : ∀ x ∈ p, hasK (.s x.1) (filledK p) = true
theorem WfP.okn {p : Prog} (h : WfP p) : ∀ n ∈ names p, okS n = true := fun n hn => by
  obtain ⟨x, hx, rfl⟩ := List.mem_map.mp hn
  exact (h.w x hx).2
theorem WfP.ok {p : Prog} (h : WfP p) : okP p := fun x hx => (h.w x hx).2
theorem run_within {P : List Nat} {k : Nat} {i lo hi : Int} {m : Mem} : run (FS P) (k+2) ix_within [.int i, .int lo, .int hi] m = .ok (.bl (decide (lo ≤ i) && decide (i ≤ hi))) m := by
  have hw : run (FS P) (k+1) 0 [.int i] m = .ok (.bl true) m := by
    rw [run_wt (f := f_whole) rfl]
    exact runF_rt rfl rfl
  rw [run_wt (f := f_within) rfl]
  apply runF_rt rfl
  simp [f_within, hw]
  by_cases h : lo ≤ i <;> simp [h]
theorem plain_eF {fs : List Nm} (h : ∀ f ∈ fs, okS f = true) : plain (eF fs) = true := plains_str h
theorem plain_eM {x : Nm × List Nm} (h1 : okS x.1 = true) (h2 : ∀ f ∈ x.2, okS f = true) : plain (eM x) = true := by
  show (match plain (.str x.1) with
    | true => (match plain (eF x.2) with
      | true => true
      | false => false)
    | false => false) = true
  have e1 : plain (.str x.1) = true := h1
  rw [e1, plain_eF h2]
theorem plains_eM : ∀ {ms : List (Nm × List Nm)}, (∀ x ∈ ms, okS x.1 = true ∧ ∀ f ∈ x.2, okS f = true) → plains (ms.map eM) = true
  | [], _ => rfl
  | x :: ms, h => by
    show (match plain (eM x) with
      | true => plains (ms.map eM)
      | false => false) = true
    rw [plain_eM (h x (by simp)).1 (h x (by simp)).2]
    exact plains_eM fun y hy => h y (by simp [hy])
theorem deep_eM {x : Nm × List Nm} : deep (eM x) = 2 := by
  show Nat.max 0 (Nat.max (deeps (x.2.map .str) + 1) 0) + 1 = 2
  rw [deeps_str]
  rfl
theorem deeps_eM : ∀ {ms : List (Nm × List Nm)}, deeps (ms.map eM) ≤ 2
  | [] => by simp [deeps]
  | x :: ms => by
    show Nat.max (deep (eM x)) (deeps (ms.map eM)) ≤ 2
    rw [deep_eM]
    exact Nat.max_le.mpr ⟨Nat.le_refl _, deeps_eM⟩
theorem fit_mk {m : Mem} {ms : List (Nm × List Nm)} (h : ∀ x ∈ ms, okS x.1 = true ∧ ∀ f ∈ x.2, okS f = true) : fit (flatD m (eB (.mk ms))) = true := by
  show (plain (eB (.mk ms)) && Nat.ble (deep (eB (.mk ms))) 64) = true
  rw [Bool.and_eq_true]
  constructor
  · show (match plain (.str sMk) with
      | true => (match plain (.tup (ms.map eM)) with
        | true => true
        | false => false)
      | false => false) = true
    have e1 : plain (.tup (ms.map eM)) = true := plains_eM h
    have e2 : plain (.str sMk) = true := rfl
    rw [e1, e2]
  · rw [Nat.ble_eq]
    have := deeps_eM (ms := ms)
    show Nat.max 0 (Nat.max (deeps (ms.map eM) + 1) 0) + 1 ≤ 64
    have h1 : Nat.max 0 (Nat.max (deeps (ms.map eM) + 1) 0) ≤ 3 := Nat.max_le.mpr ⟨by omega, Nat.max_le.mpr ⟨by omega, by omega⟩⟩
    omega
theorem run_isBody {P : List Nat} {k : Nat} {b : Body} {ns : List Nm} {m : Mem} (hg : GoodM m) (hns : ∀ n ∈ ns, okS n = true) (h : BodyOk ns b) : run (FS P) (k+3) ix_is_body [eB b, .lst (ns.map .str)] m = .ok (.bl true) m := by
  rw [run_wt (f := f_is_body) rfl]
  apply runF_rt rfl
  have i0 := eB_tag (m := m) (b := b)
  have c1 := cEq_mk (m := m) (b := b)
  cases b with
  | num lo hi =>
    obtain ⟨h1, h2, h3⟩ := h
    have e0 : cEq m (eB (.num lo hi)) (.tup []) = .ok (.bl false) m := rfl
    have ti : isTys m (eB (.num lo hi)) [.tuple] = some true := rfl
    have c2 : cEq m (.str (Body.num lo hi).tag) (.str [110, 117, 109, 98, 101, 114, 115]) = .ok (.bl true) m := rfl
    have ln : oLen m [eB (.num lo hi)] = .ok (.int 3) m := rfl
    have i1 : idxR m (eB (.num lo hi)) (.int 1) = .ok (.int lo) m := idx_tup1
    have i2 : idxR m (eB (.num lo hi)) (.int 2) = .ok (.int hi) m := rfl
    have w1 : run (FS P) (k+2) 1 [.int lo, .int 0, .int 99] m = .ok (.bl true) m := by rw [run_within]; simp; omega
    have w2 : run (FS P) (k+2) 1 [.int hi, .int lo, .int 99] m = .ok (.bl true) m := by rw [run_within]; simp; omega
    simp [f_is_body, ti, e0, i0, c1, isMk, c2, ln, i1, i2, w1, w2]
  | rows kk =>
    have e0 : cEq m (eB (.rows kk)) (.tup []) = .ok (.bl false) m := by
      have : fit (flatD m (eB (.rows kk))) = true := by
        have hk := hns kk h
        show (plains [.str sRows, .str kk] && Nat.ble 1 64) = true
        show ((match plain (.str sRows) with
          | true => (match plain (.str kk) with
            | true => true
            | false => false)
          | false => false) && true) = true
        have e1 : plain (.str kk) = true := hk
        have e2 : plain (.str sRows) = true := rfl
        rw [e1, e2]
        rfl
      unfold cEq
      rw [this]
      rfl
    have ti : isTys m (eB (.rows kk)) [.tuple] = some true := rfl
    have c2 : cEq m (.str (Body.rows kk).tag) (.str [110, 117, 109, 98, 101, 114, 115]) = .ok (.bl false) m := rfl
    have c3 : cEq m (.str (Body.rows kk).tag) (.str [114, 111, 119, 115]) = .ok (.bl true) m := rfl
    have ln : oLen m [eB (.rows kk)] = .ok (.int 2) m := rfl
    have i1 : idxR m (eB (.rows kk)) (.int 1) = .ok (.str kk) m := idx_tup1
    have ci := cIn_strs (m := m) (hns kk h) hns
    have hk : kk ∈ ns := h
    have ts : isTys m (.str kk) [.str] = some true := rfl
    simp [f_is_body, ti, e0, i0, c1, isMk, c2, c3, ln, i1, ci, hk, ts]
  | mk ms =>
    have e0 : cEq m (eB (.mk ms)) (.tup []) = .ok (.bl false) m := by
      have hf := fit_mk (m := m) (ms := ms) fun x hx => ⟨(h.w x hx).2.1, fun f hf => hns f ((h.w x hx).2.2.2 f hf)⟩
      unfold cEq
      rw [hf]
      rfl
    have ti : isTys m (eB (.mk ms)) [.tuple] = some true := rfl
    have ln : oLen m [eB (.mk ms)] = .ok (.int 2) m := rfl
    have i1 : idxR m (eB (.mk ms)) (.int 1) = .ok (.tup (ms.map eM)) m := idx_tup1
    have r1 : run (FS P) (k+2) 5 [.tup (ms.map eM), .lst (ns.map .str)] m = .ok (.bl true) m := run_makers hg hns h
    simp [f_is_body, ti, e0, i0, c1, isMk, ln, i1, r1]
end K00
end
section
set_option linter.all false
set_option autoImplicit false
set_option maxRecDepth 100000
/-! KM6: need_program, need_kind, kinds. -/
namespace Mt
theorem cutL_take {α : Type} {z : List α} {n : Nat} (h : n ≤ z.length) : cutL z none (some (n : Int)) = z.take n := by
  have h1 : sIxO z.length 0 none = 0 := rfl
  have h2 : sIxO z.length z.length (some (n : Int)) = n := Nat.min_eq_left h
  unfold cutL
  rw [h1, h2]
  simp
@[simp] theorem enmR_ptp {m : Mem} {xs : List D} : enmR m (.ptp xs) = .ok (.tup (enmL 0 xs)) m := id rfl
@[simp] theorem enmR_lst {m : Mem} {xs : List D} : enmR m (.lst xs) = .ok (.tup (enmL 0 xs)) m := id rfl
theorem slU_ptp {m : Mem} {xs : List D} {n : Nat} (h : n < xs.length) : slUR m (.ptp xs) (.int (n : Int)) = .ok (.tup (xs.take n)) m := by
  show (if Nat.beq (cutL xs none (some (n : Int))).length xs.length then R.ok (D.ptp xs) m else .ok (.tup (cutL xs none (some (n : Int)))) m) = _
  rw [cutL_take (by omega), if_neg]
  rw [Nat.beq_eq, List.length_take]
  omega
theorem zipIdx_map_self {α : Type} {l : List α} : l.zipIdx.map (fun q => q.1) = l := by
  rw [List.zipIdx_eq_zip_range']
  simp [List.map_fst_zip]
end Mt
namespace K00
open Mt
theorem run_needP {P : List Nat} {k : Nat} {p : Prog} {m : Mem} (hg : GoodM m) (h : WfP p) : run (FS P) (k+4) ix_need_program [eP p] m = .ok .non m := by
  rw [run_wt (f := f_need_program) rfl]
  have h8 := h.n8
  have h1 := h.n1
  have t1 : run (FS P) (k+3) 3 [eP p, .int 1, .int 8] m = .ok (.bl true) m := by unfold eP; rw [run_tupleOfP]; simp; omega
  have tk : ∀ (x : Nm × Body) (m : Mem), run (FS P) (k+3) 3 [eK x, .int 2, .int 2] m = .ok (.bl true) m := fun x m => by unfold eK; rw [run_tupleOf]; rfl
  have ti : ∀ (x : Nm × Body) (m : Mem), idxR m (eK x) (.int 0) = .ok (.str x.1) m := fun x m => idx_tup0
  have tj : ∀ (x : Nm × Body) (m : Mem), idxR m (eK x) (.int 1) = .ok (eB x.2) m := fun x m => idx_tup1
  have tw : ∀ x ∈ p, ∀ m : Mem, run (FS P) (k+3) 4 [.str x.1, .bl false] m = .ok (.bl true) m := fun x hx m => run_word (h.w x hx).1
  have l1 : lcGo (turn (.tgN 2) (xAnd (xCall (run (FS P) (k+3) 3) (xCons (xVar 2) (xCons (xCon (.int 2)) (xCons (xCon (.int 2)) (xCon (.tup [])))))) (xCall (run (FS P) (k+3) 4) (xCons (x2 idxR (xVar 2) (xCon (.int 0))) (xCons (xCon (.bl false)) (xCon (.tup [])))))) (give1 (x2 idxR (xVar 2) (xCon (.int 0)))) [some (eP p), none, none, none, none, none]) (p.map eK) [] m = .ok (p.map fun x => D.str x.1) m := by
    refine lcGo_map1 (fun x hx => ?_) (by unfold lineN; omega)
    simp [asg_N, tk, ti, tw x hx]
  have hnm : (p.map fun x => D.str x.1) = (names p).map .str := by unfold names; rw [List.map_map]; rfl
  have l2 : ∃ e2 m2, forGo (.tgT (.cons (.tgN 3) (.cons (.tgN 2) .nil))) (es (ctxK (FS P) (k+3) (P.getD 0 0, [])) (.seq (.ite (.or (.not (.call 3 (.cons (.var 2) (.cons (.con (.int 2)) (.cons (.con (.int 2)) .nil))))) (.or (.not (.call 4 (.cons (.idx (.var 2) (.con (.int 0))) (.cons (.con (.bl false)) .nil)))) (.not (.call 6 (.cons (.idx (.var 2) (.con (.int 1))) (.cons (.var 1) .nil))))))
    .dead
    .skip)
    (.ite (.cmp .isin (.idx (.var 2) (.con (.int 0))) (.lc (.idx (.var 4) (.con (.int 0))) (.tgN 4) (.slU (.var 0) (.var 3)) (.con (.bl true))))
    .dead
    .skip))) (p.zipIdx.map fun q => D.tup [.int (q.2 : Nat), eK q.1]) [some (eP p), some (.lst ((names p).map .str)), none, none, none, none] m = .nx e2 m2 ∧ (m2 = m ∧ ∃ a b, e2 = [some (eP p), some (.lst ((names p).map .str)), a, b, none, none]) := by
    refine forGo_inv (h := fun q : (Nm × Body) × Nat => D.tup [.int (q.2 : Nat), eK q.1]) (fun _ e m2 => m2 = m ∧ ∃ a b, e = [some (eP p), some (.lst ((names p).map .str)), a, b, none, none]) (r := []) ⟨rfl, _, _, rfl⟩ fun r' x l' hx e m2 ⟨hm, a, b, he⟩ => ?_
    subst hm he
    have hx0 : x ∈ p.zipIdx := by
      have : x ∈ r' ++ x :: l' := by simp
      rw [← hx] at this
      simpa using this
    have hx2 := List.mem_zipIdx' hx0
    obtain ⟨hx3, hx4⟩ := hx2
    have hxp : x.1 ∈ p := by rw [hx4]; exact List.getElem_mem _
    refine ⟨[some (eP p), some (.lst ((names p).map .str)), some (eK x.1), some (.int (x.2 : Nat)), none, none], by simp [asg_N], [some (eP p), some (.lst ((names p).map .str)), some (eK x.1), some (.int (x.2 : Nat)), none, none], m2, .inl ?_, rfl, _, _, rfl⟩
    have t6 : run (FS P) (k+3) 6 [eB x.1.2, .lst ((names p).map .str)] m2 = .ok (.bl true) m2 := run_isBody hg h.okn (h.b _ hxp)
    have t7 : slUR m2 (eP p) (.int (x.2 : Nat)) = .ok (.tup ((p.map eK).take x.2)) m2 := slU_ptp (by simpa using hx3)
    have t8 : lcGo (turn (.tgN 4) (xCon (.bl true)) (give1 (x2 idxR (xVar 4) (xCon (.int 0)))) [some (eP p), some (.lst ((names p).map .str)), some (eK x.1), some (.int (x.2 : Nat)), none, none]) ((p.take x.2).map eK) [] m2 = .ok (((p.take x.2)).map fun y => D.str y.1) m2 := by
      refine lcGo_map1 (fun y hy => ?_) (by rw [List.length_take]; unfold lineN; omega)
      simp [asg_N, ti]
    have hnm2 : ((p.take x.2).map fun y => D.str y.1) = ((names p).take x.2).map .str := by unfold names; rw [← List.map_take, List.map_map]; rfl
    have hok : okS x.1.1 = true := (h.w _ hxp).2
    have t9 : cIn m2 (.str x.1.1) (.lst (((names p).take x.2).map .str)) = .ok (.bl false) m2 := by
      rw [cIn_strs hok (fun n hn => h.okn n (List.mem_of_mem_take hn))]
      congr 2
      refine decide_eq_false fun hin => ?_
      obtain ⟨i, hi, hie⟩ := List.mem_take_iff_getElem.mp hin
      have hnd := h.nd
      have hlen : (names p).length = p.length := by unfold names; simp
      have h2 : (names p)[x.2]'(by omega) = x.1.1 := by unfold names; rw [List.getElem_map, ← hx4]
      have hix : i < x.2 ∧ i < (names p).length := by omega
      exact List.pairwise_iff_getElem.mp hnd i x.2 hix.2 (by omega) hix.1 (hie.trans h2.symm)
    rw [hnm2] at t8
    rw [List.map_take] at t8
    simp [-List.map_take, tk, ti, tj, tw x.1 hxp, t6, t7, t8, t9]
  have l3 : ∀ kv e, (∀ x ∈ p, hasK (.s x.1) kv = true) → (∃ a b, e = [some (eP p), some (.lst ((names p).map .str)), a, b, none, some (.ref m.length)]) → ∃ e2 m2, forGo (.tgT (.cons (.tgN 3) (.cons (.tgN 2) .nil))) (es (ctxK (FS P) (k+3) (P.getD 0 0, [])) (.ite (.dnin (.idx (.var 2) (.con (.int 0))) (.var 5))
    .dead
    .skip)) (p.zipIdx.map fun q => D.tup [.int (q.2 : Nat), eK q.1]) e (m ++ [some (.dK kv)]) = .nx e2 m2 ∧ (m2 = m ++ [some (.dK kv)] ∧ ∃ a b, e2 = [some (eP p), some (.lst ((names p).map .str)), a, b, none, some (.ref m.length)]) := by
    intro kv e hkv he
    refine forGo_inv (h := fun q : (Nm × Body) × Nat => D.tup [.int (q.2 : Nat), eK q.1]) (fun _ e m2 => m2 = m ++ [some (.dK kv)] ∧ ∃ a b, e = [some (eP p), some (.lst ((names p).map .str)), a, b, none, some (.ref m.length)]) (r := []) ⟨rfl, he⟩ fun r' x l' hx e m2 ⟨hm, a, b, he⟩ => ?_
    subst hm he
    have hx0 : x ∈ p.zipIdx := by
      have : x ∈ r' ++ x :: l' := by simp
      rw [← hx] at this
      simpa using this
    have hx2 := List.mem_zipIdx' hx0
    obtain ⟨hx3, hx4⟩ := hx2
    have hxp : x.1 ∈ p := by rw [hx4]; exact List.getElem_mem _
    refine ⟨[some (eP p), some (.lst ((names p).map .str)), some (eK x.1), some (.int (x.2 : Nat)), none, some (.ref m.length)], by simp [asg_N], [some (eP p), some (.lst ((names p).map .str)), some (eK x.1), some (.int (x.2 : Nat)), none, some (.ref m.length)], _, .inl ?_, rfl, _, _, rfl⟩
    simp [ti, dninR_last, hkv x.1 hxp]
  obtain ⟨e2, m2, g1, rfl, a, b, rfl⟩ := l2
  obtain ⟨e3, m3, g2, rfl, a3, b3, rfl⟩ := l3 (filledK p) [some (eP p), some (.lst ((names p).map .str)), a, b, none, some (.ref m2.length)] h.fil ⟨_, _, rfl⟩
  have tf : run (FS P) (k+3) 10 [eP p] m2 = .ok (.ref m2.length) (m2 ++ [some (.dK (filledK p))]) := run_filled h8 (fun x hx ms hms => ?_)
  · refine runF_nxd (m2 := [some (.dK (filledK p))]) (e := [some (eP p), some (.lst ((names p).map .str)), a3, b3, none, some (.ref m2.length)]) rfl rfl hg ?_
    rw [hnm] at l1
    have en : ∀ m : Mem, enmR m (eP p) = .ok (.tup (p.zipIdx.map fun q => D.tup [.int (q.2 : Nat), eK q.1])) m := fun m => by
      unfold eP
      rw [enmR_ptp]
      have := enmL_eq (h := eK) p 0
      simp at this
      rw [this]
    simp [f_need_program, t1, eP_it, l1, en, asg_N]
    simp at g1
    rw [g1]
    simp [tf, en, asg_N]
    simp at g2
    rw [g2]
  · have := h.b x hx
    rw [hms] at this
    have hm : MkOk ms (names p) := this
    exact ⟨by have := hm.n8; omega, fun y hy => by have := (hm.w y hy).2.2.1; omega⟩
end K00
end
section
set_option linter.all false
set_option autoImplicit false
set_option maxRecDepth 100000
/-! KM7: need_kind, kinds, _law_body. -/
namespace Mt
theorem findK_put {k q : List Nat} {d : D} {kvs : List (Ky × D)} (h : hasK (.s q) kvs = false) : findK (.s k) (kvs ++ [(.s q, d)]) = if q = k then some d else findK (.s k) kvs := by
  induction kvs with
  | nil =>
    show (match kyEq (.s q) (.s k) with
      | true => some d
      | false => none) = _
    rw [kyEq_s]
    by_cases e : q = k <;> simp [e, findK]
  | cons a r ih =>
    have h1 : kyEq a.1 (.s q) = false ∧ hasK (.s q) r = false := by
      have : (match kyEq a.1 (.s q) with
        | true => true
        | false => hasK (.s q) r) = false := h
      cases e : kyEq a.1 (.s q) with
      | true => rw [e] at this; cases this
      | false => rw [e] at this; exact ⟨rfl, this⟩
    show (match kyEq a.1 (.s k) with
      | true => some a.2
      | false => findK (.s k) (r ++ [(.s q, d)])) = if q = k then some d else (match kyEq a.1 (.s k) with
      | true => some a.2
      | false => findK (.s k) r)
    rw [ih h1.2]
    by_cases e : q = k
    · subst e
      rw [h1.1]
    · simp [e]
theorem find_merge {α : Type} {g : α → List Nat} {v : α → D} {k : List Nat} : ∀ {l : List α} {acc : List (Ky × D)}, (l.map g).Nodup → (∀ x ∈ l, hasK (.s (g x)) acc = false) → findK (.s k) (mergeK acc (l.map fun x => (Ky.s (g x), v x))) = match l.find? fun x => decide (g x = k) with
    | some x => some (v x)
    | none => findK (.s k) acc
  | [], _, _, _ => rfl
  | x :: l, acc, h, hn => by
    have h1 := hn x (by simp)
    rw [List.map_cons, List.nodup_cons] at h
    show findK (.s k) (mergeK (putK (.s (g x)) (v x) acc) (l.map fun x => (Ky.s (g x), v x))) = _
    have e : putK (.s (g x)) (v x) acc = acc ++ [(.s (g x), v x)] := by unfold putK; rw [h1]
    rw [e, find_merge h.2 (fun y hy => ?_), List.find?_cons]
    · by_cases e : g x = k
      · have : l.find? (fun x => decide (g x = k)) = none := by
          rw [List.find?_eq_none]
          intro y hy hh
          have : g y = k := of_decide_eq_true hh
          exact h.1 (by rw [e, ← this]; exact List.mem_map_of_mem hy)
        rw [this]
        simp [e, findK_put (e ▸ h1)]
      · simp only [e, decide_false]
        cases l.find? (fun x => decide (g x = k)) with
        | some y => rfl
        | none => simp [findK_put h1, e]
    · rw [hasK_iff, List.any_append, ← hasK_iff, hn y (by simp [hy])]
      have : kyEq (.s (g x)) (.s (g y)) = false := by
        rw [kyEq_s]
        exact decide_eq_false fun e => h.1 (e ▸ List.mem_map_of_mem hy)
      simp [this]
theorem pairK_v {α : Type} {g : α → List Nat} {v : α → D} : ∀ {l : List α}, pairK (l.map fun x => D.tup [.str (g x), v x]) = some (l.map fun x => (Ky.s (g x), v x))
  | [] => rfl
  | a :: l => by
    show (match kyOf (.str (g a)), pairK (l.map fun x => D.tup [.str (g x), v x]) with
      | some q, some s => some ((q, v a) :: s)
      | _, _ => none) = _
    rw [pairK_v]
    rfl
theorem dget_last {m : Mem} {kvs : List (Ky × D)} {n : List Nat} {d : D} (h : findK (.s n) kvs = some d) : dgetR (m ++ [some (.dK kvs)]) (.ref m.length) (.str n) = .ok d (m ++ [some (.dK kvs)]) := by
  unfold dgetR dictOf
  dsimp only
  rw [at_last]
  show (match some (findK (.s n) kvs) with
    | some (some d) => R.ok d _
    | _ => .bad 14) = _
  rw [h]
mutual
theorem below_le {a b : Nat} (h : a ≤ b) : ∀ (d : D), below a d = true → below b d = true
  | .ref k, hd => by
    have hd : Nat.blt k a = true := hd
    show Nat.blt k b = true
    rw [Nat.blt_eq] at *
    omega
  | .tup xs, hd => belows_le h xs hd
  | .lst xs, hd => belows_le h xs hd
  | .scr xs, hd => belows_le h xs hd
  | .ptp xs, hd => belows_le h xs hd
  | .non, _ => rfl
  | .bl _, _ => rfl
  | .int _, _ => rfl
  | .str _, _ => rfl
theorem belows_le {a b : Nat} (h : a ≤ b) : ∀ (d : List D), belows a d = true → belows b d = true
  | [], _ => rfl
  | x :: xs, hd => by
    have h1 : below a x = true ∧ belows a xs = true := by
      have : (match below a x with
        | true => belows a xs
        | false => false) = true := hd
      cases e : below a x with
      | true => rw [e] at this; exact ⟨rfl, this⟩
      | false => rw [e] at this; cases this
    show (match below b x with
        | true => belows b xs
        | false => false) = true
    rw [below_le h x h1.1]
    exact belows_le h xs h1.2
end
theorem belows_all : ∀ {a : Nat} {l : List D}, (∀ x ∈ l, below a x = true) → belows a l = true
  | _, [], _ => rfl
  | a, x :: xs, h => by
    show (match below a x with
        | true => belows a xs
        | false => false) = true
    rw [h x (by simp)]
    exact belows_all fun y hy => h y (by simp [hy])
end Mt
namespace K00
open Mt
theorem below_eF {fs : List Nm} : below 0 (eF fs) = true := by
  refine belows_all (l := fs.map .str) fun x hx => ?_
  obtain ⟨y, _, rfl⟩ := List.mem_map.mp hx
  rfl
theorem below_eM {x : Nm × List Nm} : below 0 (eM x) = true := by
  refine belows_all (l := [.str x.1, eF x.2]) fun y hy => ?_
  simp at hy
  rcases hy with rfl | rfl
  · rfl
  · exact below_eF
theorem below_eB {b : Body} : below 0 (eB b) = true := by
  cases b with
  | num => rfl
  | rows => rfl
  | mk ms =>
    refine belows_all (l := [.str sMk, .tup (ms.map eM)]) fun y hy => ?_
    simp at hy
    rcases hy with rfl | rfl
    · rfl
    · refine belows_all (l := ms.map eM) fun z hz => ?_
      obtain ⟨w, _, rfl⟩ := List.mem_map.mp hz
      exact below_eM
theorem lk_mem {p : Prog} {k : Nm} {b : Body} (h : lk p k = some b) : (k, b) ∈ p := by
  unfold lk at h
  cases e : p.find? fun x => decide (x.1 = k) with
  | none => rw [e] at h; cases h
  | some x =>
    rw [e] at h
    cases h
    have h1 := List.mem_of_find?_eq_some e
    have h2 := List.find?_some e
    have : x.1 = k := of_decide_eq_true h2
    rw [← this]
    exact h1
theorem lk_some {p : Prog} {k : Nm} (h : k ∈ names p) : ∃ b, lk p k = some b := by
  obtain ⟨x, hx, rfl⟩ := List.mem_map.mp h
  unfold lk
  cases e : p.find? fun y => decide (y.1 = x.1) with
  | some y => exact ⟨_, rfl⟩
  | none =>
    rw [List.find?_eq_none] at e
    exact absurd (decide_eq_true rfl) (e x hx)
theorem WfP.okk {p : Prog} (h : WfP p) {k : Nm} {b : Body} (hl : lk p k = some b) : okS k = true := (h.w _ (lk_mem hl)).2
theorem WfP.bd {p : Prog} (h : WfP p) {k : Nm} {b : Body} (hl : lk p k = some b) : BodyOk (names p) b := h.b _ (lk_mem hl)
theorem run_bodyW {P : List Nat} {k : Nat} {p : Prog} {kd : Nm} {b : Body} {m : Mem} (hp : WfP p) (h : lk p kd = some b) : run (FS P) (k+1) ix_body_of [eP p, .str kd] m = .ok (eB b) m := run_body hp.ok (by have := hp.n8; omega) (hp.okk h) h
theorem run_lawBody {P : List Nat} {k : Nat} {p : Prog} {kd : Nm} {b : Body} {m : Mem} (hg : GoodM m) (hp : WfP p) (h : lk p kd = some b) : run (FS P) (k+1) ix__law_body [eP p, .str kd] m = .ok (eB b) m := by
  rw [run_wt (f := f__law_body) rfl]
  have hd : oDict m [eP p] = .ok (.ref m.length) (m ++ [some (.dK (mergeK [] (p.map fun x => (Ky.s x.1, eB x.2))))]) := by
    show dictC m (p.map eK) = _
    unfold dictC
    have : pairK (p.map eK) = some (p.map fun x => (Ky.s x.1, eB x.2)) := pairK_v (g := fun x : Nm × Body => x.1) (v := fun x => eB x.2)
    rw [this]
    dsimp only
    rw [if_pos]
    rw [Nat.ble_eq, List.length_map]
    have := hp.n8
    unfold lineN
    omega
  have hf : findK (.s kd) (mergeK [] (p.map fun x => (Ky.s x.1, eB x.2))) = some (eB b) := by
    rw [find_merge (g := fun x : Nm × Body => x.1) (v := fun x => eB x.2) hp.nd (fun x _ => rfl)]
    unfold lk at h
    cases e : p.find? fun x => decide (x.1 = kd) with
    | none => rw [e] at h; cases h
    | some x => rw [e] at h; cases h; rfl
  refine runF_rtd (m2 := [some (.dK (mergeK [] (p.map fun x => (Ky.s x.1, eB x.2))))]) rfl rfl hg (below_le (Nat.zero_le _) _ below_eB) ?_
  simp [f__law_body, hd, dget_last hf]
theorem run_needK {P : List Nat} {k : Nat} {p : Prog} {kd : Nm} {m : Mem} (hg : GoodM m) (hp : WfP p) (h : kd ∈ names p) : run (FS P) (k+5) ix_need_kind [eP p, .str kd] m = .ok .non m := by
  rw [run_wt (f := f_need_kind) rfl]
  have h1 : run (FS P) (k+4) 7 [eP p] m = .ok .non m := run_needP hg hp
  have h2 : lcGo (turn (.tgT (.cons (.tgN 2) (.cons (.tgN 3) .nil))) (xCon (.bl true)) (give1 (xVar 2)) [some (eP p), some (.str kd), none, none]) (p.map eK) [] m = .ok (p.map fun x => D.str x.1) m := by
    refine lcGo_map1 (fun x hx => ?_) (by have := hp.n8; unfold lineN; omega)
    simp [eK, asg_N]
  have h3 : (p.map fun x => D.str x.1) = (names p).map .str := by unfold names; rw [List.map_map]; rfl
  rw [h3] at h2
  have h4 := cNotin_strs (m := m) (hp.okn kd h) hp.okn
  have ts : isTys m (.str kd) [.str] = some true := rfl
  refine runF_nx (e := [some (eP p), some (.str kd), none, none]) rfl ?_
  simp [f_need_kind, h1, h2, h4, h, ts, eP_it]
theorem run_kinds {P : List Nat} {k : Nat} {p : Prog} {m : Mem} (hg : GoodM m) (hp : WfP p) : run (FS P) (k+5) ix_kinds [eP p] m = .ok (.tup ((names p).map .str)) m := by
  rw [run_wt (f := f_kinds) rfl]
  have h1 : run (FS P) (k+4) 7 [eP p] m = .ok .non m := run_needP hg hp
  have h2 : lcGo (turn (.tgT (.cons (.tgN 1) (.cons (.tgN 2) .nil))) (xCon (.bl true)) (give1 (xVar 1)) [some (eP p), none, none]) (p.map eK) [] m = .ok (p.map fun x => D.str x.1) m := by
    refine lcGo_map1 (fun x hx => ?_) (by have := hp.n8; unfold lineN; omega)
    simp [eK, asg_N]
  have h3 : (p.map fun x => D.str x.1) = (names p).map .str := by unfold names; rw [List.map_map]; rfl
  rw [h3] at h2
  refine runF_rt rfl ?_
  have h5 : oTuple m [.lst ((names p).map .str)] = .ok (.tup ((names p).map .str)) m := rfl
  simp [f_kinds, h1, h2, h5, eP_it]
end K00
end
section
set_option linter.all false
set_option autoImplicit false
set_option maxRecDepth 100000
/-! KM8: the values of a kind, of a size. -/
namespace Mt
theorem forGo_acc {α σ : Type} {tg : A} {b : Y} {h : α → D} {mk : List D → σ → Env} {g : α → List D} {m : Mem} {l : List α} {acc0 : List D} (s0 : σ) (hs : ∀ x ∈ l, ∀ acc s, acc.length + (g x).length ≤ acc0.length + (l.flatMap g).length → ∃ e1, assign tg (h x) (mk acc s) = some e1 ∧ ∃ s', b e1 m = .nx (mk (acc ++ g x) s') m) : ∃ s, forGo tg b (l.map h) (mk acc0 s0) m = .nx (mk (acc0 ++ l.flatMap g) s) m := by
  obtain ⟨e2, m2, h1, rfl, s, rfl⟩ := forGo_inv (tg := tg) (b := b) (h := h) (fun r e m2 => m2 = m ∧ ∃ s, e = mk (acc0 ++ r.flatMap g) s) (l := l) (r := []) (e := mk acc0 s0) (m := m) ⟨rfl, s0, by simp⟩ (fun r' x l' hx e m2 ⟨hm, s, he⟩ => by
    subst hm he
    rw [List.nil_append] at hx
    have hxm : x ∈ l := by rw [hx]; simp
    obtain ⟨e1, a1, s', b1⟩ := hs x hxm (acc0 ++ r'.flatMap g) s (by rw [hx]; simp; omega)
    exact ⟨e1, a1, _, m2, .inl b1, rfl, s', by simp⟩)
  exact ⟨s, by simpa using h1⟩
theorem bAdd_lst {m : Mem} {a b : List D} (h : a.length + b.length ≤ lineN) : bAdd m (.lst a) (.lst b) = .ok (.lst (a ++ b)) m := by
  show (if Nat.ble (a.length + b.length) lineN then R.ok (D.lst (a ++ b)) m else .bad 1) = _
  rw [if_pos (by rw [Nat.ble_eq]; exact h)]
theorem bAdd_tup {m : Mem} {a b : List D} (h : a.length + b.length ≤ lineN) : bAdd m (.tup a) (.tup b) = .ok (.tup (a ++ b)) m := by
  show (if Nat.ble (a.length + b.length) lineN then R.ok (D.tup (a ++ b)) m else .bad 1) = _
  rw [if_pos (by rw [Nat.ble_eq]; exact h)]
theorem rngR_1 {m : Mem} {n : Nat} (h : n ≤ 1000) : rngR m (.int 1) (.int ((n : Int) + 1)) = .ok (.tup ((List.range n).map fun i => D.int (1 + (i : Nat)))) m := by
  have : ((n : Int) + 1 - 1).toNat = n := by omega
  rw [← rngL_eq n 1]
  show (if small63 1 && small63 ((n : Int) + 1) then R.ok (D.tup (rngL 1 ((n : Int) + 1 - 1).toNat)) m else .bad 69) = _
  rw [this, if_pos]
  unfold small63
  simp
  omega
end Mt
namespace K00
open Mt
def rowsV (V : Nm → Nat → List D) (k : Nm) : Nat → Nat → List (List D)
  | 0, n => if n = 0 then [[]] else []
  | f + 1, n => if n = 0 then [[]] else (List.range n).flatMap fun i => (V k (i + 1)).flatMap fun v => (rowsV V k f (n - (i + 1))).map (v :: ·)
def fldsV (V : Nm → Nat → List D) : List Nm → Nat → List (List D)
  | [], n => if n = 0 then [[]] else []
  | f :: fs, n => (List.range n).flatMap fun i => (V f (i + 1)).flatMap fun v => (fldsV V fs (n - (i + 1))).map (v :: ·)
/-- the values of size n + 1, V those of lesser sizes -/
def stepV (V : Nm → Nat → List D) (p : Prog) (k : Nm) (n : Nat) : List D := match lk p k with
  | some (.num lo hi) => if n = 0 then rngL lo (hi + 1 - lo).toNat else []
  | some (.rows k') => (rowsV V k' n n).map .tup
  | some (.mk ms) => ms.flatMap fun x => (fldsV V x.2 n).map fun vs => .tup [.str x.1, .tup vs]
  | none => []
def tb (p : Prog) : Nat → Nm → Nat → List D
  | 0 => fun _ _ => []
  | N + 1 => fun k n => if n = N + 1 then stepV (tb p N) p k N else tb p N k n
def vals (p : Prog) (k : Nm) (n : Nat) : List D := tb p n k n
def rws (p : Prog) (k : Nm) (n : Nat) : List (List D) := rowsV (vals p) k n n
def fls (p : Prog) (fs : List Nm) (n : Nat) : List (List D) := fldsV (vals p) fs n
theorem tb_eq {p : Prog} {k : Nm} : ∀ {N n : Nat}, n ≤ N → tb p N k n = vals p k n
  | 0, n, h => by
    have : n = 0 := by omega
    subst this
    rfl
  | N + 1, n, h => by
    by_cases e : n = N + 1
    · subst e; rfl
    · show (if n = N + 1 then _ else tb p N k n) = _
      rw [if_neg e]
      exact tb_eq (by omega)
theorem flatMap_congr {α β : Type} {f g : α → List β} : ∀ {l : List α}, (∀ x ∈ l, f x = g x) → l.flatMap f = l.flatMap g
  | [], _ => rfl
  | x :: l, h => by rw [List.flatMap_cons, List.flatMap_cons, h x (by simp), flatMap_congr fun y hy => h y (by simp [hy])]
theorem rows_congr {V W : Nm → Nat → List D} {k : Nm} : ∀ {f n : Nat}, (∀ i ≤ n, V k i = W k i) → rowsV V k f n = rowsV W k f n
  | 0, _, _ => rfl
  | f + 1, n, h => by
    unfold rowsV
    congr 1
    refine flatMap_congr fun i hi => ?_
    have hi := List.mem_range.mp hi
    rw [h (i + 1) (by omega), rows_congr (f := f) (n := n - (i + 1)) fun j hj => h j (by omega)]
theorem flds_congr {V W : Nm → Nat → List D} : ∀ {fs : List Nm} {n : Nat}, (∀ i ≤ n, ∀ k, V k i = W k i) → fldsV V fs n = fldsV W fs n
  | [], _, _ => rfl
  | f :: fs, n, h => by
    unfold fldsV
    refine flatMap_congr fun i hi => ?_
    have hi := List.mem_range.mp hi
    rw [h (i + 1) (by omega) f, flds_congr (fs := fs) (n := n - (i + 1)) fun j hj => h j (by omega)]
theorem rows_fuel {V : Nm → Nat → List D} {k : Nm} : ∀ {f g n : Nat}, n ≤ f → n ≤ g → rowsV V k f n = rowsV V k g n
  | 0, 0, _, _, _ => rfl
  | 0, g + 1, n, h, _ => by
    have : n = 0 := by omega
    subst this
    rfl
  | f + 1, 0, n, _, h => by
    have : n = 0 := by omega
    subst this
    rfl
  | f + 1, g + 1, n, h1, h2 => by
    unfold rowsV
    congr 1
    refine flatMap_congr fun i hi => ?_
    have hi := List.mem_range.mp hi
    rw [rows_fuel (f := f) (g := g) (n := n - (i + 1)) (by omega) (by omega)]
theorem vals_0 {p : Prog} {k : Nm} : vals p k 0 = [] := rfl
theorem vals_s {p : Prog} {k : Nm} {n : Nat} : vals p k (n + 1) = match lk p k with
  | some (.num lo hi) => if n = 0 then rngL lo (hi + 1 - lo).toNat else []
  | some (.rows k') => (rws p k' n).map .tup
  | some (.mk ms) => ms.flatMap fun x => (fls p x.2 n).map fun vs => .tup [.str x.1, .tup vs]
  | none => [] := by
  show (if n + 1 = n + 1 then stepV (tb p n) p k n else tb p n k (n + 1)) = _
  rw [if_pos rfl]
  unfold stepV
  split
  · rfl
  · unfold rws
    rw [rows_congr (W := vals p) fun i hi => tb_eq hi]
  · unfold fls
    refine flatMap_congr fun x _ => ?_
    rw [flds_congr (W := vals p) fun i hi k => tb_eq hi]
  · rfl
theorem rws_0 {p : Prog} {k : Nm} : rws p k 0 = [[]] := rfl
theorem rws_s {p : Prog} {k : Nm} {n : Nat} (h : n ≠ 0) : rws p k n = (List.range n).flatMap fun i => (vals p k (i + 1)).flatMap fun v => (rws p k (n - (i + 1))).map (v :: ·) := by
  obtain ⟨f, rfl⟩ := Nat.exists_eq_succ_of_ne_zero h
  show rowsV (vals p) k (f + 1) (f + 1) = _
  unfold rowsV
  rw [if_neg (by omega)]
  refine flatMap_congr fun i hi => ?_
  refine flatMap_congr fun v hv => ?_
  unfold rws
  rw [rows_fuel (f := f) (g := f + 1 - (i + 1)) (by omega) (by omega)]
theorem fls_nil {p : Prog} {n : Nat} : fls p [] n = if n = 0 then [[]] else [] := rfl
theorem fls_cons {p : Prog} {f : Nm} {fs : List Nm} {n : Nat} : fls p (f :: fs) n = (List.range n).flatMap fun i => (vals p f (i + 1)).flatMap fun v => (fls p fs (n - (i + 1))).map (v :: ·) := rfl
theorem rws_len {p : Prog} {k : Nm} : ∀ {n : Nat}, ∀ r ∈ rws p k n, r.length ≤ n := by
  intro n
  induction n using Nat.strongRecOn with
  | _ n ih =>
    intro r hr
    by_cases e : n = 0
    · subst e
      rw [rws_0] at hr
      simp at hr
      simp [hr]
    · rw [rws_s e] at hr
      simp only [List.mem_flatMap, List.mem_map, List.mem_range] at hr
      obtain ⟨i, hi, v, hv, r', hr', rfl⟩ := hr
      have := ih (n - (i + 1)) (by omega) r' hr'
      simp
      omega
theorem fls_len {p : Prog} : ∀ {fs : List Nm} {n : Nat}, ∀ r ∈ fls p fs n, r.length = fs.length
  | [], n, r, hr => by
    rw [fls_nil] at hr
    split at hr <;> simp at hr
    simp [hr]
  | f :: fs, n, r, hr => by
    rw [fls_cons] at hr
    simp only [List.mem_flatMap, List.mem_map, List.mem_range] at hr
    obtain ⟨i, hi, v, hv, r', hr', rfl⟩ := hr
    have := fls_len r' hr'
    simp [this]
end K00
end
section
set_option linter.all false
set_option autoImplicit false
set_option maxRecDepth 100000
/-! KM9: the values may be asked of by ==. -/
namespace Mt
theorem plains_iff : ∀ {l : List D}, plains l = true ↔ ∀ x ∈ l, plain x = true
  | [] => by simp [plains]
  | x :: xs => by
    have := plains_iff (l := xs)
    show (match plain x with
      | true => plains xs
      | false => false) = true ↔ _
    cases e : plain x <;> simp [e, this]
theorem deeps_le : ∀ {l : List D} {n : Nat}, (∀ x ∈ l, deep x ≤ n) → deeps l ≤ n
  | [], n, _ => Nat.zero_le n
  | x :: xs, n, h => Nat.max_le.mpr ⟨h x (by simp), deeps_le fun y hy => h y (by simp [hy])⟩
theorem le_deeps : ∀ {l : List D} {x : D}, x ∈ l → deep x ≤ deeps l
  | y :: ys, x, h => by
    rcases List.mem_cons.mp h with rfl | h
    · exact Nat.le_max_left _ _
    · exact Nat.le_trans (le_deeps h) (Nat.le_max_right _ _)
theorem mem_rngL {x : D} : ∀ {n : Nat} {lo : Int}, x ∈ rngL lo n → ∃ i : Int, x = .int i ∧ lo ≤ i ∧ i < lo + n
  | n, lo, h => by
    rw [rngL_eq] at h
    obtain ⟨i, hi, rfl⟩ := List.mem_map.mp h
    have := List.mem_range.mp hi
    exact ⟨_, rfl, by omega, by omega⟩
end Mt
namespace K00
open Mt
structure Pl (n : Nat) (v : D) : Prop where
  p : plain v = true
  d : deep v ≤ 2 * n
  b : below 0 v = true
structure Pls (n : Nat) (vs : List D) : Prop where
  p : plains vs = true
  d : deeps vs ≤ 2 * n
  b : belows 0 vs = true
theorem Pls.nil {n : Nat} : Pls n [] := ⟨rfl, Nat.zero_le _, rfl⟩
theorem Pls.cons {n i j : Nat} {v : D} {vs : List D} (h : Pl i v) (h2 : Pls j vs) (hi : i ≤ n) (hj : j ≤ n) : Pls n (v :: vs) := by
  refine ⟨?_, ?_, ?_⟩
  · show (match plain v with
      | true => plains vs
      | false => false) = true
    rw [h.p]
    exact h2.p
  · show Nat.max (deep v) (deeps vs) ≤ _
    have h1 := h.d
    have h3 := h2.d
    exact Nat.max_le.mpr ⟨by omega, by omega⟩
  · show (match below 0 v with
      | true => belows 0 vs
      | false => false) = true
    rw [h.b]
    exact h2.b
theorem Pls.seq {n : Nat} {vs : List D} (h : Pls n vs) : Pl (n + 1) (.tup vs) := ⟨h.p, by have := h.d; show deeps vs + 1 ≤ _; omega, h.b⟩
theorem Pls.app {n : Nat} {vs : List D} {mk : Nm} (h : Pls n vs) (ho : okS mk = true) : Pl (n + 1) (.tup [.str mk, .tup vs]) := by
  refine ⟨?_, ?_, ?_⟩
  · show (match plain (.str mk) with
      | true => (match plains vs with
        | true => true
        | false => false)
      | false => false) = true
    have e : plain (.str mk) = true := ho
    rw [e, h.p]
  · have := h.d
    show Nat.max 0 (Nat.max (deeps vs + 1) 0) + 1 ≤ _
    have h1 : Nat.max 0 (Nat.max (deeps vs + 1) 0) ≤ 2 * n + 1 := Nat.max_le.mpr ⟨by omega, Nat.max_le.mpr ⟨by omega, by omega⟩⟩
    omega
  · show (match belows 0 vs with
        | true => true
        | false => false) = true
    rw [h.b]
theorem pl_rws {p : Prog} {N : Nat} (h : ∀ i ≤ N, ∀ k, ∀ v ∈ vals p k i, Pl i v) : ∀ n ≤ N, ∀ k, ∀ r ∈ rws p k n, Pls n r := by
  intro n
  induction n using Nat.strongRecOn with
  | _ n ih =>
    intro hn k r hr
    by_cases e : n = 0
    · subst e
      rw [rws_0] at hr
      simp at hr
      subst hr
      exact Pls.nil
    · rw [rws_s e] at hr
      simp only [List.mem_flatMap, List.mem_map, List.mem_range] at hr
      obtain ⟨i, hi, v, hv, r', hr', rfl⟩ := hr
      exact Pls.cons (h (i + 1) (by omega) k v hv) (ih (n - (i + 1)) (by omega) (by omega) k r' hr') (by omega) (by omega)
theorem pl_fls {p : Prog} {N : Nat} (h : ∀ i ≤ N, ∀ k, ∀ v ∈ vals p k i, Pl i v) : ∀ (fs : List Nm), ∀ n ≤ N, ∀ r ∈ fls p fs n, Pls n r
  | [], n, hn, r, hr => by
    rw [fls_nil] at hr
    split at hr <;> simp at hr
    subst hr
    exact Pls.nil
  | f :: fs, n, hn, r, hr => by
    rw [fls_cons] at hr
    simp only [List.mem_flatMap, List.mem_map, List.mem_range] at hr
    obtain ⟨i, hi, v, hv, r', hr', rfl⟩ := hr
    exact Pls.cons (h (i + 1) (by omega) f v hv) (pl_fls h fs (n - (i + 1)) (by omega) r' hr') (by omega) (by omega)
theorem pl_vals {p : Prog} (hp : WfP p) : ∀ n k, ∀ v ∈ vals p k n, Pl n v := by
  intro n
  induction n using Nat.strongRecOn with
  | _ n ih =>
    intro k v hv
    cases n with
    | zero => rw [vals_0] at hv; cases hv
    | succ n =>
      have ih' : ∀ i ≤ n, ∀ k, ∀ v ∈ vals p k i, Pl i v := fun i hi => ih i (by omega)
      rw [vals_s] at hv
      split at hv
      · split at hv
        · obtain ⟨i, rfl, _, _⟩ := mem_rngL hv
          exact ⟨rfl, Nat.zero_le _, rfl⟩
        · cases hv
      · obtain ⟨r, hr, rfl⟩ := List.mem_map.mp hv
        exact (pl_rws ih' n (Nat.le_refl _) _ r hr).seq
      · rename_i ms hl
        simp only [List.mem_flatMap, List.mem_map] at hv
        obtain ⟨x, hx, r, hr, rfl⟩ := hv
        have hm : MkOk ms (names p) := hp.bd hl
        exact (pl_fls ih' _ n (Nat.le_refl _) r hr).app (hm.w x hx).2.1
      · cases hv
theorem fit_tups {n : Nat} {l : List (List D)} (hn : n ≤ 30) (h : ∀ r ∈ l, Pls n r) : fit (.lst (l.map .tup)) = true := by
  unfold fit
  rw [Bool.and_eq_true, Nat.ble_eq]
  constructor
  · show plains (l.map .tup) = true
    rw [plains_iff]
    intro x hx
    obtain ⟨r, hr, rfl⟩ := List.mem_map.mp hx
    exact (h r hr).p
  · show deeps (l.map .tup) + 1 ≤ 64
    have : deeps (l.map .tup) ≤ 61 := deeps_le fun x hx => by
      obtain ⟨r, hr, rfl⟩ := List.mem_map.mp hx
      have := (h r hr).d
      show deeps r + 1 ≤ 61
      omega
    omega
theorem fit_vals {n : Nat} {l : List D} (hn : n ≤ 30) (h : ∀ r ∈ l, Pl n r) : fit (.lst l) = true := by
  unfold fit
  rw [Bool.and_eq_true, Nat.ble_eq]
  constructor
  · show plains l = true
    rw [plains_iff]
    intro x hx
    exact (h x hx).p
  · show deeps l + 1 ≤ 64
    have : deeps l ≤ 61 := deeps_le fun x hx => by
      have := (h x hx).d
      omega
    omega
end K00
end
section
set_option linter.all false
set_option autoImplicit false
set_option maxRecDepth 100000
/-! KM10: _law_values, _law_rows, _law_fields. -/
namespace Mt
theorem slL_tup1 {m : Mem} {x : D} {xs : List D} : slLR m (.tup (x :: xs)) (.int 1) = .ok (.tup xs) m := by
  show R.ok (D.tup (cutL (x :: xs) (some (1 : Int)) none)) m = _
  have h1 : sIxO (x :: xs).length 0 (some (1 : Int)) = 1 := by
    show Nat.min 1 (xs.length + 1) = 1
    exact Nat.min_eq_left (by omega)
  have h2 : sIxO (x :: xs).length (x :: xs).length none = xs.length + 1 := rfl
  unfold cutL
  rw [h1, h2]
  simp
theorem cNe_nil {m : Mem} {xs : List D} (h : fit (.lst xs) = true) : cNe m (.lst xs) (.lst []) = .ok (.bl (!xs.isEmpty)) m := by
  unfold cNe
  show (if fit (.lst xs) && fit (.lst []) then _ else _) = _
  rw [h, Bool.true_and]
  refine (if_pos rfl).trans ?_
  cases xs <;> rfl
theorem cEq_nilL {m : Mem} {xs : List D} (h : fit (.lst xs) = true) : cEq m (.lst xs) (.lst []) = .ok (.bl xs.isEmpty) m := by
  unfold cEq
  show (if fit (.lst xs) && fit (.lst []) then _ else _) = _
  rw [h, Bool.true_and]
  refine (if_pos rfl).trans ?_
  cases xs <;> rfl
theorem cEq_nilT {m : Mem} {xs : List D} (h : fit (.tup xs) = true) : cEq m (.tup xs) (.tup []) = .ok (.bl xs.isEmpty) m := by
  unfold cEq
  show (if fit (.tup xs) && fit (.tup []) then _ else _) = _
  rw [h, Bool.true_and]
  refine (if_pos rfl).trans ?_
  cases xs <;> rfl
end Mt
namespace K00
open Mt
structure Bd (p : Prog) (N : Nat) : Prop where
  small : N ≤ 30
  v : ∀ i ≤ N, ∀ k, (vals p k i).length ≤ lineN
  r : ∀ i ≤ N, ∀ k, (rws p k i).length ≤ lineN
  f : ∀ i ≤ N, ∀ k ms, lk p k = some (.mk ms) → ∀ x ∈ ms, ∀ fs, fs <:+ x.2 → (fls p fs i).length ≤ lineN
/-- fields that the program tells of -/
def FsOk (p : Prog) (fs : List Nm) : Prop := ∃ k ms, lk p k = some (.mk ms) ∧ ∃ x ∈ ms, fs <:+ x.2
theorem FsOk.tl {p : Prog} {f : Nm} {fs : List Nm} (h : FsOk p (f :: fs)) : FsOk p fs := by
  obtain ⟨k, ms, h1, x, h2, h3⟩ := h
  exact ⟨k, ms, h1, x, h2, (List.suffix_cons f fs).trans h3⟩
theorem FsOk.mem {p : Prog} {fs : List Nm} (hp : WfP p) (h : FsOk p fs) : ∀ f ∈ fs, f ∈ names p := by
  obtain ⟨k, ms, h1, x, h2, h3⟩ := h
  have hm : MkOk ms (names p) := hp.bd h1
  exact fun f hf => (hm.w x h2).2.2.2 f (h3.subset hf)
theorem FsOk.len {p : Prog} {fs : List Nm} (hp : WfP p) (h : FsOk p fs) : fs.length ≤ 4 := by
  obtain ⟨k, ms, h1, x, h2, h3⟩ := h
  have hm : MkOk ms (names p) := hp.bd h1
  have := (hm.w x h2).2.2.1
  have := h3.length_le
  omega
theorem FsOk.bd {p : Prog} {N : Nat} {fs : List Nm} (hb : Bd p N) (h : FsOk p fs) {i : Nat} (hi : i ≤ N) : (fls p fs i).length ≤ lineN := by
  obtain ⟨k, ms, h1, x, h2, h3⟩ := h
  exact hb.f i hi k ms h1 x h2 fs h3
theorem lrng_num {m : Mem} {lo hi : Int} (h0 : 0 ≤ lo) (h1 : hi ≤ 99) : lrngR m (.int lo) (.int (hi + 1)) = .ok (.lst (rngL lo (hi + 1 - lo).toNat)) m ∨ ¬ (lo ≤ hi) := by
  by_cases h : lo ≤ hi
  · left
    show (if small63 lo && small63 (hi + 1) && Nat.ble (hi + 1 - lo).toNat lineN then _ else _) = _
    rw [if_pos]
    rw [Bool.and_eq_true, Bool.and_eq_true, Nat.ble_eq]
    unfold small63 lineN
    rw [Bool.and_eq_true, Bool.and_eq_true, decide_eq_true_eq, decide_eq_true_eq, decide_eq_true_eq, decide_eq_true_eq]
    omega
  · exact .inr h
theorem cEq_num {m : Mem} {b : Body} : cEq m (.str b.tag) (.str [110, 117, 109, 98, 101, 114, 115]) = .ok (.bl (match b with
  | .num _ _ => true
  | _ => false)) m := by cases b <;> rfl
theorem cEq_rows {m : Mem} {b : Body} : cEq m (.str b.tag) (.str [114, 111, 119, 115]) = .ok (.bl (match b with
  | .rows _ => true
  | _ => false)) m := by cases b <;> rfl
section
variable {P : List Nat} {p : Prog} {N : Nat} {m : Mem}
def LV (P : List Nat) (p : Prog) (m : Mem) (n : Nat) : Prop := ∀ kd ∈ names p, ∀ k, run (FS P) (k + (2 * n + 2)) ix__law_values [eP p, .str kd, .int n] m = .ok (.lst (vals p kd n)) m
def LR (P : List Nat) (p : Prog) (m : Mem) (n : Nat) : Prop := ∀ kd ∈ names p, ∀ k, run (FS P) (k + (2 * n + 3)) ix__law_rows [eP p, .str kd, .int n] m = .ok (.lst ((rws p kd n).map .tup)) m
def LF (P : List Nat) (p : Prog) (m : Mem) (n : Nat) : Prop := ∀ fs, FsOk p fs → ∀ k, run (FS P) (k + (2 * n + 3)) ix__law_fields [eP p, eF fs, .int n] m = .ok (.lst ((fls p fs n).map .tup)) m
theorem int_sub {a b : Nat} (h : b ≤ a) : (a : Int) - (b : Int) = ((a - b : Nat) : Int) := by omega
theorem lawR_step (hp : WfP p) (hb : Bd p N) {n : Nat} (hn : n ≤ N) (hV : ∀ i ≤ n, LV P p m i) (hR : ∀ i < n, LR P p m i) : LR P p m n := by
  intro kd hk k
  show run (FS P) ((k + (2 * n + 2)) + 1) _ _ _ = _
  rw [run_wt (f := f__law_rows) rfl]
  apply runF_rt rfl
  have hs := hb.small
  have hr := hb.r n hn kd
  by_cases hn0 : n = 0
  · subst hn0
    simp [f__law_rows, asg_N, rws_0]
    rfl
  · have e0 : ¬ ((n : Int) = 0) := by omega
    rw [rws_s hn0] at hr ⊢
    rw [List.map_flatMap]
    have hin : ∀ i < n, ∀ acc (s : Option D), acc.length + ((vals p kd (i+1)).flatMap fun v => (rws p kd (n - (i+1))).map fun r => D.tup (v :: r)).length ≤ lineN → ∃ s', forGo (.tgN 5) (es (ctxK (FS P) (k + (2 * n + 2)) (P.getD 0 0, [])) (.asg (.tgN 3) (.bin .add (.var 3) (.lc (.bin .add (.tup (.cons (.var 5) .nil)) (.var 6)) (.tgN 6) (.call 45 (.cons (.var 0) (.cons (.var 1) (.cons (.bin .sub (.var 2) (.var 4)) .nil)))) (.con (.bl true)))))) (vals p kd (i+1)) [some (eP p), some (.str kd), some (.int n), some (.lst acc), some (.int (1 + (i : Nat))), s, none] m = .nx [some (eP p), some (.str kd), some (.int n), some (.lst (acc ++ (vals p kd (i+1)).flatMap fun v => (rws p kd (n - (i+1))).map fun r => D.tup (v :: r))), some (.int (1 + (i : Nat))), s', none] m := by
      intro i hi acc s hac
      have := forGo_acc (tg := .tgN 5) (b := es (ctxK (FS P) (k + (2 * n + 2)) (P.getD 0 0, [])) (.asg (.tgN 3) (.bin .add (.var 3) (.lc (.bin .add (.tup (.cons (.var 5) .nil)) (.var 6)) (.tgN 6) (.call 45 (.cons (.var 0) (.cons (.var 1) (.cons (.bin .sub (.var 2) (.var 4)) .nil)))) (.con (.bl true)))))) (h := id) (m := m) (l := vals p kd (i+1)) (g := fun v => (rws p kd (n - (i+1))).map fun r => D.tup (v :: r)) (acc0 := acc) (mk := fun acc (s : Option D) => [some (eP p), some (.str kd), some (.int n), some (.lst acc), some (.int (1 + (i : Nat))), s, none]) s (fun v hv acc s' hl => ⟨[some (eP p), some (.str kd), some (.int n), some (.lst acc), some (.int (1 + (i : Nat))), some v, none], by simp [asg_N], some v, by
        have e1 : (n : Int) - (1 + (i : Int)) = ((n - (i + 1) : Nat) : Int) := by omega
        have r1 : run (FS P) (k + (2 * n + 2)) 45 [eP p, .str kd, .int ((n - (i + 1) : Nat) : Int)] m = .ok (.lst ((rws p kd (n - (i+1))).map .tup)) m := by
          have := hR (n - (i + 1)) (by omega) kd hk (k + 2 * (i + 1) - 1)
          rw [← this]
          congr 1
          omega
        have l1 : lcGo (turn (.tgN 6) (xCon (.bl true)) (give1 (x2 bAdd (xTup (xCons (xVar 5) (xCon (.tup [])))) (xVar 6))) [some (eP p), some (.str kd), some (.int n), some (.lst acc), some (.int (1 + (i : Nat))), some v, none]) ((rws p kd (n - (i+1))).map .tup) [] m = .ok ((rws p kd (n - (i+1))).map fun r => D.tup (v :: r)) m := by
          refine lcGo_map1 (h := D.tup) (fun r hr => ?_) (hb.r _ (by omega) kd)
          have := rws_len r hr
          have e2 : bAdd m (.tup [v]) (.tup r) = .ok (.tup (v :: r)) m := bAdd_tup (by simp; unfold lineN; omega)
          have e3 : Nat.ble 1 lineN = true := rfl
          simp [asg_N, e2, e3]
        have e4 : bAdd m (.lst acc) (.lst ((rws p kd (n - (i+1))).map fun r => D.tup (v :: r))) = .ok (.lst (acc ++ (rws p kd (n - (i+1))).map fun r => D.tup (v :: r))) m := bAdd_lst (by omega)
        simp [e1, r1, l1, e4, asg_N]⟩)
      rw [List.map_id] at this
      exact this
    have htot : ((List.range n).flatMap fun i => (vals p kd (i+1)).flatMap fun v => (rws p kd (n - (i+1))).map fun r => D.tup (v :: r)).length ≤ lineN := by
      refine Nat.le_trans (Nat.le_of_eq ?_) hr
      simp [List.length_flatMap, Function.comp_def]
    have hloop := forGo_acc (tg := .tgN 4) (b := es (ctxK (FS P) (k + (2 * n + 2)) (P.getD 0 0, [])) (.loop (.tgN 5) (.call 47 (.cons (.var 0) (.cons (.var 1) (.cons (.var 4) .nil)))) (.asg (.tgN 3) (.bin .add (.var 3) (.lc (.bin .add (.tup (.cons (.var 5) .nil)) (.var 6)) (.tgN 6) (.call 45 (.cons (.var 0) (.cons (.var 1) (.cons (.bin .sub (.var 2) (.var 4)) .nil)))) (.con (.bl true))))))) (h := fun i : Nat => D.int (1 + (i : Nat))) (σ := Option D × Option D) (mk := fun acc s => [some (eP p), some (.str kd), some (.int n), some (.lst acc), s.1, s.2, none]) (g := fun i => (vals p kd (i+1)).flatMap fun v => (rws p kd (n - (i+1))).map fun r => D.tup (v :: r)) (m := m) (l := List.range n) (acc0 := []) (none, none) (fun i hi acc s hl => by
      have hi := List.mem_range.mp hi
      obtain ⟨s', h'⟩ := hin i hi acc s.2 (by have : ([] : List D).length = 0 := rfl; omega)
      refine ⟨[some (eP p), some (.str kd), some (.int n), some (.lst acc), some (.int (1 + (i : Nat))), s.2, none], by simp [asg_N], (some (.int (1 + (i : Nat))), s'), ?_⟩
      have r1 : run (FS P) (k + (2 * n + 2)) 47 [eP p, .str kd, .int (1 + (i : Int))] m = .ok (.lst (vals p kd (i+1))) m := by
        have e1 : (1 + (i : Int)) = ((i + 1 : Nat) : Int) := by omega
        rw [e1]
        have := hV (i + 1) (by omega) kd hk (k + 2 * (n - (i + 1)))
        rw [← this]
        congr 1
        omega
      simp at h'
      simp [r1]
      exact h')
    obtain ⟨s, h⟩ := hloop
    have hrg := rngR_1 (m := m) (n := n) (by omega)
    simp at h
    simp [f__law_rows, asg_N, hn0, hrg]
    rw [h]
    simp [List.map_flatMap, Function.comp_def]
end
end K00
end
section
set_option linter.all false
set_option autoImplicit false
set_option maxRecDepth 100000
/-! KM11: _law_fields, _law_values. -/
namespace K00
open Mt
section
variable {P : List Nat} {p : Prog} {N : Nat} {m : Mem}
theorem fit_eF {fs : List Nm} (h : ∀ n ∈ fs, okS n = true) : fit (eF fs) = true := by
  unfold fit
  rw [Bool.and_eq_true]
  refine ⟨plains_str h, ?_⟩
  show Nat.ble (deeps (fs.map .str) + 1) 64 = true
  rw [deeps_str]
  rfl
theorem cEq_eF {fs : List Nm} (h : ∀ n ∈ fs, okS n = true) : cEq m (eF fs) (.tup []) = .ok (.bl fs.isEmpty) m := by
  have := cEq_nilT (m := m) (fit_eF h)
  unfold eF
  rw [this]
  cases fs <;> rfl
theorem flat_nil {α β : Type} (l : List α) : (l.flatMap fun _ => ([] : List β)) = [] := by
  induction l with
  | nil => rfl
  | cons a l ih => rw [List.flatMap_cons, ih]; rfl
theorem lawF_step (hp : WfP p) (hb : Bd p N) {n : Nat} (hn : n ≤ N) (hV : ∀ i ≤ n, LV P p m i) (hF : ∀ i < n, LF P p m i) : LF P p m n := by
  intro fs hfs k
  show run (FS P) ((k + (2 * n + 2)) + 1) _ _ _ = _
  rw [run_wt (f := f__law_fields) rfl]
  apply runF_rt rfl
  have hs := hb.small
  have hr := hfs.bd hb hn
  have hmem := hfs.mem hp
  have hc := cEq_eF (m := m) (fs := fs) fun f hf => hp.okn f (hmem f hf)
  cases fs with
  | nil =>
    rw [fls_nil]
    by_cases hn0 : n = 0
    · subst hn0
      simp [f__law_fields, hc]
    · simp [f__law_fields, hc, hn0]
  | cons f fs =>
    have hf : f ∈ names p := hmem f (by simp)
    rw [fls_cons] at hr ⊢
    rw [List.map_flatMap]
    have hpl : ∀ i, fit (.lst ((fls p fs (n - (i + 1))).map .tup)) = true := fun i => fit_tups (n := n - (i + 1)) (by omega) fun r hr => pl_fls (N := n) (fun j hj k' v hv => pl_vals hp j k' v hv) fs _ (by omega) r hr
    have hfl := FsOk.len hp hfs
    have hin : ∀ i < n, ∀ acc (s : Option D), acc.length + ((vals p f (i+1)).flatMap fun v => (fls p fs (n - (i+1))).map fun r => D.tup (v :: r)).length ≤ lineN → ∃ s', forGo (.tgN 6) (es (ctxK (FS P) (k + (2 * n + 2)) (P.getD 0 0, [])) (.asg (.tgN 3) (.bin .add (.var 3) (.lc (.bin .add (.tup (.cons (.var 6) .nil)) (.var 7)) (.tgN 7) (.var 5) (.con (.bl true)))))) (vals p f (i+1)) [some (eP p), some (eF (f :: fs)), some (.int n), some (.lst acc), some (.int (1 + (i : Nat))), some (.lst ((fls p fs (n - (i+1))).map .tup)), s, none] m = .nx [some (eP p), some (eF (f :: fs)), some (.int n), some (.lst (acc ++ (vals p f (i+1)).flatMap fun v => (fls p fs (n - (i+1))).map fun r => D.tup (v :: r))), some (.int (1 + (i : Nat))), some (.lst ((fls p fs (n - (i+1))).map .tup)), s', none] m := by
      intro i hi acc s hac
      have := forGo_acc (tg := .tgN 6) (b := es (ctxK (FS P) (k + (2 * n + 2)) (P.getD 0 0, [])) (.asg (.tgN 3) (.bin .add (.var 3) (.lc (.bin .add (.tup (.cons (.var 6) .nil)) (.var 7)) (.tgN 7) (.var 5) (.con (.bl true)))))) (h := id) (m := m) (l := vals p f (i+1)) (g := fun v => (fls p fs (n - (i+1))).map fun r => D.tup (v :: r)) (acc0 := acc) (mk := fun acc (s : Option D) => [some (eP p), some (eF (f :: fs)), some (.int n), some (.lst acc), some (.int (1 + (i : Nat))), some (.lst ((fls p fs (n - (i+1))).map .tup)), s, none]) s (fun v hv acc s' hl => ⟨[some (eP p), some (eF (f :: fs)), some (.int n), some (.lst acc), some (.int (1 + (i : Nat))), some (.lst ((fls p fs (n - (i+1))).map .tup)), some v, none], by simp [asg_N], some v, by
        have l1 : lcGo (turn (.tgN 7) (xCon (.bl true)) (give1 (x2 bAdd (xTup (xCons (xVar 6) (xCon (.tup [])))) (xVar 7))) [some (eP p), some (eF (f :: fs)), some (.int n), some (.lst acc), some (.int (1 + (i : Nat))), some (.lst ((fls p fs (n - (i+1))).map .tup)), some v, none]) ((fls p fs (n - (i+1))).map .tup) [] m = .ok ((fls p fs (n - (i+1))).map fun r => D.tup (v :: r)) m := by
          refine lcGo_map1 (h := D.tup) (fun r hr => ?_) (hfs.tl.bd hb (by omega))
          have := fls_len r hr
          have e2 : bAdd m (.tup [v]) (.tup r) = .ok (.tup (v :: r)) m := bAdd_tup (by simp at hfl ⊢; unfold lineN; omega)
          have e3 : Nat.ble 1 lineN = true := rfl
          simp [asg_N, e2, e3]
        have e4 : bAdd m (.lst acc) (.lst ((fls p fs (n - (i+1))).map fun r => D.tup (v :: r))) = .ok (.lst (acc ++ (fls p fs (n - (i+1))).map fun r => D.tup (v :: r))) m := bAdd_lst (by omega)
        simp [l1, e4, asg_N]⟩)
      rw [List.map_id] at this
      exact this
    have htot : ((List.range n).flatMap fun i => (vals p f (i+1)).flatMap fun v => (fls p fs (n - (i+1))).map fun r => D.tup (v :: r)).length ≤ lineN := by
      refine Nat.le_trans (Nat.le_of_eq ?_) hr
      simp [List.length_flatMap, Function.comp_def]
    have hloop := forGo_acc (tg := .tgN 4) (b := es (ctxK (FS P) (k + (2 * n + 2)) (P.getD 0 0, [])) (.seq (.asg (.tgN 5) (.call 46 (.cons (.var 0) (.cons (.slL (.var 1) (.con (.int 1))) (.cons (.bin .sub (.var 2) (.var 4)) .nil)))))
    (.loop (.tgN 6) (.ite (.cmp .ne (.var 5) (.lst .nil)) (.call 47 (.cons (.var 0) (.cons (.idx (.var 1) (.con (.int 0))) (.cons (.var 4) .nil)))) (.lst .nil))
    (.asg (.tgN 3) (.bin .add (.var 3) (.lc (.bin .add (.tup (.cons (.var 6) .nil)) (.var 7)) (.tgN 7) (.var 5) (.con (.bl true)))))))) (h := fun i : Nat => D.int (1 + (i : Nat))) (σ := Option D × Option D × Option D) (mk := fun acc s => [some (eP p), some (eF (f :: fs)), some (.int n), some (.lst acc), s.1, s.2.1, s.2.2, none]) (g := fun i => (vals p f (i+1)).flatMap fun v => (fls p fs (n - (i+1))).map fun r => D.tup (v :: r)) (m := m) (l := List.range n) (acc0 := []) (none, none, none) (fun i hi acc s hl => by
      have hi := List.mem_range.mp hi
      have r1 : run (FS P) (k + (2 * n + 2)) 47 [eP p, .str f, .int (1 + (i : Int))] m = .ok (.lst (vals p f (i+1))) m := by
        have e1 : (1 + (i : Int)) = ((i + 1 : Nat) : Int) := by omega
        rw [e1]
        have := hV (i + 1) (by omega) f hf (k + 2 * (n - (i + 1)))
        rw [← this]
        congr 1
        omega
      have e1 : (n : Int) - (1 + (i : Int)) = ((n - (i + 1) : Nat) : Int) := by omega
      have r2 : run (FS P) (k + (2 * n + 2)) 46 [eP p, eF fs, .int ((n - (i + 1) : Nat) : Int)] m = .ok (.lst ((fls p fs (n - (i+1))).map .tup)) m := by
        have := hF (n - (i + 1)) (by omega) fs hfs.tl (k + 2 * (i + 1) - 1)
        rw [← this]
        congr 1
        omega
      have sl : slLR m (eF (f :: fs)) (.int 1) = .ok (eF fs) m := slL_tup1
      have ix0 : idxR m (eF (f :: fs)) (.int 0) = .ok (.str f) m := idx_tup0
      have ne := cNe_nil (m := m) (hpl i)
      refine ⟨[some (eP p), some (eF (f :: fs)), some (.int n), some (.lst acc), some (.int (1 + (i : Nat))), s.2.1, s.2.2, none], by simp [asg_N], ?_⟩
      cases hE : (fls p fs (n - (i + 1))) with
      | nil =>
        rw [hE] at r2 ne
        refine ⟨(some (.int (1 + (i : Nat))), some (.lst []), s.2.2), ?_⟩
        simp at r2 ne
        simp [sl, e1, r2, ne, asg_N, forGo, flat_nil]
      | cons r0 rs =>
        obtain ⟨s', h'⟩ := hin i hi acc s.2.2 (by have : ([] : List D).length = 0 := rfl; omega)
        refine ⟨(some (.int (1 + (i : Nat))), some (.lst ((fls p fs (n - (i+1))).map .tup)), s'), ?_⟩
        rw [← hE]
        have hne : ((fls p fs (n - (i + 1))).map D.tup).isEmpty = false := by rw [hE]; rfl
        rw [hne] at ne
        simp at h'
        simp [sl, e1, r2, ne, asg_N, ix0, r1]
        exact h')
    obtain ⟨s, h⟩ := hloop
    have hrg := rngR_1 (m := m) (n := n) (by omega)
    simp at h
    simp [f__law_fields, asg_N, hc, hrg]
    rw [h]
    simp [List.map_flatMap, Function.comp_def]
theorem nl_len {p : Prog} (hp : WfP p) {k : Nm} {lo hi : Int} (h : lk p k = some (.num lo hi)) : 0 ≤ lo ∧ lo ≤ hi ∧ hi ≤ 99 := hp.bd h
theorem lawV_step (hg : GoodM m) (hp : WfP p) (hb : Bd p N) {n : Nat} (hn : n ≤ N) (hR : ∀ i < n, LR P p m i) (hF : ∀ i < n, LF P p m i) : LV P p m n := by
  intro kd hk k
  show run (FS P) ((k + (2 * n + 1)) + 1) _ _ _ = _
  rw [run_wt (f := f__law_values) rfl]
  apply runF_rt rfl
  have hs := hb.small
  obtain ⟨b, hl⟩ := lk_some hk
  have hv := hb.v n hn kd
  have rb : run (FS P) (k + (2 * n + 1)) 44 [eP p, .str kd] m = .ok (eB b) m := run_lawBody (k := k + 2 * n) hg hp hl
  cases n with
  | zero => simp [f__law_values, rb, asg_N, vals_0]
  | succ n =>
    have en : ¬ ((n : Int) + 1 < 1) := by omega
    have ec : ((n + 1 : Nat) : Int) = (n : Int) + 1 := by omega
    have e0 : idxR m (eB b) (.int 0) = .ok (.str b.tag) m := eB_tag
    have c1 := cEq_num (m := m) (b := b)
    have c2 := cEq_rows (m := m) (b := b)
    have e1 : ((n : Int) + 1 - 1) = (n : Int) := by omega
    have hRn := hR n (by omega)
    have hFn := hF n (by omega)
    have hq : k + (2 * (n + 1) + 1) = k + (2 * n + 3) := by omega
    rw [vals_s, hl] at hv ⊢
    rw [ec]
    rw [hq] at rb ⊢
    generalize hK : k + (2 * n + 3) = K at *
    cases b with
    | num lo hi =>
      obtain ⟨h1, h2, h3⟩ := nl_len hp hl
      have i1 : idxR m (eB (.num lo hi)) (.int 1) = .ok (.int lo) m := idx_tup1
      have i2 : idxR m (eB (.num lo hi)) (.int 2) = .ok (.int hi) m := rfl
      have lr := (lrng_num (m := m) h1 h3).resolve_right (fun h => h h2)
      by_cases hn0 : n = 0
      · subst hn0
        simp [f__law_values, rb, asg_N, e0, c1, i1, i2, lr]
      · have h11 : ¬ (((n : Int) + 1) = 1) := by omega
        have h12 : decide (((n : Int) + 1) = 1) = false := decide_eq_false h11
        simp [f__law_values, rb, asg_N, e0, c1, hn0, en, h11]
    | rows k' =>
      have i1 : idxR m (eB (.rows k')) (.int 1) = .ok (.str k') m := idx_tup1
      have r1 : run (FS P) K 45 [eP p, .str k', .int (n : Int)] m = .ok (.lst ((rws p k' n).map .tup)) m := by rw [← hK]; exact hRn k' (hp.bd hl) k
      simp [f__law_values, rb, asg_N, e0, c1, c2, i1, r1, en, e1]
    | mk ms =>
      have i1 : idxR m (eB (.mk ms)) (.int 1) = .ok (.tup (ms.map eM)) m := idx_tup1
      dsimp only at hv
      have hloop := forGo_acc (tg := .tgT (.cons (.tgN 5) (.cons (.tgN 6) .nil))) (b := es (ctxK (FS P) K (P.getD 0 0, [])) (.asg (.tgN 4) (.bin .add (.var 4) (.lc (.tup (.cons (.var 5) (.cons (.var 7) .nil))) (.tgN 7) (.call 46 (.cons (.var 0) (.cons (.var 6) (.cons (.bin .sub (.var 2) (.con (.int 1))) .nil)))) (.con (.bl true)))))) (h := eM) (σ := Option D × Option D) (mk := fun acc s => [some (eP p), some (.str kd), some (.int ((n : Int) + 1)), some (eB (.mk ms)), some (.lst acc), s.1, s.2, none]) (g := fun x => (fls p x.2 n).map fun vs => D.tup [.str x.1, .tup vs]) (m := m) (l := ms) (acc0 := []) (none, none) (fun x hx acc s hl2 => by
        refine ⟨[some (eP p), some (.str kd), some (.int ((n : Int) + 1)), some (eB (.mk ms)), some (.lst acc), some (.str x.1), some (eF x.2), none], by simp [asg_N, eM], (some (.str x.1), some (eF x.2)), ?_⟩
        have hfs : FsOk p x.2 := ⟨kd, ms, hl, x, hx, List.suffix_refl _⟩
        have r1 : run (FS P) K 46 [eP p, eF x.2, .int (n : Int)] m = .ok (.lst ((fls p x.2 n).map .tup)) m := by rw [← hK]; exact hFn _ hfs k
        have l1 : lcGo (turn (.tgN 7) (xCon (.bl true)) (give1 (xTup (xCons (xVar 5) (xCons (xVar 7) (xCon (.tup [])))))) [some (eP p), some (.str kd), some (.int ((n : Int) + 1)), some (eB (.mk ms)), some (.lst acc), some (.str x.1), some (eF x.2), none]) ((fls p x.2 n).map .tup) [] m = .ok ((fls p x.2 n).map fun vs => D.tup [.str x.1, .tup vs]) m := by
          refine lcGo_map1 (h := D.tup) (fun r hr => ?_) (hfs.bd hb (by omega))
          have e3 : Nat.ble 2 lineN = true := rfl
          simp [asg_N, e3]
        have e4 : bAdd m (.lst acc) (.lst ((fls p x.2 n).map fun vs => D.tup [.str x.1, .tup vs])) = .ok (.lst (acc ++ (fls p x.2 n).map fun vs => D.tup [.str x.1, .tup vs])) m := bAdd_lst (by have : ([] : List D).length = 0 := rfl; omega)
        simp [asg_N, e1, r1, l1, e4])
      obtain ⟨s, h⟩ := hloop
      simp at h
      simp [f__law_values, rb, asg_N, e0, c1, c2, i1, en]
      rw [h]
      simp
theorem run_lawV (hg : GoodM m) (hp : WfP p) (hb : Bd p N) : ∀ n ≤ N, LV P p m n ∧ LR P p m n ∧ LF P p m n := by
  intro n
  induction n using Nat.strongRecOn with
  | _ n ih =>
    intro hn
    have hV : LV P p m n := lawV_step hg hp hb hn (fun i hi => (ih i hi (by omega)).2.1) (fun i hi => (ih i hi (by omega)).2.2)
    have hV' : ∀ i ≤ n, LV P p m i := fun i hi => by
      rcases Nat.lt_or_eq_of_le hi with h | h
      · exact (ih i h (by omega)).1
      · exact h ▸ hV
    exact ⟨hV, lawR_step hp hb hn hV' (fun i hi => (ih i hi (by omega)).2.1), lawF_step hp hb hn hV' (fun i hi => (ih i hi (by omega)).2.2)⟩
end
end K00
end
section
set_option linter.all false
set_option autoImplicit false
set_option maxRecDepth 100000
/-! KM12: all_of, lists_of, tuples_of. -/
namespace Mt
@[simp] theorem inner_eq {el : X} {tg : A} {it t : X} {e : Env} {m : Mem} : inner el tg it t e m = (it e m).bind fun x m => match itOf m x with
  | some (xs, m) => lcGo (turn tg t (give1 el) (wipeE e (tgSlots tg))) xs [] m
  | none => .bad 73 := id rfl
theorem lcGo_flat {f : D → Mem → R (List D)} {g : D → List D} {m : Mem} {l : List D} (hf : ∀ x ∈ l, f x m = .ok (g x) m) (hl : (l.flatMap g).length ≤ lineN) : lcGo f l [] m = .ok (l.flatMap g) m := by
  have := lcGo_map (h := id) (f := f) (g := g) (m := m) (l := l) (acc := []) hf (by simpa using hl)
  simpa using this
end Mt
namespace K00
open Mt
section
variable {P : List Nat} {p : Prog} {N : Nat} {m : Mem}
def AV (P : List Nat) (p : Prog) (m : Mem) (n : Nat) : Prop := ∀ kd ∈ names p, ∀ k, run (FS P) (k + (2 * n + 2)) ix_all_of [eP p, .str kd, .int n] m = .ok (.lst (vals p kd n)) m
def AL (P : List Nat) (p : Prog) (m : Mem) (n : Nat) : Prop := ∀ kd ∈ names p, ∀ k, run (FS P) (k + (2 * n + 3)) ix_lists_of [eP p, .str kd, .int n] m = .ok (.lst ((rws p kd n).map .tup)) m
def AT (P : List Nat) (p : Prog) (m : Mem) (n : Nat) : Prop := ∀ fs, FsOk p fs → ∀ k, run (FS P) (k + (2 * n + 3)) ix_tuples_of [eP p, eF fs, .int n] m = .ok (.lst ((fls p fs n).map .tup)) m
theorem allL_step (hp : WfP p) (hb : Bd p N) {n : Nat} (hn : n ≤ N) (hV : ∀ i ≤ n, AV P p m i) (hR : ∀ i < n, AL P p m i) : AL P p m n := by
  intro kd hk k
  show run (FS P) ((k + (2 * n + 2)) + 1) _ _ _ = _
  rw [run_wt (f := f_lists_of) rfl]
  apply runF_rt rfl
  have hs := hb.small
  have hr := hb.r n hn kd
  by_cases hn0 : n = 0
  · subst hn0
    simp [f_lists_of, asg_N, rws_0]
  · rw [rws_s hn0] at hr ⊢
    rw [List.map_flatMap]
    have htot : ((List.range n).flatMap fun i => (vals p kd (i+1)).flatMap fun v => (rws p kd (n - (i+1))).map fun r => D.tup (v :: r)).length ≤ lineN := by
      refine Nat.le_trans (Nat.le_of_eq ?_) hr
      simp [List.length_flatMap, Function.comp_def]
    have hloop := forGo_acc (tg := .tgN 4) (b := es (ctxK (FS P) (k + (2 * n + 2)) (P.getD 0 0, [])) (.seq (.asg (.tgN 5) (.call 32 (.cons (.var 0) (.cons (.var 1) (.cons (.bin .sub (.var 2) (.var 4)) .nil)))))
    (.asg (.tgN 3) (.bin .add (.var 3) (.lc2 (.bin .add (.tup (.cons (.var 6) .nil)) (.var 7)) (.tgN 6) (.call 31 (.cons (.var 0) (.cons (.var 1) (.cons (.var 4) .nil)))) (.con (.bl true)) (.tgN 7) (.var 5) (.con (.bl true))))))) (h := fun i : Nat => D.int (1 + (i : Nat))) (σ := Option D × Option D) (mk := fun acc s => [some (eP p), some (.str kd), some (.int n), some (.lst acc), s.1, s.2, none, none]) (g := fun i => (vals p kd (i+1)).flatMap fun v => (rws p kd (n - (i+1))).map fun r => D.tup (v :: r)) (m := m) (l := List.range n) (acc0 := []) (none, none) (fun i hi acc s hl => by
      have hi := List.mem_range.mp hi
      refine ⟨[some (eP p), some (.str kd), some (.int n), some (.lst acc), some (.int (1 + (i : Nat))), s.2, none, none], by simp [asg_N], (some (.int (1 + (i : Nat))), some (.lst ((rws p kd (n - (i+1))).map .tup))), ?_⟩
      have r1 : run (FS P) (k + (2 * n + 2)) 31 [eP p, .str kd, .int (1 + (i : Int))] m = .ok (.lst (vals p kd (i+1))) m := by
        have e1 : (1 + (i : Int)) = ((i + 1 : Nat) : Int) := by omega
        rw [e1]
        have := hV (i + 1) (by omega) kd hk (k + 2 * (n - (i + 1)))
        rw [← this]
        congr 1
        omega
      have e1 : (n : Int) - (1 + (i : Int)) = ((n - (i + 1) : Nat) : Int) := by omega
      have r2 : run (FS P) (k + (2 * n + 2)) 32 [eP p, .str kd, .int ((n - (i + 1) : Nat) : Int)] m = .ok (.lst ((rws p kd (n - (i+1))).map .tup)) m := by
        have := hR (n - (i + 1)) (by omega) kd hk (k + 2 * (i + 1) - 1)
        rw [← this]
        congr 1
        omega
      have l1 : lcGo (turn (.tgN 6) (xCon (.bl true)) (inner (x2 bAdd (xTup (xCons (xVar 6) (xCon (.tup [])))) (xVar 7)) (.tgN 7) (xVar 5) (xCon (.bl true))) [some (eP p), some (.str kd), some (.int n), some (.lst acc), some (.int (1 + (i : Nat))), some (.lst ((rws p kd (n - (i+1))).map .tup)), none, none]) (vals p kd (i+1)) [] m = .ok ((vals p kd (i+1)).flatMap fun v => (rws p kd (n - (i+1))).map fun r => D.tup (v :: r)) m := by
        refine lcGo_flat (fun v hv => ?_) (by have : ([] : List D).length = 0 := rfl; omega)
        have l2 : lcGo (turn (.tgN 7) (xCon (.bl true)) (give1 (x2 bAdd (xTup (xCons (xVar 6) (xCon (.tup [])))) (xVar 7))) [some (eP p), some (.str kd), some (.int n), some (.lst acc), some (.int (1 + (i : Nat))), some (.lst ((rws p kd (n - (i+1))).map .tup)), some v, none]) ((rws p kd (n - (i+1))).map .tup) [] m = .ok ((rws p kd (n - (i+1))).map fun r => D.tup (v :: r)) m := by
          refine lcGo_map1 (h := D.tup) (fun r hr => ?_) (hb.r _ (by omega) kd)
          have := rws_len r hr
          have e2 : bAdd m (.tup [v]) (.tup r) = .ok (.tup (v :: r)) m := bAdd_tup (by simp; unfold lineN; omega)
          have e3 : Nat.ble 1 lineN = true := rfl
          simp [asg_N, e2, e3]
        simp [asg_N, l2]
      have e4 : bAdd m (.lst acc) (.lst ((vals p kd (i+1)).flatMap fun v => (rws p kd (n - (i+1))).map fun r => D.tup (v :: r))) = .ok (.lst (acc ++ (vals p kd (i+1)).flatMap fun v => (rws p kd (n - (i+1))).map fun r => D.tup (v :: r))) m := bAdd_lst (by have : ([] : List D).length = 0 := rfl; omega)
      simp [r1, e1, r2, l1, e4, asg_N])
    obtain ⟨s, h⟩ := hloop
    have hrg := rngR_1 (m := m) (n := n) (by omega)
    simp at h
    simp [f_lists_of, asg_N, hn0, hrg]
    rw [h]
    simp [List.map_flatMap, Function.comp_def]
theorem allT_step (hp : WfP p) (hb : Bd p N) {n : Nat} (hn : n ≤ N) (hV : ∀ i ≤ n, AV P p m i) (hF : ∀ i < n, AT P p m i) : AT P p m n := by
  intro fs hfs k
  show run (FS P) ((k + (2 * n + 2)) + 1) _ _ _ = _
  rw [run_wt (f := f_tuples_of) rfl]
  apply runF_rt rfl
  have hs := hb.small
  have hr := hfs.bd hb hn
  have hmem := hfs.mem hp
  have hc := cEq_eF (m := m) (fs := fs) fun f hf => hp.okn f (hmem f hf)
  cases fs with
  | nil =>
    rw [fls_nil]
    by_cases hn0 : n = 0
    · subst hn0
      simp [f_tuples_of, hc]
    · simp [f_tuples_of, hc, hn0]
  | cons f fs =>
    have hf : f ∈ names p := hmem f (by simp)
    rw [fls_cons] at hr ⊢
    rw [List.map_flatMap]
    have hpl : ∀ i, fit (.lst ((fls p fs (n - (i + 1))).map .tup)) = true := fun i => fit_tups (n := n - (i + 1)) (by omega) fun r hr => pl_fls (N := n) (fun j hj k' v hv => pl_vals hp j k' v hv) fs _ (by omega) r hr
    have hfl := FsOk.len hp hfs
    have htot : ((List.range n).flatMap fun i => (vals p f (i+1)).flatMap fun v => (fls p fs (n - (i+1))).map fun r => D.tup (v :: r)).length ≤ lineN := by
      refine Nat.le_trans (Nat.le_of_eq ?_) hr
      simp [List.length_flatMap, Function.comp_def]
    have hloop := forGo_acc (tg := .tgN 4) (b := es (ctxK (FS P) (k + (2 * n + 2)) (P.getD 0 0, [])) (.seq (.asg (.tgN 5) (.call 33 (.cons (.var 0) (.cons (.slL (.var 1) (.con (.int 1))) (.cons (.bin .sub (.var 2) (.var 4)) .nil)))))
    (.ite (.cmp .ne (.var 5) (.lst .nil))
    (.asg (.tgN 3) (.bin .add (.var 3) (.lc2 (.bin .add (.tup (.cons (.var 6) .nil)) (.var 7)) (.tgN 6) (.call 31 (.cons (.var 0) (.cons (.idx (.var 1) (.con (.int 0))) (.cons (.var 4) .nil)))) (.con (.bl true)) (.tgN 7) (.var 5) (.con (.bl true)))))
    .skip))) (h := fun i : Nat => D.int (1 + (i : Nat))) (σ := Option D × Option D) (mk := fun acc s => [some (eP p), some (eF (f :: fs)), some (.int n), some (.lst acc), s.1, s.2, none, none]) (g := fun i => (vals p f (i+1)).flatMap fun v => (fls p fs (n - (i+1))).map fun r => D.tup (v :: r)) (m := m) (l := List.range n) (acc0 := []) (none, none) (fun i hi acc s hl => by
      have hi := List.mem_range.mp hi
      have r1 : run (FS P) (k + (2 * n + 2)) 31 [eP p, .str f, .int (1 + (i : Int))] m = .ok (.lst (vals p f (i+1))) m := by
        have e1 : (1 + (i : Int)) = ((i + 1 : Nat) : Int) := by omega
        rw [e1]
        have := hV (i + 1) (by omega) f hf (k + 2 * (n - (i + 1)))
        rw [← this]
        congr 1
        omega
      have e1 : (n : Int) - (1 + (i : Int)) = ((n - (i + 1) : Nat) : Int) := by omega
      have r2 : run (FS P) (k + (2 * n + 2)) 33 [eP p, eF fs, .int ((n - (i + 1) : Nat) : Int)] m = .ok (.lst ((fls p fs (n - (i+1))).map .tup)) m := by
        have := hF (n - (i + 1)) (by omega) fs hfs.tl (k + 2 * (i + 1) - 1)
        rw [← this]
        congr 1
        omega
      have sl : slLR m (eF (f :: fs)) (.int 1) = .ok (eF fs) m := slL_tup1
      have ix0 : idxR m (eF (f :: fs)) (.int 0) = .ok (.str f) m := idx_tup0
      have ne := cNe_nil (m := m) (hpl i)
      refine ⟨[some (eP p), some (eF (f :: fs)), some (.int n), some (.lst acc), some (.int (1 + (i : Nat))), s.2, none, none], by simp [asg_N], ?_⟩
      refine ⟨(some (.int (1 + (i : Nat))), some (.lst ((fls p fs (n - (i+1))).map .tup))), ?_⟩
      cases hE : (fls p fs (n - (i + 1))) with
      | nil =>
        rw [hE] at r2 ne
        simp at r2 ne
        simp [sl, e1, r2, ne, asg_N, flat_nil]
      | cons r0 rs =>
        rw [← hE]
        have hne : ((fls p fs (n - (i + 1))).map D.tup).isEmpty = false := by rw [hE]; rfl
        rw [hne] at ne
        have l1 : lcGo (turn (.tgN 6) (xCon (.bl true)) (inner (x2 bAdd (xTup (xCons (xVar 6) (xCon (.tup [])))) (xVar 7)) (.tgN 7) (xVar 5) (xCon (.bl true))) [some (eP p), some (eF (f :: fs)), some (.int n), some (.lst acc), some (.int (1 + (i : Nat))), some (.lst ((fls p fs (n - (i+1))).map .tup)), none, none]) (vals p f (i+1)) [] m = .ok ((vals p f (i+1)).flatMap fun v => (fls p fs (n - (i+1))).map fun r => D.tup (v :: r)) m := by
          refine lcGo_flat (fun v hv => ?_) (by have : ([] : List D).length = 0 := rfl; omega)
          have l2 : lcGo (turn (.tgN 7) (xCon (.bl true)) (give1 (x2 bAdd (xTup (xCons (xVar 6) (xCon (.tup [])))) (xVar 7))) [some (eP p), some (eF (f :: fs)), some (.int n), some (.lst acc), some (.int (1 + (i : Nat))), some (.lst ((fls p fs (n - (i+1))).map .tup)), some v, none]) ((fls p fs (n - (i+1))).map .tup) [] m = .ok ((fls p fs (n - (i+1))).map fun r => D.tup (v :: r)) m := by
            refine lcGo_map1 (h := D.tup) (fun r hr => ?_) (hfs.tl.bd hb (by omega))
            have := fls_len r hr
            have e2 : bAdd m (.tup [v]) (.tup r) = .ok (.tup (v :: r)) m := bAdd_tup (by simp at hfl ⊢; unfold lineN; omega)
            have e3 : Nat.ble 1 lineN = true := rfl
            simp [asg_N, e2, e3]
          simp [asg_N, l2]
        have e4 : bAdd m (.lst acc) (.lst ((vals p f (i+1)).flatMap fun v => (fls p fs (n - (i+1))).map fun r => D.tup (v :: r))) = .ok (.lst (acc ++ (vals p f (i+1)).flatMap fun v => (fls p fs (n - (i+1))).map fun r => D.tup (v :: r))) m := bAdd_lst (by have : ([] : List D).length = 0 := rfl; omega)
        simp [sl, e1, r2, ne, asg_N, ix0, r1, l1, e4])
    obtain ⟨s, h⟩ := hloop
    have hrg := rngR_1 (m := m) (n := n) (by omega)
    simp at h
    simp [f_tuples_of, asg_N, hc, hrg]
    rw [h]
    simp [List.map_flatMap, Function.comp_def]
theorem allV_step (hp : WfP p) (hb : Bd p N) {n : Nat} (hn : n ≤ N) (hR : ∀ i < n, AL P p m i) (hF : ∀ i < n, AT P p m i) : AV P p m n := by
  intro kd hk k
  show run (FS P) ((k + (2 * n + 1)) + 1) _ _ _ = _
  rw [run_wt (f := f_all_of) rfl]
  apply runF_rt rfl
  have hs := hb.small
  obtain ⟨b, hl⟩ := lk_some hk
  have hv := hb.v n hn kd
  have rb : run (FS P) (k + (2 * n + 1)) 8 [eP p, .str kd] m = .ok (eB b) m := run_bodyW (k := k + 2 * n) hp hl
  cases n with
  | zero => simp [f_all_of, rb, asg_N, vals_0]
  | succ n =>
    have en : ¬ ((n : Int) + 1 < 1) := by omega
    have ec : ((n + 1 : Nat) : Int) = (n : Int) + 1 := by omega
    have e0 : idxR m (eB b) (.int 0) = .ok (.str b.tag) m := eB_tag
    have c1 := cEq_num (m := m) (b := b)
    have c2 := cEq_rows (m := m) (b := b)
    have e1 : ((n : Int) + 1 - 1) = (n : Int) := by omega
    have hRn := hR n (by omega)
    have hFn := hF n (by omega)
    have hq : k + (2 * (n + 1) + 1) = k + (2 * n + 3) := by omega
    rw [vals_s, hl] at hv ⊢
    rw [ec]
    rw [hq] at rb ⊢
    generalize hK : k + (2 * n + 3) = K at *
    cases b with
    | num lo hi =>
      obtain ⟨h1, h2, h3⟩ := nl_len hp hl
      have i1 : idxR m (eB (.num lo hi)) (.int 1) = .ok (.int lo) m := idx_tup1
      have i2 : idxR m (eB (.num lo hi)) (.int 2) = .ok (.int hi) m := rfl
      have lr := (lrng_num (m := m) h1 h3).resolve_right (fun h => h h2)
      by_cases hn0 : n = 0
      · subst hn0
        simp [f_all_of, rb, asg_N, e0, c1, i1, i2, lr]
      · have h11 : ¬ (((n : Int) + 1) = 1) := by omega
        simp [f_all_of, rb, asg_N, e0, c1, hn0, en, h11]
    | rows k' =>
      have i1 : idxR m (eB (.rows k')) (.int 1) = .ok (.str k') m := idx_tup1
      have r1 : run (FS P) K 32 [eP p, .str k', .int (n : Int)] m = .ok (.lst ((rws p k' n).map .tup)) m := by rw [← hK]; exact hRn k' (hp.bd hl) k
      simp [f_all_of, rb, asg_N, e0, c1, c2, i1, r1, en, e1]
    | mk ms =>
      have i1 : idxR m (eB (.mk ms)) (.int 1) = .ok (.tup (ms.map eM)) m := idx_tup1
      dsimp only at hv
      have hloop := forGo_acc (tg := .tgT (.cons (.tgN 5) (.cons (.tgN 6) .nil))) (b := es (ctxK (FS P) K (P.getD 0 0, [])) (.asg (.tgN 4) (.bin .add (.var 4) (.lc (.tup (.cons (.var 5) (.cons (.var 7) .nil))) (.tgN 7) (.call 33 (.cons (.var 0) (.cons (.var 6) (.cons (.bin .sub (.var 2) (.con (.int 1))) .nil)))) (.con (.bl true)))))) (h := eM) (σ := Option D × Option D) (mk := fun acc s => [some (eP p), some (.str kd), some (.int ((n : Int) + 1)), some (eB (.mk ms)), some (.lst acc), s.1, s.2, none]) (g := fun x => (fls p x.2 n).map fun vs => D.tup [.str x.1, .tup vs]) (m := m) (l := ms) (acc0 := []) (none, none) (fun x hx acc s hl2 => by
        refine ⟨[some (eP p), some (.str kd), some (.int ((n : Int) + 1)), some (eB (.mk ms)), some (.lst acc), some (.str x.1), some (eF x.2), none], by simp [asg_N, eM], (some (.str x.1), some (eF x.2)), ?_⟩
        have hfs : FsOk p x.2 := ⟨kd, ms, hl, x, hx, List.suffix_refl _⟩
        have r1 : run (FS P) K 33 [eP p, eF x.2, .int (n : Int)] m = .ok (.lst ((fls p x.2 n).map .tup)) m := by rw [← hK]; exact hFn _ hfs k
        have l1 : lcGo (turn (.tgN 7) (xCon (.bl true)) (give1 (xTup (xCons (xVar 5) (xCons (xVar 7) (xCon (.tup [])))))) [some (eP p), some (.str kd), some (.int ((n : Int) + 1)), some (eB (.mk ms)), some (.lst acc), some (.str x.1), some (eF x.2), none]) ((fls p x.2 n).map .tup) [] m = .ok ((fls p x.2 n).map fun vs => D.tup [.str x.1, .tup vs]) m := by
          refine lcGo_map1 (h := D.tup) (fun r hr => ?_) (hfs.bd hb (by omega))
          have e3 : Nat.ble 2 lineN = true := rfl
          simp [asg_N, e3]
        have e4 : bAdd m (.lst acc) (.lst ((fls p x.2 n).map fun vs => D.tup [.str x.1, .tup vs])) = .ok (.lst (acc ++ (fls p x.2 n).map fun vs => D.tup [.str x.1, .tup vs])) m := bAdd_lst (by have : ([] : List D).length = 0 := rfl; omega)
        simp [asg_N, e1, r1, l1, e4])
      obtain ⟨s, h⟩ := hloop
      simp at h
      simp [f_all_of, rb, asg_N, e0, c1, c2, i1, en]
      rw [h]
      simp
theorem run_allV (hp : WfP p) (hb : Bd p N) : ∀ n ≤ N, AV P p m n ∧ AL P p m n ∧ AT P p m n := by
  intro n
  induction n using Nat.strongRecOn with
  | _ n ih =>
    intro hn
    have hV : AV P p m n := allV_step hp hb hn (fun i hi => (ih i hi (by omega)).2.1) (fun i hi => (ih i hi (by omega)).2.2)
    have hV' : ∀ i ≤ n, AV P p m i := fun i hi => by
      rcases Nat.lt_or_eq_of_le hi with h | h
      · exact (ih i h (by omega)).1
      · exact h ▸ hV
    exact ⟨hV, allL_step hp hb hn hV' (fun i hi => (ih i hi (by omega)).2.1), allT_step hp hb hn hV' (fun i hi => (ih i hi (by omega)).2.2)⟩
end
end K00
end
section
set_option linter.all false
set_option autoImplicit false
set_option maxRecDepth 100000
/-! KM13: how many values; what is known of them. -/
namespace Mt
theorem intEq_dec {a b : Int} : intEq a b = decide (a = b) := by
  by_cases h : a = b
  · subst h
    simp only [decide_true]
    cases a <;> simp [intEq]
  · simp only [h, decide_false]
    cases a <;> cases b <;> simp_all [intEq]
theorem kyEq_i {a b : Int} : kyEq (.i a) (.i b) = decide (a = b) := intEq_dec
theorem kysEq_c {a b : Ky} {as bs : List Ky} : kysEq (a :: as) (b :: bs) = (kyEq a b && kysEq as bs) := by
  show (match kyEq a b with
    | true => kysEq as bs
    | false => false) = _
  cases kyEq a b <;> rfl
theorem at_mid {m m2 : Mem} {o : Option Ob} : (m ++ o :: m2)[m.length]? = some o := by simp
theorem set_mid {m m2 : Mem} {o o' : Option Ob} : (m ++ o :: m2).set m.length o' = m ++ o' :: m2 := by simp
theorem sumI_map {α : Type} {f : α → Nat} : ∀ (l : List α), sumI (l.map fun x => (f x : Int)) = ((l.map f).sum : Nat)
  | [] => rfl
  | a :: l => by
    show (f a : Int) + sumI (l.map fun x => (f x : Int)) = _
    rw [sumI_map, List.map_cons, List.sum_cons]
    push_cast
    rfl
theorem allInts_map {α : Type} {f : α → Int} : ∀ (l : List α), allInts (l.map fun x => D.int (f x)) = some (l.map f)
  | [] => rfl
  | a :: l => by
    show (match allInts (l.map fun x => D.int (f x)) with
      | some is => some (f a :: is)
      | none => none) = _
    rw [allInts_map]
    rfl
theorem oSum_map {α : Type} {m : Mem} {f : α → Nat} {l : List α} : oSum m [.lst (l.map fun x => D.int (f x : Int))] = .ok (.int ((l.map f).sum : Nat)) m := by
  show (match allInts (l.map fun x => D.int (f x : Int)) with
    | some is => R.ok (D.int (sumI is)) m
    | none => .bad 31) = _
  rw [allInts_map (f := fun x => (f x : Int))]
  dsimp only
  rw [sumI_map]
theorem nodup_len {α : Type} [DecidableEq α] : ∀ {l s : List α}, l.Nodup → (∀ x ∈ l, x ∈ s) → l.length ≤ s.length
  | [], _, _, _ => Nat.zero_le _
  | x :: l, s, h, hs => by
    rw [List.nodup_cons] at h
    have h1 := nodup_len (l := l) (s := s.erase x) h.2 (fun y hy => by
      have hne : y ≠ x := fun e => h.1 (e ▸ hy)
      exact (List.mem_erase_of_ne hne).mpr (hs y (by simp [hy])))
    have h2 := List.length_erase_of_mem (hs x (by simp))
    have h3 : 0 < s.length := List.length_pos_of_mem (hs x (by simp))
    simp
    omega
end Mt
namespace K00
open Mt
def cv (p : Prog) (k : Nm) (n : Nat) : Nat := (vals p k n).length
def cr (p : Prog) (k : Nm) (n : Nat) : Nat := (rws p k n).length
def cf (p : Prog) (fs : List Nm) (n : Nat) : Nat := (fls p fs n).length
theorem rngL_len : ∀ {n : Nat} {lo : Int}, (rngL lo n).length = n := by
  intro n lo
  rw [rngL_eq]
  simp
theorem cv_0 {p : Prog} {k : Nm} : cv p k 0 = 0 := rfl
theorem cv_s {p : Prog} {k : Nm} {n : Nat} : cv p k (n + 1) = match lk p k with
  | some (.num lo hi) => if n = 0 then (hi + 1 - lo).toNat else 0
  | some (.rows k') => cr p k' n
  | some (.mk ms) => (ms.map fun x => cf p x.2 n).sum
  | none => 0 := by
  unfold cv
  rw [vals_s]
  generalize lk p k = o
  cases o with
  | none => rfl
  | some b => cases b with
    | num lo hi =>
      dsimp only
      split
      · exact rngL_len
      · rfl
    | rows k' =>
      dsimp only
      rw [List.length_map]; rfl
    | mk ms =>
      dsimp only
      rw [List.length_flatMap]
      congr 1
      refine List.map_congr_left fun x _ => ?_
      rw [List.length_map]
      rfl
theorem sum_const {α : Type} {c : Nat} : ∀ (l : List α), (l.map fun _ => c).sum = l.length * c
  | [] => by simp
  | a :: l => by rw [List.map_cons, List.sum_cons, sum_const, List.length_cons, Nat.add_mul]; omega
theorem len_conv {V : Nat → List D} {W : Nat → List (List D)} {n : Nat} : ((List.range n).flatMap fun i => (V i).flatMap fun v => (W i).map (v :: ·)).length = ((List.range n).map fun i => (V i).length * (W i).length).sum := by
  rw [List.length_flatMap]
  congr 1
  refine List.map_congr_left fun i _ => ?_
  rw [List.length_flatMap]
  have : ((V i).map fun v => ((W i).map (v :: ·)).length) = (V i).map fun _ => (W i).length := List.map_congr_left fun v _ => List.length_map ..
  rw [this]
  exact sum_const _
theorem cr_0 {p : Prog} {k : Nm} : cr p k 0 = 1 := rfl
theorem cr_s {p : Prog} {k : Nm} {n : Nat} (h : n ≠ 0) : cr p k n = ((List.range n).map fun i => cv p k (i + 1) * cr p k (n - (i + 1))).sum := by
  unfold cr
  rw [rws_s h, len_conv]
  rfl
theorem cf_nil {p : Prog} {n : Nat} : cf p [] n = if n = 0 then 1 else 0 := by
  unfold cf
  rw [fls_nil]
  split <;> rfl
theorem cf_cons {p : Prog} {f : Nm} {fs : List Nm} {n : Nat} : cf p (f :: fs) n = ((List.range n).map fun i => cv p f (i + 1) * cf p fs (n - (i + 1))).sum := by
  unfold cf
  rw [fls_cons, len_conv]
  rfl
/-- a key of what is known -/
abbrev Kk := Nm × Nat × Bool
def enK (q : Kk) : List Ky := if q.2.2 then [.s q.1, .i q.2.1, .s sRows] else [.s q.1, .i q.2.1]
def eKk (q : Kk) : D := if q.2.2 then .tup [.str q.1, .int q.2.1, .str sRows] else .tup [.str q.1, .int q.2.1]
def vK (p : Prog) (q : Kk) : Nat := if q.2.2 then cr p q.1 q.2.1 else cv p q.1 q.2.1
def ent (p : Prog) (q : Kk) : List Ky × D := (enK q, .int (vK p q : Nat))
theorem enK_eq {a b : Kk} : kysEq (enK a) (enK b) = decide (a = b) := by
  obtain ⟨a1, a2, a3⟩ := a
  obtain ⟨b1, b2, b3⟩ := b
  have hs : kysEq [.s sRows] [.s sRows] = true := rfl
  have h0 : kysEq [] [] = true := rfl
  have h1 : kysEq [.s sRows] [] = false := rfl
  have h2 : kysEq [] [.s sRows] = false := rfl
  cases a3 <;> cases b3 <;> simp [enK, kysEq_c, kyEq_s, kyEq_i, h0, h1, h2] <;> by_cases e : a1 = b1 <;> by_cases e2 : a2 = b2 <;> simp [e, e2] <;> omega
theorem findT_ent {p : Prog} {q : Kk} : ∀ {kv : List Kk}, findT (enK q) (kv.map (ent p)) = if q ∈ kv then some (.int (vK p q : Nat)) else none
  | [] => rfl
  | a :: l => by
    show (match kysEq (enK a) (enK q) with
      | true => some (D.int (vK p a : Nat))
      | false => findT (enK q) (l.map (ent p))) = _
    rw [enK_eq, findT_ent]
    by_cases e : a = q
    · subst e; simp
    · have : q ≠ a := fun h => e h.symm
      simp [e, this]
theorem hasT_ent {p : Prog} {q : Kk} : ∀ {kv : List Kk}, hasT (enK q) (kv.map (ent p)) = decide (q ∈ kv)
  | [] => rfl
  | a :: l => by
    show (match kysEq (enK a) (enK q) with
      | true => true
      | false => hasT (enK q) (l.map (ent p))) = _
    rw [enK_eq, hasT_ent]
    by_cases e : a = q
    · subst e; simp
    · have : q ≠ a := fun h => e h.symm
      simp [e, this]
theorem setT_ent {p : Prog} {q : Kk} : ∀ {kv : List Kk}, setT (enK q) (.int (vK p q : Nat)) (kv.map (ent p)) = kv.map (ent p)
  | [] => rfl
  | a :: l => by
    show (match kysEq (enK a) (enK q) with
      | true => (enK a, D.int (vK p q : Nat)) :: setT (enK q) (.int (vK p q : Nat)) (l.map (ent p))
      | false => ent p a :: setT (enK q) (.int (vK p q : Nat)) (l.map (ent p))) = _
    rw [enK_eq, setT_ent]
    by_cases e : a = q
    · subst e; simp [ent]
    · simp [e]
def addK (q : Kk) (kv : List Kk) : List Kk := if q ∈ kv then kv else kv ++ [q]
theorem putT_ent {p : Prog} {q : Kk} {kv : List Kk} : putT (enK q) (.int (vK p q : Nat)) (kv.map (ent p)) = (addK q kv).map (ent p) := by
  unfold putT addK
  rw [hasT_ent]
  by_cases h : q ∈ kv
  · simp [h, setT_ent]
  · simp [h, ent]
structure OkK (p : Prog) (N : Nat) (kv : List Kk) : Prop where
  nd : kv.Nodup
  w : ∀ q ∈ kv, q.1 ∈ names p ∧ q.2.1 ≤ N
theorem OkK.nil {p : Prog} {N : Nat} : OkK p N [] := ⟨List.nodup_nil, fun _ h => by cases h⟩
theorem OkK.add {p : Prog} {N : Nat} {kv : List Kk} (h : OkK p N kv) {q : Kk} (h1 : q.1 ∈ names p) (h2 : q.2.1 ≤ N) : OkK p N (addK q kv) := by
  unfold addK
  by_cases e : q ∈ kv
  · rw [if_pos e]; exact h
  · rw [if_neg e]
    refine ⟨?_, ?_⟩
    · rw [List.nodup_append]
      refine ⟨h.nd, by simp, ?_⟩
      intro a ha b hb hab
      simp at hb
      subst hb hab
      exact e ha
    · intro a ha
      rcases List.mem_append.mp ha with ha | ha
      · exact h.w a ha
      · simp at ha
        subst ha
        exact ⟨h1, h2⟩
theorem mem_addK {q : Kk} {kv : List Kk} : q ∈ addK q kv := by
  unfold addK
  split <;> simp_all
theorem OkK.len {p : Prog} {N : Nat} {kv : List Kk} (h : OkK p N kv) : kv.length ≤ p.length * (N + 1) * 2 := by
  have h1 := nodup_len (s := (names p).flatMap fun k => (List.range (N + 1)).flatMap fun n => [(k, n, true), (k, n, false)]) h.nd (fun q hq => by
    have := h.w q hq
    obtain ⟨k, n, b⟩ := q
    simp only [List.mem_flatMap, List.mem_range]
    refine ⟨k, this.1, n, by have := this.2; simp at this; omega, ?_⟩
    cases b <;> simp)
  refine Nat.le_trans h1 (Nat.le_of_eq ?_)
  rw [List.length_flatMap]
  have : ((names p).map fun k => ((List.range (N + 1)).flatMap fun n => [(k, n, true), (k, n, false)]).length) = (names p).map fun _ => (N + 1) * 2 := List.map_congr_left fun k _ => by
    rw [List.length_flatMap]
    exact (sum_const (c := 2) _).trans (by rw [List.length_range])
  rw [this, sum_const, Nat.mul_assoc]
  unfold names
  rw [List.length_map]
/-- memory with what is known -/
def MK (p : Prog) (m : Mem) (kv : List Kk) (m2 : Mem) : Mem := m ++ some (.dT (kv.map (ent p))) :: m2
theorem kysOf_eKk {q : Kk} : ∃ ks, eKk q = .tup ks ∧ kysOf ks = some (enK q) := by
  obtain ⟨k, n, b⟩ := q
  cases b
  · exact ⟨_, rfl, rfl⟩
  · exact ⟨_, rfl, rfl⟩
theorem dnin_MK {p : Prog} {m m2 : Mem} {kv : List Kk} {q : Kk} : dninR (MK p m kv m2) (eKk q) (.ref m.length) = .ok (.bl (!decide (q ∈ kv))) (MK p m kv m2) := by
  obtain ⟨ks, h1, h2⟩ := kysOf_eKk (q := q)
  unfold dninR dictOf
  dsimp only
  have : (MK p m kv m2)[m.length]? = some (some (.dT (kv.map (ent p)))) := at_mid
  rw [this, h1]
  show (match (match kysOf ks with
    | some q => some (findT q (kv.map (ent p)))
    | none => none) with
    | some r => R.ok (D.bl (!r.isSome)) (MK p m kv m2)
    | none => .bad 15) = _
  rw [h2]
  dsimp only
  rw [findT_ent]
  by_cases h : q ∈ kv <;> simp [h]
theorem dget_MK {p : Prog} {m m2 : Mem} {kv : List Kk} {q : Kk} (h : q ∈ kv) : dgetR (MK p m kv m2) (.ref m.length) (eKk q) = .ok (.int (vK p q : Nat)) (MK p m kv m2) := by
  obtain ⟨ks, h1, h2⟩ := kysOf_eKk (q := q)
  unfold dgetR dictOf
  dsimp only
  have : (MK p m kv m2)[m.length]? = some (some (.dT (kv.map (ent p)))) := at_mid
  rw [this, h1]
  show (match (match kysOf ks with
    | some q => some (findT q (kv.map (ent p)))
    | none => none) with
    | some (some d) => R.ok d (MK p m kv m2)
    | _ => .bad 14) = _
  rw [h2]
  dsimp only
  rw [findT_ent, if_pos h]
theorem setD_MK {p : Prog} {m m2 : Mem} {kv : List Kk} {q : Kk} (h : kv.length < lineN) : setD (MK p m kv m2) (.ref m.length) (eKk q) (.int (vK p q : Nat)) = some (MK p m (addK q kv) m2) := by
  obtain ⟨ks, h1, h2⟩ := kysOf_eKk (q := q)
  unfold setD
  dsimp only
  have : (MK p m kv m2)[m.length]? = some (some (.dT (kv.map (ent p)))) := at_mid
  rw [this, h1]
  dsimp only
  rw [h2]
  dsimp only
  rw [if_pos (by rw [Nat.blt_eq, List.length_map]; exact h), putT_ent]
  unfold MK
  rw [set_mid]
end K00
end
section
set_option linter.all false
set_option autoImplicit false
set_option maxRecDepth 100000
/-! KM14: number_of, rows_of. -/
namespace Mt
theorem runF_rtl {c : Ctx} {f : Fn} {xs : List D} {m m' : Mem} {d : D} (hl : Nat.beq xs.length f.ps = true) (hm : m'.length = m.length) (h : es c f.body (xs.map some ++ List.replicate (f.ns - f.ps) none) m = .rt d m') : runF c f xs m = .ok d m' := by
  unfold runF
  rw [if_pos hl, h]
  show (if f.drop then dropTo m.length else id) (R.ok d m') = _
  cases f.drop with
  | false => rfl
  | true =>
    show dropTo m.length (R.ok d m') = _
    unfold dropTo
    dsimp only
    rw [if_pos (by rw [Nat.ble_eq]; omega)]
theorem bMul_int {m : Mem} {i j : Int} (h : bit64 i = true ∨ bit64 j = true) : bMul m (.int i) (.int j) = .ok (.int (i * j)) m := by
  show (if bit64 i || bit64 j || (bit4000 i && bit4000 j) then R.ok (D.int (i * j)) m else .bad 4) = _
  rw [if_pos]
  rcases h with h | h <;> simp [h]
theorem bit64_nat {n : Nat} (h : n < 18446744073709551616) : bit64 (n : Int) = true := by
  unfold bit64
  rw [Bool.and_eq_true, decide_eq_true_eq, decide_eq_true_eq]
  omega
@[simp] theorem yAug_eq {i : Nat} {f : Mem → D → D → R D} {a : X} {e : Env} {m : Mem} : yAug i f a e m = match e[i]? with
  | some (some x) => (a e m).toF e fun y m => if isInt x && isInt y then (f m x y).toF e fun z m => .nx (e.set i (some z)) m else .bad 85
  | _ => .bad 85 := id rfl
@[simp] theorem isInt_i {i : Int} : isInt (.int i) = true := id rfl
end Mt
namespace K00
open Mt
section
variable {P : List Nat} {p : Prog} {N : Nat} {m : Mem}
/-- few enough values -/
structure Bc (p : Prog) (N : Nat) : Prop where
  small : N ≤ 100
  c : ∀ i ≤ N, ∀ k, cv p k i < 18446744073709551616
def NV (P : List Nat) (p : Prog) (N : Nat) (m : Mem) (n : Nat) : Prop := ∀ kd ∈ names p, ∀ m2 kv, m2.all (belowO 0) = true → OkK p N kv → ∀ k, ∃ kv', OkK p N kv' ∧ run (FS P) (k + (2 * n + 2)) ix_number_of [eP p, .str kd, .int n, .ref m.length] (MK p m kv m2) = .ok (.int (cv p kd n : Nat)) (MK p m kv' m2)
def NR (P : List Nat) (p : Prog) (N : Nat) (m : Mem) (n : Nat) : Prop := ∀ kd ∈ names p, ∀ m2 kv, m2.all (belowO 0) = true → OkK p N kv → ∀ k, ∃ kv', OkK p N kv' ∧ run (FS P) (k + (2 * n + 3)) ix_rows_of [eP p, .str kd, .int n, .ref m.length] (MK p m kv m2) = .ok (.int (cr p kd n : Nat)) (MK p m kv' m2)
def NS (P : List Nat) (p : Prog) (N : Nat) (m : Mem) (n : Nat) : Prop := ∀ fs, (∀ f ∈ fs, f ∈ names p) → ∀ m2 kv, m2.all (belowO 0) = true → OkK p N kv → ∀ k, ∃ kv', OkK p N kv' ∧ run (FS P) (k + (2 * n + 3)) ix_splits_of [eP p, eF fs, .int n, .ref m.length] (MK p m kv m2) = .ok (.int (cf p fs n : Nat)) (MK p m kv' m2)
theorem MK_len {kv kv' : List Kk} {m2 : Mem} : (MK p m kv m2).length = (MK p m kv' m2).length := by unfold MK; simp
theorem OkK.lt {kv : List Kk} (hp : WfP p) (hb : Bc p N) (h : OkK p N kv) : kv.length < lineN := by
  have h1 := h.len
  have h2 := hp.n8
  have h3 := hb.small
  have : p.length * (N + 1) ≤ 8 * 101 := Nat.mul_le_mul h2 (by omega)
  unfold lineN
  omega
theorem rowsN_step (hp : WfP p) (hb : Bc p N) {n : Nat} (hn : n ≤ N) (hV : ∀ i ≤ n, NV P p N m i) (hR : ∀ i < n, NR P p N m i) : NR P p N m n := by
  intro kd hk m2 kv hm2 hkv k
  have hs := hb.small
  by_cases hn0 : n = 0
  · subst hn0
    refine ⟨kv, hkv, ?_⟩
    show run (FS P) ((k + 2) + 1) _ _ _ = _
    rw [run_wt (f := f_rows_of) rfl]
    apply runF_rt rfl
    simp [f_rows_of, cr_0]
  · have key : (D.tup [.str kd, .int (n : Nat), .str sRows]) = eKk (kd, n, true) := rfl
    have d1 := dnin_MK (p := p) (m := m) (m2 := m2) (kv := kv) (q := (kd, n, true))
    have b3 : Nat.ble 3 lineN = true := rfl
    by_cases hq : (kd, n, true) ∈ kv
    · refine ⟨kv, hkv, ?_⟩
      show run (FS P) ((k + (2 * n + 2)) + 1) _ _ _ = _
      rw [run_wt (f := f_rows_of) rfl]
      apply runF_rt rfl
      have d2 := dget_MK (p := p) (m := m) (m2 := m2) hq
      simp only [hq, decide_true, Bool.not_true, ← key] at d1 d2
      have d3 : vK p (kd, n, true) = cr p kd n := rfl
      simp [f_rows_of, hn0, b3, d1, d2, d3]
    · have hloop := forGo_inv (tg := .tgN 5) (b := es (ctxK (FS P) (k + (2 * n + 2)) (P.getD 0 0, [])) (.aug 4 .add (.bin .mul (.call 27 (.cons (.var 0) (.cons (.var 1) (.cons (.var 5) (.cons (.var 3) .nil))))) (.call 28 (.cons (.var 0) (.cons (.var 1) (.cons (.bin .sub (.var 2) (.var 5)) (.cons (.var 3) .nil)))))))) (h := fun i : Nat => D.int (1 + (i : Nat))) (fun r e m' => ∃ kv' s, OkK p N kv' ∧ m' = MK p m kv' m2 ∧ e = [some (eP p), some (.str kd), some (.int n), some (.ref m.length), some (.int ((r.map fun i => cv p kd (i+1) * cr p kd (n-(i+1))).sum : Nat)), s]) (l := List.range n) (r := []) (e := [some (eP p), some (.str kd), some (.int n), some (.ref m.length), some (.int 0), none]) (m := MK p m kv m2) ⟨kv, none, hkv, rfl, rfl⟩ (fun r' i l' hx e m' ⟨kv1, s, hk1, hm, he⟩ => by
        subst hm he
        have hi : i < n := by
          have : i ∈ r' ++ i :: l' := by simp
          rw [← hx] at this
          simpa using this
        obtain ⟨kv2, hk2, r2⟩ := hV (i + 1) (by omega) kd hk m2 kv1 hm2 hk1 (k + 2 * (n - (i + 1)))
        obtain ⟨kv3, hk3, r3⟩ := hR (n - (i + 1)) (by omega) kd hk m2 kv2 hm2 hk2 (k + 2 * (i + 1) - 1)
        have q1 : k + 2 * (n - (i + 1)) + (2 * (i + 1) + 2) = k + (2 * n + 2) := by omega
        have q2 : k + 2 * (i + 1) - 1 + (2 * (n - (i + 1)) + 3) = k + (2 * n + 2) := by omega
        rw [q1] at r2
        rw [q2] at r3
        have e1 : ((i + 1 : Nat) : Int) = 1 + (i : Int) := by omega
        have e2 : (n : Int) - (1 + (i : Int)) = ((n - (i + 1) : Nat) : Int) := by omega
        rw [e1] at r2
        have mu := bMul_int (m := MK p m kv3 m2) (i := (cv p kd (i+1) : Nat)) (j := (cr p kd (n-(i+1)) : Nat)) (.inl (bit64_nat (hb.c _ (by omega) _)))
        refine ⟨[some (eP p), some (.str kd), some (.int n), some (.ref m.length), some (.int ((r'.map fun i => cv p kd (i+1) * cr p kd (n-(i+1))).sum : Nat)), some (.int (1 + (i : Nat)))], by simp [asg_N], ?_⟩
        refine ⟨[some (eP p), some (.str kd), some (.int n), some (.ref m.length), some (.int (((r' ++ [i]).map fun i => cv p kd (i+1) * cr p kd (n-(i+1))).sum : Nat)), some (.int (1 + (i : Nat)))], _, .inl ?_, kv3, _, hk3, rfl, rfl⟩
        have hsum : ((((r' ++ [i]).map fun i => cv p kd (i+1) * cr p kd (n-(i+1))).sum : Nat) : Int) = ((r'.map fun i => cv p kd (i+1) * cr p kd (n-(i+1))).sum : Nat) + (cv p kd (i+1) : Nat) * (cr p kd (n-(i+1)) : Nat) := by
          rw [List.map_append, List.sum_append]
          simp
        rw [hsum]
        generalize ((r'.map fun i => cv p kd (i+1) * cr p kd (n-(i+1))).sum : Nat) = S
        simp [r2, e2, r3, mu])
      obtain ⟨e2, m', h1, kv1, s, hk1, rfl, rfl⟩ := hloop
      refine ⟨addK (kd, n, true) kv1, hk1.add hk hn, ?_⟩
      show run (FS P) ((k + (2 * n + 2)) + 1) _ _ _ = _
      rw [run_wt (f := f_rows_of) rfl]
      apply runF_rtl rfl MK_len
      have d2 := dget_MK (p := p) (m := m) (m2 := m2) (mem_addK (q := (kd, n, true)) (kv := kv1))
      have d4 := setD_MK (p := p) (m := m) (m2 := m2) (q := (kd, n, true)) (hk1.lt hp hb)
      have hrg := rngR_1 (m := MK p m kv m2) (n := n) (by omega)
      have d3 : vK p (kd, n, true) = cr p kd n := rfl
      simp only [hq, decide_false, Bool.not_false, ← key, d3] at d1 d2 d4
      have d5 := cr_s (p := p) (k := kd) hn0
      simp only [List.nil_append, ← d5] at h1
      simp at h1
      simp [f_rows_of, hn0, b3, d1, asg_N, hrg]
      rw [h1]
      simp [b3, d4, d2]
end
end K00
end
section
set_option linter.all false
set_option autoImplicit false
set_option maxRecDepth 100000
/-! KM15: number_of. -/
namespace Mt
theorem lcGo_st {α : Type} {f : D → Mem → R (List D)} {h g : α → D} (St : Mem → Prop) : ∀ {l : List α} {acc : List D} {m : Mem}, St m → (∀ x ∈ l, ∀ m, St m → ∃ m', St m' ∧ f (h x) m = .ok [g x] m') → acc.length + l.length ≤ lineN → ∃ m', St m' ∧ lcGo f (l.map h) acc m = .ok (acc ++ l.map g) m'
  | [], acc, m, hm, _, _ => ⟨m, hm, by simp [lcGo]⟩
  | x :: l, acc, m, hm, hf, hl => by
    obtain ⟨m1, s1, h1⟩ := hf x (by simp) m hm
    rw [List.length_cons] at hl
    obtain ⟨m2, s2, h2⟩ := lcGo_st St (f := f) (h := h) (g := g) (l := l) (acc := acc ++ [g x]) s1 (fun y hy => hf y (by simp [hy])) (by simp; omega)
    refine ⟨m2, s2, ?_⟩
    show (match f (h x) m with
      | .ok xs m' => if Nat.ble (acc.length + xs.length) lineN then lcGo f (l.map h) (acc ++ xs) m' else .bad 50
      | .exc _ _ _ => .bad 51
      | .bad w => .bad w) = _
    rw [h1]
    show (if Nat.ble (acc.length + 1) lineN then lcGo f (l.map h) (acc ++ [g x]) m1 else .bad 50) = _
    rw [if_pos (by rw [Nat.ble_eq]; omega), h2]
    simp
end Mt
namespace K00
open Mt
section
variable {P : List Nat} {p : Prog} {N : Nat} {m : Mem}
theorem numN_step (hp : WfP p) (hb : Bc p N) {n : Nat} (hn : n ≤ N) (hR : ∀ i < n, NR P p N m i) (hS : ∀ i < n, NS P p N m i) : NV P p N m n := by
  intro kd hk m2 kv hm2 hkv k
  have hs := hb.small
  cases n with
  | zero =>
    refine ⟨kv, hkv, ?_⟩
    show run (FS P) ((k + 1) + 1) _ _ _ = _
    rw [run_wt (f := f_number_of) rfl]
    apply runF_rt rfl
    simp [f_number_of, cv_0]
  | succ n =>
    have ec : ((n + 1 : Nat) : Int) = (n : Int) + 1 := by omega
    have en : ¬ ((n : Int) + 1 < 1) := by omega
    have e1 : ((n : Int) + 1 - 1) = (n : Int) := by omega
    have key : (D.tup [.str kd, .int ((n : Int) + 1)]) = eKk (kd, n + 1, false) := rfl
    have d1 := dnin_MK (p := p) (m := m) (m2 := m2) (kv := kv) (q := (kd, n + 1, false))
    have b2 : Nat.ble 2 lineN = true := rfl
    have hRn := hR n (by omega)
    have hSn := hS n (by omega)
    obtain ⟨b, hl⟩ := lk_some hk
    have rb : ∀ m', run (FS P) (k + (2 * (n + 1) + 1)) 8 [eP p, .str kd] m' = .ok (eB b) m' := fun m' => run_bodyW (k := k + 2 * (n + 1)) hp hl
    have hq0 : k + (2 * (n + 1) + 1) = k + (2 * n + 3) := by omega
    rw [hq0] at rb
    rw [show k + (2 * (n + 1) + 2) = (k + (2 * n + 3)) + 1 by omega, ec]
    have d3 : vK p (kd, n + 1, false) = cv p kd (n + 1) := rfl
    by_cases hq : (kd, n + 1, false) ∈ kv
    · refine ⟨kv, hkv, ?_⟩
      rw [run_wt (f := f_number_of) rfl]
      apply runF_rt rfl
      have d2 := dget_MK (p := p) (m := m) (m2 := m2) hq
      simp only [hq, decide_true, Bool.not_true, ← key] at d1 d2
      simp [f_number_of, en, b2, d1, d2, d3]
    · have e0 : ∀ m', idxR m' (eB b) (.int 0) = .ok (.str b.tag) m' := fun m' => eB_tag
      have c1 := fun m' => cEq_num (m := m') (b := b)
      have c2 := fun m' => cEq_rows (m := m') (b := b)
      have d4 : ∀ kv1, OkK p N kv1 → setD (MK p m kv1 m2) (.ref m.length) (.tup [.str kd, .int ((n : Int) + 1)]) (.int (cv p kd (n+1) : Nat)) = some (MK p m (addK (kd, n + 1, false) kv1) m2) := fun kv1 hk1 => setD_MK (p := p) (m := m) (m2 := m2) (q := (kd, n + 1, false)) (hk1.lt hp hb)
      have d2 : ∀ kv1, dgetR (MK p m (addK (kd, n + 1, false) kv1) m2) (.ref m.length) (.tup [.str kd, .int ((n : Int) + 1)]) = .ok (.int (cv p kd (n+1) : Nat)) (MK p m (addK (kd, n + 1, false) kv1) m2) := fun kv1 => dget_MK (p := p) (m := m) (m2 := m2) (mem_addK (q := (kd, n + 1, false)) (kv := kv1))
      simp only [hq, decide_false, Bool.not_false, ← key] at d1
      have hcv := cv_s (p := p) (k := kd) (n := n)
      rw [hl] at hcv
      generalize hK : k + (2 * n + 3) = K at *
      cases b with
      | num lo hi =>
        obtain ⟨h1, h2, h3⟩ := nl_len hp hl
        have i1 : ∀ m', idxR m' (eB (.num lo hi)) (.int 1) = .ok (.int lo) m' := fun m' => idx_tup1
        have i2 : ∀ m', idxR m' (eB (.num lo hi)) (.int 2) = .ok (.int hi) m' := fun m' => rfl
        refine ⟨addK (kd, n + 1, false) kv, hkv.add hk hn, ?_⟩
        rw [run_wt (f := f_number_of) rfl]
        apply runF_rtl rfl MK_len
        have d4' := d4 kv hkv
        have d2' := d2 kv
        dsimp only at hcv
        rw [hcv] at d4' d2' ⊢
        by_cases hn0 : n = 0
        · subst hn0
          have hz : (((hi + 1 - lo).toNat : Nat) : Int) = hi - lo + 1 := by omega
          rw [if_pos rfl, hz] at d4' d2' ⊢
          simp at d4' d2' d1
          simp [f_number_of, b2, d1, rb, asg_N, e0, c1, i1, i2, d4', d2']
        · rw [if_neg hn0] at d4' d2' ⊢
          have h11 : ¬ (((n : Int) + 1) = 1) := by omega
          simp at d4' d2'
          simp [f_number_of, en, b2, d1, rb, asg_N, e0, c1, h11, hn0, d4', d2']
      | rows k' =>
        have i1 : ∀ m', idxR m' (eB (.rows k')) (.int 1) = .ok (.str k') m' := fun m' => idx_tup1
        obtain ⟨kv1, hk1, r1⟩ := hRn k' (hp.bd hl) m2 kv hm2 hkv k
        rw [hK] at r1
        dsimp only at hcv
        refine ⟨addK (kd, n + 1, false) kv1, hk1.add hk hn, ?_⟩
        rw [run_wt (f := f_number_of) rfl]
        apply runF_rtl rfl MK_len
        have d4' := d4 kv1 hk1
        have d2' := d2 kv1
        rw [hcv] at d4' d2' ⊢
        simp [f_number_of, en, b2, d1, rb, asg_N, e0, c1, c2, i1, e1, r1, d4', d2']
      | mk ms =>
        have hm : MkOk ms (names p) := hp.bd hl
        have i1 : ∀ m', idxR m' (eB (.mk ms)) (.int 1) = .ok (.tup (ms.map eM)) m' := fun m' => idx_tup1
        dsimp only at hcv
        have hcomp := lcGo_st (f := turn (.tgT (.cons (.tgN 5) (.cons (.tgN 6) .nil))) (xCon (.bl true)) (give1 (xCall (run (FS P) K 29) (xCons (xVar 0) (xCons (xVar 6) (xCons (x2 bSub (xVar 2) (xCon (.int 1))) (xCons (xVar 3) (xCon (.tup [])))))))) [some (eP p), some (.str kd), some (.int ((n : Int) + 1)), some (.ref m.length), some (eB (.mk ms)), none, none]) (h := eM) (g := fun x => D.int (cf p x.2 n : Nat)) (fun m' => ∃ kv', OkK p N kv' ∧ m' = MK p m kv' m2) (l := ms) (acc := []) (m := MK p m kv m2) ⟨kv, hkv, rfl⟩ (fun x hx m' ⟨kv1, hk1, hm'⟩ => by
          subst hm'
          obtain ⟨kv2, hk2, r2⟩ := hSn x.2 (fun f hf => (hm.w x hx).2.2.2 f hf) m2 kv1 hm2 hk1 k
          rw [hK] at r2
          refine ⟨_, ⟨kv2, hk2, rfl⟩, ?_⟩
          simp [eM, asg_N, e1, r2]) (by have := hm.n8; simp; unfold lineN; omega)
        obtain ⟨m', ⟨kv1, hk1, rfl⟩, l1⟩ := hcomp
        refine ⟨addK (kd, n + 1, false) kv1, hk1.add hk hn, ?_⟩
        rw [run_wt (f := f_number_of) rfl]
        apply runF_rtl rfl MK_len
        have d4' := d4 kv1 hk1
        have d2' := d2 kv1
        have os := oSum_map (m := MK p m kv1 m2) (f := fun x : Nm × List Nm => cf p x.2 n) (l := ms)
        rw [hcv] at d4' d2' ⊢
        generalize ((ms.map fun x => cf p x.2 n).sum : Nat) = S at *
        simp at l1
        simp [f_number_of, en, b2, d1, rb, asg_N, e0, c1, c2, i1, l1, os, d4', d2']
end
end K00
end
section
set_option linter.all false
set_option autoImplicit false
set_option maxRecDepth 100000
/-! KM16: splits_of. -/
namespace Mt
def natsD (W : List Nat) : List D := W.map fun w => D.int (w : Nat)
@[simp] theorem ints_len {W : List Nat} : (natsD W).length = W.length := by unfold natsD; simp
theorem ints_get {W : List Nat} {j : Nat} (h : j < W.length) : (natsD W)[j]? = some (.int (W.getD j 0 : Nat)) := by
  unfold natsD
  rw [List.getElem?_map, List.getD_eq_getElem?_getD]
  rw [List.getElem?_eq_getElem h]
  rfl
theorem ints_set {W : List Nat} {j v : Nat} : (natsD W).set j (.int (v : Nat)) = natsD (W.set j v) := by
  unfold natsD
  rw [List.map_set]
theorem ints_below : ∀ {W : List Nat}, belowO 0 (some (.lst (natsD W))) = true := by
  intro W
  refine belows_all (l := natsD W) fun x hx => ?_
  unfold natsD at hx
  obtain ⟨w, _, rfl⟩ := List.mem_map.mp hx
  rfl
theorem ix_nat {n j : Nat} (h : j < n) : ix n (j : Int) = some j := by
  show (if Nat.blt j n then some j else none) = _
  rw [if_pos (by rw [Nat.blt_eq]; exact h)]
theorem augIx_at {M : Mem} {q j : Nat} {L : List Nat} (hq : M[q]? = some (some (.lst (natsD L)))) (h : j < L.length) : augIx M (.ref q) (.int (j : Nat)) = .ok (.int (L.getD j 0 : Nat)) M := by
  show (match M[q]? with
      | some (some (.lst xs)) => match xs[j]? with
        | some d => R.ok d M
        | none => .bad 86
      | _ => .bad 86) = _
  rw [hq]
  dsimp only
  rw [ints_get h]
theorem setL_at {M : Mem} {q j v : Nat} {L : List Nat} (hq : M[q]? = some (some (.lst (natsD L)))) (h : j < L.length) : setL M (.ref q) (.int (j : Nat)) (.int (v : Nat)) = some (M.set q (some (.lst (natsD (L.set j v))))) := by
  unfold setL
  dsimp only
  rw [hq]
  dsimp only
  rw [ints_len, ix_nat h]
  dsimp only
  rw [ints_set]
theorem idx_lst {M : Mem} {j : Nat} {W : List Nat} (h : j < W.length) : idxR M (.lst (natsD W)) (.int (j : Nat)) = .ok (.int (W.getD j 0 : Nat)) M := by
  show (match ix (natsD W).length (j : Int) with
    | some k => match (natsD W)[k]? with
      | some d => R.ok d M
      | none => .bad 20
    | none => .bad 20) = _
  rw [ints_len, ix_nat h]
  dsimp only
  rw [ints_get h]
theorem idx_ref {M : Mem} {q j : Nat} {W : List Nat} (hq : M[q]? = some (some (.lst (natsD W)))) (h : j < W.length) : idxR M (.ref q) (.int (j : Nat)) = .ok (.int (W.getD j 0 : Nat)) M := by
  show (match (match M[q]? with
    | some (some (.lst xs)) => some xs
    | _ => none) with
    | some xs => atL M xs (.int (j : Nat))
    | none => .bad 20) = _
  rw [hq]
  dsimp only
  show (match ix (natsD W).length (j : Int) with
    | some k => match (natsD W)[k]? with
      | some d => R.ok d M
      | none => .bad 20
    | none => .bad 20) = _
  rw [ints_len, ix_nat h]
  dsimp only
  rw [ints_get h]
@[simp] theorem yAugAt_eq {o i a : X} {f : Mem → D → D → R D} {e : Env} {m : Mem} : yAugAt o i f a e m = (o e m).toF e fun x m => (i e m).toF e fun y m => (augIx m x y).toF e fun z m => (a e m).toF e fun w m =>
  if isInt z && isInt w then (f m z w).toF e fun v m => match setL m x y v with
    | some m' => .nx e m'
    | none => .bad 86
  else .bad 86 := id rfl
theorem runF_rtt {c : Ctx} {f : Fn} {xs : List D} {m m' m1 : Mem} {d : D} (hl : Nat.beq xs.length f.ps = true) (hd : f.drop = true) (h1 : m'.take m.length = m1) (h2 : m1.all (belowO 0) = true) (h3 : below 0 d = true) (hm : m.length ≤ m'.length) (h : es c f.body (xs.map some ++ List.replicate (f.ns - f.ps) none) m = .rt d m') : runF c f xs m = .ok d m1 := by
  unfold runF
  rw [if_pos hl, h]
  show (if f.drop then dropTo m.length else id) (R.ok d m') = _
  rw [hd, if_pos rfl]
  unfold dropTo
  dsimp only
  split
  · rename_i h4
    rw [Nat.ble_eq] at h4
    rw [List.take_of_length_le h4] at h1
    rw [h1]
  · rw [h1, if_pos]
    rw [Bool.and_eq_true]
    refine ⟨below_le (Nat.zero_le _) _ h3, ?_⟩
    rw [List.all_eq_true] at h2 ⊢
    intro o ho
    have := h2 o ho
    revert this
    cases o with
    | none => exact fun _ => rfl
    | some o => cases o with
      | lst xs => exact fun h => belows_le (Nat.zero_le _) xs h
      | it xs => exact fun h => belows_le (Nat.zero_le _) xs h
      | tab _ _ => exact fun _ => rfl
      | dK kvs =>
        intro h
        show (kvs.all fun kv => below _ kv.2) = true
        have h : (kvs.all fun kv => below 0 kv.2) = true := h
        rw [List.all_eq_true] at h ⊢
        exact fun x hx => below_le (Nat.zero_le _) _ (h x hx)
      | dT kvs =>
        intro h
        show (kvs.all fun kv => below _ kv.2) = true
        have h : (kvs.all fun kv => below 0 kv.2) = true := h
        rw [List.all_eq_true] at h ⊢
        exact fun x hx => below_le (Nat.zero_le _) _ (h x hx)
      | ins _ kvs =>
        intro h
        show (kvs.all fun kv => below _ kv.2) = true
        have h : (kvs.all fun kv => below 0 kv.2) = true := h
        rw [List.all_eq_true] at h ⊢
        exact fun x hx => below_le (Nat.zero_le _) _ (h x hx)
theorem rep_0 {n : Nat} : rep [D.int 0] n = natsD (List.replicate n 0) := by
  induction n with
  | zero => rfl
  | succ n ih =>
    show [D.int 0] ++ rep [D.int 0] n = _
    rw [ih]
    rfl
theorem bMul_lst {m : Mem} {n : Nat} (h : n ≤ 1000) : bMul m (.lst [.int 0]) (.int (n : Nat)) = .ok (.lst (natsD (List.replicate n 0))) m := by
  show (if small63 (n : Int) && Nat.ble (1 * (n : Int).toNat) lineN then R.ok (D.lst (rep [D.int 0] (n : Int).toNat)) m else .bad 4) = _
  rw [if_pos, ← rep_0]
  · rfl
  · rw [Bool.and_eq_true, Nat.ble_eq]
    unfold small63 lineN
    rw [Bool.and_eq_true, decide_eq_true_eq, decide_eq_true_eq]
    omega
end Mt
namespace K00
open Mt
/-- what is left to be counted -/
def phi (p : Prog) (fs : List Nm) (n : Nat) (W : List Nat) : Nat := ((List.range (n + 1)).map fun b => W.getD b 0 * cf p fs (n - b)).sum
theorem sum_bump {g c : Nat → Nat} {j x : Nat} : ∀ n : Nat, ((List.range n).map fun b => (if b = j then g b + x else g b) * c b).sum = ((List.range n).map fun b => g b * c b).sum + if j < n then x * c j else 0
  | 0 => by simp
  | n + 1 => by
    rw [List.range_succ, List.map_append, List.map_append, List.sum_append, List.sum_append, sum_bump n]
    simp only [List.map_cons, List.map_nil, List.sum_cons, List.sum_nil, Nat.add_zero]
    by_cases e : n = j
    · subst e
      simp [Nat.add_mul]
      omega
    · by_cases h : j < n
      · have : j < n + 1 := by omega
        simp [e, h, this]
        omega
      · have : ¬ j < n + 1 := by omega
        simp [e, h, this]
theorem phi_set {p : Prog} {fs : List Nm} {n : Nat} {L : List Nat} {j x : Nat} (hj : j ≤ n) (hL : L.length = n + 1) : phi p fs n (L.set j (L.getD j 0 + x)) = phi p fs n L + x * cf p fs (n - j) := by
  unfold phi
  have h := sum_bump (g := fun b => L.getD b 0) (c := fun b => cf p fs (n - b)) (j := j) (x := x) (n + 1)
  rw [if_pos (by omega)] at h
  rw [← h]
  congr 1
  refine List.map_congr_left fun b hb => ?_
  congr 1
  rw [List.getD_eq_getElem?_getD, List.getElem?_set]
  by_cases e : b = j
  · subst e
    have : b < L.length := by omega
    simp [this]
  · have : ¬ j = b := fun h => e h.symm
    simp [e, this, List.getD_eq_getElem?_getD]
theorem phi_zero {p : Prog} {fs : List Nm} {n k : Nat} : phi p fs n (List.replicate k 0) = 0 := by
  unfold phi
  have : ((List.range (n + 1)).map fun b => (List.replicate k 0).getD b 0 * cf p fs (n - b)) = (List.range (n + 1)).map fun _ => 0 := by
    refine List.map_congr_left fun b _ => ?_
    rw [List.getD_eq_getElem?_getD, List.getElem?_replicate]
    split <;> simp
  rw [this, sum_const]
  simp
theorem phi_one {p : Prog} {fs : List Nm} {n : Nat} : phi p fs n (1 :: List.replicate n 0) = cf p fs n := by
  unfold phi
  rw [List.range_succ_eq_map, List.map_cons, List.map_map, List.sum_cons]
  have : ((List.range n).map ((fun b => (1 :: List.replicate n 0).getD b 0 * cf p fs (n - b)) ∘ Nat.succ)) = (List.range n).map fun _ => 0 := by
    refine List.map_congr_left fun b _ => ?_
    simp only [Function.comp]
    rw [List.getD_eq_getElem?_getD, List.getElem?_cons_succ, List.getElem?_replicate]
    split <;> simp
  rw [this, sum_const]
  simp
theorem phi_nil {p : Prog} {n : Nat} {W : List Nat} : phi p [] n W = W.getD n 0 := by
  unfold phi
  rw [List.range_succ, List.map_append, List.sum_append]
  have : ((List.range n).map fun b => W.getD b 0 * cf p [] (n - b)) = (List.range n).map fun _ => 0 := by
    refine List.map_congr_left fun b hb => ?_
    have := List.mem_range.mp hb
    rw [cf_nil, if_neg (by omega)]
    simp
  rw [this, sum_const]
  simp [cf_nil]
section
variable {P : List Nat} {p : Prog} {N : Nat} {m : Mem}
def WaysAt (m : Mem) (m3 : Mem) (x : D) (W : List Nat) : Prop := x = .lst (natsD W) ∨ ∃ j, x = .ref (m.length + 1 + j) ∧ m3[j]? = some (some (.lst (natsD W)))
theorem MK_at {kv : List Kk} {m3 : Mem} {j : Nat} : (MK p m kv m3)[m.length + 1 + j]? = m3[j]? := by
  unfold MK
  rw [List.getElem?_append_right (by omega)]
  have : m.length + 1 + j - m.length = j + 1 := by omega
  rw [this, List.getElem?_cons_succ]
theorem MK_set {kv : List Kk} {m3 : Mem} {j : Nat} {o : Option Ob} : (MK p m kv m3).set (m.length + 1 + j) o = MK p m kv (m3.set j o) := by
  unfold MK
  rw [List.set_append_right _ _ (by omega)]
  have : m.length + 1 + j - m.length = j + 1 := by omega
  rw [this, List.set_cons_succ]
theorem ways_idx {m3 t : Mem} {x : D} {W : List Nat} {kv : List Kk} {a : Nat} (h : WaysAt m m3 x W) (ha : a < W.length) : idxR (MK p m kv (m3 ++ t)) x (.int (a : Nat)) = .ok (.int (W.getD a 0 : Nat)) (MK p m kv (m3 ++ t)) := by
  rcases h with rfl | ⟨j, rfl, hj⟩
  · exact idx_lst ha
  · refine idx_ref ?_ ha
    rw [MK_at, List.getElem?_append_left, hj]
    have := List.getElem?_eq_some_iff.mp hj
    exact this.1
theorem MK_all {kv : List Kk} {m3 : Mem} (h1 : m.all (belowO 0) = true) (h2 : m3.all (belowO 0) = true) : (MK p m kv m3).all (belowO 0) = true := by
  unfold MK
  rw [List.all_append, List.all_cons, h1, h2]
  have : belowO 0 (some (.dT (kv.map (ent p)))) = true := by
    show ((kv.map (ent p)).all fun kv => below 0 kv.2) = true
    rw [List.all_map, List.all_eq_true]
    intro q _
    rfl
  rw [this]
  rfl
end
end K00
end
section
set_option linter.all false
set_option autoImplicit false
set_option maxRecDepth 100000
/-! KM17: the loops of splits_of. -/
namespace K00
open Mt
section
variable {P : List Nat} {p : Prog} {N : Nat} {m : Mem}
abbrev sp1 : S := .augAt (.var 6) (.bin .add (.var 7) (.var 8)) .add (.bin .mul (.idx (.var 4) (.var 7)) (.call 27 (.cons (.var 0) (.cons (.var 5) (.cons (.var 8) (.cons (.var 3) .nil))))))
abbrev sp2 : S := .loop (.tgN 8) (.rng (.con (.int 1)) (.bin .add (.bin .sub (.var 2) (.var 7)) (.con (.int 1)))) sp1
abbrev sp3 : S := .seq (.asg (.tgN 6) (.cellB .mul (.lst (.cons (.con (.int 0)) .nil)) (.bin .add (.var 2) (.con (.int 1))))) (.seq (.loop (.tgN 7) (.rng1 (.bin .add (.var 2) (.con (.int 1)))) sp2) (.asg (.tgN 4) (.var 6)))
theorem sp_inner (hp : WfP p) (hb : Bc p N) {n : Nat} (hn : n ≤ N) (hV : ∀ i ≤ n, NV P p N m i) {fs0 fs : List Nm} {f : Nm} (hf : f ∈ names p) {k : Nat} {m3 : Mem} (h3 : m3.all (belowO 0) = true) {x : D} {W : List Nat} (hW : W.length = n + 1) (hx : WaysAt m m3 x W) {a : Nat} (ha : a ≤ n) {kv : List Kk} (hk : OkK p N kv) {L : List Nat} (hL : L.length = n + 1) {s : Option D} :
    ∃ kv' L' s', OkK p N kv' ∧ L'.length = n + 1 ∧ phi p fs n L' = phi p fs n L + W.getD a 0 * cf p (f :: fs) (n - a) ∧
      es (ctxK (FS P) (k + (2 * n + 2)) (P.getD 0 0, [])) sp2 [some (eP p), some (eF fs0), some (.int n), some (.ref m.length), some x, some (.str f), some (.ref (m.length + 1 + m3.length)), some (.int (a : Nat)), s] (MK p m kv (m3 ++ [some (.lst (natsD L))])) = .nx [some (eP p), some (eF fs0), some (.int n), some (.ref m.length), some x, some (.str f), some (.ref (m.length + 1 + m3.length)), some (.int (a : Nat)), s'] (MK p m kv' (m3 ++ [some (.lst (natsD L'))])) := by
  have hs := hb.small
  obtain ⟨e2, m', h1, kv1, L1, s1, hk1, hL1, hphi, rfl, rfl⟩ := forGo_inv (tg := .tgN 8) (b := es (ctxK (FS P) (k + (2 * n + 2)) (P.getD 0 0, [])) sp1) (h := fun i : Nat => D.int (1 + (i : Nat))) (fun r e m' => ∃ kv' L' s', OkK p N kv' ∧ L'.length = n + 1 ∧ phi p fs n L' = phi p fs n L + W.getD a 0 * (r.map fun i => cv p f (i + 1) * cf p fs (n - a - (i + 1))).sum ∧ m' = MK p m kv' (m3 ++ [some (.lst (natsD L'))]) ∧ e = [some (eP p), some (eF fs0), some (.int n), some (.ref m.length), some x, some (.str f), some (.ref (m.length + 1 + m3.length)), some (.int (a : Nat)), s']) (l := List.range (n - a)) (r := []) (e := [some (eP p), some (eF fs0), some (.int n), some (.ref m.length), some x, some (.str f), some (.ref (m.length + 1 + m3.length)), some (.int (a : Nat)), s]) (m := MK p m kv (m3 ++ [some (.lst (natsD L))])) ⟨kv, L, s, hk, hL, by simp, rfl, rfl⟩ (fun r' i l' hx2 e m' ⟨kv1, L1, s1, hk1, hL1, hphi, hm, he⟩ => by
    subst hm he
    have hi : i < n - a := by
      have : i ∈ r' ++ i :: l' := by simp
      rw [← hx2] at this
      simpa using this
    obtain ⟨kv2, hk2, r2⟩ := hV (i + 1) (by omega) f hf (m3 ++ [some (.lst (natsD L1))]) kv1 (by rw [List.all_append, h3]; simp [ints_below]) hk1 (k + 2 * (n - (i + 1)))
    rw [show k + 2 * (n - (i + 1)) + (2 * (i + 1) + 2) = k + (2 * n + 2) by omega, show ((i + 1 : Nat) : Int) = 1 + (i : Int) by omega] at r2
    have ej : (a : Int) + (1 + (i : Int)) = ((a + (i + 1) : Nat) : Int) := by omega
    have hat : ∀ kv, (MK p m kv (m3 ++ [some (.lst (natsD L1))]))[m.length + 1 + m3.length]? = some (some (.lst (natsD L1))) := fun kv => by rw [MK_at]; simp
    have g1 := augIx_at (j := a + (i + 1)) (hat kv1) (by omega)
    have g2 : idxR (MK p m kv1 (m3 ++ [some (.lst (natsD L1))])) x (.int (a : Nat)) = .ok (.int (W.getD a 0 : Nat)) _ := ways_idx hx (by omega)
    have mu := bMul_int (m := MK p m kv2 (m3 ++ [some (.lst (natsD L1))])) (i := (W.getD a 0 : Nat)) (j := (cv p f (i+1) : Nat)) (.inr (bit64_nat (hb.c _ (by omega) _)))
    have g3 := setL_at (j := a + (i + 1)) (v := L1.getD (a + (i + 1)) 0 + W.getD a 0 * cv p f (i + 1)) (hat kv2) (by omega)
    rw [MK_set] at g3
    have hset : (m3 ++ [some (Ob.lst (natsD L1))]).set m3.length (some (.lst (natsD (L1.set (a + (i + 1)) (L1.getD (a + (i + 1)) 0 + W.getD a 0 * cv p f (i + 1)))))) = m3 ++ [some (.lst (natsD (L1.set (a + (i + 1)) (L1.getD (a + (i + 1)) 0 + W.getD a 0 * cv p f (i + 1)))))] := by simp
    rw [hset] at g3
    have ev : (((L1.getD (a + (i + 1)) 0 + W.getD a 0 * cv p f (i + 1)) : Nat) : Int) = (L1.getD (a + (i + 1)) 0 : Nat) + (W.getD a 0 : Nat) * (cv p f (i + 1) : Nat) := by push_cast; rfl
    refine ⟨[some (eP p), some (eF fs0), some (.int n), some (.ref m.length), some x, some (.str f), some (.ref (m.length + 1 + m3.length)), some (.int (a : Nat)), some (.int (1 + (i : Nat)))], by simp [asg_N], [some (eP p), some (eF fs0), some (.int n), some (.ref m.length), some x, some (.str f), some (.ref (m.length + 1 + m3.length)), some (.int (a : Nat)), some (.int (1 + (i : Nat)))], _, .inl ?_, kv2, L1.set (a + (i + 1)) (L1.getD (a + (i + 1)) 0 + W.getD a 0 * cv p f (i + 1)), _, hk2, by simp [hL1], ?_, rfl, rfl⟩
    · rw [ev] at g3
      generalize L1.set (a + (i + 1)) (L1.getD (a + (i + 1)) 0 + W.getD a 0 * cv p f (i + 1)) = L2 at g3 ⊢
      generalize L1.getD (a + (i + 1)) 0 = z1 at g1 g3
      generalize W.getD a 0 = z2 at g2 mu g3
      rw [← ej] at g1 g3
      simp [g1, g2, r2, mu, g3]
    · rw [phi_set (by omega) hL1, hphi, List.map_append, List.sum_append]
      simp only [List.map_cons, List.map_nil, List.sum_cons, List.sum_nil, Nat.add_zero]
      rw [show n - (a + (i + 1)) = n - a - (i + 1) by omega, Nat.mul_add, Nat.mul_assoc]
      omega)
  refine ⟨kv1, L1, s1, hk1, hL1, ?_, ?_⟩
  · rw [hphi, cf_cons]
    rfl
  · have hrg := rngR_1 (m := MK p m kv (m3 ++ [some (.lst (natsD L))])) (n := n - a) (by omega)
    have e1 : ((n : Int) - (a : Int)) = ((n - a : Nat) : Int) := by omega
    simp at h1
    simp [e1, hrg]
    exact h1
theorem sp_middle (hp : WfP p) (hb : Bc p N) {n : Nat} (hn : n ≤ N) (hV : ∀ i ≤ n, NV P p N m i) {fs0 fs : List Nm} {f : Nm} (hf : f ∈ names p) {k : Nat} {m3 : Mem} (h3 : m3.all (belowO 0) = true) {x : D} {W : List Nat} (hW : W.length = n + 1) (hx : WaysAt m m3 x W) {kv : List Kk} (hk : OkK p N kv) {s6 s7 s8 : Option D} :
    ∃ kv' L' s7' s8', OkK p N kv' ∧ L'.length = n + 1 ∧ phi p fs n L' = phi p (f :: fs) n W ∧
      es (ctxK (FS P) (k + (2 * n + 2)) (P.getD 0 0, [])) sp3 [some (eP p), some (eF fs0), some (.int n), some (.ref m.length), some x, some (.str f), s6, s7, s8] (MK p m kv m3) = .nx [some (eP p), some (eF fs0), some (.int n), some (.ref m.length), some (.ref (m.length + 1 + m3.length)), some (.str f), some (.ref (m.length + 1 + m3.length)), s7', s8'] (MK p m kv' (m3 ++ [some (.lst (natsD L'))])) := by
  have hs := hb.small
  obtain ⟨e2, m', h1, kv1, L1, s71, s81, hk1, hL1, hphi, rfl, rfl⟩ := forGo_inv (tg := .tgN 7) (b := es (ctxK (FS P) (k + (2 * n + 2)) (P.getD 0 0, [])) sp2) (h := fun i : Nat => D.int (0 + (i : Nat))) (fun r e m' => ∃ kv' L' s7' s8', OkK p N kv' ∧ L'.length = n + 1 ∧ phi p fs n L' = (r.map fun a => W.getD a 0 * cf p (f :: fs) (n - a)).sum ∧ m' = MK p m kv' (m3 ++ [some (.lst (natsD L'))]) ∧ e = [some (eP p), some (eF fs0), some (.int n), some (.ref m.length), some x, some (.str f), some (.ref (m.length + 1 + m3.length)), s7', s8']) (l := List.range (n + 1)) (r := []) (e := [some (eP p), some (eF fs0), some (.int n), some (.ref m.length), some x, some (.str f), some (.ref (m.length + 1 + m3.length)), s7, s8]) (m := MK p m kv (m3 ++ [some (.lst (natsD (List.replicate (n + 1) 0)))])) ⟨kv, _, s7, s8, hk, by simp, phi_zero, rfl, rfl⟩ (fun r' a l' hx2 e m' ⟨kv1, L1, s71, s81, hk1, hL1, hphi, hm, he⟩ => by
    subst hm he
    have ha : a < n + 1 := by
      have : a ∈ r' ++ a :: l' := by simp
      rw [← hx2] at this
      simpa using this
    obtain ⟨kv2, L2, s82, hk2, hL2, hphi2, g⟩ := sp_inner (fs0 := fs0) (fs := fs) (k := k) (s := s81) hp hb hn hV hf h3 hW hx (show a ≤ n by omega) hk1 hL1
    refine ⟨[some (eP p), some (eF fs0), some (.int n), some (.ref m.length), some x, some (.str f), some (.ref (m.length + 1 + m3.length)), some (.int (a : Nat)), s81], by simp [asg_N], _, _, .inl g, kv2, L2, _, s82, hk2, hL2, ?_, rfl, rfl⟩
    rw [hphi2, hphi, List.map_append, List.sum_append]
    simp)
  refine ⟨kv1, L1, s71, s81, hk1, hL1, hphi, ?_⟩
  have hlen : (MK p m kv m3).length = m.length + 1 + m3.length := by unfold MK; simp; omega
  have happ : ∀ o, MK p m kv m3 ++ [o] = MK p m kv (m3 ++ [o]) := fun o => by unfold MK; simp
  have b1 := bMul_lst (m := MK p m kv m3) (n := n + 1) (by omega)
  have b2 : Nat.ble 1 lineN = true := rfl
  have hrg := rng1_int (m := MK p m kv (m3 ++ [some (.lst (natsD (List.replicate (n + 1) 0)))])) (n := n + 1) (by omega)
  rw [rngL_eq] at hrg
  push_cast at b1 hrg
  simp only [es_seq, ySeq_eq, es_asg, yAsg_eq, ev_cellB, xCell_e, x2_eq, ev_lst, xLst_eq, ev_cons, xCons_eq, ev_con, xCon_ok, bnd_ok, ev_nil, List.length_cons, List.length_nil, Nat.zero_add, b2, if_true, ev_bin, ev_var, xVar_s, xVar_0, bop_add, bAdd_int, bop_mul, b1, toF_ok, hlen, happ, fbind_nx, es_loop, yLoop_eq, ev_rng1, x1_eq, hrg, itOf_tup]
  rw [asg_N (by simp)]
  simp at h1 hrg
  simp [hrg]
  rw [h1]
  simp [asg_N]
end
end K00
end
section
set_option linter.all false
set_option autoImplicit false
set_option maxRecDepth 100000
/-! KM18: splits_of, count_values. -/
namespace K00
open Mt
section
variable {P : List Nat} {p : Prog} {N : Nat} {m : Mem}
theorem splN_step (hp : WfP p) (hb : Bc p N) (hm : m.all (belowO 0) = true) {n : Nat} (hn : n ≤ N) (hV : ∀ i ≤ n, NV P p N m i) : NS P p N m n := by
  intro fs hfs m2 kv hm2 hkv k
  have hs := hb.small
  obtain ⟨e2, m', h1, fs1, kv1, m3, x, W, s5, s6, s7, s8, hk1, hfs1, hm3, hW, hx, hphi, rfl, rfl⟩ := forGo_inv (tg := .tgN 5) (b := es (ctxK (FS P) (k + (2 * n + 2)) (P.getD 0 0, [])) sp3) (h := D.str) (fun r e m' => ∃ fs1 kv' m3 x W s5 s6 s7 s8, OkK p N kv' ∧ fs = r ++ fs1 ∧ (m2 ++ m3).all (belowO 0) = true ∧ W.length = n + 1 ∧ WaysAt m (m2 ++ m3) x W ∧ phi p fs1 n W = cf p fs n ∧ m' = MK p m kv' (m2 ++ m3) ∧ e = [some (eP p), some (eF fs), some (.int n), some (.ref m.length), some x, s5, s6, s7, s8]) (l := fs) (r := []) (e := [some (eP p), some (eF fs), some (.int n), some (.ref m.length), some (.lst (natsD (1 :: List.replicate n 0))), none, none, none, none]) (m := MK p m kv m2) ⟨fs, kv, [], _, _, _, _, _, _, hkv, rfl, by simpa using hm2, by simp, .inl rfl, phi_one, by simp, rfl⟩ (fun r' f l' hx2 e m' ⟨fs1, kv1, m3, x, W, s5, s6, s7, s8, hk1, hfs1, hm3, hW, hx, hphi, hmm, he⟩ => by
    subst hmm he
    rw [List.nil_append] at hx2
    have hcut : fs1 = f :: l' := List.append_cancel_left (hfs1.symm.trans hx2)
    subst hcut
    have hf : f ∈ names p := hfs f (by rw [hx2]; simp)
    obtain ⟨kv2, L, s71, s81, hk2, hL, hphi2, g⟩ := sp_middle (P := P) (fs0 := fs) (fs := l') (k := k) (s6 := s6) (s7 := s7) (s8 := s8) hp hb hn hV hf hm3 hW hx hk1
    refine ⟨[some (eP p), some (eF fs), some (.int n), some (.ref m.length), some x, some (.str f), s6, s7, s8], by simp [asg_N], _, _, .inl g, l', kv2, m3 ++ [some (.lst (natsD L))], .ref (m.length + 1 + (m2 ++ m3).length), L, _, _, _, _, hk2, by rw [hx2]; simp, ?_, hL, .inr ⟨(m2 ++ m3).length, rfl, ?_⟩, ?_, ?_, rfl⟩
    · rw [← List.append_assoc, List.all_append, hm3]
      simp [ints_below]
    · rw [← List.append_assoc]
      simp
    · rw [hphi2, hphi]
    · rw [List.append_assoc])
  have hnil : fs1 = [] := by
    have := congrArg List.length hfs1
    simp at this
    exact this
  subst hnil
  rw [phi_nil] at hphi
  refine ⟨kv1, hk1, ?_⟩
  show run (FS P) ((k + (2 * n + 2)) + 1) _ _ _ = _
  rw [run_wt (f := f_splits_of) rfl]
  have htake : (MK p m kv1 (m2 ++ m3)).take (MK p m kv m2).length = MK p m kv1 m2 := by
    have e1 : MK p m kv1 (m2 ++ m3) = MK p m kv1 m2 ++ m3 := by unfold MK; simp
    have e2 : (MK p m kv m2).length = (MK p m kv1 m2).length := MK_len
    rw [e1, e2]
    simp
  refine runF_rtt (m' := MK p m kv1 (m2 ++ m3)) rfl rfl htake (MK_all hm hm2) rfl (by unfold MK; simp) ?_
  have b1 := bMul_lst (m := MK p m kv m2) (n := n) (by omega)
  have b2 : Nat.ble 1 lineN = true := rfl
  have b3 : bAdd (MK p m kv m2) (.lst [.int 1]) (.lst (natsD (List.replicate n 0))) = .ok (.lst (natsD (1 :: List.replicate n 0))) (MK p m kv m2) := by
    rw [bAdd_lst (by simp; unfold lineN; omega)]
    rfl
  have hi := ways_idx (p := p) (kv := kv1) (a := n) (t := []) hx (by omega)
  rw [List.append_nil, hphi] at hi
  have hit : ∀ m', itOf m' (eF fs) = some (fs.map .str, m') := fun m' => rfl
  simp at h1
  simp [f_splits_of, b2, b1, b3, asg_N, hit]
  rw [h1]
  simp [hi]
theorem run_num (hp : WfP p) (hb : Bc p N) (hm : m.all (belowO 0) = true) : ∀ n ≤ N, NV P p N m n ∧ NR P p N m n ∧ NS P p N m n := by
  intro n
  induction n using Nat.strongRecOn with
  | _ n ih =>
    intro hn
    have hV : NV P p N m n := numN_step hp hb hn (fun i hi => (ih i hi (by omega)).2.1) (fun i hi => (ih i hi (by omega)).2.2)
    have hV' : ∀ i ≤ n, NV P p N m i := fun i hi => by
      rcases Nat.lt_or_eq_of_le hi with h | h
      · exact (ih i h (by omega)).1
      · exact h ▸ hV
    exact ⟨hV, rowsN_step hp hb hn hV' (fun i hi => (ih i hi (by omega)).2.1), splN_step hp hb hm hn hV'⟩
theorem good0 (hm : m.all (belowO 0) = true) : GoodM m := by
  have h := runF_rtt (c := ⟨fun _ _ _ => .bad 0, fun _ _ _ => .bad 0, (0, [])⟩) (f := ⟨0, 0, .ret (.con .non), true, (0, [])⟩) (xs := []) (m := m) (m' := m ++ [none]) (m1 := m) (d := .non)
  clear h
  unfold GoodM
  rw [List.all_eq_true] at hm ⊢
  intro o ho
  have := hm o ho
  revert this
  cases o with
  | none => exact fun _ => rfl
  | some o => cases o with
    | lst xs => exact fun h => belows_le (Nat.zero_le _) xs h
    | it xs => exact fun h => belows_le (Nat.zero_le _) xs h
    | tab _ _ => exact fun _ => rfl
    | dK kvs =>
      intro h
      show (kvs.all fun kv => below _ kv.2) = true
      have h : (kvs.all fun kv => below 0 kv.2) = true := h
      rw [List.all_eq_true] at h ⊢
      exact fun x hx => below_le (Nat.zero_le _) _ (h x hx)
    | dT kvs =>
      intro h
      show (kvs.all fun kv => below _ kv.2) = true
      have h : (kvs.all fun kv => below 0 kv.2) = true := h
      rw [List.all_eq_true] at h ⊢
      exact fun x hx => below_le (Nat.zero_le _) _ (h x hx)
    | ins _ kvs =>
      intro h
      show (kvs.all fun kv => below _ kv.2) = true
      have h : (kvs.all fun kv => below 0 kv.2) = true := h
      rw [List.all_eq_true] at h ⊢
      exact fun x hx => below_le (Nat.zero_le _) _ (h x hx)
theorem run_needN {i lo hi : Int} {k : Nat} (h1 : lo ≤ i) (h2 : i ≤ hi) : run (FS P) (k+3) ix_need_number [.int i, .int lo, .int hi] m = .ok .non m := by
  rw [run_wt (f := f_need_number) rfl]
  have h : run (FS P) (k+2) 1 [.int i, .int lo, .int hi] m = .ok (.bl true) m := by rw [run_within]; simp [h1, h2]
  refine runF_nx (e := [some (.int i), some (.int lo), some (.int hi)]) rfl ?_
  simp [f_need_number, h]
theorem run_countV (hp : WfP p) (hb : Bc p N) (hm : m.all (belowO 0) = true) {n : Nat} (hn : n ≤ N) (h1 : 1 ≤ n) (h40 : n ≤ 40) {kd : Nm} (hk : kd ∈ names p) {k : Nat} : run (FS P) (k + (2 * n + 7)) ix_count_values [eP p, .str kd, .int (n : Nat)] m = .ok (.int (cv p kd n : Nat)) m := by
  show run (FS P) ((k + (2 * n + 6)) + 1) _ _ _ = _
  rw [run_wt (f := f_count_values) rfl]
  have hg := good0 hm
  have r1 : run (FS P) (k + (2 * n + 6)) 9 [eP p, .str kd] m = .ok .non m := run_needK (k := k + (2 * n + 1)) hg hp hk
  have r2 : run (FS P) (k + (2 * n + 6)) 2 [.int (n : Nat), .int 1, .int 40] m = .ok .non m := run_needN (k := k + (2 * n + 3)) (by omega) (by omega)
  obtain ⟨kv, hkv, r3⟩ := (run_num (P := P) (m := m) hp hb hm n hn).1 kd hk [] [] rfl OkK.nil (k + 4)
  rw [show k + 4 + (2 * n + 2) = k + (2 * n + 6) by omega] at r3
  refine runF_rtd (m2 := [some (.dT (kv.map (ent p)))]) rfl rfl hg rfl ?_
  have e1 : MK p m [] [] = m ++ [some (.dT [])] := rfl
  have e2 : MK p m kv [] = m ++ [some (.dT (kv.map (ent p)))] := rfl
  rw [e1, e2] at r3
  simp [f_count_values, r1, r2, r3]
end
end K00
end
section
set_option linter.all false
set_option autoImplicit false
set_option maxRecDepth 100000
/-! KM19: sizes of values. -/
namespace Mt
theorem forGo_ret {α : Type} {tg : A} {b : Y} {h : α → D} {m : Mem} {d : D} {x : α} {l2 : List α} (P : Env → Prop) (hx : ∀ e, P e → ∃ e1, assign tg (h x) e = some e1 ∧ b e1 m = .rt d m) : ∀ {l1 : List α} {e : Env}, P e → (∀ y ∈ l1, ∀ e, P e → ∃ e1, assign tg (h y) e = some e1 ∧ ∃ e2, b e1 m = .nx e2 m ∧ P e2) → forGo tg b ((l1 ++ x :: l2).map h) e m = .rt d m
  | [], e, he, _ => by
    obtain ⟨e1, a1, b1⟩ := hx e he
    show (match assign tg (h x) e with
      | none => F.bad 80
      | some e' => match b e' m with
        | .nx e2 m2 => forGo tg b (l2.map h) e2 m2
        | .ct e2 m2 => forGo tg b (l2.map h) e2 m2
        | .bk e2 m2 => .nx e2 m2
        | .rt d2 m2 => .rt d2 m2
        | .exc c fs e2 m2 => .exc c fs e2 m2
        | .bad w => .bad w) = _
    rw [a1]
    dsimp only
    rw [b1]
  | y :: l1, e, he, hy => by
    obtain ⟨e1, a1, e2, b1, p1⟩ := hy y (by simp) e he
    rw [← forGo_ret P hx (l1 := l1) (e := e2) p1 (fun z hz => hy z (by simp [hz]))]
    show (match assign tg (h y) e with
      | none => F.bad 80
      | some e' => match b e' m with
        | .nx e2 m2 => forGo tg b ((l1 ++ x :: l2).map h) e2 m2
        | .ct e2 m2 => forGo tg b ((l1 ++ x :: l2).map h) e2 m2
        | .bk e2 m2 => .nx e2 m2
        | .rt d2 m2 => .rt d2 m2
        | .exc c fs e2 m2 => .exc c fs e2 m2
        | .bad w => .bad w) = _
    rw [a1]
    dsimp only
    rw [b1]
theorem isTys_tup {m : Mem} {xs : List D} : isTys m (.tup xs) [.int] = some false := rfl
end Mt
namespace K00
open Mt
/-- the parts of a value: size, value, key -/
abbrev Pt := Nat × D × D
def isSt : D → Bool
  | .int _ => true
  | .tup _ => true
  | _ => false
theorem notStr {d : D} {m : Mem} (h : isSt d = true) : isTys m d [.str] = some false := by
  cases d <;> first | rfl | cases h
structure SzOk (P : List Nat) (n : Nat) (v : D) : Prop where
  st : isSt v = true
  sz : ∀ j m, run (FS P) (j + (n + 1)) ix_size_of [v] m = .ok (.int (n : Nat)) m
  lsz : ∀ j m, run (FS P) (j + n) ix__law_size [v] m = .ok (.int (n : Nat)) m
section
variable {P : List Nat}
theorem run_whole_tup {xs : List D} {j : Nat} {m : Mem} : run (FS P) (j + 1) 0 [.tup xs] m = .ok (.bl false) m := by
  rw [run_wt (f := f_whole) rfl]
  exact runF_rt rfl rfl
theorem run_whole_int {i : Int} {j : Nat} {m : Mem} : run (FS P) (j + 1) 0 [.int i] m = .ok (.bl true) m := by
  rw [run_wt (f := f_whole) rfl]
  exact runF_rt rfl rfl
theorem sz_num {i : Int} : SzOk P 1 (.int i) := by
  refine ⟨rfl, fun j m => ?_, fun j m => ?_⟩
  · show run (FS P) ((j + 1) + 1) _ _ _ = _
    rw [run_wt (f := f_size_of) rfl]
    apply runF_rt rfl
    simp [f_size_of, run_whole_int]
  · show run (FS P) (j + 1) _ _ _ = _
    rw [run_wt (f := f__law_size) rfl]
    exact runF_rt rfl rfl
def szs (l : List (Nat × D)) : Nat := (l.map (·.1)).sum
theorem szs_le {l : List (Nat × D)} : ∀ x ∈ l, x.1 ≤ szs l := fun x hx => by
  unfold szs
  induction l with
  | nil => cases hx
  | cons a l ih =>
    rw [List.map_cons, List.sum_cons]
    rcases List.mem_cons.mp hx with rfl | hx
    · omega
    · have := ih hx
      omega
theorem sz_parts {l : List (Nat × D)} (h : ∀ x ∈ l, SzOk P x.1 x.2) (hl : l.length ≤ 1000) {e : Env} {j : Nat} {m : Mem} (he : 2 < e.length) : lcGo (turn (.tgN 2) (xCon (.bl true)) (give1 (xCall (run (FS P) (j + (szs l + 1)) 22) (xCons (xVar 2) (xCon (.tup []))))) e) (l.map (·.2)) [] m = .ok (l.map fun x => D.int (x.1 : Nat)) m := by
  refine lcGo_map1 (h := fun x : Nat × D => x.2) (g := fun x => D.int (x.1 : Nat)) (fun x hx => ?_) (by unfold lineN; omega)
  have h1 := (h x hx).sz (j + (szs l - x.1)) m
  have := szs_le x hx
  rw [show j + (szs l - x.1) + (x.1 + 1) = j + (szs l + 1) by omega] at h1
  have hv : xVar 2 (e.set 2 (some x.2)) m = .ok x.2 m := by
    have : (e.set 2 (some x.2))[2]? = some (some x.2) := by simp [he]
    match e, he with
    | a :: b :: c :: r, _ => rfl
  simp [asg_N he, hv, h1]
theorem lsz_parts {l : List (Nat × D)} (h : ∀ x ∈ l, SzOk P x.1 x.2) (hl : l.length ≤ 1000) {e : Env} {j : Nat} {m : Mem} (he : 2 < e.length) : lcGo (turn (.tgN 2) (xCon (.bl true)) (give1 (xCall (run (FS P) (j + szs l) 48) (xCons (xVar 2) (xCon (.tup []))))) e) (l.map (·.2)) [] m = .ok (l.map fun x => D.int (x.1 : Nat)) m := by
  refine lcGo_map1 (h := fun x : Nat × D => x.2) (g := fun x => D.int (x.1 : Nat)) (fun x hx => ?_) (by unfold lineN; omega)
  have h1 := (h x hx).lsz (j + (szs l - x.1)) m
  have := szs_le x hx
  rw [show j + (szs l - x.1) + x.1 = j + szs l by omega] at h1
  have hv : xVar 2 (e.set 2 (some x.2)) m = .ok x.2 m := by
    match e, he with
    | a :: b :: c :: r, _ => rfl
  simp [asg_N he, hv, h1]
abbrev cX : X := xAnd (x2 cEq (xPack oLen (xCons (xVar 0) (xCon (.tup [])))) (xCon (.int 2))) (xIsi (x2 idxR (xVar 0) (xCon (.int 0))) [.str])
theorem cX_rows {xs : List D} (h : ∀ x ∈ xs, isSt x = true) {r : Env} {m : Mem} : cX (some (.tup xs) :: r) m = .ok (.bl false) m := by
  match xs, h with
  | [], _ => rfl
  | [a], _ => rfl
  | a :: b :: c :: l, _ =>
    have : ¬ ((((a :: b :: c :: l).length : Nat) : Int) = 2) := by simp; omega
    simp only [cX, xAnd_eq, x2_eq, xPack_eq, xCons_eq, xVar_0, bnd_ok, xCon_ok, oLen_tup, cEq_int, this, decide_false]
  | [a, b], h =>
    have := notStr (m := m) (h a (by simp))
    have e : ((([a, b] : List D).length : Nat) : Int) = 2 := rfl
    simp only [cX, xAnd_eq, x2_eq, xPack_eq, xCons_eq, xVar_0, bnd_ok, xCon_ok, oLen_tup, cEq_int, e, decide_true, xIsi_eq, idx_tup0, this]
theorem cX_app {s : Nm} {x : D} {r : Env} {m : Mem} : cX (some (.tup [.str s, x]) :: r) m = .ok (.bl true) m := rfl
theorem sz_rows {l : List (Nat × D)} (h : ∀ x ∈ l, SzOk P x.1 x.2) (hl : l.length ≤ 1000) : SzOk P (szs l + 1) (.tup (l.map (·.2))) := by
  have hst : ∀ x ∈ l.map (·.2), isSt x = true := fun x hx => by
    obtain ⟨y, hy, rfl⟩ := List.mem_map.mp hx
    exact (h y hy).st
  have en : ((szs l + 1 : Nat) : Int) = 1 + ((l.map fun x => x.1).sum : Nat) := by unfold szs; omega
  refine ⟨rfl, fun j m => ?_, fun j m => ?_⟩
  · show run (FS P) ((j + (szs l + 1)) + 1) _ _ _ = _
    rw [run_wt (f := f_size_of) rfl]
    apply runF_rt rfl
    have hw : run (FS P) (j + (szs l + 1)) 0 [.tup (l.map (·.2))] m = .ok (.bl false) m := run_whole_tup (j := j + szs l)
    have hp := sz_parts h hl (e := [some (.tup (l.map (·.2))), some (.tup (l.map (·.2))), none]) (j := j) (m := m) (by simp)
    have hc := cX_rows hst (r := [none, none]) (m := m)
    have hs := oSum_map (m := m) (f := fun x : Nat × D => x.1) (l := l)
    rw [en]
    generalize ((l.map fun x => x.1).sum : Nat) = S at *
    simp only [f_size_of, es_seq, ySeq_eq, es_ite, yIte_eq, ev_call, xCall_eq, ev_cons, xCons_eq, ev_var, List.map_cons, List.map_nil, List.singleton_append, List.cons_append, List.nil_append, List.replicate, xVar_0, bnd_ok, ev_nil, xCon_ok, ctxK_call, hw, toF_ok, truth_bl, es_skip, ySkip_eq, fbind_nx, es_asg, yAsg_eq, ev_ite, xIte_eq]
    show (F.bind (R.toF (R.bind (cX _ m) _) _ _) _) = _
    rw [hc]
    simp [asg_N]
    rw [hp]
    simp [hs]
  · show run (FS P) ((j + szs l) + 1) _ _ _ = _
    rw [run_wt (f := f__law_size) rfl]
    apply runF_rt rfl
    have hp := lsz_parts h hl (e := [some (.tup (l.map (·.2))), some (.tup (l.map (·.2))), none]) (j := j) (m := m) (by simp)
    have hc := cX_rows hst (r := [none, none]) (m := m)
    have hs := oSum_map (m := m) (f := fun x : Nat × D => x.1) (l := l)
    have ht : isTys m (.tup (l.map (·.2))) [.int] = some false := rfl
    rw [en]
    generalize ((l.map fun x => x.1).sum : Nat) = S at *
    simp only [f__law_size, es_seq, ySeq_eq, es_ite, yIte_eq, ev_isi, xIsi_eq, ev_var, List.map_cons, List.map_nil, List.singleton_append, List.cons_append, List.nil_append, List.replicate, xVar_0, bnd_ok, ht, toF_ok, truth_bl, es_skip, ySkip_eq, fbind_nx, es_asg, yAsg_eq, ev_ite, xIte_eq]
    show (F.bind (R.toF (R.bind (cX _ m) _) _ _) _) = _
    rw [hc]
    simp [asg_N]
    rw [hp]
    simp [hs]
theorem sz_app {l : List (Nat × D)} {mk : Nm} (h : ∀ x ∈ l, SzOk P x.1 x.2) (hl : l.length ≤ 1000) : SzOk P (szs l + 1) (.tup [.str mk, .tup (l.map (·.2))]) := by
  have en : ((szs l + 1 : Nat) : Int) = 1 + ((l.map fun x => x.1).sum : Nat) := by unfold szs; omega
  refine ⟨rfl, fun j m => ?_, fun j m => ?_⟩
  · show run (FS P) ((j + (szs l + 1)) + 1) _ _ _ = _
    rw [run_wt (f := f_size_of) rfl]
    apply runF_rt rfl
    have hw : run (FS P) (j + (szs l + 1)) 0 [.tup [.str mk, .tup (l.map (·.2))]] m = .ok (.bl false) m := run_whole_tup (j := j + szs l)
    have hp := sz_parts h hl (e := [some (.tup [.str mk, .tup (l.map (·.2))]), some (.tup (l.map (·.2))), none]) (j := j) (m := m) (by simp)
    have hc := cX_app (s := mk) (x := .tup (l.map (·.2))) (r := [none, none]) (m := m)
    have hs := oSum_map (m := m) (f := fun x : Nat × D => x.1) (l := l)
    rw [en]
    generalize ((l.map fun x => x.1).sum : Nat) = S at *
    simp only [f_size_of, es_seq, ySeq_eq, es_ite, yIte_eq, ev_call, xCall_eq, ev_cons, xCons_eq, ev_var, List.map_cons, List.map_nil, List.singleton_append, List.cons_append, List.nil_append, List.replicate, xVar_0, bnd_ok, ev_nil, xCon_ok, ctxK_call, hw, toF_ok, truth_bl, es_skip, ySkip_eq, fbind_nx, es_asg, yAsg_eq, ev_ite, xIte_eq]
    show (F.bind (R.toF (R.bind (cX _ m) _) _ _) _) = _
    rw [hc]
    simp [asg_N]
    rw [hp]
    simp [hs]
  · show run (FS P) ((j + szs l) + 1) _ _ _ = _
    rw [run_wt (f := f__law_size) rfl]
    apply runF_rt rfl
    have hp := lsz_parts h hl (e := [some (.tup [.str mk, .tup (l.map (·.2))]), some (.tup (l.map (·.2))), none]) (j := j) (m := m) (by simp)
    have hc := cX_app (s := mk) (x := .tup (l.map (·.2))) (r := [none, none]) (m := m)
    have hs := oSum_map (m := m) (f := fun x : Nat × D => x.1) (l := l)
    have ht : isTys m (.tup [.str mk, .tup (l.map (·.2))]) [.int] = some false := rfl
    rw [en]
    generalize ((l.map fun x => x.1).sum : Nat) = S at *
    simp only [f__law_size, es_seq, ySeq_eq, es_ite, yIte_eq, ev_isi, xIsi_eq, ev_var, List.map_cons, List.map_nil, List.singleton_append, List.cons_append, List.nil_append, List.replicate, xVar_0, bnd_ok, ht, toF_ok, truth_bl, es_skip, ySkip_eq, fbind_nx, es_asg, yAsg_eq, ev_ite, xIte_eq]
    show (F.bind (R.toF (R.bind (cX _ m) _) _ _) _) = _
    rw [hc]
    simp [asg_N]
    rw [hp]
    simp [hs]
end
end K00
end
section
set_option linter.all false
set_option autoImplicit false
set_option maxRecDepth 100000
/-! KM20: keys of values; what is a value. -/
namespace Mt
theorem idx_tupN {m : Mem} {xs : List D} {i : Nat} {d : D} (h : xs[i]? = some d) : idxR m (.tup xs) (.int (i : Nat)) = .ok d m := by
  have hi : i < xs.length := (List.getElem?_eq_some_iff.mp h).1
  show (match ix xs.length (i : Int) with
    | some k => match xs[k]? with
      | some d => R.ok d m
      | none => .bad 20
    | none => .bad 20) = _
  rw [ix_nat hi]
  dsimp only
  rw [h]
theorem findIx_str : ∀ {ns : List (List Nat)} {k : Nat} {n : List Nat} {a : Nat}, ns.Nodup → ns[a]? = some n → findIx (.str n) (ns.map .str) k = some (k + a)
  | [], _, _, a, _, h => by simp at h
  | b :: ns, k, n, a, hd, h => by
    rw [List.nodup_cons] at hd
    show (match natsEq b n with
      | true => some k
      | false => findIx (.str n) (ns.map .str) (k + 1)) = _
    rw [natsEq_dec]
    cases a with
    | zero =>
      simp at h
      subst h
      simp
    | succ a =>
      rw [List.getElem?_cons_succ] at h
      have hne : b ≠ n := fun e => hd.1 (e ▸ List.mem_of_getElem? h)
      simp only [hne, decide_false]
      rw [findIx_str hd.2 h]
      congr 1
      omega
theorem mIndex_str {m : Mem} {ns : List (List Nat)} {n : List Nat} {a : Nat} (ho : ∀ n ∈ ns, okS n = true) (hd : ns.Nodup) (h : ns[a]? = some n) : mIndex m (.lst (ns.map .str)) [.str n] = .ok (.int (a : Nat)) m := by
  have hn : okS n = true := ho n (List.mem_of_getElem? h)
  show (if fit (.str n) && fit (.lst (ns.map .str)) then (match findIx (.str n) (ns.map .str) 0 with
      | some k => R.ok (D.int k) m
      | none => .bad 42) else .bad 42) = _
  rw [fit_str hn, K00.fit_strs ho, findIx_str hd h, Nat.zero_add]
  rfl
theorem map_zipIdx {α β : Type} {l : List α} {f : α → β} : (l.zipIdx.map fun q => f q.1) = l.map f := by
  have := zipIdx_map_self (l := l)
  conv => rhs; rw [← this]
  rw [List.map_map]
  rfl
theorem range_zipIdx {α β : Type} {l : List α} {f : Nat → β} : (List.range l.length).map f = l.zipIdx.map fun q => f q.2 := by
  rw [List.zipIdx_eq_zip_range']
  have : (List.zip l (List.range' 0 l.length)).map (fun q => q.2) = List.range' 0 l.length := List.map_snd_zip (by simp)
  rw [List.range_eq_range']
  conv => lhs; rw [← this]
  rw [List.map_map]
  rfl
theorem zip_map {α : Type} {f g : α → D} : ∀ {l : List α}, zipL (l.map f) (l.map g) = l.map fun x => D.tup [f x, g x]
  | [] => rfl
  | a :: l => by
    show D.tup [f a, g a] :: zipL (l.map f) (l.map g) = _
    rw [zip_map]
    rfl
@[simp] theorem bmK_index {m : Mem} {xs : List D} : bmK .index m (.lst xs) = true := id rfl
@[simp] theorem bmR_index : bmR .index = mIndex := id rfl
@[simp] theorem zpR_tup {m : Mem} {xs ys : List D} : zpR m (.tup xs) (.tup ys) = .ok (.tup (zipL xs ys)) m := id rfl
@[simp] theorem zpT_tup {m : Mem} {xs ys : List D} : zpT m (.tup xs) (.tup ys) = .ok (zipL xs ys) m := id rfl
@[simp] theorem oTuple_lst {m : Mem} {xs : List D} : oTuple m [.lst xs] = .ok (.tup xs) m := id rfl
@[simp] theorem yZret_eq {k i : Nat} {a b el : X} {tg : A} {e : Env} {m : Mem} : yZret k i a b el tg e m = (a e m).toF e fun x m => (b e m).toF e fun y m => (zpT m x y).toF e fun zs m => match zget e k i with
  | some p => (lcGo (turn tg (xCon (.bl true)) (give1 el) (wipeE (e.set k none) (tgSlots tg))) zs [] m).toF e fun ys m => .rt (.tup [p, .tup ys]) m
  | none => .bad 98 := id rfl
end Mt
namespace K00
open Mt
structure VOk (P : List Nat) (p : Prog) (kd : Nm) (x : Pt) : Prop where
  s : SzOk P x.1 x.2.1
  key : ∀ j m, run (FS P) (j + (x.1 + 2)) ix_key_of [eP p, .str kd, x.2.1] m = .ok x.2.2 m
  lkey : ∀ j m, GoodM m → run (FS P) (j + (x.1 + 1)) ix__law_key [eP p, .str kd, x.2.1] m = .ok (.tup [.int (x.1 : Nat), x.2.2]) m
  iv : ∀ j m, run (FS P) (j + (x.1 + 2)) ix_is_value_of [eP p, .str kd, x.2.1] m = .ok (.bl true) m
section
variable {P : List Nat} {p : Prog}
theorem vok_num (hp : WfP p) {kd : Nm} {lo hi i : Int} (hl : lk p kd = some (.num lo hi)) (h1 : lo ≤ i) (h2 : i ≤ hi) : VOk P p kd (1, .int i, .tup [.int i]) := by
  have rb : ∀ j m, run (FS P) (j + 2) 8 [eP p, .str kd] m = .ok (eB (.num lo hi)) m := fun j m => run_bodyW (k := j + 1) hp hl
  have e0 : ∀ m, idxR m (eB (.num lo hi)) (.int 0) = .ok (.str sNum) m := fun m => rfl
  have c1 : ∀ m, cEq m (.str sNum) (.str sNum) = .ok (.bl true) m := fun m => rfl
  refine ⟨sz_num, fun j m => ?_, fun j m hg => ?_, fun j m => ?_⟩
  · show run (FS P) ((j + 2) + 1) _ _ _ = _
    rw [run_wt (f := f_key_of) rfl]
    apply runF_rt rfl
    have b2 : Nat.ble 1 lineN = true := rfl
    simp [f_key_of, rb, asg_N, e0, c1, b2]
  · show run (FS P) ((j + 1) + 1) _ _ _ = _
    rw [run_wt (f := f__law_key) rfl]
    apply runF_rt rfl
    have rb2 : run (FS P) (j + 1) 44 [eP p, .str kd] m = .ok (eB (.num lo hi)) m := run_lawBody (k := j) hg hp hl
    have b1 : Nat.ble 1 lineN = true := rfl
    have b2 : Nat.ble 2 lineN = true := rfl
    simp [f__law_key, rb2, asg_N, e0, c1, b1, b2]
  · show run (FS P) ((j + 2) + 1) _ _ _ = _
    rw [run_wt (f := f_is_value_of) rfl]
    apply runF_rt rfl
    have i1 : ∀ m', idxR m' (eB (.num lo hi)) (.int 1) = .ok (.int lo) m' := fun m' => rfl
    have i2 : ∀ m', idxR m' (eB (.num lo hi)) (.int 2) = .ok (.int hi) m' := fun m' => rfl
    have rw1 : run (FS P) (j + 2) 0 [.int i] m = .ok (.bl true) m := run_whole_int (j := j + 1)
    simp [f_is_value_of, rb, asg_N, e0, c1, i1, i2, rw1, h1, h2]
def sizes (l : List Pt) : Nat := (l.map (·.1)).sum
theorem szs_eq {l : List Pt} : szs (l.map fun x => (x.1, x.2.1)) = sizes l := by
  unfold szs sizes
  rw [List.map_map]
  rfl
theorem sizes_le {l : List Pt} : ∀ x ∈ l, x.1 ≤ sizes l := fun x hx => by
  rw [← szs_eq]
  exact szs_le (x.1, x.2.1) (List.mem_map_of_mem (f := fun x : Pt => (x.1, x.2.1)) hx)
def rowK (l : List Pt) : D := .tup [.int l.length, .tup (l.map fun x => .tup [.int (x.1 : Nat), x.2.2])]
theorem vok_rows (hp : WfP p) {kd k' : Nm} (hl : lk p kd = some (.rows k')) {l : List Pt} (h : ∀ x ∈ l, VOk P p k' x) (hlen : l.length ≤ 1000) : VOk P p kd (sizes l + 1, .tup (l.map fun x => x.2.1), rowK l) := by
  have hs : SzOk P (sizes l + 1) (.tup (l.map fun x => x.2.1)) := by
    have := sz_rows (P := P) (l := l.map fun x => (x.1, x.2.1)) (fun x hx => by
      obtain ⟨y, hy, rfl⟩ := List.mem_map.mp hx
      exact (h y hy).s) (by simpa using hlen)
    rw [szs_eq, List.map_map] at this
    exact this
  have e0 : ∀ m, idxR m (eB (.rows k')) (.int 0) = .ok (.str sRows) m := fun m => rfl
  have i1 : ∀ m, idxR m (eB (.rows k')) (.int 1) = .ok (.str k') m := fun m => rfl
  have c1 : ∀ m, cEq m (.str sRows) (.str sNum) = .ok (.bl false) m := fun m => rfl
  have c2 : ∀ m, cEq m (.str sRows) (.str sRows) = .ok (.bl true) m := fun m => rfl
  have b1 : Nat.ble 1 lineN = true := rfl
  have b2 : Nat.ble 2 lineN = true := rfl
  refine ⟨hs, fun j m => ?_, fun j m hg => ?_, fun j m => ?_⟩
  · show run (FS P) ((j + (sizes l + 2)) + 1) _ _ _ = _
    rw [run_wt (f := f_key_of) rfl]
    apply runF_rt rfl
    have rb : run (FS P) (j + (sizes l + 2)) 8 [eP p, .str kd] m = .ok (eB (.rows k')) m := run_bodyW (k := j + (sizes l + 1)) hp hl
    have l1 : lcGo (turn (.tgN 4) (xCon (.bl true)) (give1 (xTup (xCons (xCall (run (FS P) (j + (sizes l + 2)) 22) (xCons (xVar 4) (xCon (.tup [])))) (xCons (xCall (run (FS P) (j + (sizes l + 2)) 24) (xCons (xVar 0) (xCons (x2 idxR (xVar 3) (xCon (.int 1))) (xCons (xVar 4) (xCon (.tup [])))))) (xCon (.tup [])))))) [some (eP p), some (.str kd), some (.tup (l.map fun x => x.2.1)), some (eB (.rows k')), none, none, none, none, none, none]) (l.map fun x => x.2.1) [] m = .ok (l.map fun x => D.tup [.int (x.1 : Nat), x.2.2]) m := by
      refine lcGo_map1 (h := fun x : Pt => x.2.1) (fun x hx => ?_) (by unfold lineN; omega)
      have hz := sizes_le x hx
      have r1 := (h x hx).s.sz (j + (sizes l - x.1) + 1) m
      have r2 := (h x hx).key (j + (sizes l - x.1)) m
      rw [show j + (sizes l - x.1) + 1 + (x.1 + 1) = j + (sizes l + 2) by omega] at r1
      rw [show j + (sizes l - x.1) + (x.1 + 2) = j + (sizes l + 2) by omega] at r2
      simp [asg_N, r1, r2, i1, b2]
    simp [f_key_of, rb, asg_N, e0, c1, c2, l1, b2, rowK]
  · show run (FS P) ((j + (sizes l + 1)) + 1) _ _ _ = _
    rw [run_wt (f := f__law_key) rfl]
    apply runF_rt rfl
    have rb : run (FS P) (j + (sizes l + 1)) 44 [eP p, .str kd] m = .ok (eB (.rows k')) m := run_lawBody (k := j + sizes l) hg hp hl
    have l1 : lcGo (turn (.tgN 4) (xCon (.bl true)) (give1 (xCall (run (FS P) (j + (sizes l + 1)) 49) (xCons (xVar 0) (xCons (x2 idxR (xVar 3) (xCon (.int 1))) (xCons (xVar 4) (xCon (.tup []))))))) [some (eP p), some (.str kd), some (.tup (l.map fun x => x.2.1)), some (eB (.rows k')), none, none, none, none, none, none]) (l.map fun x => x.2.1) [] m = .ok (l.map fun x => D.tup [.int (x.1 : Nat), x.2.2]) m := by
      refine lcGo_map1 (h := fun x : Pt => x.2.1) (fun x hx => ?_) (by unfold lineN; omega)
      have hz := sizes_le x hx
      have r2 := (h x hx).lkey (j + (sizes l - x.1)) m hg
      rw [show j + (sizes l - x.1) + (x.1 + 1) = j + (sizes l + 1) by omega] at r2
      simp [asg_N, r2, i1]
    have r3 := hs.lsz j m
    push_cast at r3
    simp [f__law_key, rb, asg_N, e0, c1, c2, l1, b2, rowK, r3]
  · show run (FS P) ((j + (sizes l + 2)) + 1) _ _ _ = _
    rw [run_wt (f := f_is_value_of) rfl]
    apply runF_rt rfl
    have rb : run (FS P) (j + (sizes l + 2)) 8 [eP p, .str kd] m = .ok (eB (.rows k')) m := run_bodyW (k := j + (sizes l + 1)) hp hl
    have l1 : lcGo (turn (.tgN 4) (xCon (.bl true)) (give1 (xCall (run (FS P) (j + (sizes l + 2)) 19) (xCons (xVar 0) (xCons (x2 idxR (xVar 3) (xCon (.int 1))) (xCons (xVar 4) (xCon (.tup []))))))) [some (eP p), some (.str kd), some (.tup (l.map fun x => x.2.1)), some (eB (.rows k')), none, none, none]) (l.map fun x => x.2.1) [] m = .ok (l.map fun _ => D.bl true) m := by
      refine lcGo_map1 (h := fun x : Pt => x.2.1) (fun x hx => ?_) (by unfold lineN; omega)
      have hz := sizes_le x hx
      have r2 := (h x hx).iv (j + (sizes l - x.1)) m
      rw [show j + (sizes l - x.1) + (x.1 + 2) = j + (sizes l + 2) by omega] at r2
      simp [asg_N, r2, i1]
    have ti : isTys m (.tup (l.map fun x => x.2.1)) [.tuple] = some true := rfl
    simp [f_is_value_of, rb, asg_N, e0, c1, c2, ti, l1, oAll_true]
end
end K00
end
section
set_option linter.all false
set_option autoImplicit false
set_option maxRecDepth 100000
/-! KM21: keys of values that a maker made. -/
namespace K00
open Mt
section
variable {P : List Nat} {p : Prog}
theorem run_fields (hp : WfP p) {kd : Nm} {ms : List (Nm × List Nm)} (hl : lk p kd = some (.mk ms)) {mk : Nm} {fs : List Nm} (hm : (mk, fs) ∈ ms) {j : Nat} {m : Mem} : run (FS P) (j + 2) ix_fields_of [eP p, .str kd, .str mk] m = .ok (eF fs) m := by
  show run (FS P) ((j + 1) + 1) _ _ _ = _
  rw [run_wt (f := f_fields_of) rfl]
  apply runF_rt rfl
  have hk : MkOk ms (names p) := hp.bd hl
  have rb : run (FS P) (j + 1) 8 [eP p, .str kd] m = .ok (eB (.mk ms)) m := run_bodyW (k := j) hp hl
  have e0 : ∀ m, idxR m (eB (.mk ms)) (.int 0) = .ok (.str sMk) m := fun m => rfl
  have i1 : ∀ m, idxR m (eB (.mk ms)) (.int 1) = .ok (.tup (ms.map eM)) m := fun m => rfl
  have c1 : ∀ m, cEq m (.str sMk) (.str sMk) = .ok (.bl true) m := fun m => rfl
  obtain ⟨l1, l2, hsp⟩ := List.append_of_mem hm
  have hok := (hk.w _ hm).2.1
  have hnd := hk.nd
  have hloop := forGo_ret (tg := .tgT (.cons (.tgN 4) (.cons (.tgN 5) .nil))) (b := es (ctxK (FS P) (j + 1) (P.getD 0 0, [])) (.ite (.cmp .eq (.var 4) (.var 2)) (.ret (.var 5)) .skip)) (h := eM) (m := m) (d := eF fs) (x := (mk, fs)) (l1 := l1) (l2 := l2) (e := [some (eP p), some (.str kd), some (.str mk), some (eB (.mk ms)), none, none]) (fun e => ∃ a b, e = [some (eP p), some (.str kd), some (.str mk), some (eB (.mk ms)), a, b]) (fun e ⟨a, b, he⟩ => by
    subst he
    refine ⟨[some (eP p), some (.str kd), some (.str mk), some (eB (.mk ms)), some (.str mk), some (eF fs)], by simp [asg_N, eM], ?_⟩
    simp [cEq_str hok hok]) ⟨_, _, rfl⟩ (fun y hy e ⟨a, b, he⟩ => by
    subst he
    have hym : y ∈ ms := by rw [hsp]; simp [hy]
    have hne : ¬ (y.1 = mk) := by
      intro heq
      rw [hsp, List.map_append, List.nodup_append] at hnd
      exact hnd.2.2 y.1 (List.mem_map_of_mem hy) mk (by simp) heq
    refine ⟨[some (eP p), some (.str kd), some (.str mk), some (eB (.mk ms)), some (.str y.1), some (eF y.2)], by simp [asg_N, eM], [some (eP p), some (.str kd), some (.str mk), some (eB (.mk ms)), some (.str y.1), some (eF y.2)], ?_, _, _, rfl⟩
    simp [cEq_str (hk.w _ hym).2.1 hok, hne])
  rw [← hsp] at hloop
  simp at hloop
  simp [f_fields_of, rb, asg_N, e0, c1, i1]
  rw [hloop]
  rfl
/-- the parts with the kinds that they have -/
abbrev Pf := Nm × Pt
def sizesF (l : List Pf) : Nat := (l.map fun y => y.2.1).sum
theorem szsF_eq {l : List Pf} : szs (l.map fun y => (y.2.1, y.2.2.1)) = sizesF l := by
  unfold szs sizesF
  rw [List.map_map]
  rfl
theorem sizesF_le {l : List Pf} : ∀ x ∈ l, x.2.1 ≤ sizesF l := fun x hx => by
  rw [← szsF_eq]
  exact szs_le (x.2.1, x.2.2.1) (List.mem_map_of_mem (f := fun x : Pf => (x.2.1, x.2.2.1)) hx)
def appV (mk : Nm) (l : List Pf) : D := .tup [.str mk, .tup (l.map fun y => y.2.2.1)]
def appK (a : Nat) (l : List Pf) : D := .tup [.int a, .tup (l.map fun y => .tup [.int (y.2.1 : Nat), y.2.2.2])]
theorem vok_app (hp : WfP p) {kd : Nm} {ms : List (Nm × List Nm)} (hl : lk p kd = some (.mk ms)) {mk : Nm} {a : Nat} {l : List Pf} (hm : ms[a]? = some (mk, l.map (·.1))) (h : ∀ y ∈ l, VOk P p y.1 y.2) : VOk P p kd (sizesF l + 1, appV mk l, appK a l) := by
  have hk : MkOk ms (names p) := hp.bd hl
  have hmem : (mk, l.map (·.1)) ∈ ms := List.mem_of_getElem? hm
  have hlen : l.length ≤ 4 := by have := (hk.w _ hmem).2.2.1; simpa using this
  have hs : SzOk P (sizesF l + 1) (appV mk l) := by
    have := sz_app (P := P) (mk := mk) (l := l.map fun y => (y.2.1, y.2.2.1)) (fun x hx => by
      obtain ⟨y, hy, rfl⟩ := List.mem_map.mp hx
      exact (h y hy).s) (by simp; omega)
    rw [szsF_eq, List.map_map] at this
    exact this
  have e0 : ∀ m, idxR m (eB (.mk ms)) (.int 0) = .ok (.str sMk) m := fun m => rfl
  have i1 : ∀ m, idxR m (eB (.mk ms)) (.int 1) = .ok (.tup (ms.map eM)) m := fun m => rfl
  have c1 : ∀ m, cEq m (.str sMk) (.str sNum) = .ok (.bl false) m := fun m => rfl
  have c2 : ∀ m, cEq m (.str sMk) (.str sRows) = .ok (.bl false) m := fun m => rfl
  have b1 : Nat.ble 1 lineN = true := rfl
  have b2 : Nat.ble 2 lineN = true := rfl
  have v0 : ∀ m, idxR m (appV mk l) (.int 0) = .ok (.str mk) m := fun m => idx_tup0
  have v1 : ∀ m, idxR m (appV mk l) (.int 1) = .ok (.tup (l.map fun y => y.2.2.1)) m := fun m => idx_tup1
  have ia : ∀ m, idxR m (.tup (ms.map eM)) (.int (a : Nat)) = .ok (eM (mk, l.map (·.1))) m := fun m => idx_tupN (by rw [List.getElem?_map, hm]; rfl)
  have if1 : ∀ m, idxR m (eM (mk, l.map (·.1))) (.int 1) = .ok (eF (l.map (·.1))) m := fun m => idx_tup1
  have hix : ∀ m, mIndex m (.lst ((ms.map (·.1)).map .str)) [.str mk] = .ok (.int (a : Nat)) m := fun m => mIndex_str (fun n hn => by
    obtain ⟨y, hy, rfl⟩ := List.mem_map.mp hn
    exact (hk.w y hy).2.1) hk.nd (by rw [List.getElem?_map, hm]; rfl)
  refine ⟨hs, fun j m => ?_, fun j m hg => ?_, fun j m => ?_⟩
  · show run (FS P) ((j + (sizesF l + 2)) + 1) _ _ _ = _
    rw [run_wt (f := f_key_of) rfl]
    apply runF_rt rfl
    have rb : run (FS P) (j + (sizesF l + 2)) 8 [eP p, .str kd] m = .ok (eB (.mk ms)) m := run_bodyW (k := j + (sizesF l + 1)) hp hl
    have l0 : lcGo (turn (.tgT (.cons (.tgN 6) (.cons (.tgN 7) .nil))) (xCon (.bl true)) (give1 (xVar 6)) [some (eP p), some (.str kd), some (appV mk l), some (eB (.mk ms)), none, none, none, none, none, none]) (ms.map eM) [] m = .ok (ms.map fun x => D.str x.1) m := by
      refine lcGo_map1 (fun x hx => ?_) (by have := hk.n8; unfold lineN; omega)
      simp [eM, asg_N]
    have hmm : (ms.map fun x => D.str x.1) = (ms.map (·.1)).map .str := by rw [List.map_map]; rfl
    rw [hmm] at l0
    have hz : zipL ((l.map (·.1)).map .str) (l.map fun y => y.2.2.1) = l.map fun y => D.tup [.str y.1, y.2.2.1] := by rw [List.map_map]; exact zip_map
    have l1 : lcGo (turn (.tgT (.cons (.tgN 9) (.cons (.tgN 4) .nil))) (xCon (.bl true)) (give1 (xTup (xCons (xCall (run (FS P) (j + (sizesF l + 2)) 22) (xCons (xVar 4) (xCon (.tup [])))) (xCons (xCall (run (FS P) (j + (sizesF l + 2)) 24) (xCons (xVar 0) (xCons (xVar 9) (xCons (xVar 4) (xCon (.tup [])))))) (xCon (.tup [])))))) [some (eP p), some (.str kd), some (appV mk l), some (eB (.mk ms)), none, some (.int (a : Nat)), none, none, none, none]) (l.map fun y => D.tup [.str y.1, y.2.2.1]) [] m = .ok (l.map fun y => D.tup [.int (y.2.1 : Nat), y.2.2.2]) m := by
      refine lcGo_map1 (h := fun y : Pf => D.tup [.str y.1, y.2.2.1]) (fun x hx => ?_) (by unfold lineN; omega)
      have hz := sizesF_le x hx
      have r1 := (h x hx).s.sz (j + (sizesF l - x.2.1) + 1) m
      have r2 := (h x hx).key (j + (sizesF l - x.2.1)) m
      rw [show j + (sizesF l - x.2.1) + 1 + (x.2.1 + 1) = j + (sizesF l + 2) by omega] at r1
      rw [show j + (sizesF l - x.2.1) + (x.2.1 + 2) = j + (sizesF l + 2) by omega] at r2
      simp [asg_N, r1, r2, b2]
    have ezp : ∀ m, zpT m (eF (l.map (·.1))) (.tup (l.map fun y => y.2.2.1)) = .ok (l.map fun y => D.tup [.str y.1, y.2.2.1]) m := fun m => by
      show R.ok (zipL ((l.map (·.1)).map .str) (l.map fun y => y.2.2.1)) m = _
      rw [hz]
    simp only [List.map_map] at l0 hix
    simp [f_key_of, rb, asg_N, e0, c1, c2, i1, v0, v1, l0, hix, ia, if1, ezp, zget]
    rw [l1]
    rfl
  · show run (FS P) ((j + (sizesF l + 1)) + 1) _ _ _ = _
    rw [run_wt (f := f__law_key) rfl]
    apply runF_rt rfl
    have rb : run (FS P) (j + (sizesF l + 1)) 44 [eP p, .str kd] m = .ok (eB (.mk ms)) m := run_lawBody (k := j + sizesF l) hg hp hl
    have l0 : lcGo (turn (.tgN 6) (xCon (.bl true)) (give1 (x2 idxR (xVar 6) (xCon (.int 0)))) [some (eP p), some (.str kd), some (appV mk l), some (eB (.mk ms)), none, none, none, none, none, none]) (ms.map eM) [] m = .ok (ms.map fun x => D.str x.1) m := by
      refine lcGo_map1 (fun x hx => ?_) (by have := hk.n8; unfold lineN; omega)
      have ix0 : ∀ m, idxR m (eM x) (.int 0) = .ok (.str x.1) m := fun m => idx_tup0
      simp [ix0, asg_N]
    have hmm : (ms.map fun x => D.str x.1) = (ms.map (·.1)).map .str := by rw [List.map_map]; rfl
    rw [hmm] at l0
    have hln : ∀ m, oLen m [eF (l.map (·.1))] = .ok (.int (l.length : Nat)) m := fun m => by
      show R.ok (D.int (((l.map (·.1)).map D.str).length : Nat)) m = _
      simp
    have l1 : lcGo (turn (.tgN 9) (xCon (.bl true)) (give1 (xCall (run (FS P) (j + (sizesF l + 1)) 49) (xCons (xVar 0) (xCons (x2 idxR (xVar 7) (xVar 9)) (xCons (x2 idxR (x2 idxR (xVar 2) (xCon (.int 1))) (xVar 9)) (xCon (.tup []))))))) [some (eP p), some (.str kd), some (appV mk l), some (eB (.mk ms)), none, some (.int (a : Nat)), none, some (eF (l.map (·.1))), none, none]) (l.zipIdx.map fun q => D.int (q.2 : Nat)) [] m = .ok (l.zipIdx.map fun q => D.tup [.int (q.1.2.1 : Nat), q.1.2.2.2]) m := by
      refine lcGo_map1 (h := fun q : Pf × Nat => D.int (q.2 : Nat)) (fun q hq => ?_) (by rw [List.length_zipIdx]; unfold lineN; omega)
      obtain ⟨hq1, hq2⟩ := List.mem_zipIdx' hq
      have hqm : q.1 ∈ l := by rw [hq2]; exact List.getElem_mem _
      have hz := sizesF_le q.1 hqm
      have r2 := (h q.1 hqm).lkey (j + (sizesF l - q.1.2.1)) m hg
      rw [show j + (sizesF l - q.1.2.1) + (q.1.2.1 + 1) = j + (sizesF l + 1) by omega] at r2
      have j1 : ∀ m, idxR m (eF (l.map (·.1))) (.int (q.2 : Nat)) = .ok (.str q.1.1) m := fun m => idx_tupN (by
        rw [List.getElem?_map, List.getElem?_map, List.getElem?_eq_getElem hq1, ← hq2]
        rfl)
      have j2 : ∀ m, idxR m (.tup (l.map fun y => y.2.2.1)) (.int (q.2 : Nat)) = .ok q.1.2.2.1 m := fun m => idx_tupN (by
        rw [List.getElem?_map, List.getElem?_eq_getElem hq1, ← hq2]
        rfl)
      simp [asg_N, v1, j1, j2, r2]
    have hrg := rng1_int (m := m) (n := l.length) (by omega)
    rw [rngL_eq] at hrg
    have hmr : ((List.range l.length).map fun i => D.int (0 + (i : Nat))) = l.zipIdx.map fun q => D.int (q.2 : Nat) := by
      rw [← range_zipIdx (l := l) (f := fun i => D.int (i : Nat))]
      refine List.map_congr_left fun i _ => ?_
      rw [Int.zero_add]
    rw [hmr] at hrg
    rw [map_zipIdx (f := fun y : Pf => D.tup [.int (y.2.1 : Nat), y.2.2.2])] at l1
    have r3 := hs.lsz j m
    push_cast at r3
    simp only [List.map_map] at l0 hix
    simp [f__law_key, rb, asg_N, e0, c1, c2, i1, v0, l0, hix, ia, if1, hln, hrg, l1, b2, r3, appK]
  · show run (FS P) ((j + (sizesF l + 2)) + 1) _ _ _ = _
    rw [run_wt (f := f_is_value_of) rfl]
    apply runF_rt rfl
    have rb : run (FS P) (j + (sizesF l + 2)) 8 [eP p, .str kd] m = .ok (eB (.mk ms)) m := run_bodyW (k := j + (sizesF l + 1)) hp hl
    have rf : run (FS P) (j + (sizesF l + 2)) 18 [eP p, .str kd, .str mk] m = .ok (eF (l.map (·.1))) m := run_fields (j := j + sizesF l) hp hl hmem
    have hz : zipL ((l.map (·.1)).map .str) (l.map fun y => y.2.2.1) = l.map fun y => D.tup [.str y.1, y.2.2.1] := by rw [List.map_map]; exact zip_map
    have ezp : ∀ m, zpR m (eF (l.map (·.1))) (.tup (l.map fun y => y.2.2.1)) = .ok (.tup (l.map fun y => D.tup [.str y.1, y.2.2.1])) m := fun m => by
      show R.ok (D.tup (zipL ((l.map (·.1)).map .str) (l.map fun y => y.2.2.1))) m = _
      rw [hz]
    have hln : ∀ m, oLen m [eF (l.map (·.1))] = .ok (.int (l.length : Nat)) m := fun m => by
      show R.ok (D.int (((l.map (·.1)).map D.str).length : Nat)) m = _
      simp
    have l1 : lcGo (turn (.tgT (.cons (.tgN 6) (.cons (.tgN 4) .nil))) (xCon (.bl true)) (give1 (xCall (run (FS P) (j + (sizesF l + 2)) 19) (xCons (xVar 0) (xCons (xVar 6) (xCons (xVar 4) (xCon (.tup []))))))) [some (eP p), some (.str kd), some (appV mk l), some (eB (.mk ms)), none, some (eF (l.map (·.1))), none]) (l.map fun y => D.tup [.str y.1, y.2.2.1]) [] m = .ok (l.map fun _ => D.bl true) m := by
      refine lcGo_map1 (h := fun y : Pf => D.tup [.str y.1, y.2.2.1]) (fun x hx => ?_) (by unfold lineN; omega)
      have hz := sizesF_le x hx
      have r2 := (h x hx).iv (j + (sizesF l - x.2.1)) m
      rw [show j + (sizesF l - x.2.1) + (x.2.1 + 2) = j + (sizesF l + 2) by omega] at r2
      simp [asg_N, r2]
    have ti : isTys m (appV mk l) [.tuple] = some true := rfl
    have ti2 : isTys m (.str mk) [.str] = some true := rfl
    have ti3 : isTys m (.tup (l.map fun y => y.2.2.1)) [.tuple] = some true := rfl
    have ln2 : oLen m [appV mk l] = .ok (.int 2) m := rfl
    have isn : cIsN m (eF (l.map (·.1))) .non = .ok (.bl false) m := rfl
    simp [f_is_value_of, rb, asg_N, e0, c1, c2, ti, ln2, v0, v1, ti2, ti3, rf, isn, hln, ezp, l1, oAll_true]
end
end K00
end
section
set_option linter.all false
set_option autoImplicit false
set_option maxRecDepth 100000
/-! KM22: values with their keys. -/
namespace K00
open Mt
def rowsG {α : Type} (V : Nat → List α) : Nat → Nat → List (List α)
  | 0, n => if n = 0 then [[]] else []
  | f + 1, n => if n = 0 then [[]] else (List.range n).flatMap fun i => (V (i + 1)).flatMap fun v => (rowsG V f (n - (i + 1))).map (v :: ·)
def fldsG {α : Type} (V : Nm → Nat → List α) : List Nm → Nat → List (List (Nm × α))
  | [], n => if n = 0 then [[]] else []
  | f :: fs, n => (List.range n).flatMap fun i => (V f (i + 1)).flatMap fun v => (fldsG V fs (n - (i + 1))).map ((f, v) :: ·)
def numK (n : Nat) (d : D) : Pt := (n, d, .tup [d])
def stepG (V : Nm → Nat → List Pt) (p : Prog) (k : Nm) (n : Nat) : List Pt := match lk p k with
  | some (.num lo hi) => if n = 0 then (rngL lo (hi + 1 - lo).toNat).map (numK 1) else []
  | some (.rows k') => (rowsG (V k') n n).map fun l => (sizes l + 1, .tup (l.map fun x => x.2.1), rowK l)
  | some (.mk ms) => ms.zipIdx.flatMap fun x => (fldsG V x.1.2 n).map fun l => (sizesF l + 1, appV x.1.1 l, appK x.2 l)
  | none => []
def tg (p : Prog) : Nat → Nm → Nat → List Pt
  | 0 => fun _ _ => []
  | N + 1 => fun k n => if n = N + 1 then stepG (tg p N) p k N else tg p N k n
def valK (p : Prog) (k : Nm) (n : Nat) : List Pt := tg p n k n
theorem rowsG_map {α : Type} {V : Nat → List α} {W : Nm → Nat → List D} {k : Nm} {h : α → D} : ∀ {f n : Nat}, (∀ i ≤ n, W k i = (V i).map h) → rowsV W k f n = (rowsG V f n).map fun l => l.map h
  | 0, n, _ => by
    unfold rowsV rowsG
    split <;> rfl
  | f + 1, n, hv => by
    unfold rowsV rowsG
    split
    · rfl
    · rw [List.map_flatMap]
      refine flatMap_congr fun i hi => ?_
      have hi := List.mem_range.mp hi
      rw [hv (i + 1) (by omega), List.map_flatMap, List.flatMap_map]
      refine flatMap_congr fun v _ => ?_
      rw [rowsG_map (V := V) (h := h) (f := f) (n := n - (i + 1)) fun j hj => hv j (by omega), List.map_map, List.map_map]
      rfl
theorem fldsG_map {V : Nm → Nat → List Pt} {W : Nm → Nat → List D} : ∀ {fs : List Nm} {n : Nat}, (∀ i ≤ n, ∀ k, W k i = (V k i).map fun x => x.2.1) → fldsV W fs n = (fldsG V fs n).map fun l => l.map fun y => y.2.2.1
  | [], n, _ => by
    unfold fldsV fldsG
    split <;> rfl
  | f :: fs, n, hv => by
    unfold fldsV fldsG
    rw [List.map_flatMap]
    refine flatMap_congr fun i hi => ?_
    have hi := List.mem_range.mp hi
    rw [hv (i + 1) (by omega) f, List.map_flatMap, List.flatMap_map]
    refine flatMap_congr fun v _ => ?_
    rw [fldsG_map (V := V) (fs := fs) (n := n - (i + 1)) fun j hj k => hv j (by omega) k, List.map_map, List.map_map]
    rfl
theorem tb_tg {p : Prog} : ∀ (N : Nat) (k : Nm) (n : Nat), tb p N k n = (tg p N k n).map fun x => x.2.1
  | 0, _, _ => rfl
  | N + 1, k, n => by
    show (if n = N + 1 then stepV (tb p N) p k N else tb p N k n) = (if n = N + 1 then stepG (tg p N) p k N else tg p N k n).map fun x => x.2.1
    split
    · unfold stepV stepG
      generalize lk p k = o
      cases o with
      | none => rfl
      | some b => cases b with
        | num lo hi =>
          dsimp only
          split
          · rw [List.map_map]
            exact (List.map_id _).symm
          · rfl
        | rows k' =>
          dsimp only
          rw [rowsG_map (V := tg p N k') (h := fun x => x.2.1) fun i _ => tb_tg N k' i, List.map_map, List.map_map]
          rfl
        | mk ms =>
          dsimp only
          rw [List.map_flatMap]
          have : (ms.flatMap fun x => (fldsV (tb p N) x.2 N).map fun vs => D.tup [.str x.1, .tup vs]) = ms.zipIdx.flatMap fun q => (fldsV (tb p N) q.1.2 N).map fun vs => D.tup [.str q.1.1, .tup vs] := by
            conv => lhs; rw [← zipIdx_map_self (l := ms)]
            rw [List.flatMap_map]
          rw [this]
          refine flatMap_congr fun q _ => ?_
          rw [fldsG_map (V := tg p N) fun i _ k => tb_tg N k i, List.map_map, List.map_map]
          rfl
    · exact tb_tg N k n
theorem vals_valK {p : Prog} {k : Nm} {n : Nat} : vals p k n = (valK p k n).map fun x => x.2.1 := tb_tg n k n
theorem rowsG_mem {α : Type} {V : Nat → List α} {Q : Nat → α → Prop} : ∀ {f n : Nat} {l : List α}, (∀ i, ∀ v ∈ V i, Q i v) → l ∈ rowsG V f n → ∃ ns : List Nat, ns.length = l.length ∧ ns.sum = n ∧ ∀ q ∈ ns.zip l, 1 ≤ q.1 ∧ q.1 ≤ n ∧ Q q.1 q.2
  | 0, n, l, _, h => by
    unfold rowsG at h
    split at h
    · rename_i e
      simp at h
      subst h
      exact ⟨[], rfl, e.symm, fun _ h => by cases h⟩
    · cases h
  | f + 1, n, l, hv, h => by
    unfold rowsG at h
    split at h
    · rename_i e
      simp at h
      subst h
      exact ⟨[], rfl, e.symm, fun _ h => by cases h⟩
    · simp only [List.mem_flatMap, List.mem_map, List.mem_range] at h
      obtain ⟨i, hi, v, hv1, l', hl', rfl⟩ := h
      obtain ⟨ns, h1, h2, h3⟩ := rowsG_mem hv hl'
      refine ⟨(i + 1) :: ns, by simp [h1], by simp [h2]; omega, fun q hq => ?_⟩
      rw [List.zip_cons_cons] at hq
      rcases List.mem_cons.mp hq with rfl | hq
      · exact ⟨by simp, by simp; omega, hv _ _ hv1⟩
      · have := h3 q hq
        exact ⟨this.1, by omega, this.2.2⟩
/-- each part's size is what it tells -/
theorem rowsG_pt {V : Nat → List Pt} {Q : Pt → Prop} : ∀ {f n : Nat} {l : List Pt}, (∀ i, ∀ v ∈ V i, v.1 = i ∧ Q v) → l ∈ rowsG V f n → sizes l = n ∧ l.length ≤ n ∧ ∀ v ∈ l, Q v
  | 0, n, l, _, h => by
    unfold rowsG at h
    split at h
    · rename_i e
      simp at h
      subst h
      exact ⟨e.symm, Nat.zero_le _, fun _ h => by cases h⟩
    · cases h
  | f + 1, n, l, hv, h => by
    unfold rowsG at h
    split at h
    · rename_i e
      simp at h
      subst h
      exact ⟨e.symm, Nat.zero_le _, fun _ h => by cases h⟩
    · simp only [List.mem_flatMap, List.mem_map, List.mem_range] at h
      obtain ⟨i, hi, v, hv1, l', hl', rfl⟩ := h
      obtain ⟨h1, h2, h3⟩ := rowsG_pt hv hl'
      obtain ⟨h4, h5⟩ := hv _ _ hv1
      refine ⟨?_, ?_, fun q hq => ?_⟩
      · unfold sizes at *
        rw [List.map_cons, List.sum_cons]
        omega
      · simp
        omega
      · rcases List.mem_cons.mp hq with rfl | hq
        · exact h5
        · exact h3 q hq
theorem fldsG_pt {V : Nm → Nat → List Pt} {Q : Nm → Pt → Prop} : ∀ {fs : List Nm} {n : Nat} {l : List Pf}, (∀ k ∈ fs, ∀ i, ∀ v ∈ V k i, v.1 = i ∧ Q k v) → l ∈ fldsG V fs n → sizesF l = n ∧ l.map (·.1) = fs ∧ ∀ y ∈ l, Q y.1 y.2
  | [], n, l, _, h => by
    unfold fldsG at h
    split at h
    · rename_i e
      simp at h
      subst h
      exact ⟨e.symm, rfl, fun _ h => by cases h⟩
    · cases h
  | f :: fs, n, l, hv, h => by
    unfold fldsG at h
    simp only [List.mem_flatMap, List.mem_map, List.mem_range] at h
    obtain ⟨i, hi, v, hv1, l', hl', rfl⟩ := h
    obtain ⟨h1, h2, h3⟩ := fldsG_pt (fun k hk => hv k (by simp [hk])) hl'
    obtain ⟨h4, h5⟩ := hv f (by simp) _ _ hv1
    refine ⟨?_, ?_, fun q hq => ?_⟩
    · unfold sizesF at *
      rw [List.map_cons, List.sum_cons]
      simp only
      omega
    · rw [List.map_cons, h2]
    · rcases List.mem_cons.mp hq with rfl | hq
      · exact h5
      · exact h3 q hq
/-- what holds of all that is built holds of all values -/
theorem tg_ind {p : Prog} (hp : WfP p) {Q : Nm → Pt → Prop}
    (h1 : ∀ kd lo hi i, lk p kd = some (.num lo hi) → lo ≤ i → i ≤ hi → Q kd (numK 1 (.int i)))
    (h2 : ∀ kd k' l, lk p kd = some (.rows k') → (∀ x ∈ l, Q k' x) → l.length ≤ 100 → Q kd (sizes l + 1, .tup (l.map fun x => x.2.1), rowK l))
    (h3 : ∀ kd ms mk a l, lk p kd = some (.mk ms) → ms[a]? = some (mk, l.map (·.1)) → (∀ y ∈ l, Q y.1 y.2) → Q kd (sizesF l + 1, appV mk l, appK a l)) : ∀ N, N ≤ 100 → ∀ k n, ∀ x ∈ tg p N k n, x.1 = n ∧ Q k x
  | 0, _, _, _, x, h => by cases h
  | N + 1, hN, k, n, x, h => by
    have ih := tg_ind hp h1 h2 h3 N (by omega)
    replace h : x ∈ (if n = N + 1 then stepG (tg p N) p k N else tg p N k n) := h
    split at h
    · rename_i e
      subst e
      unfold stepG at h
      split at h
      · rename_i lo hi hl
        split at h
        · rename_i e
          subst e
          obtain ⟨d, hd, rfl⟩ := List.mem_map.mp h
          obtain ⟨i, rfl, hi1, hi2⟩ := mem_rngL hd
          refine ⟨rfl, h1 k lo hi i hl hi1 ?_⟩
          have := (nl_len hp hl).2.1
          omega
        · cases h
      · rename_i k' hl
        obtain ⟨l, hl2, rfl⟩ := List.mem_map.mp h
        obtain ⟨g1, g2, g3⟩ := rowsG_pt (Q := Q k') (fun i v hv => ih k' i v hv) hl2
        exact ⟨by show sizes l + 1 = N + 1; omega, h2 k k' l hl g3 (by omega)⟩
      · rename_i ms hl
        simp only [List.mem_flatMap, List.mem_map] at h
        obtain ⟨q, hq, l, hl2, rfl⟩ := h
        obtain ⟨g1, g2, g3⟩ := fldsG_pt (Q := Q) (fun k _ i v hv => ih k i v hv) hl2
        obtain ⟨q1, q2⟩ := List.mem_zipIdx' hq
        refine ⟨by show sizesF l + 1 = N + 1; omega, h3 k ms q.1.1 q.2 l hl ?_ g3⟩
        rw [g2, List.getElem?_eq_getElem q1, ← q2]
      · cases h
    · exact ih k n x h
theorem valK_vok {P : List Nat} {p : Prog} (hp : WfP p) {k : Nm} {n : Nat} (hn : n ≤ 100) : ∀ x ∈ valK p k n, x.1 = n ∧ VOk P p k x := fun x hx =>
  tg_ind hp (Q := fun k x => VOk P p k x) (fun kd lo hi i hl h1 h2 => vok_num hp hl h1 h2) (fun kd k' l hl h hlen => vok_rows hp hl h (by omega)) (fun kd ms mk a l hl hm h => vok_app hp hl hm h) n hn k n x hx
end K00
end
section
set_option linter.all false
set_option autoImplicit false
set_option maxRecDepth 100000
/-! KM23: keys may be put in order. -/
namespace Mt
mutual
theorem eqv_lt : ∀ (a b : D), eqv a b = true → ltD a b = false
  | .non, b, _ => by cases b <;> rfl
  | .bl x, .bl y, h => by
    have h : (x == y) = true := h
    show (!x && y) = false
    revert h; cases x <;> cases y <;> simp
  | .bl _, .non, _ => rfl
  | .bl _, .int _, _ => rfl
  | .bl _, .str _, _ => rfl
  | .bl _, .tup _, _ => rfl
  | .bl _, .lst _, _ => rfl
  | .bl _, .scr _, _ => rfl
  | .bl _, .ptp _, _ => rfl
  | .bl _, .ref _, _ => rfl
  | .int i, .int j, h => by
    have h : intEq i j = true := h
    rw [intEq_dec, decide_eq_true_eq] at h
    show decide (i < j) = false
    exact decide_eq_false (by omega)
  | .int _, .non, _ => rfl
  | .int _, .bl _, _ => rfl
  | .int _, .str _, _ => rfl
  | .int _, .tup _, _ => rfl
  | .int _, .lst _, _ => rfl
  | .int _, .scr _, _ => rfl
  | .int _, .ptp _, _ => rfl
  | .int _, .ref _, _ => rfl
  | .str x, .str y, h => by
    have h : natsEq x y = true := h
    rw [natsEq_dec, decide_eq_true_eq] at h
    subst h
    show natsLt x x = false
    exact natsLt_irr x
  | .str _, .non, _ => rfl
  | .str _, .bl _, _ => rfl
  | .str _, .int _, _ => rfl
  | .str _, .tup _, _ => rfl
  | .str _, .lst _, _ => rfl
  | .str _, .scr _, _ => rfl
  | .str _, .ptp _, _ => rfl
  | .str _, .ref _, _ => rfl
  | .tup x, .tup y, h => eqvs_lts x y h
  | .tup _, .non, _ => rfl
  | .tup _, .bl _, _ => rfl
  | .tup _, .int _, _ => rfl
  | .tup _, .str _, _ => rfl
  | .tup _, .lst _, _ => rfl
  | .tup _, .scr _, _ => rfl
  | .tup _, .ptp _, _ => rfl
  | .tup _, .ref _, _ => rfl
  | .lst _, b, _ => by cases b <;> rfl
  | .scr _, b, _ => by cases b <;> rfl
  | .ptp _, b, _ => by cases b <;> rfl
  | .ref _, b, _ => by cases b <;> rfl
theorem eqvs_lts : ∀ (a b : List D), eqvs a b = true → ltsD a b = false
  | [], [], _ => rfl
  | [], _ :: _, h => by cases h
  | _ :: _, [], h => by cases h
  | x :: xs, y :: ys, h => by
    have h : (match eqv x y with
      | true => eqvs xs ys
      | false => false) = true := h
    show (match eqv x y with
      | true => ltsD xs ys
      | false => ltD x y) = false
    cases e : eqv x y with
    | true => rw [e] at h; exact eqvs_lts xs ys h
    | false => rw [e] at h; cases h
theorem natsLt_irr : ∀ (x : List Nat), natsLt x x = false
  | [] => rfl
  | a :: l => by
    unfold natsLt
    simp [natsLt_irr l]
end
theorem mapR_eq {α : Type} {f : D → Mem → R D} {h g : α → D} {m : Mem} : ∀ {l : List α}, (∀ x ∈ l, f (h x) m = .ok (g x) m) → mapR f (l.map h) m = .ok (l.map g) m
  | [], _ => rfl
  | x :: l, hf => by
    rw [List.map_cons]
    unfold mapR
    rw [hf x (by simp)]
    dsimp only
    rw [mapR_eq fun y hy => hf y (by simp [hy])]
    rfl
/-- insertion, for any order -/
def insG {α : Type} (lt : α → α → Bool) (p : α) : List α → List α
  | [] => [p]
  | q :: r => match lt q p with
    | true => q :: insG lt p r
    | false => p :: q :: r
def isortG {α : Type} (lt : α → α → Bool) : List α → List α
  | [] => []
  | p :: r => insG lt p (isortG lt r)
theorem mem_insG {α : Type} {lt : α → α → Bool} {p x : α} : ∀ {l : List α}, x ∈ insG lt p l ↔ x = p ∨ x ∈ l
  | [] => by simp [insG]
  | q :: r => by
    have := mem_insG (lt := lt) (p := p) (x := x) (l := r)
    unfold insG
    split
    · simp only [List.mem_cons, this]
      constructor
      · rintro (h | h | h) <;> simp [h]
      · rintro (h | h | h) <;> simp [h]
    · simp
theorem mem_isortG {α : Type} {lt : α → α → Bool} {x : α} : ∀ {l : List α}, x ∈ isortG lt l ↔ x ∈ l
  | [] => by simp [isortG]
  | p :: r => by
    show x ∈ insG lt p (isortG lt r) ↔ _
    rw [mem_insG, mem_isortG, List.mem_cons]
theorem insK_map {α : Type} {lt : α → α → Bool} {f : α → D × D} {p : α} : ∀ {l : List α}, (∀ q ∈ l, ltD (f q).1 (f p).1 = lt q p) → insK (f p) (l.map f) = (insG lt p l).map f
  | [], _ => rfl
  | q :: r, h => by
    show (match ltD (f q).1 (f p).1 with
      | true => f q :: insK (f p) (r.map f)
      | false => f p :: f q :: r.map f) = (match lt q p with
      | true => q :: insG lt p r
      | false => p :: q :: r).map f
    rw [h q (by simp), insK_map fun x hx => h x (by simp [hx])]
    cases lt q p <;> rfl
theorem isortK_map {α : Type} {lt : α → α → Bool} {f : α → D × D} : ∀ {l : List α}, l.Pairwise (fun p q => ltD (f q).1 (f p).1 = lt q p) → isortK (l.map f) = (isortG lt l).map f
  | [], _ => rfl
  | p :: r, h => by
    rw [List.pairwise_cons] at h
    show insK (f p) (isortK (r.map f)) = _
    rw [isortK_map h.2, insK_map fun q hq => h.1 q (mem_isortG.mp hq)]
    rfl
theorem insG_map {α β : Type} {lt : α → α → Bool} {lt' : β → β → Bool} {f : α → β} {p : α} (h : ∀ x y, lt' (f x) (f y) = lt x y) : ∀ {l : List α}, insG lt' (f p) (l.map f) = (insG lt p l).map f
  | [] => rfl
  | q :: r => by
    show (match lt' (f q) (f p) with
      | true => f q :: insG lt' (f p) (r.map f)
      | false => f p :: f q :: r.map f) = (match lt q p with
      | true => q :: insG lt p r
      | false => p :: q :: r).map f
    rw [h, insG_map h]
    cases lt q p <;> rfl
theorem isortG_map {α β : Type} {lt : α → α → Bool} {lt' : β → β → Bool} {f : α → β} (h : ∀ x y, lt' (f x) (f y) = lt x y) : ∀ {l : List α}, isortG lt' (l.map f) = (isortG lt l).map f
  | [] => rfl
  | p :: r => by
    show insG lt' (f p) (isortG lt' (r.map f)) = _
    rw [isortG_map h, insG_map h]
    rfl
theorem insG_len {α : Type} {lt : α → α → Bool} {p : α} : ∀ {l : List α}, (insG lt p l).length = l.length + 1
  | [] => rfl
  | q :: r => by
    unfold insG
    split
    · simp [insG_len]
    · simp
theorem isortG_len {α : Type} {lt : α → α → Bool} : ∀ {l : List α}, (isortG lt l).length = l.length
  | [] => rfl
  | p :: r => by
    show (insG lt p (isortG lt r)).length = _
    rw [insG_len, isortG_len]
    rfl
/-- keys -/
inductive IsKey : D → Prop
  | leaf (s i : Int) : IsKey (.tup [.int s, .tup [.int i]])
  | node (s a : Int) (l : List D) (h : ∀ x ∈ l, IsKey x) : IsKey (.tup [.int s, .tup [.int a, .tup l]])
theorem alikes_all : ∀ {l r : List D}, (∀ x ∈ l, ∀ y ∈ r, alikeD x y = true) → alikesD l r = true
  | [], r, _ => by cases r <;> rfl
  | _ :: _, [], _ => rfl
  | x :: xs, y :: ys, h => by
    show (alikeD x y && alikesD xs ys) = true
    rw [h x (by simp) y (by simp), alikes_all fun a ha b hb => h a (by simp [ha]) b (by simp [hb])]
    rfl
theorem alike_key {a : D} (ha : IsKey a) : ∀ {b : D}, IsKey b → alikeD a b = true := by
  induction ha with
  | leaf s i =>
    intro b hb
    cases hb <;> rfl
  | node s a l h ih =>
    intro b hb
    cases hb with
    | leaf => rfl
    | node s2 a2 l2 h2 =>
      show (true && ((true && (alikesD l l2 && true)) && true)) = true
      rw [alikes_all fun x hx y hy => ih x hx (h2 y hy)]
      rfl
end Mt
namespace K00
open Mt
def ky (x : Pt) : D := .tup [.int (x.1 : Nat), x.2.2]
structure KyOk (x : Pt) : Prop where
  k : IsKey (ky x)
  p : plain (ky x) = true
  d : deep (ky x) ≤ 3 * x.1
  b : below 0 (ky x) = true
theorem kyOk_node {n : Nat} {v : D} {a : Int} {ks : List D} (h1 : ∀ x ∈ ks, IsKey x) (h2 : plains ks = true) {j : Nat} (h3 : deeps ks ≤ 3 * j) (h4 : belows 0 ks = true) (hn : n = j + 1) : KyOk (n, v, .tup [.int a, .tup ks]) := by
  refine ⟨IsKey.node _ _ _ h1, ?_, ?_, ?_⟩
  · show (match (match plains ks with
        | true => true
        | false => false) with
      | true => true
      | false => false) = true
    rw [h2]
  · show Nat.max 0 (Nat.max (Nat.max 0 (Nat.max (deeps ks + 1) 0) + 1) 0) + 1 ≤ 3 * n
    have e1 : Nat.max (deeps ks + 1) 0 = deeps ks + 1 := Nat.max_eq_left (Nat.zero_le _)
    have e2 : Nat.max 0 (deeps ks + 1) = deeps ks + 1 := Nat.max_eq_right (Nat.zero_le _)
    have e3 : Nat.max (deeps ks + 1 + 1) 0 = deeps ks + 1 + 1 := Nat.max_eq_left (Nat.zero_le _)
    have e4 : Nat.max 0 (deeps ks + 1 + 1) = deeps ks + 1 + 1 := Nat.max_eq_right (Nat.zero_le _)
    rw [e1, e2, e3, e4]
    omega
  · show (match (match belows 0 ks with
        | true => true
        | false => false) with
      | true => true
      | false => false) = true
    rw [h4]
theorem valK_ky {p : Prog} (hp : WfP p) {k : Nm} {n : Nat} (hn : n ≤ 100) : ∀ x ∈ valK p k n, x.1 = n ∧ KyOk x := fun x hx => by
  refine tg_ind hp (Q := fun _ x => KyOk x) (fun kd lo hi i hl h1 h2 => ?_) (fun kd k' l hl h hlen => ?_) (fun kd ms mk a l hl hm h => ?_) n hn k n x hx
  · exact ⟨IsKey.leaf _ _, rfl, by show 2 ≤ 3 * 1; omega, rfl⟩
  · refine kyOk_node (ks := l.map ky) (j := sizes l) (fun x hx => ?_) ?_ ?_ ?_ rfl
    · obtain ⟨y, hy, rfl⟩ := List.mem_map.mp hx
      exact (h y hy).k
    · rw [plains_iff]
      intro x hx
      obtain ⟨y, hy, rfl⟩ := List.mem_map.mp hx
      exact (h y hy).p
    · refine deeps_le fun x hx => ?_
      obtain ⟨y, hy, rfl⟩ := List.mem_map.mp hx
      have h1 := (h y hy).d
      have h2 := sizes_le y hy
      omega
    · refine belows_all fun x hx => ?_
      obtain ⟨y, hy, rfl⟩ := List.mem_map.mp hx
      exact (h y hy).b
  · refine kyOk_node (ks := l.map fun y => ky y.2) (j := sizesF l) (fun x hx => ?_) ?_ ?_ ?_ rfl
    · obtain ⟨y, hy, rfl⟩ := List.mem_map.mp hx
      exact (h y hy).k
    · rw [plains_iff]
      intro x hx
      obtain ⟨y, hy, rfl⟩ := List.mem_map.mp hx
      exact (h y hy).p
    · refine deeps_le fun x hx => ?_
      obtain ⟨y, hy, rfl⟩ := List.mem_map.mp hx
      have h1 := (h y hy).d
      have h2 := sizesF_le y hy
      omega
    · refine belows_all fun x hx => ?_
      obtain ⟨y, hy, rfl⟩ := List.mem_map.mp hx
      exact (h y hy).b
/-- the order of values -/
def ltP (a b : Pt) : Bool := ltD (ky a) (ky b)
def sortP (xs : List Pt) : List Pt := isortG ltP xs
theorem fit_ky {x : Pt} (h : KyOk x) (hn : x.1 ≤ 21) : fit (ky x) = true := by
  unfold fit
  rw [h.p, Bool.true_and, Nat.ble_eq]
  have := h.d
  omega
theorem sortOk_ky {xs : List Pt} (h : ∀ x ∈ xs, KyOk x ∧ x.1 ≤ 21) (hl : xs.length ≤ lineN) : sortOk (xs.map ky) = true := by
  unfold sortOk
  simp only [Bool.and_eq_true, Bool.or_eq_true]
  refine ⟨⟨⟨?_, .inl ?_⟩, ?_⟩, ?_⟩
  · unfold allAlike
    rw [List.all_eq_true]
    intro a ha
    rw [List.all_eq_true]
    intro b hb
    obtain ⟨x, hx, rfl⟩ := List.mem_map.mp ha
    obtain ⟨y, hy, rfl⟩ := List.mem_map.mp hb
    exact alike_key (h x hx).1.k (h y hy).1.k
  · rw [List.all_eq_true]
    intro a ha
    obtain ⟨x, hx, rfl⟩ := List.mem_map.mp ha
    rfl
  · rw [List.all_eq_true]
    intro a ha
    obtain ⟨x, hx, rfl⟩ := List.mem_map.mp ha
    exact fit_ky (h x hx).1 (h x hx).2
  · rw [Nat.ble_eq, List.length_map]
    exact hl
theorem isortK_ky {xs : List Pt} : (isortK ((xs.map ky).zip (xs.map fun x => x.2.1))).map (·.2) = (sortP xs).map fun x => x.2.1 := by
  have e : (xs.map ky).zip (xs.map fun x => x.2.1) = xs.map fun x => (ky x, x.2.1) := by
    induction xs with
    | nil => rfl
    | cons a l ih => simp only [List.map_cons, List.zip_cons_cons, ih]
  rw [e, isortK_map (lt := ltP) (f := fun x : Pt => (ky x, x.2.1))]
  · rw [List.map_map]
    rfl
  · rw [List.pairwise_iff_forall_sublist]
    intro a b _
    rfl
/-- keys with places -/
def kyAt (q : Pt × Nat) : D := .tup [ky q.1, .int (q.2 : Nat)]
theorem lt_kyAt {q p : Pt × Nat} (h : p.2 < q.2) : ltD (kyAt q) (kyAt p) = ltP q.1 p.1 := by
  show (match eqv (ky q.1) (ky p.1) with
    | true => (match eqv (.int (q.2 : Nat)) (.int (p.2 : Nat)) with
      | true => false
      | false => ltD (.int (q.2 : Nat)) (.int (p.2 : Nat)))
    | false => ltD (ky q.1) (ky p.1)) = _
  cases e : eqv (ky q.1) (ky p.1) with
  | false => rfl
  | true =>
    have h1 := eqv_lt _ _ e
    have h2 : eqv (.int (q.2 : Nat)) (.int (p.2 : Nat)) = false := by
      show intEq _ _ = false
      rw [intEq_dec]
      exact decide_eq_false (by omega)
    have h3 : ltD (.int (q.2 : Nat)) (.int (p.2 : Nat)) = false := by
      show decide _ = false
      exact decide_eq_false (by omega)
    rw [h2, h3]
    exact h1.symm
theorem isortK_at {xs : List Pt} : isortK ((xs.zipIdx.map kyAt).map fun d => (d, d)) = (isortG (fun q p => ltP q.1 p.1) xs.zipIdx).map fun q => (kyAt q, kyAt q) := by
  rw [List.map_map]
  refine isortK_map (lt := fun q p => ltP q.1 p.1) (f := fun q : Pt × Nat => (kyAt q, kyAt q)) ?_
  rw [List.pairwise_iff_getElem]
  intro i j hi hj hij
  refine lt_kyAt ?_
  simp
  exact hij
theorem sortP_at {xs : List Pt} : (isortG (fun q p => ltP q.1 p.1) xs.zipIdx).map (·.1) = sortP xs := by
  unfold sortP
  have h := isortG_map (lt := fun q p : Pt × Nat => ltP q.1 p.1) (lt' := ltP) (f := fun q => q.1) (fun _ _ => rfl) (l := xs.zipIdx)
  rw [zipIdx_map_self] at h
  exact h.symm
theorem sortOk_at {xs : List Pt} (h : ∀ x ∈ xs, KyOk x ∧ x.1 ≤ 20) (hl : xs.length ≤ lineN) : sortOk (xs.zipIdx.map kyAt) = true := by
  have hm : ∀ q ∈ xs.zipIdx, q.1 ∈ xs := fun q hq => by
    obtain ⟨h1, h2⟩ := List.mem_zipIdx' hq
    rw [h2]
    exact List.getElem_mem _
  unfold sortOk
  simp only [Bool.and_eq_true, Bool.or_eq_true]
  refine ⟨⟨⟨?_, .inl ?_⟩, ?_⟩, ?_⟩
  · unfold allAlike
    rw [List.all_eq_true]
    intro a ha
    rw [List.all_eq_true]
    intro b hb
    obtain ⟨x, hx, rfl⟩ := List.mem_map.mp ha
    obtain ⟨y, hy, rfl⟩ := List.mem_map.mp hb
    show (alikeD (ky x.1) (ky y.1) && (true && true)) = true
    rw [alike_key (h _ (hm x hx)).1.k (h _ (hm y hy)).1.k]
    rfl
  · rw [List.all_eq_true]
    intro a ha
    obtain ⟨x, hx, rfl⟩ := List.mem_map.mp ha
    rfl
  · rw [List.all_eq_true]
    intro a ha
    obtain ⟨x, hx, rfl⟩ := List.mem_map.mp ha
    have hk := h _ (hm x hx)
    unfold fit
    rw [Bool.and_eq_true, Nat.ble_eq]
    constructor
    · show (match plain (ky x.1) with
        | true => true
        | false => false) = true
      rw [hk.1.p]
    · show Nat.max (deep (ky x.1)) (Nat.max 0 0) + 1 ≤ 64
      have h1 := hk.1.d
      have h2 : Nat.max (deep (ky x.1)) (Nat.max 0 0) ≤ 60 := Nat.max_le.mpr ⟨by omega, by simp⟩
      omega
  · rw [Nat.ble_eq, List.length_map, List.length_zipIdx]
    exact hl
end K00
end
section
set_option linter.all false
set_option autoImplicit false
set_option maxRecDepth 100000
/-! KM24: ordered, values, _law_ordered. -/
namespace Mt
theorem ctxK_key {fs : List Fn} {k : Nat} {t : Nat × List Nat} {b : A} {e : Env} {m : Mem} : (ctxK fs (k + 3) t).key b e m = ev ⟨run fs k, fun _ _ _ => .bad 96, (0, [])⟩ b e m := rfl
theorem ctxK_tab {fs : List Fn} {k : Nat} {t : Nat × List Nat} : (ctxK fs (k + 3) t).tab = t := rfl
theorem oSorted_lst {m : Mem} {z : List D} (h : sortOk z = true) : oSorted m [.lst z] = .ok (.lst ((isortK (z.map fun d => (d, d))).map (·.2))) m := by
  show (if sortOk z then R.ok (D.lst ((isortK (z.map fun d => (d, d))).map (·.2))) m else .bad 35) = _
  rw [if_pos h]
theorem idx_lstN {m : Mem} {xs : List D} {i : Nat} {d : D} (h : xs[i]? = some d) : idxR m (.lst xs) (.int (i : Nat)) = .ok d m := by
  have hi : i < xs.length := (List.getElem?_eq_some_iff.mp h).1
  show (match ix xs.length (i : Int) with
    | some k => match xs[k]? with
      | some d => R.ok d m
      | none => .bad 20
    | none => .bad 20) = _
  rw [ix_nat hi]
  dsimp only
  rw [h]
end Mt
namespace K00
open Mt
def tabQ : List Nat := f_ordered.tab.2
def TabIn (P : List Nat) (m : Mem) : Prop := m.any (isTab (P.getD 0 0, tabQ)) = true
theorem TabIn.app {P : List Nat} {m m2 : Mem} (h : TabIn P m) : TabIn P (m ++ m2) := by
  unfold TabIn at *
  rw [List.any_append, h]
  rfl
section
variable {P : List Nat} {p : Prog} {N : Nat} {m : Mem}
theorem run_ordered {kd : Nm} {xs : List Pt} {n : Nat} (hv : ∀ x ∈ xs, x.1 = n ∧ VOk P p kd x) (hk : ∀ x ∈ xs, KyOk x) (hn : n ≤ 20) (hl : xs.length ≤ lineN) (ht : TabIn P m) {j : Nat} : run (FS P) (j + (n + 6)) ix_ordered [eP p, .str kd, .lst (xs.map fun x => x.2.1)] m = .ok (.lst ((sortP xs).map fun x => x.2.1)) m := by
  show run (FS P) ((j + (n + 2) + 3) + 1) _ _ _ = _
  rw [run_wt (f := f_ordered) rfl]
  rw [show (P.getD f_ordered.tab.1 0, f_ordered.tab.2) = (P.getD 0 0, tabQ) from rfl]
  apply runF_rt rfl
  have b2 : Nat.ble 2 lineN = true := rfl
  have hm : mapR (fun d m => (ctxK (FS P) (j + (n + 2) + 3) (P.getD 0 0, tabQ)).key (.tup (.cons (.call 22 (.cons (.var 0) .nil)) (.cons (.call 24 (.cons (.var 1) (.cons (.var 2) (.cons (.var 0) .nil)))) .nil))) (some d :: [some (eP p), some (.str kd)]) m) (xs.map fun x => x.2.1) m = .ok (xs.map ky) m := by
    refine mapR_eq fun x hx => ?_
    rw [ctxK_key]
    obtain ⟨h1, h2⟩ := hv x hx
    have r1 := h2.s.sz (j + 1) m
    have r2 := h2.key j m
    rw [h1, show j + 1 + (n + 1) = j + (n + 2) by omega] at r1
    rw [h1] at r2
    simp [r1, r2, b2, ky, h1]
  have hs := sortOk_ky (xs := xs) (fun x hx => ⟨hk x hx, by rw [(hv x hx).1]; omega⟩) hl
  have ht' : (m.any (isTab (P.getD 0 0, tabQ))) = true := ht
  show yRet (xSortK (P.getD 0 0, tabQ) _ (xVar 2) [0, 1]) _ _ = _
  simp only [yRet_eq]
  unfold xSortK
  have hsl : slots [some (eP p), some (D.str kd), some (D.lst (xs.map fun x => x.2.1))] [0, 1] = some [some (eP p), some (.str kd)] := rfl
  show (R.bind (R.ok (D.lst (xs.map fun x => x.2.1)) m) _).toF _ _ = _
  rw [bnd_ok]
  show (match (if m.any (isTab (P.getD 0 0, tabQ)) then slots [some (eP p), some (D.str kd), some (D.lst (xs.map fun x => x.2.1))] [0, 1] else none) with
    | some fs => _
    | none => _ : R D).toF _ _ = _
  rw [ht', if_pos rfl, hsl]
  show (R.bind (mapR _ (xs.map fun x => x.2.1) m) _).toF _ _ = _
  rw [hm, bnd_ok, if_pos hs, isortK_ky]
  rfl
theorem cv_len {k : Nm} {n : Nat} : cv p k n = (valK p k n).length := by
  unfold cv
  rw [vals_valK, List.length_map]
theorem run_values (hp : WfP p) (hb : Bd p N) (hc : Bc p N) (hm : m.all (belowO 0) = true) (ht : TabIn P m) {n : Nat} (hn : n ≤ N) (h1 : 1 ≤ n) (h20 : n ≤ 20) {kd : Nm} (hk : kd ∈ names p) (h3 : cv p kd n ≤ 3000) {j : Nat} : run (FS P) (j + (2 * n + 8)) ix_values [eP p, .str kd, .int (n : Nat)] m = .ok (.lst ((sortP (valK p kd n)).map fun x => x.2.1)) m := by
  show run (FS P) ((j + (2 * n + 7)) + 1) _ _ _ = _
  rw [run_wt (f := f_values) rfl]
  have hg := good0 hm
  have r1 : run (FS P) (j + (2 * n + 7)) 9 [eP p, .str kd] m = .ok .non m := run_needK (k := j + (2 * n + 2)) hg hp hk
  have r2 : run (FS P) (j + (2 * n + 7)) 2 [.int (n : Nat), .int 1, .int 40] m = .ok .non m := run_needN (k := j + (2 * n + 4)) (by omega) (by omega)
  obtain ⟨kv, hkv, r3⟩ := (run_num (P := P) (m := m) hp hc hm n hn).1 kd hk [] [] rfl OkK.nil (j + 5)
  rw [show j + 5 + (2 * n + 2) = j + (2 * n + 7) by omega] at r3
  have e1 : MK p m [] [] = m ++ [some (.dT [])] := rfl
  have e2 : MK p m kv [] = m ++ [some (.dT (kv.map (ent p)))] := rfl
  rw [e1, e2] at r3
  have r4 := (run_allV (P := P) (m := m ++ [some (.dT (kv.map (ent p)))]) hp hb n hn).1 kd hk (j + 5)
  rw [show j + 5 + (2 * n + 2) = j + (2 * n + 7) by omega, vals_valK] at r4
  have hv := valK_vok (P := P) hp (k := kd) (n := n) (by omega)
  have hkk := valK_ky hp (k := kd) (n := n) (by omega)
  have hlen : (valK p kd n).length ≤ lineN := by rw [← cv_len]; unfold lineN; omega
  have r5 := run_ordered (P := P) (p := p) (m := m ++ [some (.dT (kv.map (ent p)))]) hv (fun x hx => (hkk x hx).2) h20 hlen ht.app (j := j + (n + 1))
  rw [show j + (n + 1) + (n + 6) = j + (2 * n + 7) by omega] at r5
  have h30 : ¬ (3000 < (cv p kd n : Int)) := by omega
  refine runF_rtd (m2 := [some (.dT (kv.map (ent p)))]) rfl rfl hg ?_ ?_
  · show belows m.length ((sortP (valK p kd n)).map fun x => x.2.1) = true
    refine belows_le (Nat.zero_le _) _ (belows_all fun d hd => ?_)
    obtain ⟨x, hx, rfl⟩ := List.mem_map.mp hd
    have hx : x ∈ valK p kd n := mem_isortG.mp hx
    have : x.2.1 ∈ vals p kd n := by rw [vals_valK]; exact List.mem_map_of_mem (f := fun x : Pt => x.2.1) hx
    exact (pl_vals hp n kd _ this).b
  · simp [f_values, r1, r2, r3, h30, r4, r5]
theorem run_lawKeys {kd : Nm} {xs : List Pt} {N0 : Nat} (hg : GoodM m) (hv : ∀ x ∈ xs, x.1 ≤ N0 ∧ VOk P p kd x) (hl : xs.length ≤ lineN) {j : Nat} {a0 a1 : Nat} {e : Env} {s4 s5 : X}
    (h0 : ∀ x ∈ xs.zipIdx, ∃ e', assign (.tgT (.cons (.tgN a0) (.cons (.tgN a1) .nil))) (.tup [.int (x.2 : Nat), x.1.2.1]) e = some e' ∧ s4 e' m = .ok (.str kd) m ∧ s5 e' m = .ok (eP p) m ∧ xVar a0 e' m = .ok (.int (x.2 : Nat)) m ∧ xVar a1 e' m = .ok x.1.2.1 m) : lcGo (turn (.tgT (.cons (.tgN a0) (.cons (.tgN a1) .nil))) (xCon (.bl true)) (give1 (xTup (xCons (xCall (run (FS P) (j + (N0 + 1)) 49) (xCons s5 (xCons s4 (xCons (xVar a1) (xCon (.tup [])))))) (xCons (xVar a0) (xCon (.tup [])))))) e) (xs.zipIdx.map fun q => D.tup [.int (q.2 : Nat), q.1.2.1]) [] m = .ok (xs.zipIdx.map kyAt) m := by
  refine lcGo_map1 (h := fun q : Pt × Nat => D.tup [.int (q.2 : Nat), q.1.2.1]) (fun q hq => ?_) (by rw [List.length_zipIdx]; exact hl)
  obtain ⟨h1, h2⟩ := List.mem_zipIdx' hq
  have hqm : q.1 ∈ xs := by rw [h2]; exact List.getElem_mem _
  obtain ⟨e', g1, g2, g3, g4, g5⟩ := h0 q hq
  obtain ⟨v1, v2⟩ := hv _ hqm
  have r := v2.lkey (j + (N0 - q.1.1)) m hg
  rw [show j + (N0 - q.1.1) + (q.1.1 + 1) = j + (N0 + 1) by omega] at r
  have b2 : Nat.ble 2 lineN = true := rfl
  rw [turn_eq, g1]
  simp [g2, g3, g4, g5, r, b2, kyAt, ky]
theorem run_lawOrd (hg : GoodM m) {kd : Nm} {xs : List Pt} {N0 : Nat} (hv : ∀ x ∈ xs, x.1 ≤ N0 ∧ VOk P p kd x) (hk : ∀ x ∈ xs, KyOk x) (hn : N0 ≤ 20) (hl : xs.length ≤ lineN) {j : Nat} : run (FS P) (j + (N0 + 2)) ix__law_ordered [eP p, .str kd, .lst (xs.map fun x => x.2.1)] m = .ok (.lst ((sortP xs).map fun x => x.2.1)) m := by
  show run (FS P) ((j + (N0 + 1)) + 1) _ _ _ = _
  rw [run_wt (f := f__law_ordered) rfl]
  apply runF_rt rfl
  have l1 := run_lawKeys (P := P) (p := p) hg hv hl (j := j) (a0 := 4) (a1 := 5) (e := [some (eP p), some (.str kd), some (.lst (xs.map fun x => x.2.1)), none, none, none, none]) (s4 := xVar 1) (s5 := xVar 0) (fun q _ => ⟨[some (eP p), some (.str kd), some (.lst (xs.map fun x => x.2.1)), none, some (.int (q.2 : Nat)), some q.1.2.1, none], by simp [asg_N], by simp, by simp, by simp, by simp⟩)
  have hs := sortOk_at (xs := xs) (fun x hx => ⟨hk x hx, by have := (hv x hx).1; omega⟩) hl
  have os := oSorted_lst (m := m) hs
  rw [isortK_at, List.map_map] at os
  have en : ∀ m, enmR m (.lst (xs.map fun x => x.2.1)) = .ok (.tup (xs.zipIdx.map fun q => D.tup [.int (q.2 : Nat), q.1.2.1])) m := fun m => by
    rw [enmR_lst]
    have := enmL_eq (h := fun x : Pt => x.2.1) xs 0
    simp at this
    rw [this]
  have hcomp : (List.map ((fun x : D × D => x.2) ∘ fun q : Pt × Nat => (kyAt q, kyAt q)) (isortG (fun q p => ltP q.1 p.1) xs.zipIdx)) = (isortG (fun q p => ltP q.1 p.1) xs.zipIdx).map kyAt := rfl
  rw [hcomp] at os
  have l2 : lcGo (turn (.tgT (.cons (.tgN 6) (.cons (.tgN 4) .nil))) (xCon (.bl true)) (give1 (x2 idxR (xVar 2) (xVar 4))) [some (eP p), some (.str kd), some (.lst (xs.map fun x => x.2.1)), some (.lst ((isortG (fun q p => ltP q.1 p.1) xs.zipIdx).map kyAt)), none, none, none]) ((isortG (fun q p => ltP q.1 p.1) xs.zipIdx).map kyAt) [] m = .ok ((isortG (fun q p => ltP q.1 p.1) xs.zipIdx).map fun q => q.1.2.1) m := by
    refine lcGo_map1 (h := kyAt) (g := fun q : Pt × Nat => q.1.2.1) (fun q hq => ?_) (by rw [isortG_len, List.length_zipIdx]; exact hl)
    have hq := mem_isortG.mp hq
    obtain ⟨h1, h2⟩ := List.mem_zipIdx' hq
    have ii : ∀ m, idxR m (.lst (xs.map fun x => x.2.1)) (.int (q.2 : Nat)) = .ok q.1.2.1 m := fun m => idx_lstN (by rw [List.getElem?_map, List.getElem?_eq_getElem h1, ← h2]; rfl)
    simp [kyAt, asg_N, ii]
  have hfin : ((isortG (fun q p : Pt × Nat => ltP q.1 p.1) xs.zipIdx).map fun q => q.1.2.1) = (sortP xs).map fun x => x.2.1 := by
    rw [← sortP_at, List.map_map]
    rfl
  rw [hfin] at l2
  simp [f__law_ordered, en, l1, asg_N]
  rw [os]
  simp [asg_N]
  rw [l2]
  rfl
end
end K00
end
section
set_option linter.all false
set_option autoImplicit false
set_option maxRecDepth 100000
/-! KM25: the first value of a size. -/
namespace K00
open Mt
def fT (F : Nm → Nat → Option D) (C : List Nm → Nat → Nat) : List Nm → Nat → Option (List D)
  | [], n => if n = 0 then some [] else none
  | f :: fs, n => (List.range n).findSome? fun i => if 0 < C fs (n - (i + 1)) then (match F f (i + 1) with
    | some v => (fT F C fs (n - (i + 1))).map (v :: ·)
    | none => none) else none
def stepF (F : Nm → Nat → Option D) (C : List Nm → Nat → Nat) (p : Prog) (k : Nm) (n : Nat) : Option D := match lk p k with
  | some (.num lo hi) => if n = 0 then some (.int lo) else none
  | some (.rows k') => (List.range (n + 1)).findSome? fun i => (fT F C (List.replicate i k') n).map .tup
  | some (.mk ms) => ms.findSome? fun x => (fT F C x.2 n).map fun l => .tup [.str x.1, .tup l]
  | none => none
def tf (p : Prog) (C : List Nm → Nat → Nat) : Nat → Nm → Nat → Option D
  | 0 => fun _ _ => none
  | N + 1 => fun k n => if n = N + 1 then stepF (tf p C N) C p k N else tf p C N k n
def fstV (p : Prog) (k : Nm) (n : Nat) : Option D := tf p (cf p) n k n
def fstT (p : Prog) (fs : List Nm) (n : Nat) : Option (List D) := fT (fstV p) (cf p) fs n
theorem tf_eq {p : Prog} {C : List Nm → Nat → Nat} {k : Nm} : ∀ {N n : Nat}, n ≤ N → tf p C N k n = tf p C n k n
  | 0, n, h => by
    have : n = 0 := by omega
    subst this
    rfl
  | N + 1, n, h => by
    by_cases e : n = N + 1
    · subst e; rfl
    · show (if n = N + 1 then _ else tf p C N k n) = _
      rw [if_neg e]
      exact tf_eq (by omega)
theorem findSome_congr {α β : Type} {f g : α → Option β} : ∀ {l : List α}, (∀ x ∈ l, f x = g x) → l.findSome? f = l.findSome? g
  | [], _ => rfl
  | x :: l, h => by rw [List.findSome?_cons, List.findSome?_cons, h x (by simp), findSome_congr fun y hy => h y (by simp [hy])]
theorem fT_congr {F G : Nm → Nat → Option D} {C : List Nm → Nat → Nat} : ∀ {fs : List Nm} {n : Nat}, (∀ i ≤ n, ∀ k, F k i = G k i) → fT F C fs n = fT G C fs n
  | [], _, _ => rfl
  | f :: fs, n, h => by
    unfold fT
    refine findSome_congr fun i hi => ?_
    have hi := List.mem_range.mp hi
    rw [h (i + 1) (by omega) f, fT_congr (fs := fs) (n := n - (i + 1)) fun j hj => h j (by omega)]
theorem fstV_s {p : Prog} {k : Nm} {n : Nat} : fstV p k (n + 1) = match lk p k with
  | some (.num lo hi) => if n = 0 then some (.int lo) else none
  | some (.rows k') => (List.range (n + 1)).findSome? fun i => (fstT p (List.replicate i k') n).map .tup
  | some (.mk ms) => ms.findSome? fun x => (fstT p x.2 n).map fun l => .tup [.str x.1, .tup l]
  | none => none := by
  show (if n + 1 = n + 1 then stepF (tf p (cf p) n) (cf p) p k n else tf p (cf p) n k (n + 1)) = _
  rw [if_pos rfl]
  unfold stepF
  generalize lk p k = o
  cases o with
  | none => rfl
  | some b => cases b with
    | num => rfl
    | rows k' =>
      dsimp only
      refine findSome_congr fun i _ => ?_
      unfold fstT
      rw [fT_congr (G := fstV p) fun j hj k => tf_eq hj]
    | mk ms =>
      dsimp only
      refine findSome_congr fun x _ => ?_
      unfold fstT
      rw [fT_congr (G := fstV p) fun j hj k => tf_eq hj]
theorem fstT_nil {p : Prog} {n : Nat} : fstT p [] n = if n = 0 then some [] else none := rfl
theorem fstT_cons {p : Prog} {f : Nm} {fs : List Nm} {n : Nat} : fstT p (f :: fs) n = (List.range n).findSome? fun i => if 0 < cf p fs (n - (i + 1)) then (match fstV p f (i + 1) with
    | some v => (fstT p fs (n - (i + 1))).map (v :: ·)
    | none => none) else none := rfl
theorem fstT_below {p : Prog} {N : Nat} (h : ∀ i ≤ N, ∀ k v, fstV p k i = some v → below 0 v = true) : ∀ {fs : List Nm} {n : Nat}, n ≤ N → ∀ l, fstT p fs n = some l → belows 0 l = true ∧ l.length = fs.length
  | [], n, _, l, hl => by
    rw [fstT_nil] at hl
    split at hl
    · cases hl; exact ⟨rfl, rfl⟩
    · cases hl
  | f :: fs, n, hn, l, hl => by
    rw [fstT_cons] at hl
    obtain ⟨i, hi, hg⟩ := List.exists_of_findSome?_eq_some hl
    have hi := List.mem_range.mp hi
    split at hg
    · split at hg
      · rename_i v hv
        cases e : fstT p fs (n - (i + 1)) with
        | none => rw [e] at hg; cases hg
        | some l' =>
          rw [e] at hg
          cases hg
          obtain ⟨h1, h2⟩ := fstT_below h (by omega) l' e
          refine ⟨?_, by simp [h2]⟩
          show (match below 0 v with
            | true => belows 0 l'
            | false => false) = true
          rw [h _ (by omega) f v hv]
          exact h1
      · cases hg
    · cases hg
theorem fstV_below {p : Prog} : ∀ n k v, fstV p k n = some v → below 0 v = true := by
  intro n
  induction n using Nat.strongRecOn with
  | _ n ih =>
    intro k v hv
    cases n with
    | zero => cases hv
    | succ n =>
      have ih' : ∀ i ≤ n, ∀ k v, fstV p k i = some v → below 0 v = true := fun i hi => ih i (by omega)
      rw [fstV_s] at hv
      split at hv
      · split at hv
        · cases hv; rfl
        · cases hv
      · obtain ⟨i, hi, hg⟩ := List.exists_of_findSome?_eq_some hv
        rename_i k' _
        cases e : fstT p (List.replicate i k') n with
        | none => rw [e] at hg; cases hg
        | some l =>
          rw [e] at hg
          cases hg
          exact (fstT_below ih' (Nat.le_refl _) l e).1
      · obtain ⟨x, hx, hg⟩ := List.exists_of_findSome?_eq_some hv
        cases e : fstT p x.2 n with
        | none => rw [e] at hg; cases hg
        | some l =>
          rw [e] at hg
          cases hg
          show (match belows 0 l with
            | true => true
            | false => false) = true
          rw [(fstT_below ih' (Nat.le_refl _) l e).1]
      · cases hv
def oL {α : Type} (f : α → D) (o : Option α) : List D := o.toList.map f
@[simp] theorem oL_none {α : Type} {f : α → D} : oL f none = [] := rfl
@[simp] theorem oL_some {α : Type} {f : α → D} {a : α} : oL f (some a) = [f a] := rfl
section
variable {P : List Nat} {p : Prog} {N : Nat}
def FV (P : List Nat) (p : Prog) (n : Nat) : Prop := ∀ kd ∈ names p, ∀ m : Mem, m.all (belowO 0) = true → ∀ k, run (FS P) (k + (2 * n + 2)) ix_firsts [eP p, .str kd, .int (n : Nat), .int 1] m = .ok (.lst (fstV p kd n).toList) m
def FTs (P : List Nat) (p : Prog) (n : Nat) : Prop := ∀ fs, (∀ f ∈ fs, f ∈ names p) → fs.length ≤ 100 → ∀ m : Mem, m.all (belowO 0) = true → ∀ k, run (FS P) (k + (2 * n + 3)) ix_first_tuples [eP p, eF fs, .int (n : Nat), .int 1] m = .ok (.lst (oL .tup (fstT p fs n))) m
theorem firstT_step (hp : WfP p) (hc : Bc p N) {n : Nat} (hn : n ≤ N) (hV : ∀ i ≤ n, 1 ≤ i → FV P p i) (hF : ∀ i < n, FTs P p i) : FTs P p n := by
  intro fs hfs hfl m hm k
  show run (FS P) ((k + (2 * n + 2)) + 1) _ _ _ = _
  rw [run_wt (f := f_first_tuples) rfl]
  have hs := hc.small
  have hce := cEq_eF (m := m) (fs := fs) fun f hf => hp.okn f (hfs f hf)
  cases fs with
  | nil =>
    apply runF_rt rfl
    rw [fstT_nil]
    by_cases hn0 : n = 0
    · subst hn0
      simp [f_first_tuples, hce]
    · simp [f_first_tuples, hce, hn0]
  | cons f fs =>
    have hf : f ∈ names p := hfs f (by simp)
    have hfs' : ∀ g ∈ fs, g ∈ names p := fun g hg => hfs g (by simp [hg])
    have hfl' : fs.length ≤ 100 := by simp at hfl; omega
    have hm0 : (MK p m [] []).all (belowO 0) = true := MK_all hm rfl
    rw [fstT_cons]
    generalize hg : (fun i => if 0 < cf p fs (n - (i + 1)) then (match fstV p f (i + 1) with
    | some v => (fstT p fs (n - (i + 1))).map (v :: ·)
    | none => none) else none) = g
    obtain ⟨e2, m', h1, t, s5, s6, s7, ht, rfl, rfl⟩ := forGo_inv (tg := .tgN 5) (b := es (ctxK (FS P) (k + (2 * n + 2)) (P.getD 0 0, [])) (.ite (.and (.cmp .lt (.blt .len (.cons (.var 4) .nil)) (.var 3)) (.cmp .gt (.call 29 (.cons (.var 0) (.cons (.slL (.var 1) (.con (.int 1))) (.cons (.bin .sub (.var 2) (.var 5)) (.cons .dnT .nil))))) (.con (.int 0))))
    (.loop (.tgN 6) (.call 35 (.cons (.var 0) (.cons (.idx (.var 1) (.con (.int 0))) (.cons (.var 5) (.cons (.bin .sub (.var 3) (.blt .len (.cons (.var 4) .nil))) .nil)))))
    (.seq (.asg (.tgN 7) (.ite (.cmp .lt (.blt .len (.cons (.var 4) .nil)) (.var 3)) (.call 36 (.cons (.var 0) (.cons (.slL (.var 1) (.con (.int 1))) (.cons (.bin .sub (.var 2) (.var 5)) (.cons (.bin .sub (.var 3) (.blt .len (.cons (.var 4) .nil))) .nil))))) (.lst .nil)))
    (.asg (.tgN 4) (.bin .add (.var 4) (.lc (.bin .add (.tup (.cons (.var 6) .nil)) (.var 8)) (.tgN 8) (.var 7) (.con (.bl true)))))))
    .skip)) (h := fun i : Nat => D.int (1 + (i : Nat))) (fun r e m' => ∃ t s5 s6 s7, t.all (belowO 0) = true ∧ m' = m ++ t ∧ e = [some (eP p), some (eF (f :: fs)), some (.int n), some (.int 1), some (.lst (oL .tup (r.findSome? g))), s5, s6, s7, none]) (l := List.range n) (r := []) (e := [some (eP p), some (eF (f :: fs)), some (.int n), some (.int 1), some (.lst []), none, none, none, none]) (m := m) ⟨[], none, none, none, rfl, by simp, rfl⟩ (fun r' i l' hx2 e m' ⟨t, s5, s6, s7, ht, hmm, he⟩ => by
      subst hmm he
      have hi : i < n := by
        have : i ∈ r' ++ i :: l' := by simp
        rw [← hx2] at this
        simpa using this
      have e1 : (n : Int) - (1 + (i : Int)) = ((n - (i + 1) : Nat) : Int) := by omega
      have e3 : ((i + 1 : Nat) : Int) = 1 + (i : Int) := by omega
      rw [List.findSome?_append]
      cases hr : r'.findSome? g with
      | some z =>
        refine ⟨[some (eP p), some (eF (f :: fs)), some (.int n), some (.int 1), some (.lst [.tup z]), some (.int (1 + (i : Nat))), s6, s7, none], by simp [asg_N], [some (eP p), some (eF (f :: fs)), some (.int n), some (.int 1), some (.lst [.tup z]), some (.int (1 + (i : Nat))), s6, s7, none], m ++ t, .inl ?_, t, some (.int (1 + (i : Nat))), s6, s7, ht, rfl, by simp⟩
        simp
      | none =>
        have hmt : (m ++ t).all (belowO 0) = true := by rw [List.all_append, hm, ht]; rfl
        have sl : ∀ m, slLR m (eF (f :: fs)) (.int 1) = .ok (eF fs) m := fun m => slL_tup1
        have ix0 : ∀ m, idxR m (eF (f :: fs)) (.int 0) = .ok (.str f) m := fun m => idx_tup0
        obtain ⟨kv, hkv, r3⟩ := (run_num (P := P) (m := m ++ t) hp hc hmt (n - (i + 1)) (by omega)).2.2 fs hfs' [] [] rfl OkK.nil (k + (2 * i + 1))
        rw [show k + (2 * i + 1) + (2 * (n - (i + 1)) + 3) = k + (2 * n + 2) by omega] at r3
        have em1 : MK p (m ++ t) [] [] = m ++ (t ++ [some (.dT [])]) := by unfold MK; simp
        have em2 : MK p (m ++ t) kv [] = m ++ (t ++ [some (.dT (kv.map (ent p)))]) := by unfold MK; simp
        have ht2 : (t ++ [some (Ob.dT (kv.map (ent p)))]).all (belowO 0) = true := by
          have := MK_all (p := p) (kv := kv) ht (m3 := []) rfl
          exact this
        rw [em1, em2, List.length_append] at r3
        refine ⟨[some (eP p), some (eF (f :: fs)), some (.int n), some (.int 1), some (.lst []), some (.int (1 + (i : Nat))), s6, s7, none], by simp [asg_N], ?_⟩
        generalize t ++ [some (Ob.dT (kv.map (ent p)))] = t2 at r3 ht2
        have hmt2 : (m ++ t2).all (belowO 0) = true := by rw [List.all_append, hm, ht2]; rfl
        by_cases hcf : 0 < cf p fs (n - (i + 1))
        · have hci : ((0 : Int) < (cf p fs (n - (i + 1)) : Nat)) := by omega
          have r4 := hV (i + 1) (by omega) (by omega) f hf (m ++ t2) hmt2 (k + 2 * (n - (i + 1)))
          rw [show k + 2 * (n - (i + 1)) + (2 * (i + 1) + 2) = k + (2 * n + 2) by omega, e3] at r4
          cases hv : fstV p f (i + 1) with
          | none =>
            have hgi : g i = none := by rw [← hg]; simp [hcf, hv]
            rw [hv] at r4
            refine ⟨[some (eP p), some (eF (f :: fs)), some (.int n), some (.int 1), some (.lst []), some (.int (1 + (i : Nat))), s6, s7, none], m ++ t2, .inl ?_, t2, some (.int (1 + (i : Nat))), s6, s7, ht2, rfl, by simp [hgi]⟩
            simp at r4
            simp [sl, e1, r3, hcf, ix0, r4, forGo]
          | some v =>
            have hgi : g i = (fstT p fs (n - (i + 1))).map (v :: ·) := by rw [← hg]; simp [hcf, hv]
            rw [hv] at r4
            have r5 := hF (n - (i + 1)) (by omega) fs hfs' hfl' (m ++ t2) hmt2 (k + (2 * i + 1))
            rw [show k + (2 * i + 1) + (2 * (n - (i + 1)) + 3) = k + (2 * n + 2) by omega] at r5
            have b1 : Nat.ble 1 lineN = true := rfl
            cases hT : fstT p fs (n - (i + 1)) with
            | none =>
              rw [hT] at hgi r5
              refine ⟨[some (eP p), some (eF (f :: fs)), some (.int n), some (.int 1), some (.lst []), some (.int (1 + (i : Nat))), some v, some (.lst []), none], m ++ t2, .inl ?_, t2, some (.int (1 + (i : Nat))), some v, some (.lst []), ht2, rfl, by simp [hgi]⟩
              simp at r4 r5
              have ba : bAdd (m ++ t2) (.lst []) (.lst []) = .ok (.lst []) (m ++ t2) := rfl
              simp [sl, e1, r3, hcf, ix0, r4, forGo, asg_N, r5, lcGo, ba]
            | some z =>
              rw [hT] at hgi r5
              have hz := (fstT_below (p := p) (N := n) (fun i _ k v => fstV_below i k v) (by omega) z hT).2
              refine ⟨[some (eP p), some (eF (f :: fs)), some (.int n), some (.int 1), some (.lst [.tup (v :: z)]), some (.int (1 + (i : Nat))), some v, some (.lst [.tup z]), none], m ++ t2, .inl ?_, t2, some (.int (1 + (i : Nat))), some v, some (.lst [.tup z]), ht2, rfl, by simp [hgi]⟩
              simp at r4 r5
              have ba : bAdd (m ++ t2) (.tup [v]) (.tup z) = .ok (.tup (v :: z)) (m ++ t2) := bAdd_tup (by simp; unfold lineN; omega)
              have bl : bAdd (m ++ t2) (.lst []) (.lst [.tup (v :: z)]) = .ok (.lst [.tup (v :: z)]) (m ++ t2) := rfl
              simp [sl, e1, r3, hcf, ix0, r4, forGo, asg_N, r5, lcGo, ba, bl, b1]
        · have hci : ¬ ((0 : Int) < (cf p fs (n - (i + 1)) : Nat)) := by omega
          have hgi : g i = none := by rw [← hg]; simp [hcf]
          refine ⟨[some (eP p), some (eF (f :: fs)), some (.int n), some (.int 1), some (.lst []), some (.int (1 + (i : Nat))), s6, s7, none], m ++ t2, .inl ?_, t2, some (.int (1 + (i : Nat))), s6, s7, ht2, rfl, by simp [hgi]⟩
          simp [sl, e1, r3, hcf])
    have hrg := rngR_1 (m := m) (n := n) (by omega)
    refine runF_rtt (m' := m ++ t) rfl rfl (by simp) hm ?_ (by simp) ?_
    · cases hfin : (List.range n).findSome? g with
      | none => rfl
      | some z =>
        have hz : fstT p (f :: fs) n = some z := by rw [fstT_cons, hg, hfin]
        have := (fstT_below (p := p) (N := n) (fun i _ k v => fstV_below i k v) (Nat.le_refl _) z hz).1
        show (match belows 0 z with
          | true => true
          | false => false) = true
        rw [this]
    · rw [List.nil_append] at h1
      simp at h1
      simp [f_first_tuples, hce, asg_N, hrg]
      rw [h1]
      simp
end
end K00
end
section
set_option linter.all false
set_option autoImplicit false
set_option maxRecDepth 100000
/-! KM26: firsts, least. -/
namespace Mt
theorem rep_str {k : List Nat} : ∀ {n : Nat}, rep [D.str k] n = (List.replicate n k).map .str
  | 0 => rfl
  | n + 1 => by
    show [D.str k] ++ rep [D.str k] n = _
    rw [rep_str]
    rfl
end Mt
namespace K00
open Mt
section
variable {P : List Nat} {p : Prog} {N : Nat}
theorem mul_eF {m : Mem} {k : Nm} {i : Nat} (h : i ≤ 1000) : bMul m (.tup [.str k]) (.int (i : Nat)) = .ok (eF (List.replicate i k)) m := by
  show (if decide (-1000 ≤ (i : Int)) && decide ((i : Int) ≤ 1000) && Nat.ble 1 1000 then R.ok (D.tup (rep [D.str k] (i : Int).toNat)) m else .bad 4) = _
  rw [if_pos, Int.toNat_natCast, rep_str]
  · rfl
  · rw [Bool.and_eq_true, Bool.and_eq_true, decide_eq_true_eq, decide_eq_true_eq]
    exact ⟨⟨by omega, by omega⟩, rfl⟩
theorem firstV_step (hp : WfP p) (hc : Bc p N) {n : Nat} (hn : n ≤ N) (h1n : 1 ≤ n) (hF : ∀ i < n, FTs P p i) : FV P p n := by
  intro kd hk m hm k
  obtain ⟨n, rfl⟩ : ∃ q, n = q + 1 := ⟨n - 1, by omega⟩
  show run (FS P) ((k + (2 * (n + 1) + 1)) + 1) _ _ _ = _
  rw [run_wt (f := f_firsts) rfl]
  apply runF_rt rfl
  have hs := hc.small
  obtain ⟨b, hl⟩ := lk_some hk
  have rb : run (FS P) (k + (2 * (n + 1) + 1)) 8 [eP p, .str kd] m = .ok (eB b) m := run_bodyW (k := k + 2 * (n + 1)) hp hl
  have ec : ((n + 1 : Nat) : Int) = (n : Int) + 1 := by omega
  have e0 : ∀ m', idxR m' (eB b) (.int 0) = .ok (.str b.tag) m' := fun m' => eB_tag
  have c1 := cEq_num (m := m) (b := b)
  have c2 := cEq_rows (m := m) (b := b)
  have e1 : ((n : Int) + 1 - 1) = (n : Int) := by omega
  have hFn := hF n (by omega)
  have hq0 : k + (2 * (n + 1) + 1) = k + (2 * n + 3) := by omega
  rw [hq0] at rb ⊢
  rw [fstV_s, hl, ec]
  generalize hK : k + (2 * n + 3) = K at *
  cases b with
  | num lo hi =>
    obtain ⟨h1, h2, h3⟩ := nl_len hp hl
    have i1 : ∀ m', idxR m' (eB (.num lo hi)) (.int 1) = .ok (.int lo) m' := fun m' => idx_tup1
    have i2 : ∀ m', idxR m' (eB (.num lo hi)) (.int 2) = .ok (.int hi) m' := fun m' => rfl
    by_cases hn0 : n = 0
    · subst hn0
      have hmin : oMin m [.int hi, .int (lo + 1 - 1)] = .ok (.int lo) m := by
        show R.ok (D.int (if lo + 1 - 1 < hi then lo + 1 - 1 else hi)) m = _
        congr 2
        split <;> omega
      have lr : lrngR m (.int lo) (.int (lo + 1)) = .ok (.lst [.int lo]) m := by
        have h := (lrng_num (m := m) (lo := lo) (hi := lo) h1 (by omega)).resolve_right (fun h => h (Int.le_refl _))
        rw [h, show (lo + 1 - lo).toNat = 1 by omega]
        rfl
      simp [f_firsts, rb, asg_N, e0, c1, i1, i2]
      simp at hmin
      simp [hmin, lr]
    · have h11 : ¬ (((n : Int) + 1) = 1) := by omega
      simp [f_firsts, rb, asg_N, e0, c1, hn0, h11]
  | rows k' =>
    have i1 : ∀ m', idxR m' (eB (.rows k')) (.int 1) = .ok (.str k') m' := fun m' => idx_tup1
    have hk' : k' ∈ names p := hp.bd hl
    generalize hg : (fun i => (fstT p (List.replicate i k') n).map D.tup) = g
    have hloop := forGo_inv (tg := .tgN 6) (b := es (ctxK (FS P) K (P.getD 0 0, [])) (.ite (.cmp .lt (.blt .len (.cons (.var 5) .nil)) (.var 3))
    (.asg (.tgN 5) (.bin .add (.var 5) (.call 36 (.cons (.var 0) (.cons (.bin .mul (.tup (.cons (.idx (.var 4) (.con (.int 1))) .nil)) (.var 6)) (.cons (.bin .sub (.var 2) (.con (.int 1))) (.cons (.bin .sub (.var 3) (.blt .len (.cons (.var 5) .nil))) .nil)))))))
    .skip)) (h := fun i : Nat => D.int (0 + (i : Nat))) (fun r e m' => ∃ s6, m' = m ∧ e = [some (eP p), some (.str kd), some (.int ((n : Int) + 1)), some (.int 1), some (eB (.rows k')), some (.lst (r.findSome? g).toList), s6, none, none, none, none]) (l := List.range (n + 1)) (r := []) (e := [some (eP p), some (.str kd), some (.int ((n : Int) + 1)), some (.int 1), some (eB (.rows k')), some (.lst []), none, none, none, none, none]) (m := m) ⟨none, rfl, rfl⟩ (fun r' i l' hx2 e m' ⟨s6, hmm, he⟩ => by
      subst hmm he
      have hi : i < n + 1 := by
        have : i ∈ r' ++ i :: l' := by simp
        rw [← hx2] at this
        simpa using this
      rw [List.findSome?_append]
      cases hr : r'.findSome? g with
      | some z =>
        refine ⟨[some (eP p), some (.str kd), some (.int ((n : Int) + 1)), some (.int 1), some (eB (.rows k')), some (.lst [z]), some (.int (i : Nat)), none, none, none, none], by simp [asg_N], _, _, .inl ?_, some (.int (i : Nat)), rfl, rfl⟩
        simp
      | none =>
        have r5 := hFn (List.replicate i k') (fun f hf => by rw [List.mem_replicate] at hf; rw [hf.2]; exact hk') (by simp; omega) m' hm k
        rw [hK] at r5
        have hgi : g i = (fstT p (List.replicate i k') n).map D.tup := by rw [← hg]
        have b1 : Nat.ble 1 lineN = true := rfl
        have mu := mul_eF (m := m') (k := k') (i := i) (by omega)
        refine ⟨[some (eP p), some (.str kd), some (.int ((n : Int) + 1)), some (.int 1), some (eB (.rows k')), some (.lst []), some (.int (i : Nat)), none, none, none, none], by simp [asg_N], _, _, .inl ?_, some (.int (i : Nat)), rfl, rfl⟩
        have ba : bAdd m' (.lst []) (.lst (oL .tup (fstT p (List.replicate i k') n))) = .ok (.lst (oL .tup (fstT p (List.replicate i k') n))) m' := by
          rw [bAdd_lst]
          · rfl
          · cases fstT p (List.replicate i k') n <;> simp [oL] <;> decide
        have hfs : ([i].findSome? g).toList = oL .tup (fstT p (List.replicate i k') n) := by
          simp [hgi]
          cases fstT p (List.replicate i k') n <;> simp
        simp [i1, b1, mu, e1, r5, ba, asg_N]
        simpa using hfs.symm)
    obtain ⟨e2, m', h1, s6, rfl, rfl⟩ := hloop
    have hrg := rng1_int (m := m') (n := n + 1) (by omega)
    rw [rngL_eq] at hrg
    push_cast at hrg
    dsimp only
    simp at h1 hrg
    simp [f_firsts, rb, asg_N, e0, c1, c2, hrg]
    rw [h1]
    simp [hg]
  | mk ms =>
    have hmk : MkOk ms (names p) := hp.bd hl
    have i1 : ∀ m', idxR m' (eB (.mk ms)) (.int 1) = .ok (.tup (ms.map eM)) m' := fun m' => idx_tup1
    generalize hg : (fun x : Nm × List Nm => (fstT p x.2 n).map fun l => D.tup [.str x.1, .tup l]) = g
    have hloop := forGo_inv (tg := .tgT (.cons (.tgN 7) (.cons (.tgN 8) .nil))) (b := es (ctxK (FS P) K (P.getD 0 0, [])) (.ite (.cmp .lt (.blt .len (.cons (.var 5) .nil)) (.var 3))
    (.seq (.asg (.tgN 9) (.call 36 (.cons (.var 0) (.cons (.var 8) (.cons (.bin .sub (.var 2) (.con (.int 1))) (.cons (.bin .sub (.var 3) (.blt .len (.cons (.var 5) .nil))) .nil))))))
    (.asg (.tgN 5) (.bin .add (.var 5) (.lc (.tup (.cons (.var 7) (.cons (.var 10) .nil))) (.tgN 10) (.var 9) (.con (.bl true))))))
    .skip)) (h := eM) (fun r e m' => ∃ s7 s8 s9, m' = m ∧ e = [some (eP p), some (.str kd), some (.int ((n : Int) + 1)), some (.int 1), some (eB (.mk ms)), some (.lst (r.findSome? g).toList), none, s7, s8, s9, none]) (l := ms) (r := []) (e := [some (eP p), some (.str kd), some (.int ((n : Int) + 1)), some (.int 1), some (eB (.mk ms)), some (.lst []), none, none, none, none, none]) (m := m) ⟨none, none, none, rfl, rfl⟩ (fun r' x l' hx2 e m' ⟨s7, s8, s9, hmm, he⟩ => by
      subst hmm he
      have hxm : x ∈ ms := by
        have : x ∈ r' ++ x :: l' := by simp
        rw [← hx2] at this
        simpa using this
      rw [List.findSome?_append]
      cases hr : r'.findSome? g with
      | some z =>
        refine ⟨[some (eP p), some (.str kd), some (.int ((n : Int) + 1)), some (.int 1), some (eB (.mk ms)), some (.lst [z]), none, some (.str x.1), some (eF x.2), s9, none], by simp [asg_N, eM], _, _, .inl ?_, some (.str x.1), some (eF x.2), s9, rfl, rfl⟩
        simp
      | none =>
        have r5 := hFn x.2 (fun f hf => (hmk.w x hxm).2.2.2 f hf) (by have := (hmk.w x hxm).2.2.1; omega) m' hm k
        rw [hK] at r5
        have hgi : g x = (fstT p x.2 n).map fun l => D.tup [.str x.1, .tup l] := by rw [← hg]
        have b2 : Nat.ble 2 lineN = true := rfl
        have b1 : Nat.ble 1 lineN = true := rfl
        refine ⟨[some (eP p), some (.str kd), some (.int ((n : Int) + 1)), some (.int 1), some (eB (.mk ms)), some (.lst []), none, some (.str x.1), some (eF x.2), s9, none], by simp [asg_N, eM], _, _, .inl ?_, some (.str x.1), some (eF x.2), some (.lst (oL .tup (fstT p x.2 n))), rfl, rfl⟩
        have ba : ∀ l, bAdd m' (.lst []) (.lst [l]) = .ok (.lst [l]) m' := fun l => rfl
        have ba0 : bAdd m' (.lst []) (.lst []) = .ok (.lst []) m' := rfl
        cases hT : fstT p x.2 n with
        | none =>
          rw [hT] at hgi r5
          simp at r5 hgi
          simp [e1, r5, asg_N, lcGo, ba0, hgi]
        | some z =>
          rw [hT] at hgi r5
          simp at r5 hgi
          simp [e1, r5, asg_N, lcGo, ba, hgi, b2, b1])
    obtain ⟨e2, m', h1, s7, s8, s9, rfl, rfl⟩ := hloop
    dsimp only
    simp at h1
    simp [f_firsts, rb, asg_N, e0, c1, c2, i1]
    rw [h1]
    simp [hg]
theorem run_first (hp : WfP p) (hc : Bc p N) : ∀ n ≤ N, (1 ≤ n → FV P p n) ∧ FTs P p n := by
  intro n
  induction n using Nat.strongRecOn with
  | _ n ih =>
    intro hn
    have hV : 1 ≤ n → FV P p n := fun h1 => firstV_step hp hc hn h1 (fun i hi => (ih i hi (by omega)).2)
    have hV' : ∀ i ≤ n, 1 ≤ i → FV P p i := fun i hi h1 => by
      rcases Nat.lt_or_eq_of_le hi with h | h
      · exact (ih i h (by omega)).1 h1
      · exact h ▸ hV (h ▸ h1)
    exact ⟨hV, firstT_step hp hc hn hV' (fun i hi => (ih i hi (by omega)).2)⟩
end
end K00
end
section
set_option linter.all false
set_option autoImplicit false
set_option maxRecDepth 100000
/-! KM27: least. -/
namespace Mt
@[simp] theorem yWhl_eq {t : X} {b : Y} {e : Env} {m : Mem} : yWhl t b e m = whlGo t b 100000 e m := id rfl
@[simp] theorem es_whl' {c : Ctx} {t : A} {s : S} : es c (.whl t s) = yWhl (ev c t) (es c s) := id rfl
theorem whlGo_s {t : Env → Mem → R D} {b : Env → Mem → F} {n : Nat} {e : Env} {m : Mem} : whlGo t b (n + 1) e m = (t e m).toF e fun x m => match truth m x with
    | some false => .nx e m
    | some true => match b e m with
      | .nx e2 m2 => whlGo t b n e2 m2
      | .ct e2 m2 => whlGo t b n e2 m2
      | .bk e2 m2 => .nx e2 m2
      | .rt d2 m2 => .rt d2 m2
      | .exc c fs e2 m2 => .exc c fs e2 m2
      | .bad w => .bad w
    | none => .bad 82 := rfl
end Mt
namespace K00
open Mt
section
variable {P : List Nat} {p : Prog} {N : Nat}
theorem run_leastOf (hp : WfP p) (hc : Bc p N) {kd : Nm} (hk : kd ∈ names p) {n0 : Nat} (h1 : 1 ≤ n0) (hn : n0 ≤ N) (hz : ∀ i < n0, cv p kd i = 0) (hpos : cv p kd n0 ≠ 0) {v : D} (hv : fstV p kd n0 = some v) {m : Mem} (hm : m.all (belowO 0) = true) {k : Nat} : run (FS P) (k + (2 * n0 + 3)) ix_least_of [eP p, .str kd] m = .ok v m := by
  have hs := hc.small
  have hloop : ∀ d many t fuel, many + d = n0 → 1 ≤ many → d + 1 ≤ fuel → t.all (belowO 0) = true → ∃ t', t'.all (belowO 0) = true ∧ whlGo (ev (ctxK (FS P) (k + (2 * n0 + 2)) (P.getD 0 0, [])) (.cmp .eq (.call 27 (.cons (.var 0) (.cons (.var 1) (.cons (.var 2) (.cons .dnT .nil))))) (.con (.int 0)))) (es (ctxK (FS P) (k + (2 * n0 + 2)) (P.getD 0 0, [])) (.aug 2 .add (.con (.int 1)))) fuel [some (eP p), some (.str kd), some (.int (many : Nat))] (m ++ t) = .nx [some (eP p), some (.str kd), some (.int (n0 : Nat))] (m ++ t') := by
    intro d
    induction d with
    | zero =>
      intro many t fuel hd h1m hf ht
      have : many = n0 := by omega
      subst this
      obtain ⟨f, rfl⟩ : ∃ f, fuel = f + 1 := ⟨fuel - 1, by omega⟩
      have hmt : (m ++ t).all (belowO 0) = true := by rw [List.all_append, hm, ht]; rfl
      obtain ⟨kv, hkv, r3⟩ := (run_num (P := P) (m := m ++ t) hp hc hmt many hn).1 kd hk [] [] rfl OkK.nil k
      have em1 : MK p (m ++ t) [] [] = m ++ (t ++ [some (.dT [])]) := by unfold MK; simp
      have em2 : MK p (m ++ t) kv [] = m ++ (t ++ [some (.dT (kv.map (ent p)))]) := by unfold MK; simp
      have ht2 : (t ++ [some (Ob.dT (kv.map (ent p)))]).all (belowO 0) = true := MK_all (p := p) (kv := kv) ht (m3 := []) rfl
      rw [em1, em2, List.length_append] at r3
      refine ⟨_, ht2, ?_⟩
      rw [whlGo_s]
      simp [r3, hpos]
    | succ d ih =>
      intro many t fuel hd h1m hf ht
      obtain ⟨f, rfl⟩ : ∃ f, fuel = f + 1 := ⟨fuel - 1, by omega⟩
      have hmt : (m ++ t).all (belowO 0) = true := by rw [List.all_append, hm, ht]; rfl
      obtain ⟨kv, hkv, r3⟩ := (run_num (P := P) (m := m ++ t) hp hc hmt many (by omega)).1 kd hk [] [] rfl OkK.nil (k + 2 * (n0 - many))
      rw [show k + 2 * (n0 - many) + (2 * many + 2) = k + (2 * n0 + 2) by omega, hz many (by omega)] at r3
      have em1 : MK p (m ++ t) [] [] = m ++ (t ++ [some (.dT [])]) := by unfold MK; simp
      have em2 : MK p (m ++ t) kv [] = m ++ (t ++ [some (.dT (kv.map (ent p)))]) := by unfold MK; simp
      have ht2 : (t ++ [some (Ob.dT (kv.map (ent p)))]).all (belowO 0) = true := MK_all (p := p) (kv := kv) ht (m3 := []) rfl
      rw [em1, em2, List.length_append] at r3
      obtain ⟨t', ht', g⟩ := ih (many + 1) _ f (by omega) (by omega) (by omega) ht2
      refine ⟨t', ht', ?_⟩
      rw [whlGo_s]
      rw [← g]
      push_cast
      simp at r3
      simp [r3]
  obtain ⟨t', ht', g⟩ := hloop (n0 - 1) 1 [] 100000 (by omega) (by omega) (by omega) rfl
  have hmt : (m ++ t').all (belowO 0) = true := by rw [List.all_append, hm, ht']; rfl
  have r4 := (run_first (P := P) hp hc n0 hn).1 h1 kd hk (m ++ t') hmt k
  rw [hv] at r4
  show run (FS P) ((k + (2 * n0 + 2)) + 1) _ _ _ = _
  rw [run_wt (f := f_least_of) rfl]
  refine runF_rtt (m' := m ++ t') rfl rfl (by simp) hm (fstV_below n0 kd v hv) (by simp) ?_
  rw [List.append_nil] at g
  simp at g r4
  have i0 : ∀ m, idxR m (.lst [v]) (.int 0) = .ok v m := fun m => rfl
  simp [f_least_of, asg_N]
  rw [g]
  simp [r4, i0]
theorem run_least (hp : WfP p) (hc : Bc p N) {kd : Nm} (hk : kd ∈ names p) {n0 : Nat} (h1 : 1 ≤ n0) (hn : n0 ≤ N) (hz : ∀ i < n0, cv p kd i = 0) (hpos : cv p kd n0 ≠ 0) {v : D} (hv : fstV p kd n0 = some v) {m : Mem} (hm : m.all (belowO 0) = true) {k : Nat} : run (FS P) (k + (2 * n0 + 6)) ix_least [eP p, .str kd] m = .ok v m := by
  show run (FS P) ((k + (2 * n0 + 5)) + 1) _ _ _ = _
  rw [run_wt (f := f_least) rfl]
  apply runF_rt rfl
  have r1 : run (FS P) (k + (2 * n0 + 5)) 9 [eP p, .str kd] m = .ok .non m := run_needK (k := k + 2 * n0) (good0 hm) hp hk
  have r2 : run (FS P) (k + (2 * n0 + 5)) 37 [eP p, .str kd] m = .ok v m := by
    have := run_leastOf (P := P) (k := k + 2) hp hc hk h1 hn hz hpos hv hm
    rw [show k + 2 + (2 * n0 + 3) = k + (2 * n0 + 5) by omega] at this
    exact this
  simp [f_least, r1, r2]
end
end K00
end
section
set_option linter.all false
set_option autoImplicit false
set_option maxRecDepth 100000
/-! KM28: what kinds reach. -/
namespace Mt
theorem runF_rtn {c : Ctx} {f : Fn} {xs : List D} {m m' : Mem} {d : D} (hl : Nat.beq xs.length f.ps = true) (hd : f.drop = false) (h : es c f.body (xs.map some ++ List.replicate (f.ns - f.ps) none) m = .rt d m') : runF c f xs m = .ok d m' := by
  unfold runF
  rw [if_pos hl, h]
  show (if f.drop then dropTo m.length else id) (R.ok d m') = _
  rw [hd]
  rfl
@[simp] theorem ev_cellC' {c : Ctx} {el tg it t tg2 it2 t2 : A} : ev c (.cellC el tg it t tg2 it2 t2) = xCell (xLc2 (ev c el) tg (ev c it) (ev c t) tg2 (ev c it2) (ev c t2)) := id rfl
@[simp] theorem bmK_pop {m : Mem} {d : D} : bmK .pop m d = isL m d := id rfl
@[simp] theorem bmK_app {m : Mem} {d : D} : bmK .append m d = isL m d := id rfl
@[simp] theorem bmR_pop : bmR .pop = mPop := id rfl
@[simp] theorem bmR_app : bmR .append = mAppend := id rfl
theorem forGo_any {α : Type} {tg : A} {b : Y} {h : α → D} {m : Mem} {d : D} {q : α → Bool} (Pe : Env → Prop) : ∀ {l : List α} {e : Env}, Pe e → (∀ x ∈ l, ∀ e, Pe e → ∃ e1, assign tg (h x) e = some e1 ∧ if q x then b e1 m = .rt d m else ∃ e2, b e1 m = .nx e2 m ∧ Pe e2) → if l.any q then forGo tg b (l.map h) e m = .rt d m else ∃ e2, forGo tg b (l.map h) e m = .nx e2 m ∧ Pe e2
  | [], e, he, _ => ⟨e, rfl, he⟩
  | x :: l, e, he, hs => by
    obtain ⟨e1, a1, b1⟩ := hs x (by simp) e he
    have hun : forGo tg b ((x :: l).map h) e m = (match b e1 m with
        | .nx e2 m2 => forGo tg b (l.map h) e2 m2
        | .ct e2 m2 => forGo tg b (l.map h) e2 m2
        | .bk e2 m2 => .nx e2 m2
        | .rt d2 m2 => .rt d2 m2
        | .exc c fs e2 m2 => .exc c fs e2 m2
        | .bad w => .bad w) := by
      show (match assign tg (h x) e with
      | none => F.bad 80
      | some e' => match b e' m with
        | .nx e2 m2 => forGo tg b (l.map h) e2 m2
        | .ct e2 m2 => forGo tg b (l.map h) e2 m2
        | .bk e2 m2 => .nx e2 m2
        | .rt d2 m2 => .rt d2 m2
        | .exc c fs e2 m2 => .exc c fs e2 m2
        | .bad w => .bad w) = _
      rw [a1]
    rw [hun, List.any_cons]
    cases hq : q x with
    | true =>
      rw [hq, if_pos rfl] at b1
      rw [b1]
      rfl
    | false =>
      rw [hq] at b1
      obtain ⟨e2, b2, p2⟩ := b1
      rw [b2, Bool.false_or]
      exact forGo_any Pe p2 fun y hy => hs y (by simp [hy])
end Mt
namespace K00
open Mt
def strD (ns : List Nm) : List D := ns.map .str
def partsM : Body → List Nm
  | .num _ _ => []
  | .rows k => [k]
  | .mk ms => ms.flatMap (·.2)
def reachGo (p : Prog) : Nat → List Nm → List Nm → Option (List Nm)
  | 0, _, _ => none
  | f + 1, found, rim => match rim.getLast? with
    | none => some found
    | some here => if here ∈ found then reachGo p f found rim.dropLast else match lk p here with
      | none => none
      | some b => if (rim.dropLast ++ partsM b).length ≤ 1000 ∧ found.length < 1000 then reachGo p f (found ++ [here]) (rim.dropLast ++ partsM b) else none
def reachM (p : Prog) (k : Nm) : Option (List Nm) := match lk p k with
  | none => none
  | some b => reachGo p 300 [] (partsM b)
/-- memory with the found ahead of all else -/
def RM (m : Mem) (found : List Nm) (t : Mem) : Mem := m ++ some (.lst (strD found)) :: t
section
variable {P : List Nat} {p : Prog} {m : Mem}
theorem RM_at {found : List Nm} {t : Mem} : (RM m found t)[m.length]? = some (some (.lst (strD found))) := at_mid
theorem RM_atj {found : List Nm} {t : Mem} {j : Nat} : (RM m found t)[m.length + 1 + j]? = t[j]? := by
  unfold RM
  rw [List.getElem?_append_right (by omega)]
  have : m.length + 1 + j - m.length = j + 1 := by omega
  rw [this, List.getElem?_cons_succ]
theorem RM_set {found found' : List Nm} {t : Mem} : (RM m found t).set m.length (some (.lst (strD found'))) = RM m found' t := by
  unfold RM
  rw [set_mid]
theorem RM_setj {found : List Nm} {t : Mem} {j : Nat} {o : Option Ob} : (RM m found t).set (m.length + 1 + j) o = RM m found (t.set j o) := by
  unfold RM
  rw [List.set_append_right _ _ (by omega)]
  have : m.length + 1 + j - m.length = j + 1 := by omega
  rw [this, List.set_cons_succ]
theorem below_strs {ns : List Nm} : belows 0 (strD ns) = true := below_eF
theorem parts_ok (hp : WfP p) {k : Nm} {b : Body} (hl : lk p k = some b) : (∀ f ∈ partsM b, f ∈ names p) := by
  cases b with
  | num => intro f hf; cases hf
  | rows k' =>
    intro f hf
    simp [partsM] at hf
    subst hf
    exact hp.bd hl
  | mk ms =>
    intro f hf
    have hm : MkOk ms (names p) := hp.bd hl
    simp only [partsM, List.mem_flatMap] at hf
    obtain ⟨x, hx, hf⟩ := hf
    exact (hm.w x hx).2.2.2 f hf
theorem parts_len (hp : WfP p) {k : Nm} {b : Body} (hl : lk p k = some b) : (partsM b).length ≤ 32 := by
  cases b with
  | num => simp [partsM]
  | rows k' => simp [partsM]
  | mk ms =>
    have hm : MkOk ms (names p) := hp.bd hl
    have h8 := hm.n8
    have hw := hm.w
    show (ms.flatMap (·.2)).length ≤ 32
    have : ∀ l : List (Nm × List Nm), (∀ x ∈ l, x.2.length ≤ 4) → (l.flatMap (·.2)).length ≤ l.length * 4 := by
      intro l
      induction l with
      | nil => intro _; simp
      | cons a l ih =>
        intro h
        have h1 := h a (by simp)
        have h2 := ih fun x hx => h x (by simp [hx])
        rw [List.flatMap_cons, List.length_append, List.length_cons]
        omega
    have := this ms fun x hx => (hw x hx).2.2.1
    omega
theorem run_parts (hp : WfP p) {kd : Nm} {b : Body} (hl : lk p kd = some b) {k : Nat} {M : Mem} : run (FS P) (k + 1) ix_parts_of [eB b] M = .ok (.ref M.length) (M ++ [some (.lst (strD (partsM b)))]) := by
  rw [run_wt (f := f_parts_of) rfl]
  apply runF_rtn rfl rfl
  have e0 : ∀ m', idxR m' (eB b) (.int 0) = .ok (.str b.tag) m' := fun m' => eB_tag
  have c0 := cEq_mk (m := M) (b := b)
  have c2 := cEq_rows (m := M) (b := b)
  have hlen := parts_len hp hl
  cases b with
  | num lo hi => simp [f_parts_of, e0, c0, c2, isMk, partsM, strD]
  | rows k' =>
    have i1 : ∀ m', idxR m' (eB (.rows k')) (.int 1) = .ok (.str k') m' := fun m' => idx_tup1
    have b1 : Nat.ble 1 lineN = true := rfl
    simp [f_parts_of, e0, c0, c2, isMk, partsM, strD, i1, b1]
  | mk ms =>
    have i1 : ∀ m', idxR m' (eB (.mk ms)) (.int 1) = .ok (.tup (ms.map eM)) m' := fun m' => idx_tup1
    have hm : MkOk ms (names p) := hp.bd hl
    have hstr : strD (ms.flatMap (·.2)) = ms.flatMap fun x => x.2.map .str := by
      unfold strD
      rw [List.map_flatMap]
    have l1 : lcGo (turn (.tgT (.cons (.tgN 1) (.cons (.tgN 2) .nil))) (xCon (.bl true)) (inner (xVar 3) (.tgN 3) (xVar 2) (xCon (.bl true))) [some (eB (.mk ms)), none, none, none]) (ms.map eM) [] M = .ok (strD (partsM (.mk ms))) M := by
      have := lcGo_map (f := turn (.tgT (.cons (.tgN 1) (.cons (.tgN 2) .nil))) (xCon (.bl true)) (inner (xVar 3) (.tgN 3) (xVar 2) (xCon (.bl true))) [some (eB (.mk ms)), none, none, none]) (h := eM) (g := fun x => x.2.map .str) (m := M) (l := ms) (acc := []) (fun x hx => by
        have l2 : lcGo (turn (.tgN 3) (xCon (.bl true)) (give1 (xVar 3)) [some (eB (.mk ms)), some (.str x.1), some (eF x.2), none]) (x.2.map .str) [] M = .ok (x.2.map .str) M := by
          refine lcGo_map1 (h := D.str) (g := D.str) (fun f hf => ?_) (by have := (hm.w x hx).2.2.1; unfold lineN; omega)
          simp [asg_N]
        have hit : ∀ m', itOf m' (eF x.2) = some (x.2.map .str, m') := fun m' => rfl
        simp [eM, asg_N, hit, l2]) (by
          rw [← hstr]
          have : (strD (ms.flatMap (·.2))).length = (partsM (.mk ms)).length := by unfold strD partsM; simp
          rw [this]
          simp
          unfold lineN
          omega)
      rw [this, ← hstr]
      rfl
    simp [f_parts_of, e0, c0, isMk, i1]
    rw [l1]
    simp
theorem fit_strL {ns : List Nm} (h : ∀ f ∈ ns, f ∈ names p) (hp : WfP p) : fit (.lst (strD ns)) = true := fit_strs fun n hn => hp.okn n (h n hn)
theorem reach_loop (hp : WfP p) {kd : Nm} {k : Nat} : ∀ (f : Nat) (found rim : List Nm) (j : Nat) (t : Mem) (out : List Nm) (fuel : Nat) (s4 : Option D), reachGo p f found rim = some out → f ≤ fuel → t[j]? = some (some (.lst (strD rim))) → (∀ x ∈ found, x ∈ names p) → (∀ x ∈ rim, x ∈ names p) → t.all (belowO 0) = true → (∀ x ∈ out, x ∈ names p) ∧ ∃ t' s3 s4', whlGo (ev (ctxK (FS P) (k + 1) (P.getD 0 0, [])) (.cmp .ne (.var 3) (.lst .nil))) (es (ctxK (FS P) (k + 1) (P.getD 0 0, [])) (.seq (.asg (.tgN 4) (.bm .pop (.var 3) .nil))
    (.ite (.cmp .notin (.var 4) (.var 2))
    (.seq (.expr (.bm .append (.var 2) (.cons (.var 4) .nil)))
    (.asg (.tgN 3) (.cellB .add (.var 3) (.call 12 (.cons (.call 8 (.cons (.var 0) (.cons (.var 4) .nil))) .nil)))))
    .skip))) fuel [some (eP p), some (.str kd), some (.ref m.length), some (.ref (m.length + 1 + j)), s4] (RM m found t) = .nx [some (eP p), some (.str kd), some (.ref m.length), s3, s4'] (RM m out t')
  | 0, _, _, _, _, _, _, _, h, _, _, _, _, _ => by cases h
  | f + 1, found, rim, j, t, out, fuel, s4, h, hfu, hj, hF, hR, ht => by
    obtain ⟨fu, rfl⟩ : ∃ q, fuel = q + 1 := ⟨fuel - 1, by omega⟩
    have hjl : j < t.length := (List.getElem?_eq_some_iff.mp hj).1
    have hne : cNe (RM m found t) (.ref (m.length + 1 + j)) (.lst []) = .ok (.bl (!rim.isEmpty)) (RM m found t) := by
      have hfl : flatD (RM m found t) (.ref (m.length + 1 + j)) = .lst (strD rim) := by
        unfold flatD
        dsimp only
        rw [RM_atj, hj]
      have h1 := cNe_nil (m := RM m found t) (xs := strD rim) (fit_strL hR hp)
      unfold cNe at h1 ⊢
      rw [hfl]
      have : flatD (RM m found t) (.lst (strD rim)) = .lst (strD rim) := rfl
      rw [this] at h1
      rw [h1]
      congr 2
      cases rim <;> rfl
    rw [whlGo_s]
    unfold reachGo at h
    cases hl : rim.getLast? with
    | none =>
      rw [hl] at h
      cases h
      have : rim = [] := List.getLast?_eq_none_iff.mp hl
      subst this
      refine ⟨hF, t, some (.ref (m.length + 1 + j)), s4, ?_⟩
      simp [hne]
    | some here =>
      rw [hl] at h
      dsimp only at h
      have hrim : rim = rim.dropLast ++ [here] := by
        obtain ⟨ys, hys⟩ := List.getLast?_eq_some_iff.mp hl
        rw [hys]
        simp
      have hh : here ∈ names p := hR here (by rw [hrim]; simp)
      have hR' : ∀ x ∈ rim.dropLast, x ∈ names p := fun x hx => hR x (List.dropLast_subset _ hx)
      have hne3 : rim.isEmpty = false := by rw [hrim]; simp
      have hisL : isL (RM m found t) (.ref (m.length + 1 + j)) = true := by
        unfold isL listOf
        dsimp only
        rw [RM_atj, hj]
        rfl
      have hpop : mPop (RM m found t) (.ref (m.length + 1 + j)) [] = .ok (.str here) (RM m found (t.set j (some (.lst (strD rim.dropLast))))) := by
        unfold mPop
        dsimp only
        rw [RM_atj, hj]
        dsimp only
        have : (strD rim).getLast? = some (.str here) := by unfold strD; rw [List.getLast?_map, hl]; rfl
        rw [this]
        dsimp only
        rw [RM_setj]
        unfold strD
        rw [List.map_dropLast]
      generalize ht1 : t.set j (some (.lst (strD rim.dropLast))) = t1 at hpop
      have hj1 : t1[j]? = some (some (.lst (strD rim.dropLast))) := by rw [← ht1]; simp [hjl]
      have ht1a : t1.all (belowO 0) = true := by
        rw [← ht1, List.all_eq_true]
        intro o ho
        rcases List.mem_or_eq_of_mem_set ho with ho | rfl
        · exact List.all_eq_true.mp ht o ho
        · exact below_strs
      have hnin : cNotin (RM m found t1) (.str here) (.ref m.length) = .ok (.bl (!decide (here ∈ found))) (RM m found t1) := by
        have h1 := cNotin_strs (m := RM m found t1) (n := here) (ns := found) (hp.okn here hh) (fun n hn => hp.okn n (hF n hn))
        unfold cNotin isinR at h1 ⊢
        dsimp only at h1 ⊢
        have : listOf (RM m found t1) (.ref m.length) = some (strD found) := by
          unfold listOf
          dsimp only
          rw [RM_at]
        rw [this]
        exact h1
      by_cases hin : here ∈ found
      · rw [if_pos hin] at h
        obtain ⟨g0, t', s3, s4', g⟩ := reach_loop hp (kd := kd) (k := k) f found rim.dropLast j t1 out fu (some (.str here)) h (by omega) hj1 hF hR' ht1a
        refine ⟨g0, t', s3, s4', ?_⟩
        rw [← g]
        simp [hne, hne3, hisL, hpop, asg_N, hnin, hin]
      · rw [if_neg hin] at h
        cases hlk : lk p here with
        | none => rw [hlk] at h; cases h
        | some b =>
          rw [hlk] at h
          dsimp only at h
          split at h
          · rename_i hcond
            obtain ⟨hc1, hc2⟩ := hcond
            have hisF : isL (RM m found t1) (.ref m.length) = true := by
              unfold isL listOf
              dsimp only
              rw [RM_at]
              rfl
            have happ : mAppend (RM m found t1) (.ref m.length) [.str here] = .ok .non (RM m (found ++ [here]) t1) := by
              unfold mAppend
              dsimp only
              rw [RM_at]
              dsimp only [one]
              rw [if_pos (by rw [Nat.blt_eq]; unfold strD; rw [List.length_map]; unfold lineN; omega)]
              have : strD found ++ [.str here] = strD (found ++ [here]) := by unfold strD; simp
              rw [this, RM_set]
            have rb : run (FS P) (k + 1) 8 [eP p, .str here] (RM m (found ++ [here]) t1) = .ok (eB b) _ := run_bodyW (k := k) hp hlk
            have rp := run_parts (P := P) hp hlk (k := k) (M := RM m (found ++ [here]) t1)
            have hMl : (RM m (found ++ [here]) t1).length = m.length + 1 + t1.length := by unfold RM; simp; omega
            have hMa : ∀ o, RM m (found ++ [here]) t1 ++ [o] = RM m (found ++ [here]) (t1 ++ [o]) := fun o => by unfold RM; simp
            rw [hMl, hMa] at rp
            have hjl1 : j < t1.length := by rw [← ht1]; simpa using hjl
            have hadd : bAdd (RM m (found ++ [here]) (t1 ++ [some (.lst (strD (partsM b)))])) (.ref (m.length + 1 + j)) (.ref (m.length + 1 + t1.length)) = .ok (.lst (strD (rim.dropLast ++ partsM b))) (RM m (found ++ [here]) (t1 ++ [some (.lst (strD (partsM b)))])) := by
              have g1 : listOf (RM m (found ++ [here]) (t1 ++ [some (.lst (strD (partsM b)))])) (.ref (m.length + 1 + j)) = some (strD rim.dropLast) := by
                unfold listOf
                dsimp only
                rw [RM_atj, List.getElem?_append_left hjl1, hj1]
              have g2 : listOf (RM m (found ++ [here]) (t1 ++ [some (.lst (strD (partsM b)))])) (.ref (m.length + 1 + t1.length)) = some (strD (partsM b)) := by
                unfold listOf
                dsimp only
                rw [RM_atj]
                simp
              show (match listOf (RM m (found ++ [here]) (t1 ++ [some (.lst (strD (partsM b)))])) (.ref (m.length + 1 + j)), listOf (RM m (found ++ [here]) (t1 ++ [some (.lst (strD (partsM b)))])) (.ref (m.length + 1 + t1.length)) with
                | some i, some j => if Nat.ble (i.length + j.length) lineN then R.ok (D.lst (i ++ j)) _ else .bad 1
                | _, _ => .bad 2) = _
              rw [g1, g2]
              dsimp only
              have : strD rim.dropLast ++ strD (partsM b) = strD (rim.dropLast ++ partsM b) := by unfold strD; simp
              rw [this, if_pos]
              rw [Nat.ble_eq]
              unfold strD lineN
              rw [List.length_append] at hc1
              rw [List.length_map, List.length_map]
              omega
            have hpk := parts_ok hp hlk
            have hMl2 : (RM m (found ++ [here]) (t1 ++ [some (.lst (strD (partsM b)))])).length = m.length + 1 + (t1.length + 1) := by unfold RM; simp; omega
            have hMa2 : ∀ o, RM m (found ++ [here]) (t1 ++ [some (.lst (strD (partsM b)))]) ++ [o] = RM m (found ++ [here]) (t1 ++ [some (.lst (strD (partsM b)))] ++ [o]) := fun o => by unfold RM; simp
            obtain ⟨g0, t', s3, s4', g⟩ := reach_loop hp (kd := kd) (k := k) f (found ++ [here]) (rim.dropLast ++ partsM b) (t1.length + 1) (t1 ++ [some (.lst (strD (partsM b)))] ++ [some (.lst (strD (rim.dropLast ++ partsM b)))]) out fu (some (.str here)) h (by omega) (by simp) (fun x hx => by
              rcases List.mem_append.mp hx with hx | hx
              · exact hF x hx
              · simp at hx; subst hx; exact hh) (fun x hx => by
              rcases List.mem_append.mp hx with hx | hx
              · exact hR' x hx
              · exact hpk x hx) (by
                rw [List.all_append, List.all_append, ht1a]
                have e1 : belowO 0 (some (.lst (strD (partsM b)))) = true := below_strs
                have e2 : belowO 0 (some (.lst (strD (rim.dropLast ++ partsM b)))) = true := below_strs
                simp only [List.all_cons, List.all_nil, e1, e2, Bool.and_true])
            refine ⟨g0, t', s3, s4', ?_⟩
            rw [← g]
            simp only [List.append_assoc] at hMa2 ⊢
            simp [hne, hne3, hisL, hpop, asg_N, hnin, hin, hisF, happ, rb, rp, hadd, hMl2, hMa2]
          · cases h
end
end K00
end
section
set_option linter.all false
set_option autoImplicit false
set_option maxRecDepth 100000
/-! KM29: endless kinds; count_all. -/
namespace K00
open Mt
def rchD (p : Prog) (k : Nm) : List Nm := (reachM p k).getD []
def isRo : Option Body → Bool
  | some (.rows _) => true
  | _ => false
def endB (p : Prog) (k : Nm) : Bool := (k :: rchD p k).any fun nm => isRo (lk p nm) || decide (nm ∈ rchD p nm)
def RcOk (p : Prog) : Prop := ∀ k ∈ names p, (reachM p k).isSome = true
def L64 : Nat := 18446744073709551616
def countM (p : Prog) : Nat → Nm → Option Nat
  | 0, _ => none
  | f + 1, k => match lk p k with
    | some (.num lo hi) => some (hi - lo + 1).toNat
    | some (.mk ms) => if ms.all (fun x => x.2.all fun k => (countM p f k).isSome) then (if ms.foldl (fun s x => s + x.2.foldl (fun a k => a * (countM p f k).getD 0) 1) 0 < L64 then some (ms.foldl (fun s x => s + x.2.foldl (fun a k => a * (countM p f k).getD 0) 1) 0) else none) else none
    | _ => none
section
variable {P : List Nat} {p : Prog} {m : Mem}
theorem run_reach (hp : WfP p) (hm : m.all (belowO 0) = true) {kd : Nm} (hk : kd ∈ names p) {out : List Nm} (h : reachM p kd = some out) {k : Nat} : (∀ x ∈ out, x ∈ names p) ∧ run (FS P) (k + 2) ix_reach_of [eP p, .str kd] m = .ok (.lst (strD out)) m := by
  unfold reachM at h
  obtain ⟨b, hl⟩ := lk_some hk
  rw [hl] at h
  dsimp only at h
  obtain ⟨g0, t', s3, s4, g⟩ := reach_loop (P := P) (m := m) hp (kd := kd) (k := k) 300 [] (partsM b) 0 [some (.lst (strD (partsM b)))] out 100000 none h (by omega) rfl (fun x hx => by cases hx) (parts_ok hp hl) (by
    have e1 : belowO 0 (some (.lst (strD (partsM b)))) = true := below_strs
    simp only [List.all_cons, List.all_nil, e1, Bool.and_true])
  refine ⟨g0, ?_⟩
  show run (FS P) ((k + 1) + 1) _ _ _ = _
  rw [run_wt (f := f_reach_of) rfl]
  have rb : ∀ M, run (FS P) (k + 1) 8 [eP p, .str kd] M = .ok (eB b) M := fun M => run_bodyW (k := k) hp hl
  have rp := run_parts (P := P) hp hl (k := k) (M := RM m [] [])
  have hMl : (RM m [] []).length = m.length + 1 := by unfold RM; simp
  have hMa : RM m [] [] ++ [some (.lst (strD (partsM b)))] = RM m [] [some (.lst (strD (partsM b)))] := by unfold RM; simp
  have hM0 : m ++ [some (.lst [])] = RM m [] [] := rfl
  rw [hMl, hMa] at rp
  have b2 : Nat.ble 2 lineN = true := rfl
  have b0 : Nat.ble 0 lineN = true := rfl
  have hfz : frzR (RM m out t') (.ref m.length) = .ok (.lst (strD out)) (m ++ none :: t') := by
    unfold frzR
    dsimp only
    rw [RM_at]
    dsimp only
    unfold RM
    rw [set_mid]
  refine runF_rtt (m' := m ++ none :: t') (d := .lst (strD out)) rfl rfl (by simp) hm below_strs (by simp) ?_
  simp at g
  simp [f_reach_of, hM0, rb, rp, b2, asg_N]
  rw [g]
  simp [hfz]
theorem run_endOf (hp : WfP p) (hr : RcOk p) (hm : m.all (belowO 0) = true) {kd : Nm} (hk : kd ∈ names p) {k : Nat} : run (FS P) (k + 3) ix_endless_of [eP p, .str kd] m = .ok (.bl (endB p kd)) m := by
  have hrch : ∀ nm ∈ names p, (∀ x ∈ rchD p nm, x ∈ names p) ∧ run (FS P) (k + 2) 13 [eP p, .str nm] m = .ok (.lst (strD (rchD p nm))) m := fun nm hn => by
    obtain ⟨out, ho⟩ := Option.isSome_iff_exists.mp (hr nm hn)
    have e : rchD p nm = out := by unfold rchD; rw [ho]; rfl
    rw [e]
    exact run_reach hp hm hn ho
  show run (FS P) ((k + 2) + 1) _ _ _ = _
  rw [run_wt (f := f_endless_of) rfl]
  apply runF_rt rfl
  obtain ⟨hs, r1⟩ := hrch kd hk
  have b1 : Nat.ble 1 lineN = true := rfl
  have hadd : bAdd m (.lst [.str kd]) (.lst (strD (rchD p kd))) = .ok (.lst (strD (kd :: rchD p kd))) m := by
    obtain ⟨out, ho⟩ := Option.isSome_iff_exists.mp (hr kd hk)
    rw [bAdd_lst]
    · rfl
    · have e : rchD p kd = out := by unfold rchD; rw [ho]; rfl
      have hlen : ∀ f found rim out, reachGo p f found rim = some out → out.length ≤ found.length + f := by
        intro f
        induction f with
        | zero => intro found rim out h; cases h
        | succ f ih =>
          intro found rim out h
          unfold reachGo at h
          split at h
          · cases h; omega
          · split at h
            · have := ih _ _ _ h; omega
            · split at h
              · cases h
              · split at h
                · have := ih _ _ _ h
                  simp at this
                  omega
                · cases h
      have : out.length ≤ 300 := by
        unfold reachM at ho
        split at ho
        · cases ho
        · have := hlen _ _ _ _ ho
          simpa using this
      rw [e]
      unfold strD lineN
      simp
      omega
  have hloop := forGo_any (tg := .tgN 2) (b := es (ctxK (FS P) (k + 2) (P.getD 0 0, [])) (.ite (.or (.cmp .eq (.idx (.call 8 (.cons (.var 0) (.cons (.var 2) .nil))) (.con (.int 0))) (.con (.str [114, 111, 119, 115]))) (.cmp .isin (.var 2) (.call 13 (.cons (.var 0) (.cons (.var 2) .nil)))))
    (.ret (.con (.bl true)))
    .skip)) (h := D.str) (m := m) (d := .bl true) (q := fun nm => isRo (lk p nm) || decide (nm ∈ rchD p nm)) (fun e => ∃ s2, e = [some (eP p), some (.str kd), s2]) (l := kd :: rchD p kd) (e := [some (eP p), some (.str kd), none]) ⟨none, rfl⟩ (fun x hx e ⟨s2, he⟩ => by
    subst he
    have hxn : x ∈ names p := by
      rcases List.mem_cons.mp hx with rfl | hx
      · exact hk
      · exact hs x hx
    obtain ⟨hsx, r2⟩ := hrch x hxn
    obtain ⟨b, hl⟩ := lk_some hxn
    have rb : run (FS P) (k + 2) 8 [eP p, .str x] m = .ok (eB b) m := run_bodyW (k := k + 1) hp hl
    have e0 : ∀ m', idxR m' (eB b) (.int 0) = .ok (.str b.tag) m' := fun m' => eB_tag
    have c2 := cEq_rows (m := m) (b := b)
    have hin := cIn_strs (m := m) (n := x) (ns := rchD p x) (hp.okn x hxn) (fun n hn => hp.okn n (hsx n hn))
    have hin' : cIn m (.str x) (.lst (strD (rchD p x))) = .ok (.bl (decide (x ∈ rchD p x))) m := hin
    refine ⟨[some (eP p), some (.str kd), some (.str x)], by simp [asg_N], ?_⟩
    cases b with
    | rows k' =>
      have hro : isRo (lk p x) = true := by rw [hl]; rfl
      simp [rb, e0, c2, hro]
    | num lo hi =>
      have hro : isRo (lk p x) = false := by rw [hl]; rfl
      by_cases hd : x ∈ rchD p x
      · simp [rb, e0, c2, r2, hin', hd, hro]
      · simp [rb, e0, c2, r2, hin', hd, hro]
    | mk ms =>
      have hro : isRo (lk p x) = false := by rw [hl]; rfl
      by_cases hd : x ∈ rchD p x
      · simp [rb, e0, c2, r2, hin', hd, hro]
      · simp [rb, e0, c2, r2, hin', hd, hro])
  have hend : endB p kd = (kd :: rchD p kd).any fun nm => isRo (lk p nm) || decide (nm ∈ rchD p nm) := rfl
  rw [hend]
  cases hany : (kd :: rchD p kd).any fun nm => isRo (lk p nm) || decide (nm ∈ rchD p nm) with
  | true =>
    rw [hany, if_pos rfl] at hloop
    simp only [f_endless_of, es_seq, ySeq_eq, es_loop, yLoop_eq, ev_bin, x2_eq, ev_lst, xLst_eq, ev_cons, xCons_eq, ev_var, List.map_cons, List.map_nil, List.singleton_append, List.cons_append, List.nil_append, List.replicate, xVar_0, xVar_s, bnd_ok, ev_nil, xCon_ok, b1, ev_call, xCall_eq, ctxK_call, bop_add, ev_con]
    simp [b1, r1, hadd]
    have : strD (kd :: rchD p kd) = (kd :: rchD p kd).map .str := rfl
    rw [this]
    simp at hloop ⊢
    rw [hloop]
    rfl
  | false =>
    rw [hany] at hloop
    obtain ⟨e2, h2, s2, rfl⟩ := hloop
    simp [f_endless_of, b1, r1, hadd]
    have : strD (kd :: rchD p kd) = (kd :: rchD p kd).map .str := rfl
    rw [this]
    simp at h2 ⊢
    rw [h2]
    simp
theorem run_isEnd (hp : WfP p) (hr : RcOk p) (hm : m.all (belowO 0) = true) {kd : Nm} (hk : kd ∈ names p) {k : Nat} : run (FS P) (k + 6) ix_is_endless [eP p, .str kd] m = .ok (.bl (endB p kd)) m := by
  show run (FS P) ((k + 5) + 1) _ _ _ = _
  rw [run_wt (f := f_is_endless) rfl]
  apply runF_rt rfl
  have r1 : run (FS P) (k + 5) 9 [eP p, .str kd] m = .ok .non m := run_needK (k := k) (good0 hm) hp hk
  have r2 : run (FS P) (k + 5) 14 [eP p, .str kd] m = .ok (.bl (endB p kd)) m := run_endOf (k := k + 2) hp hr hm hk
  simp [f_is_endless, r1, r2]
theorem run_countOf (hp : WfP p) : ∀ (f : Nat) (kd : Nm) (c : Nat), countM p f kd = some c → ∀ k, run (FS P) (k + (f + 1)) ix_count_of [eP p, .str kd] m = .ok (.int (c : Nat)) m
  | 0, _, _, h, _ => by cases h
  | f + 1, kd, c, h, k => by
    show run (FS P) ((k + (f + 1)) + 1) _ _ _ = _
    rw [run_wt (f := f_count_of) rfl]
    apply runF_rt rfl
    unfold countM at h
    cases hl : lk p kd with
    | none => rw [hl] at h; cases h
    | some b =>
      rw [hl] at h
      have rb : run (FS P) (k + (f + 1)) 8 [eP p, .str kd] m = .ok (eB b) m := run_bodyW (k := k + f) hp hl
      have e0 : ∀ m', idxR m' (eB b) (.int 0) = .ok (.str b.tag) m' := fun m' => eB_tag
      have c1 := cEq_num (m := m) (b := b)
      cases b with
      | rows => cases h
      | num lo hi =>
        cases h
        obtain ⟨h1, h2, h3⟩ := nl_len hp hl
        have i1 : ∀ m', idxR m' (eB (.num lo hi)) (.int 1) = .ok (.int lo) m' := fun m' => idx_tup1
        have i2 : ∀ m', idxR m' (eB (.num lo hi)) (.int 2) = .ok (.int hi) m' := fun m' => rfl
        have hz : (((hi - lo + 1).toNat : Nat) : Int) = hi - lo + 1 := by omega
        rw [hz]
        simp [f_count_of, rb, asg_N, e0, c1, i1, i2]
      | mk ms =>
        have i1 : ∀ m', idxR m' (eB (.mk ms)) (.int 1) = .ok (.tup (ms.map eM)) m' := fun m' => idx_tup1
        dsimp only at h
        split at h
        · rename_i hall
          split at h
          · rename_i hlt
            cases h
            generalize hG : (fun k => (countM p f k).getD 0) = G
            have hcnt : ∀ x ∈ ms, ∀ fd ∈ x.2, run (FS P) (k + (f + 1)) 16 [eP p, .str fd] m = .ok (.int (G fd : Nat)) m ∧ G fd < L64 := fun x hx fd hfd => by
              have h1 := List.all_eq_true.mp (List.all_eq_true.mp hall x hx) fd hfd
              obtain ⟨c, hc⟩ := Option.isSome_iff_exists.mp h1
              have e : G fd = c := by rw [← hG]; show (countM p f fd).getD 0 = c; rw [hc]; rfl
              rw [e]
              refine ⟨run_countOf hp f fd c hc k, ?_⟩
              cases f with
              | zero => cases hc
              | succ f =>
                unfold countM at hc
                split at hc
                · rename_i lo hi hl2
                  cases hc
                  obtain ⟨h1, h2, h3⟩ := nl_len hp hl2
                  unfold L64
                  omega
                · split at hc
                  · split at hc
                    · cases hc; assumption
                    · cases hc
                  · cases hc
                · cases hc
            obtain ⟨e2, m', h1, s4, s5, s6, s7, rfl, rfl⟩ := forGo_inv (tg := .tgT (.cons (.tgN 4) (.cons (.tgN 5) .nil))) (b := es (ctxK (FS P) (k + (f + 1)) (P.getD 0 0, [])) (.seq (.asg (.tgN 6) (.con (.int 1)))
    (.seq (.loop (.tgN 7) (.var 5)
    (.aug 6 .mul (.call 16 (.cons (.var 0) (.cons (.var 7) .nil)))))
    (.aug 3 .add (.var 6))))) (h := eM) (fun r e m' => ∃ s4 s5 s6 s7, m' = m ∧ e = [some (eP p), some (.str kd), some (eB (.mk ms)), some (.int ((r.foldl (fun s x => s + x.2.foldl (fun a k => a * G k) 1) 0 : Nat) : Int)), s4, s5, s6, s7]) (l := ms) (r := []) (e := [some (eP p), some (.str kd), some (eB (.mk ms)), some (.int 0), none, none, none, none]) (m := m) ⟨none, none, none, none, rfl, rfl⟩ (fun r' x l' hx2 e m' ⟨s4, s5, s6, s7, hmm, he⟩ => by
              subst hmm he
              have hxm : x ∈ ms := by
                have : x ∈ r' ++ x :: l' := by simp
                rw [← hx2] at this
                simpa using this
              refine ⟨[some (eP p), some (.str kd), some (eB (.mk ms)), some (.int ((r'.foldl (fun s x => s + x.2.foldl (fun a k => a * G k) 1) 0 : Nat) : Int)), some (.str x.1), some (eF x.2), s6, s7], by simp [asg_N, eM], ?_⟩
              rw [List.foldl_append]
              generalize (r'.foldl (fun s x => s + x.2.foldl (fun a k => a * G k) 1) 0) = S
              obtain ⟨e3, m3, h3, s7', rfl, rfl⟩ := forGo_inv (tg := .tgN 7) (b := es (ctxK (FS P) (k + (f + 1)) (P.getD 0 0, [])) (.aug 6 .mul (.call 16 (.cons (.var 0) (.cons (.var 7) .nil))))) (h := D.str) (fun r e m2 => ∃ s7, m2 = m' ∧ e = [some (eP p), some (.str kd), some (eB (.mk ms)), some (.int (S : Nat)), some (.str x.1), some (eF x.2), some (.int ((r.foldl (fun a k => a * G k) 1 : Nat) : Int)), s7]) (l := x.2) (r := []) (e := [some (eP p), some (.str kd), some (eB (.mk ms)), some (.int (S : Nat)), some (.str x.1), some (eF x.2), some (.int 1), s7]) (m := m') ⟨s7, rfl, rfl⟩ (fun r2 fd l2 hx3 e m2 ⟨s7, hmm, he⟩ => by
                subst hmm he
                have hfd : fd ∈ x.2 := by
                  have : fd ∈ r2 ++ fd :: l2 := by simp
                  rw [← hx3] at this
                  simpa using this
                obtain ⟨r1, r2'⟩ := hcnt x hxm fd hfd
                rw [List.foldl_append]
                generalize (r2.foldl (fun a k => a * G k) 1) = T
                have mu := bMul_int (m := m2) (i := (T : Nat)) (j := (G fd : Nat)) (.inr (bit64_nat r2'))
                refine ⟨[some (eP p), some (.str kd), some (eB (.mk ms)), some (.int (S : Nat)), some (.str x.1), some (eF x.2), some (.int (T : Nat)), some (.str fd)], by simp [asg_N], _, _, .inl ?_, some (.str fd), rfl, rfl⟩
                simp [r1, mu])
              have hit : ∀ m, itOf m (eF x.2) = some (x.2.map .str, m) := fun m => rfl
              refine ⟨_, _, .inl ?_, some (.str x.1), some (eF x.2), some (.int ((x.2.foldl (fun a k => a * G k) 1 : Nat) : Int)), s7', rfl, rfl⟩
              rw [List.nil_append] at h3
              simp at h3
              simp [asg_N, hit]
              rw [h3]
              simp)
            rw [List.nil_append] at h1
            have hgoal : ms.foldl (fun s x => s + x.2.foldl (fun a k => a * (countM p f k).getD 0) 1) 0 = ms.foldl (fun s x => s + x.2.foldl (fun a k => a * G k) 1) 0 := by rw [← hG]
            rw [hgoal]
            generalize (ms.foldl (fun s x => s + x.2.foldl (fun a k => a * G k) 1) 0) = S at h1 ⊢
            simp at h1
            simp [f_count_of, rb, asg_N, e0, c1, i1]
            rw [h1]
            simp
          · cases h
        · cases h
theorem run_countAll (hp : WfP p) (hr : RcOk p) (hm : m.all (belowO 0) = true) {kd : Nm} (hk : kd ∈ names p) {f c : Nat} (hf : f ≤ 20) (hc : endB p kd = false → countM p f kd = some c) {k : Nat} : run (FS P) (k + 25) ix_count_all [eP p, .str kd] m = .ok (if endB p kd then .non else .int (c : Nat)) m := by
  show run (FS P) ((k + 24) + 1) _ _ _ = _
  rw [run_wt (f := f_count_all) rfl]
  apply runF_rt rfl
  have r1 : run (FS P) (k + 24) 9 [eP p, .str kd] m = .ok .non m := run_needK (k := k + 19) (good0 hm) hp hk
  have r2 : run (FS P) (k + 24) 14 [eP p, .str kd] m = .ok (.bl (endB p kd)) m := run_endOf (k := k + 21) hp hr hm hk
  cases he : endB p kd with
  | true =>
    rw [he] at r2
    simp [f_count_all, r1, r2]
  | false =>
    rw [he] at r2
    have r3 := run_countOf (P := P) (m := m) hp f kd c (hc he) (k + (23 - f))
    rw [show k + (23 - f) + (f + 1) = k + 24 by omega] at r3
    simp [f_count_all, r1, r2, r3]
end
end K00
end
section
set_option linter.all false
set_option autoImplicit false
set_option maxRecDepth 100000
/-! KM30: tables of counts. -/
namespace K00
open Mt
def dot : List Nat → List Nat → Nat
  | a :: as, b :: bs => a * b + dot as bs
  | _, _ => 0
/-- a kind's row: counts of values, the same turned, counts of rows turned -/
abbrev Row := List Nat × List Nat × List Nat
abbrev St := List (Nm × Row)
def gt (s : St) (k : Nm) : Row := match s.find? (fun x => decide (x.1 = k)) with
  | some x => x.2
  | none => ([], [], [])
def cfS (s : St) (N : Nat) : List Nm → Nat
  | [] => if N = 0 then 1 else 0
  | [f] => (gt s f).2.1.headD 0
  | f :: g :: _ => dot (gt s f).1.tail (gt s g).2.1.tail
def cvS (p : Prog) (s : St) (N : Nat) (k : Nm) : Nat := match lk p k with
  | some (.num lo hi) => if N = 0 then (hi + 1 - lo).toNat else 0
  | some (.rows k') => (gt s k').2.2.headD 0
  | some (.mk ms) => (ms.map fun x => cfS s N x.2).sum
  | none => 0
def rowS (c : Nat) (r : Row) : Row := (r.1 ++ [c], c :: r.2.1, dot (r.1 ++ [c]).tail r.2.2 :: r.2.2)
def tabS (p : Prog) : Nat → St
  | 0 => (names p).map fun k => (k, [0], [0], [1])
  | N + 1 => (tabS p N).map fun x => (x.1, rowS (cvS p (tabS p N) N x.1) x.2)
def rowOf (p : Prog) (k : Nm) (N : Nat) : Row := ((List.range (N + 1)).map (cv p k), (List.range (N + 1)).map (fun i => cv p k (N - i)), (List.range (N + 1)).map (fun i => cr p k (N - i)))
theorem dot_map {α : Type} {f g : α → Nat} : ∀ {l : List α}, dot (l.map f) (l.map g) = (l.map fun x => f x * g x).sum
  | [] => rfl
  | a :: l => by
    show f a * g a + dot (l.map f) (l.map g) = _
    rw [dot_map]
    simp
theorem gt_map {p : Prog} {F : Nm → Row} {k : Nm} (h : k ∈ names p) : gt ((names p).map fun k => (k, F k)) k = F k := by
  unfold gt
  rw [List.find?_map]
  have : ∀ l : List Nm, k ∈ l → l.find? ((fun x : Nm × Row => decide (x.1 = k)) ∘ fun k => (k, F k)) = some k := by
    intro l
    induction l with
    | nil => intro h; cases h
    | cons a l ih =>
      intro h
      rw [List.find?_cons]
      by_cases e : a = k
      · simp [e]
      · have : k ∈ l := by
          rcases List.mem_cons.mp h with h | h
          · exact absurd h.symm e
          · exact h
        simp [e]
        exact ih this
  rw [this _ h]
  rfl
theorem tail_fw {f : Nat → Nat} {N : Nat} : ((List.range (N + 1)).map f).tail = (List.range N).map fun i => f (i + 1) := by
  rw [List.range_succ_eq_map, List.map_cons, List.tail_cons, List.map_map]
  rfl
theorem head_rv {f : Nat → Nat} {N : Nat} : ((List.range (N + 1)).map fun i => f (N - i)).headD 0 = f N := by
  rw [List.range_succ_eq_map]
  rfl
theorem cons_rv {f : Nat → Nat} {N : Nat} : f (N + 1) :: ((List.range (N + 1)).map fun i => f (N - i)) = (List.range (N + 2)).map fun i => f (N + 1 - i) := by
  rw [List.range_succ_eq_map (n := N + 1), List.map_cons, List.map_map]
  congr 1
  refine List.map_congr_left fun i _ => ?_
  simp only [Function.comp]
  congr 1
  omega
theorem app_fw {f : Nat → Nat} {N : Nat} : ((List.range (N + 1)).map f) ++ [f (N + 1)] = (List.range (N + 2)).map f := by
  rw [List.range_succ (n := N + 1), List.map_append]
  rfl
theorem cf_one {p : Prog} {f : Nm} : ∀ {n : Nat}, cf p [f] n = cv p f n
  | 0 => rfl
  | n + 1 => by
    rw [cf_cons, List.range_succ, List.map_append, List.sum_append]
    have : ((List.range n).map fun i => cv p f (i + 1) * cf p [] (n + 1 - (i + 1))) = (List.range n).map fun _ => 0 := by
      refine List.map_congr_left fun i hi => ?_
      have := List.mem_range.mp hi
      rw [cf_nil, if_neg (by omega), Nat.mul_zero]
    rw [this, sum_const]
    simp [cf_nil]
/-- fields: two at most -/
def F2 (p : Prog) : Prop := ∀ k ms, lk p k = some (.mk ms) → ∀ x ∈ ms, x.2.length ≤ 2
theorem cfS_eq {p : Prog} {N : Nat} {fs : List Nm} (hf : ∀ f ∈ fs, f ∈ names p) (h2 : fs.length ≤ 2) : cfS ((names p).map fun k => (k, rowOf p k N)) N fs = cf p fs N := by
  match fs, hf, h2 with
  | [], _, _ => exact cf_nil.symm
  | [f], hf, _ =>
    show (gt _ f).2.1.headD 0 = _
    rw [gt_map (hf f (by simp)), cf_one]
    exact head_rv (f := cv p f)
  | [f, g], hf, _ =>
    show dot (gt _ f).1.tail (gt _ g).2.1.tail = _
    rw [gt_map (hf f (by simp)), gt_map (hf g (by simp)), cf_cons]
    show dot ((List.range (N + 1)).map (cv p f)).tail ((List.range (N + 1)).map fun i => cv p g (N - i)).tail = _
    rw [tail_fw, tail_fw, dot_map]
    congr 1
    refine List.map_congr_left fun i _ => ?_
    rw [cf_one]
  | _ :: _ :: _ :: _, _, h2 => simp at h2
theorem tabS_eq {p : Prog} (hp : WfP p) (h2 : F2 p) : ∀ N, tabS p N = (names p).map fun k => (k, rowOf p k N)
  | 0 => rfl
  | N + 1 => by
    show (tabS p N).map (fun x => (x.1, rowS (cvS p (tabS p N) N x.1) x.2)) = _
    rw [tabS_eq hp h2 N, List.map_map]
    refine List.map_congr_left fun k hk => ?_
    simp only [Function.comp]
    have hc : cvS p ((names p).map fun k => (k, rowOf p k N)) N k = cv p k (N + 1) := by
      rw [cv_s]
      unfold cvS
      cases hl : lk p k with
      | none => rfl
      | some b => cases b with
        | num => rfl
        | rows k' =>
          dsimp only
          rw [gt_map (hp.bd hl)]
          exact head_rv (f := cr p k')
        | mk ms =>
          have hm : MkOk ms (names p) := hp.bd hl
          dsimp only
          congr 1
          refine List.map_congr_left fun x hx => ?_
          exact cfS_eq (fun f hf => (hm.w x hx).2.2.2 f hf) (h2 k ms hl x hx)
    rw [hc]
    congr 1
    show ((List.range (N + 1)).map (cv p k) ++ [cv p k (N + 1)], cv p k (N + 1) :: ((List.range (N + 1)).map fun i => cv p k (N - i)), dot ((List.range (N + 1)).map (cv p k) ++ [cv p k (N + 1)]).tail ((List.range (N + 1)).map fun i => cr p k (N - i)) :: ((List.range (N + 1)).map fun i => cr p k (N - i))) = _
    rw [app_fw (f := cv p k), cons_rv (f := cv p k), tail_fw, dot_map]
    have hr : ((List.range (N + 1)).map fun i => cv p k (i + 1) * cr p k (N - i)).sum = cr p k (N + 1) := by
      rw [cr_s (by omega)]
      congr 1
      refine List.map_congr_left fun i _ => ?_
      rw [show N + 1 - (i + 1) = N - i by omega]
    rw [hr, cons_rv (f := cr p k)]
    rfl
/-- what is asked of a kind's row -/
def chkRow (p : Prog) (x : Nm × Row) : Bool := x.2.1.all (fun c => Nat.blt c L64) && (x.2.1.take 10).all (fun c => Nat.ble c lineN) && (x.2.2.2.drop 13).all (fun c => Nat.ble c lineN) && (match endB p x.1 with
  | true => (x.2.1.drop 7).any fun c => Nat.blt 0 c
  | false => match countM p 10 x.1 with
    | some c => Nat.beq c x.2.1.sum
    | none => false)
def chkC (p : Prog) : Bool := (tabS p 21).all (chkRow p)
/-! ### the programs that the law makes -/
def bNum (lo w : Nat) : Nm × Body := ([78, 117, 109], .num (lo : Int) ((lo : Int) + (w : Int)))
def bSign : Nm × Body := ([83, 105, 103, 110], .mk [([80, 108, 117, 115], []), ([77, 105, 110, 117, 115], [])])
def bList (k : Nm) : Nm × Body := ([76, 105, 115, 116], .rows k)
def bTree0 : Nm × Body := ([84, 114, 101, 101], .mk [([76, 101, 97, 102], []), ([78, 111, 100, 101], [[78, 117, 109], [84, 114, 101, 101]])])
def bTree1 (k : Nm) : Nm × Body := ([84, 114, 101, 101], .mk [([76, 101, 97, 102], [k]), ([70, 111, 114, 107], [[84, 114, 101, 101], [84, 114, 101, 101]])])
def bPair (k : Nm) : Nm × Body := ([80, 97, 105, 114], .mk [([80, 97, 105, 114], [k, k])])
def bBox (k : Nm) : Nm × Body := ([66, 111, 120], .mk [([78, 111, 110, 101], []), ([79, 110, 101], [k]), ([84, 119, 111], [[78, 117, 109], k])])
def lastN (p : Prog) : Nm := (p.getLast?.map (·.1)).getD []
def m1 : List Prog := (List.range 3).flatMap fun lo => (List.range 4).map fun w => [bNum lo w]
def m2 : List Prog := m1.flatMap fun p => [p, p ++ [bSign]]
def m3 : List Prog := m2.flatMap fun p => p :: p.map fun x => p ++ [bList x.1]
def m4 : List Prog := m3.flatMap fun p => p :: (p ++ [bTree0]) :: (p ++ [bPair (lastN p)]) :: p.map fun x => p ++ [bTree1 x.1]
def m5 : List Prog := m4.flatMap fun p => [p, p ++ [bBox (lastN p)]]
end K00
end
section
set_option linter.all false
set_option autoImplicit false
set_option maxRecDepth 100000
/-! KM31: checks of the menu. -/
namespace K00
open Mt
def words : List Nm := [[78, 117, 109], [83, 105, 103, 110], [76, 105, 115, 116], [84, 114, 101, 101], [80, 97, 105, 114], [66, 111, 120], [80, 108, 117, 115], [77, 105, 110, 117, 115], [76, 101, 97, 102], [78, 111, 100, 101], [70, 111, 114, 107], [78, 111, 110, 101], [79, 110, 101], [84, 119, 111]]
theorem isW_words : ∀ n ∈ words, isW n := by
  intro n hn
  simp only [words, List.mem_cons, List.not_mem_nil, or_false] at hn
  rcases hn with rfl | rfl | rfl | rfl | rfl | rfl | rfl | rfl | rfl | rfl | rfl | rfl | rfl | rfl <;> exact fun _ _ => rfl
def isWordB (n : Nm) : Bool := decide (n ∈ words)
def bodyB (ns : List Nm) : Body → Bool
  | .num lo hi => decide (0 ≤ lo) && decide (lo ≤ hi) && decide (hi ≤ 99)
  | .rows k => decide (k ∈ ns)
  | .mk ms => Nat.ble 1 ms.length && Nat.ble ms.length 8 && (ms.all fun x => isWordB x.1 && okS x.1 && Nat.ble x.2.length 2 && x.2.all fun f => decide (f ∈ ns)) && decide (ms.map (·.1)).Nodup
def wfB (p : Prog) : Bool := Nat.ble 1 p.length && Nat.ble p.length 8 && (p.all fun x => isWordB x.1 && okS x.1 && bodyB (names p) x.2 && hasK (.s x.1) (filledK p)) && decide (names p).Nodup && (names p).all fun k => (reachM p k).isSome
structure PgOk (p : Prog) : Prop where
  wf : WfP p
  f2 : F2 p
  rc : RcOk p
theorem wfB_ok {p : Prog} (h : wfB p = true) : PgOk p := by
  unfold wfB at h
  simp only [Bool.and_eq_true, Nat.ble_eq, List.all_eq_true, decide_eq_true_eq] at h
  obtain ⟨⟨⟨⟨h1, h2⟩, h3⟩, h4⟩, h5⟩ := h
  have hb : ∀ x ∈ p, BodyOk (names p) x.2 ∧ ∀ ms, x.2 = .mk ms → ∀ y ∈ ms, y.2.length ≤ 2 := by
    intro x hx
    obtain ⟨⟨⟨_, _⟩, hb⟩, _⟩ := h3 x hx
    cases hB : x.2 with
    | num lo hi =>
      rw [hB] at hb
      simp only [bodyB, Bool.and_eq_true, decide_eq_true_eq] at hb
      exact ⟨⟨hb.1.1, hb.1.2, hb.2⟩, fun ms h => by cases h⟩
    | rows k =>
      rw [hB] at hb
      simp only [bodyB, decide_eq_true_eq] at hb
      exact ⟨hb, fun ms h => by cases h⟩
    | mk ms =>
      rw [hB] at hb
      simp only [bodyB, Bool.and_eq_true, Nat.ble_eq, List.all_eq_true, decide_eq_true_eq] at hb
      obtain ⟨⟨⟨b1, b2⟩, b3⟩, b4⟩ := hb
      refine ⟨⟨b1, b2, fun y hy => ?_, b4⟩, fun ms' h y hy => ?_⟩
      · obtain ⟨⟨⟨c1, c2⟩, c3⟩, c4⟩ := b3 y hy
        exact ⟨isW_words _ (of_decide_eq_true c1), c2, by omega, c4⟩
      · cases h
        exact (b3 y hy).1.2
  refine ⟨⟨h1, h2, fun x hx => ?_, h4, fun x hx => (hb x hx).1, fun x hx => (h3 x hx).2⟩, fun k ms hl x hx => ?_, fun k hk => h5 k hk⟩
  · obtain ⟨⟨⟨a, b⟩, _⟩, _⟩ := h3 x hx
    exact ⟨isW_words _ (of_decide_eq_true a), b⟩
  · exact (hb _ (lk_mem hl)).2 ms rfl x hx
mutual
/-- the same datum, for numbers, texts and tuples -/
def sameD : D → D → Bool
  | .int i, .int j => decide (i = j)
  | .str a, .str b => natsEq a b
  | .tup a, .tup b => sameL a b
  | _, _ => false
def sameL : List D → List D → Bool
  | [], [] => true
  | a :: as, b :: bs => sameD a b && sameL as bs
  | _, _ => false
end
mutual
theorem sameD_eq : ∀ {a b : D}, sameD a b = true → a = b
  | .int i, .int j, h => by
    have : i = j := of_decide_eq_true h
    rw [this]
  | .str a, .str b, h => by
    have h : natsEq a b = true := h
    rw [natsEq_dec] at h
    rw [of_decide_eq_true h]
  | .tup a, .tup b, h => by
    have := sameL_eq (a := a) (b := b) h
    rw [this]
  | .int _, .str _, h => by cases h
  | .int _, .tup _, h => by cases h
  | .int _, .lst _, h => by cases h
  | .int _, .scr _, h => by cases h
  | .int _, .ptp _, h => by cases h
  | .int _, .ref _, h => by cases h
  | .int _, .non, h => by cases h
  | .int _, .bl _, h => by cases h
  | .str _, .int _, h => by cases h
  | .str _, .tup _, h => by cases h
  | .str _, .lst _, h => by cases h
  | .str _, .scr _, h => by cases h
  | .str _, .ptp _, h => by cases h
  | .str _, .ref _, h => by cases h
  | .str _, .non, h => by cases h
  | .str _, .bl _, h => by cases h
  | .tup _, .int _, h => by cases h
  | .tup _, .str _, h => by cases h
  | .tup _, .lst _, h => by cases h
  | .tup _, .scr _, h => by cases h
  | .tup _, .ptp _, h => by cases h
  | .tup _, .ref _, h => by cases h
  | .tup _, .non, h => by cases h
  | .tup _, .bl _, h => by cases h
  | .non, b, h => by cases b <;> cases h
  | .bl _, b, h => by cases b <;> cases h
  | .lst _, b, h => by cases b <;> cases h
  | .scr _, b, h => by cases b <;> cases h
  | .ptp _, b, h => by cases b <;> cases h
  | .ref _, b, h => by cases b <;> cases h
theorem sameL_eq : ∀ {a b : List D}, sameL a b = true → a = b
  | [], [], _ => rfl
  | [], _ :: _, h => by cases h
  | _ :: _, [], h => by cases h
  | x :: xs, y :: ys, h => by
    have h : (sameD x y && sameL xs ys) = true := h
    rw [Bool.and_eq_true] at h
    rw [sameD_eq h.1, sameL_eq h.2]
end
/-- the least size that has values, and what is first there -/
def leastN (p : Prog) (k : Nm) : Option Nat := [1, 2, 3].find? fun n => !(valK p k n).isEmpty
def chkL (p : Prog) (k : Nm) : Bool := match leastN p k with
  | some n => match sortP (valK p k n), fstV p k n with
    | x :: _, some v => sameD x.2.1 v
    | _, _ => false
  | none => false
def chkLs (p : Prog) : Bool := (names p).all (chkL p)
theorem menu_wf : m5.all wfB = true := by decide +kernel
theorem menu_least : m5.all chkLs = true := by decide +kernel
end K00
end
section
set_option linter.all false
set_option autoImplicit false
set_option maxRecDepth 100000
/-! KC: the counts of the menu, in 48 parts (printed by mkkc.py). -/
namespace K00
open Mt
theorem all_parts {α : Type} {f : α → Bool} {l : List α} (h : ∀ i < 48, ((l.drop (13 * i)).take 13).all f = true) (hl : l.length ≤ 624) : l.all f = true := by
  rw [List.all_eq_true]
  intro x hx
  obtain ⟨j, hj, rfl⟩ := List.mem_iff_getElem.mp hx
  have h1 := h (j / 13) (by omega)
  rw [List.all_eq_true] at h1
  refine h1 _ (List.mem_iff_getElem?.mpr ⟨j % 13, ?_⟩)
  rw [List.getElem?_take_of_lt (Nat.mod_lt _ (by decide)), List.getElem?_drop, Nat.div_add_mod, List.getElem?_eq_getElem hj]
theorem m5_len : m5.length ≤ 624 := by decide +kernel
theorem mc0 : ((m5.drop (13 * 0)).take 13).all chkC = true := by decide +kernel
theorem mc1 : ((m5.drop (13 * 1)).take 13).all chkC = true := by decide +kernel
theorem mc2 : ((m5.drop (13 * 2)).take 13).all chkC = true := by decide +kernel
theorem mc3 : ((m5.drop (13 * 3)).take 13).all chkC = true := by decide +kernel
theorem mc4 : ((m5.drop (13 * 4)).take 13).all chkC = true := by decide +kernel
theorem mc5 : ((m5.drop (13 * 5)).take 13).all chkC = true := by decide +kernel
theorem mc6 : ((m5.drop (13 * 6)).take 13).all chkC = true := by decide +kernel
theorem mc7 : ((m5.drop (13 * 7)).take 13).all chkC = true := by decide +kernel
theorem mc8 : ((m5.drop (13 * 8)).take 13).all chkC = true := by decide +kernel
theorem mc9 : ((m5.drop (13 * 9)).take 13).all chkC = true := by decide +kernel
theorem mc10 : ((m5.drop (13 * 10)).take 13).all chkC = true := by decide +kernel
theorem mc11 : ((m5.drop (13 * 11)).take 13).all chkC = true := by decide +kernel
theorem mc12 : ((m5.drop (13 * 12)).take 13).all chkC = true := by decide +kernel
theorem mc13 : ((m5.drop (13 * 13)).take 13).all chkC = true := by decide +kernel
theorem mc14 : ((m5.drop (13 * 14)).take 13).all chkC = true := by decide +kernel
theorem mc15 : ((m5.drop (13 * 15)).take 13).all chkC = true := by decide +kernel
theorem mc16 : ((m5.drop (13 * 16)).take 13).all chkC = true := by decide +kernel
theorem mc17 : ((m5.drop (13 * 17)).take 13).all chkC = true := by decide +kernel
theorem mc18 : ((m5.drop (13 * 18)).take 13).all chkC = true := by decide +kernel
theorem mc19 : ((m5.drop (13 * 19)).take 13).all chkC = true := by decide +kernel
theorem mc20 : ((m5.drop (13 * 20)).take 13).all chkC = true := by decide +kernel
theorem mc21 : ((m5.drop (13 * 21)).take 13).all chkC = true := by decide +kernel
theorem mc22 : ((m5.drop (13 * 22)).take 13).all chkC = true := by decide +kernel
theorem mc23 : ((m5.drop (13 * 23)).take 13).all chkC = true := by decide +kernel
theorem mc24 : ((m5.drop (13 * 24)).take 13).all chkC = true := by decide +kernel
theorem mc25 : ((m5.drop (13 * 25)).take 13).all chkC = true := by decide +kernel
theorem mc26 : ((m5.drop (13 * 26)).take 13).all chkC = true := by decide +kernel
theorem mc27 : ((m5.drop (13 * 27)).take 13).all chkC = true := by decide +kernel
theorem mc28 : ((m5.drop (13 * 28)).take 13).all chkC = true := by decide +kernel
theorem mc29 : ((m5.drop (13 * 29)).take 13).all chkC = true := by decide +kernel
theorem mc30 : ((m5.drop (13 * 30)).take 13).all chkC = true := by decide +kernel
theorem mc31 : ((m5.drop (13 * 31)).take 13).all chkC = true := by decide +kernel
theorem mc32 : ((m5.drop (13 * 32)).take 13).all chkC = true := by decide +kernel
theorem mc33 : ((m5.drop (13 * 33)).take 13).all chkC = true := by decide +kernel
theorem mc34 : ((m5.drop (13 * 34)).take 13).all chkC = true := by decide +kernel
theorem mc35 : ((m5.drop (13 * 35)).take 13).all chkC = true := by decide +kernel
theorem mc36 : ((m5.drop (13 * 36)).take 13).all chkC = true := by decide +kernel
theorem mc37 : ((m5.drop (13 * 37)).take 13).all chkC = true := by decide +kernel
theorem mc38 : ((m5.drop (13 * 38)).take 13).all chkC = true := by decide +kernel
theorem mc39 : ((m5.drop (13 * 39)).take 13).all chkC = true := by decide +kernel
theorem mc40 : ((m5.drop (13 * 40)).take 13).all chkC = true := by decide +kernel
theorem mc41 : ((m5.drop (13 * 41)).take 13).all chkC = true := by decide +kernel
theorem mc42 : ((m5.drop (13 * 42)).take 13).all chkC = true := by decide +kernel
theorem mc43 : ((m5.drop (13 * 43)).take 13).all chkC = true := by decide +kernel
theorem mc44 : ((m5.drop (13 * 44)).take 13).all chkC = true := by decide +kernel
theorem mc45 : ((m5.drop (13 * 45)).take 13).all chkC = true := by decide +kernel
theorem mc46 : ((m5.drop (13 * 46)).take 13).all chkC = true := by decide +kernel
theorem mc47 : ((m5.drop (13 * 47)).take 13).all chkC = true := by decide +kernel
theorem menu_counts : m5.all chkC = true := all_parts (fun i hi => match i, hi with
  | 0, _ => mc0
  | 1, _ => mc1
  | 2, _ => mc2
  | 3, _ => mc3
  | 4, _ => mc4
  | 5, _ => mc5
  | 6, _ => mc6
  | 7, _ => mc7
  | 8, _ => mc8
  | 9, _ => mc9
  | 10, _ => mc10
  | 11, _ => mc11
  | 12, _ => mc12
  | 13, _ => mc13
  | 14, _ => mc14
  | 15, _ => mc15
  | 16, _ => mc16
  | 17, _ => mc17
  | 18, _ => mc18
  | 19, _ => mc19
  | 20, _ => mc20
  | 21, _ => mc21
  | 22, _ => mc22
  | 23, _ => mc23
  | 24, _ => mc24
  | 25, _ => mc25
  | 26, _ => mc26
  | 27, _ => mc27
  | 28, _ => mc28
  | 29, _ => mc29
  | 30, _ => mc30
  | 31, _ => mc31
  | 32, _ => mc32
  | 33, _ => mc33
  | 34, _ => mc34
  | 35, _ => mc35
  | 36, _ => mc36
  | 37, _ => mc37
  | 38, _ => mc38
  | 39, _ => mc39
  | 40, _ => mc40
  | 41, _ => mc41
  | 42, _ => mc42
  | 43, _ => mc43
  | 44, _ => mc44
  | 45, _ => mc45
  | 46, _ => mc46
  | 47, _ => mc47
  | n + 48, h => absurd h (by omega)) m5_len
end K00
end
section
set_option linter.all false
set_option autoImplicit false
set_option maxRecDepth 100000
/-! KM32: what the checks say. -/
namespace K00
open Mt
structure MenuOk (p : Prog) : Prop where
  pg : PgOk p
  bc : Bc p 21
  bd : Bd p 8
  far : ∀ k ∈ names p, endB p k = true → ∃ j, 7 ≤ j ∧ j ≤ 21 ∧ 0 < cv p k j
  fin : ∀ k ∈ names p, endB p k = false → countM p 10 k = some ((List.range 22).map (cv p k)).sum
  lst : ∀ k ∈ names p, ∃ n x r, 1 ≤ n ∧ n ≤ 3 ∧ (∀ i < n, cv p k i = 0) ∧ cv p k n ≠ 0 ∧ sortP (valK p k n) = x :: r ∧ fstV p k n = some x.2.1
theorem lk_none {p : Prog} {k : Nm} (h : k ∉ names p) : lk p k = none := by
  cases e : lk p k with
  | none => rfl
  | some b => exact absurd (List.mem_map_of_mem (f := fun x : Nm × Body => x.1) (lk_mem e)) h
theorem cv_out {p : Prog} {k : Nm} (h : k ∉ names p) : ∀ n, cv p k n = 0
  | 0 => rfl
  | n + 1 => by rw [cv_s, lk_none h]
theorem cr_out {p : Prog} {k : Nm} (h : k ∉ names p) (n : Nat) : cr p k n ≤ 1 := by
  by_cases e : n = 0
  · subst e; exact Nat.le_refl _
  · rw [cr_s e]
    have : ((List.range n).map fun i => cv p k (i + 1) * cr p k (n - (i + 1))) = (List.range n).map fun _ => 0 := List.map_congr_left fun i _ => by rw [cv_out h, Nat.zero_mul]
    rw [this, sum_const]
    omega
theorem le_sum {l : List Nat} {a : Nat} (h : a ∈ l) : a ≤ l.sum := by
  induction l with
  | nil => cases h
  | cons b l ih =>
    rw [List.sum_cons]
    rcases List.mem_cons.mp h with rfl | h
    · omega
    · have := ih h
      omega
theorem leastN_ok {p : Prog} {k : Nm} {n : Nat} (h : leastN p k = some n) : 1 ≤ n ∧ n ≤ 3 ∧ (∀ i < n, cv p k i = 0) ∧ cv p k n ≠ 0 := by
  have e : ∀ n, (!(valK p k n).isEmpty) = true ↔ cv p k n ≠ 0 := fun n => by
    rw [cv_len]
    cases valK p k n <;> simp
  have e2 : ∀ n, (!(valK p k n).isEmpty) = false ↔ cv p k n = 0 := fun n => by
    rw [cv_len]
    cases valK p k n <;> simp
  unfold leastN at h
  rw [List.find?_cons] at h
  cases h1 : !(valK p k 1).isEmpty with
  | true =>
    rw [h1] at h
    cases h
    refine ⟨by omega, by omega, fun i hi => ?_, (e 1).mp h1⟩
    have : i = 0 := by omega
    subst this
    rfl
  | false =>
    rw [h1, List.find?_cons] at h
    cases h2 : !(valK p k 2).isEmpty with
    | true =>
      rw [h2] at h
      cases h
      refine ⟨by omega, by omega, fun i hi => ?_, (e 2).mp h2⟩
      rcases (show i = 0 ∨ i = 1 by omega) with rfl | rfl
      · rfl
      · exact (e2 1).mp h1
    | false =>
      rw [h2, List.find?_cons] at h
      cases h3 : !(valK p k 3).isEmpty with
      | true =>
        rw [h3] at h
        cases h
        refine ⟨by omega, by omega, fun i hi => ?_, (e 3).mp h3⟩
        rcases (show i = 0 ∨ i = 1 ∨ i = 2 by omega) with rfl | rfl | rfl
        · rfl
        · exact (e2 1).mp h1
        · exact (e2 2).mp h2
      | false =>
        rw [h3] at h
        cases h
theorem menu_ok {p : Prog} (h : p ∈ m5) : MenuOk p := by
  have hpg := wfB_ok (List.all_eq_true.mp menu_wf p h)
  have hC : chkC p = true := List.all_eq_true.mp menu_counts p h
  have hL : chkLs p = true := List.all_eq_true.mp menu_least p h
  unfold chkC at hC
  rw [tabS_eq hpg.wf hpg.f2, List.all_map, List.all_eq_true] at hC
  have hrow : ∀ k ∈ names p, ((∀ i ≤ 21, cv p k i < L64) ∧ (∀ i ≤ 9, cv p k i ≤ lineN) ∧ (∀ i ≤ 8, cr p k i ≤ lineN)) ∧ (match endB p k with
  | true => (((List.range 22).map (cv p k)).drop 7).any fun c => Nat.blt 0 c
  | false => match countM p 10 k with
    | some c => Nat.beq c ((List.range 22).map (cv p k)).sum
    | none => false) = true := by
    intro k hk
    have := hC k hk
    simp only [Function.comp, chkRow, Bool.and_eq_true, List.all_eq_true, Nat.blt_eq, Nat.ble_eq, rowOf] at this
    obtain ⟨⟨⟨a1, a2⟩, a3⟩, a4⟩ := this
    refine ⟨⟨fun i hi => a1 _ (List.mem_map_of_mem (List.mem_range.mpr (by omega))), fun i hi => a2 _ ?_, fun i hi => a3 _ ?_⟩, a4⟩
    · rw [← List.map_take, List.take_range]
      exact List.mem_map_of_mem (List.mem_range.mpr (by omega))
    · rw [← List.map_drop]
      refine List.mem_map.mpr ⟨21 - i, ?_, by rw [show 21 - (21 - i) = i by omega]⟩
      rw [List.mem_iff_getElem?]
      refine ⟨8 - i, ?_⟩
      rw [List.getElem?_drop, List.getElem?_range (by omega)]
      congr 1
      omega
  have hcv : ∀ i ≤ 9, ∀ k, cv p k i ≤ lineN := fun i hi k => by
    by_cases hk : k ∈ names p
    · exact (hrow k hk).1.2.1 i hi
    · rw [cv_out hk]; exact Nat.zero_le _
  refine ⟨hpg, ⟨by omega, fun i hi k => ?_⟩, ⟨by omega, fun i hi k => hcv i (by omega) k, fun i hi k => ?_, fun i hi k ms hl x hx fs hfs => ?_⟩, fun k hk he => ?_, fun k hk he => ?_, fun k hk => ?_⟩
  · by_cases hk : k ∈ names p
    · exact (hrow k hk).1.1 i hi
    · rw [cv_out hk]; omega
  · by_cases hk : k ∈ names p
    · exact (hrow k hk).1.2.2 i hi
    · have := cr_out hk i
      show cr p k i ≤ lineN
      unfold lineN
      omega
  · have h2 := hpg.f2 k ms hl x hx
    have hle := hfs.length_le
    show cf p fs i ≤ lineN
    match fs, hfs, hle with
    | [], _, _ =>
      rw [cf_nil]
      unfold lineN
      split <;> omega
    | [f], _, _ =>
      rw [cf_one]
      exact hcv i (by omega) f
    | [f, g], hfs, hle =>
      have heq : [f, g] = x.2 := hfs.eq_of_length (by simp at hle ⊢; omega)
      rw [heq]
      refine Nat.le_trans ?_ (hcv (i + 1) (by omega) k)
      rw [cv_s, hl]
      exact le_sum (List.mem_map_of_mem (f := fun x : Nm × List Nm => cf p x.2 i) hx)
    | _ :: _ :: _ :: _, _, hle => simp at hle; omega
  · have h4 := (hrow k hk).2
    rw [he] at h4
    dsimp only at h4
    rw [← List.map_drop, List.any_map, List.any_eq_true] at h4
    obtain ⟨j, hj, hj2⟩ := h4
    simp only [Function.comp, Nat.blt_eq] at hj2
    obtain ⟨q, hq⟩ := List.mem_iff_getElem?.mp hj
    rw [List.getElem?_drop] at hq
    have hq2 := List.getElem?_eq_some_iff.mp hq
    obtain ⟨hq3, hq4⟩ := hq2
    rw [List.length_range] at hq3
    rw [List.getElem_range] at hq4
    exact ⟨j, by omega, by omega, hj2⟩
  · have h4 := (hrow k hk).2
    rw [he] at h4
    dsimp only at h4
    cases hc : countM p 10 k with
    | none => rw [hc] at h4; cases h4
    | some c =>
      rw [hc] at h4
      rw [Nat.eq_of_beq_eq_true h4]
  · have h5 := List.all_eq_true.mp hL k hk
    unfold chkL at h5
    cases hn : leastN p k with
    | none => rw [hn] at h5; cases h5
    | some n =>
      rw [hn] at h5
      dsimp only at h5
      obtain ⟨b1, b2, b3, b4⟩ := leastN_ok hn
      cases hs : sortP (valK p k n) with
      | nil => rw [hs] at h5; cases h5
      | cons x r =>
        cases hf : fstV p k n with
        | none => rw [hs, hf] at h5; cases h5
        | some v =>
          rw [hs, hf] at h5
          have := sameD_eq h5
          exact ⟨n, x, r, b1, b2, b3, b4, hs, by rw [this]; exact hf⟩
end K00
end
section
set_option linter.all false
set_option autoImplicit false
set_option maxRecDepth 100000
/-! KM33: draws. -/
namespace Mt
theorem idx_refD {M : Mem} {q j : Nat} {rw : List D} {d : D} (hq : M[q]? = some (some (.lst rw))) (h : rw[j]? = some d) : idxR M (.ref q) (.int (j : Nat)) = .ok d M := by
  have hj : j < rw.length := (List.getElem?_eq_some_iff.mp h).1
  show (match (match M[q]? with
    | some (some (.lst xs)) => some xs
    | _ => none) with
    | some xs => atL M xs (.int (j : Nat))
    | none => .bad 20) = _
  rw [hq]
  dsimp only
  show (match ix rw.length (j : Int) with
    | some k => match rw[k]? with
      | some d => R.ok d M
      | none => .bad 20
    | none => .bad 20) = _
  rw [ix_nat hj]
  dsimp only
  rw [h]
theorem setL_D {M : Mem} {q j : Nat} {rw : List D} {d : D} (hq : M[q]? = some (some (.lst rw))) (h : j < rw.length) : setL M (.ref q) (.int (j : Nat)) d = some (M.set q (some (.lst (rw.set j d)))) := by
  unfold setL
  dsimp only
  rw [hq]
  dsimp only
  rw [ix_nat h]
theorem idx_scr {M : Mem} {xs : List D} {j : Nat} {d : D} (h : xs[j]? = some d) : idxR M (.scr xs) (.int (j : Nat)) = .ok d M := by
  have hj : j < xs.length := (List.getElem?_eq_some_iff.mp h).1
  show (match ix xs.length (j : Int) with
    | some k => match xs[k]? with
      | some d => R.ok d M
      | none => .bad 20
    | none => .bad 20) = _
  rw [ix_nat hj]
  dsimp only
  rw [h]
@[simp] theorem oLen_scr {m : Mem} {xs : List D} : oLen m [.scr xs] = .ok (.int xs.length) m := id rfl
@[simp] theorem oInt_int {m : Mem} {i : Int} : oInt m [.int i] = .ok (.int i) m := id rfl
theorem bMod_int {m : Mem} {i j : Int} (h : 0 < j) : bMod m (.int i) (.int j) = .ok (.int (i % j)) m := by
  show (if decide (0 < j) then R.ok (D.int (i % j)) m else .bad 6) = _
  rw [if_pos (decide_eq_true h)]
theorem bDiv_int {m : Mem} {i j : Int} (h : 0 < j) (h2 : j < 1073741824) : bDiv m (.int i) (.int j) = .ok (.int (i / j)) m := by
  show (if decide (0 < j) && decide (j < 1073741824) then R.ok (D.int (i / j)) m else .bad 5) = _
  rw [if_pos (by rw [Bool.and_eq_true]; exact ⟨decide_eq_true h, decide_eq_true h2⟩)]
theorem bPow_18 {m : Mem} : bPow m (.int 10) (.int 18) = .ok (.int 1000000000000000000) m := rfl
end Mt
namespace K00
open Mt
/-- a row of draws -/
structure Rw where
  ns : List Int
  i : Nat
  s : Int
  b : Int
def Rw.d (r : Rw) : List D := [.scr (r.ns.map .int), .int (r.i : Nat), .int r.s, .int r.b]
/-- memory with the row last -/
def MR (m : Mem) (r : Rw) : Mem := m ++ [some (.lst r.d)]
theorem MR_len {m : Mem} {r r' : Rw} : (MR m r).length = (MR m r').length := by unfold MR; simp
section
variable {P : List Nat} {m : Mem}
theorem MR_at {r : Rw} : (MR m r)[m.length]? = some (some (.lst r.d)) := by unfold MR; simp
theorem MR_set {r r' : Rw} : (MR m r).set m.length (some (.lst r'.d)) = MR m r' := by unfold MR; simp
theorem taken {r : Rw} {many : Nat} (h1 : 1 ≤ many) (h2 : many < 1073741824) {k : Nat} : ∃ (r' : Rw) (v : Nat), v < many ∧ run (FS P) (k + 1) ix__law_taken [.ref m.length, .int (many : Nat)] (MR m r) = .ok (.int (v : Nat)) (MR m r') := by
  have hpos : (0 : Int) < (many : Nat) := by omega
  have i0 : ∀ r : Rw, idxR (MR m r) (.ref m.length) (.int 0) = .ok (.scr (r.ns.map .int)) (MR m r) := fun r => idx_refD (j := 0) MR_at rfl
  have i1 : ∀ r : Rw, idxR (MR m r) (.ref m.length) (.int 1) = .ok (.int (r.i : Nat)) (MR m r) := fun r => idx_refD (j := 1) MR_at rfl
  have i2 : ∀ r : Rw, idxR (MR m r) (.ref m.length) (.int 2) = .ok (.int r.s) (MR m r) := fun r => idx_refD (j := 2) MR_at rfl
  have i3 : ∀ r : Rw, idxR (MR m r) (.ref m.length) (.int 3) = .ok (.int r.b) (MR m r) := fun r => idx_refD (j := 3) MR_at rfl
  have s1 : ∀ (r : Rw) (i : Nat), setL (MR m r) (.ref m.length) (.int 1) (.int ((i : Nat) : Int)) = some (MR m { r with i := i }) := fun r i => by
    have := setL_D (j := 1) (d := .int ((i : Nat) : Int)) (MR_at (m := m) (r := r)) (by unfold Rw.d; simp)
    rw [show ((1 : Nat) : Int) = 1 from rfl] at this
    rw [this]
    exact congrArg some (MR_set (m := m) (r := r) (r' := { r with i := i }))
  have s2 : ∀ (r : Rw) (i : Int), setL (MR m r) (.ref m.length) (.int 2) (.int i) = some (MR m { r with s := i }) := fun r i => by
    have := setL_D (j := 2) (d := .int i) (MR_at (m := m) (r := r)) (by unfold Rw.d; simp)
    rw [show ((2 : Nat) : Int) = 2 from rfl] at this
    rw [this]
    exact congrArg some (MR_set (m := m) (r := r) (r' := { r with s := i }))
  have s3 : ∀ (r : Rw) (i : Int), setL (MR m r) (.ref m.length) (.int 3) (.int i) = some (MR m { r with b := i }) := fun r i => by
    have := setL_D (j := 3) (d := .int i) (MR_at (m := m) (r := r)) (by unfold Rw.d; simp)
    rw [show ((3 : Nat) : Int) = 3 from rfl] at this
    rw [this]
    exact congrArg some (MR_set (m := m) (r := r) (r' := { r with b := i }))
  have hv : ∀ z : Int, ∃ v : Nat, v < many ∧ z % (many : Nat) = (v : Nat) := fun z => ⟨(z % (many : Nat)).toNat, by have h3 := Int.emod_nonneg z (show ((many : Nat) : Int) ≠ 0 by omega); have h4 := Int.emod_lt_of_pos z hpos; omega, by have h3 := Int.emod_nonneg z (show ((many : Nat) : Int) ≠ 0 by omega); omega⟩
  have md : ∀ (M : Mem) (z : Int), bMod M (.int z) (.int (many : Nat)) = .ok (.int (z % (many : Nat))) M := fun M z => bMod_int hpos
  have dv : ∀ (M : Mem) (z : Int), bDiv M (.int z) (.int (many : Nat)) = .ok (.int (z / (many : Nat))) M := fun M z => bDiv_int hpos (by omega)
  have mdP : ∀ (M : Mem) (z : Int), bMod M (.int z) (.int 2147483647) = .ok (.int (z % 2147483647)) M := fun M z => bMod_int (by decide)
  have dv7 : ∀ (M : Mem) (z : Int), bDiv M (.int z) (.int 7) = .ok (.int (z / 7)) M := fun M z => bDiv_int (by decide) (by decide)
  have mu : ∀ (M : Mem) (z : Int), bMul M (.int z) (.int 48271) = .ok (.int (z * 48271)) M := fun M z => bMul_int (.inr rfl)
  by_cases hb : 0 < r.b
  · obtain ⟨v, hv1, hv2⟩ := hv r.b
    refine ⟨{ r with b := r.b / (many : Nat) }, v, hv1, ?_⟩
    rw [run_wt (f := f__law_taken) rfl]
    apply runF_rtl rfl MR_len
    simp [f__law_taken, i3, hb, md, asg_N, dv, s3, hv2]
  · have ei : ((r.i : Nat) : Int) + 1 = ((r.i + 1 : Nat) : Int) := by omega
    by_cases hl : r.ns.length < r.i + 1
    · obtain ⟨v, hv1, hv2⟩ := hv ((r.s * 48271 + 11) % 2147483647 / 7)
      refine ⟨{ r with i := r.i + 1, s := (r.s * 48271 + 11) % 2147483647 }, v, hv1, ?_⟩
      rw [run_wt (f := f__law_taken) rfl]
      apply runF_rtl rfl MR_len
      have s1' := s1 r (r.i + 1)
      rw [← ei] at s1'
      have i1' := i1 { r with i := r.i + 1 }
      have i0' := i0 { r with i := r.i + 1 }
      have i2' := i2 { r with i := r.i + 1 }
      have i2'' := i2 { r with i := r.i + 1, s := (r.s * 48271 + 11) % 2147483647 }
      have s2' := s2 { r with i := r.i + 1 } ((r.s * 48271 + 11) % 2147483647)
      have hl' : ((r.ns.length : Nat) : Int) < ((r.i + 1 : Nat) : Int) := by omega
      dsimp only at i1' i0' i2' i2'' s2'
      simp only [← ei] at i1' hl'
      simp [f__law_taken, i3, hb, i1, s1', i1', i0', hl', i2', mu, mdP, s2', i2'', dv7, md, hv2]
    · have hlt : r.i < r.ns.length := by omega
      generalize hc : r.ns[r.i] = c
      have hcell : idxR (MR m { r with i := r.i + 1 }) (.scr (r.ns.map .int)) (.int ((r.i : Nat) : Int)) = .ok (.int c) (MR m { r with i := r.i + 1 }) := idx_scr (by rw [List.getElem?_map, List.getElem?_eq_getElem hlt, hc]; rfl)
      obtain ⟨v, hv1, hv2⟩ := hv c
      have s1' := s1 r (r.i + 1)
      rw [← ei] at s1'
      have i1' := i1 { r with i := r.i + 1 }
      have i0' := i0 { r with i := r.i + 1 }
      have i2' := i2 { r with i := r.i + 1 }
      have s2' := s2 { r with i := r.i + 1 } ((r.s * 48271 + c + 11) % 2147483647)
      have hl' : ¬ ((r.ns.length : Nat) : Int) < ((r.i + 1 : Nat) : Int) := by omega
      have s3' := s3 { r with i := r.i + 1, s := (r.s * 48271 + c + 11) % 2147483647 } (c / (many : Nat))
      dsimp only at i1' i0' i2' s2' s3'
      simp only [← ei] at i1' hl'
      have ee : ((r.i : Nat) : Int) + 1 - 1 = ((r.i : Nat) : Int) := by omega
      by_cases hbig : 1000000000000000000 ≤ c
      · refine ⟨{ r with i := r.i + 1, s := (r.s * 48271 + c + 11) % 2147483647, b := c / (many : Nat) }, v, hv1, ?_⟩
        rw [run_wt (f := f__law_taken) rfl]
        apply runF_rtl rfl MR_len
        simp [f__law_taken, i3, hb, i1, s1', i1', i0', hl', i2', mu, mdP, s2', ee, hcell, asg_N, bPow_18, hbig, dv, s3', md, hv2]
      · refine ⟨{ r with i := r.i + 1, s := (r.s * 48271 + c + 11) % 2147483647 }, v, hv1, ?_⟩
        rw [run_wt (f := f__law_taken) rfl]
        apply runF_rtl rfl MR_len
        simp [f__law_taken, i3, hb, i1, s1', i1', i0', hl', i2', mu, mdP, s2', ee, hcell, asg_N, bPow_18, hbig, md, hv2]
end
end K00
end
section
set_option linter.all false
set_option autoImplicit false
set_option maxRecDepth 100000
/-! KM34: what is picked; the program that is made. -/
namespace Mt
@[simp] theorem blR_ptp : blR .ptuple = oPtp := id rfl
@[simp] theorem oPtp_lst {m : Mem} {xs : List D} : oPtp m [.lst xs] = .ok (.ptp xs) m := id rfl
theorem idx_last {M : Mem} {xs : List D} {d : D} : idxR M (.lst (xs ++ [d])) (.int (-1)) = .ok d M := by
  show (match ix (xs ++ [d]).length (-1) with
    | some k => match (xs ++ [d])[k]? with
      | some d => R.ok d M
      | none => .bad 20
    | none => .bad 20) = _
  have : ix (xs ++ [d]).length (-1) = some xs.length := by
    show (if Nat.blt 0 (xs ++ [d]).length then some ((xs ++ [d]).length - 1 - 0) else none) = _
    rw [if_pos (by rw [Nat.blt_eq]; simp)]
    simp
  rw [this]
  simp
end Mt
namespace K00
open Mt
section
variable {P : List Nat} {m : Mem}
theorem pick {r : Rw} {xs : List D} (h1 : 1 ≤ xs.length) (h2 : xs.length < 1073741824) {k : Nat} : ∃ (r' : Rw) (x : D), x ∈ xs ∧ run (FS P) (k + 2) ix__law_pick [.ref m.length, .lst xs] (MR m r) = .ok x (MR m r') := by
  obtain ⟨r', v, hv, hr⟩ := taken (P := P) (m := m) (r := r) h1 h2 (k := k)
  refine ⟨r', xs[v], List.getElem_mem _, ?_⟩
  show run (FS P) ((k + 1) + 1) _ _ _ = _
  rw [run_wt (f := f__law_pick) rfl]
  apply runF_rtl rfl MR_len
  have hi : idxR (MR m r') (.lst xs) (.int ((v : Nat) : Int)) = .ok xs[v] (MR m r') := idx_lstN (List.getElem?_eq_getElem hv)
  simp [f__law_pick, hr, hi]
theorem nameS {p : Prog} : (p.map fun x => D.str x.1) = (names p).map .str := by unfold names; rw [List.map_map]; rfl
theorem names_lc {p : Prog} (hp : p.length ≤ 8) {e : Env} (he : 3 < e.length) {M : Mem} : lcGo (turn (.tgN 3) (xCon (.bl true)) (give1 (x2 idxR (xVar 3) (xCon (.int 0)))) e) (p.map eK) [] M = .ok ((names p).map .str) M := by
  rw [← nameS]
  refine lcGo_map1 (fun x hx => ?_) (by unfold lineN; omega)
  have ix0 : ∀ M, idxR M (eK x) (.int 0) = .ok (.str x.1) M := fun M => idx_tup0
  have hv : xVar 3 (e.set 3 (some (eK x))) M = .ok (eK x) M := by
    match e, he with
    | a :: b :: c :: d :: r, _ => rfl
  simp [asg_N he, hv, ix0]
theorem addK1 {p : Prog} (hp : p.length ≤ 8) {b : Nm × Body} {M : Mem} : bAdd M (.lst (p.map eK)) (.lst [eK b]) = .ok (.lst ((p ++ [b]).map eK)) M := by
  rw [bAdd_lst (by simp; unfold lineN; omega)]
  simp
theorem last_name {p : Prog} (hp : p ≠ []) {M : Mem} : ∃ x, p.getLast? = some x ∧ idxR M (.lst (p.map eK)) (.int (-1)) = .ok (eK x) M ∧ lastN p = x.1 := by
  have h1 : p = p.dropLast ++ [p.getLast hp] := (List.dropLast_concat_getLast hp).symm
  refine ⟨p.getLast hp, List.getLast?_eq_some_getLast hp, ?_, ?_⟩
  · have h2 : p.map eK = p.dropLast.map eK ++ [eK (p.getLast hp)] := by
      conv => lhs; rw [h1]
      simp
    rw [h2]
    exact idx_last
  · unfold lastN
    rw [List.getLast?_eq_some_getLast hp]
    rfl
theorem b_le {n : Nat} (h : n ≤ 5) : Nat.ble n lineN = true := by rw [Nat.ble_eq]; unfold lineN; omega
/-- the state between the steps of the making -/
def eW (m : Mem) (lo : D) (p : Prog) (s4 s5 s6 : Option D) : Env := [some (.ref m.length), some lo, some (.lst (p.map eK)), none, s4, s5, s6]
abbrev gS1 : S := .asg (.tgN 1) (.call 40 (.cons (.var 0) (.cons (.con (.int 3)) .nil)))
abbrev gS2 : S := .asg (.tgN 2) (.lst (.cons (.tup (.cons (.con (.str [78, 117, 109])) (.cons (.tup (.cons (.con (.str [110, 117, 109, 98, 101, 114, 115])) (.cons (.var 1) (.cons (.bin .add (.var 1) (.call 40 (.cons (.var 0) (.cons (.con (.int 4)) .nil)))) .nil)))) .nil))) .nil))
abbrev gS3 : S := .ite (.cmp .eq (.call 40 (.cons (.var 0) (.cons (.con (.int 2)) .nil))) (.con (.int 0)))
    (.asg (.tgN 2) (.bin .add (.var 2) (.lst (.cons (.tup (.cons (.con (.str [83, 105, 103, 110])) (.cons (.tup (.cons (.con (.str [109, 97, 107, 101, 114, 115])) (.cons (.tup (.cons (.tup (.cons (.con (.str [80, 108, 117, 115])) (.cons (.tup .nil) .nil))) (.cons (.tup (.cons (.con (.str [77, 105, 110, 117, 115])) (.cons (.tup .nil) .nil))) .nil))) .nil))) .nil))) .nil))))
    .skip
abbrev gS4 : S := .ite (.cmp .eq (.call 40 (.cons (.var 0) (.cons (.con (.int 2)) .nil))) (.con (.int 0)))
    (.asg (.tgN 2) (.bin .add (.var 2) (.lst (.cons (.tup (.cons (.con (.str [76, 105, 115, 116])) (.cons (.tup (.cons (.con (.str [114, 111, 119, 115])) (.cons (.call 41 (.cons (.var 0) (.cons (.lc (.idx (.var 3) (.con (.int 0))) (.tgN 3) (.var 2) (.con (.bl true))) .nil))) .nil))) .nil))) .nil))))
    .skip
abbrev gS5 : S := .asg (.tgN 4) (.call 40 (.cons (.var 0) (.cons (.con (.int 4)) .nil)))
abbrev gS6 : S := .ite (.cmp .eq (.var 4) (.con (.int 0)))
    (.asg (.tgN 2) (.bin .add (.var 2) (.lst (.cons (.tup (.cons (.con (.str [84, 114, 101, 101])) (.cons (.tup (.cons (.con (.str [109, 97, 107, 101, 114, 115])) (.cons (.tup (.cons (.tup (.cons (.con (.str [76, 101, 97, 102])) (.cons (.tup .nil) .nil))) (.cons (.tup (.cons (.con (.str [78, 111, 100, 101])) (.cons (.tup (.cons (.con (.str [78, 117, 109])) (.cons (.con (.str [84, 114, 101, 101])) .nil))) .nil))) .nil))) .nil))) .nil))) .nil))))
    .skip
abbrev gS7 : S := .ite (.cmp .eq (.var 4) (.con (.int 1)))
    (.seq (.asg (.tgN 5) (.call 41 (.cons (.var 0) (.cons (.lc (.idx (.var 3) (.con (.int 0))) (.tgN 3) (.var 2) (.con (.bl true))) .nil))))
    (.asg (.tgN 2) (.bin .add (.var 2) (.lst (.cons (.tup (.cons (.con (.str [84, 114, 101, 101])) (.cons (.tup (.cons (.con (.str [109, 97, 107, 101, 114, 115])) (.cons (.tup (.cons (.tup (.cons (.con (.str [76, 101, 97, 102])) (.cons (.tup (.cons (.var 5) .nil)) .nil))) (.cons (.tup (.cons (.con (.str [70, 111, 114, 107])) (.cons (.tup (.cons (.con (.str [84, 114, 101, 101])) (.cons (.con (.str [84, 114, 101, 101])) .nil))) .nil))) .nil))) .nil))) .nil))) .nil)))))
    .skip
abbrev gS8 : S := .ite (.cmp .eq (.var 4) (.con (.int 2)))
    (.seq (.asg (.tgN 6) (.idx (.idx (.var 2) (.neg (.con (.int 1)))) (.con (.int 0))))
    (.asg (.tgN 2) (.bin .add (.var 2) (.lst (.cons (.tup (.cons (.con (.str [80, 97, 105, 114])) (.cons (.tup (.cons (.con (.str [109, 97, 107, 101, 114, 115])) (.cons (.tup (.cons (.tup (.cons (.con (.str [80, 97, 105, 114])) (.cons (.tup (.cons (.var 6) (.cons (.var 6) .nil))) .nil))) .nil)) .nil))) .nil))) .nil)))))
    .skip
abbrev gS9 : S := .ite (.cmp .eq (.call 40 (.cons (.var 0) (.cons (.con (.int 3)) .nil))) (.con (.int 0)))
    (.seq (.asg (.tgN 6) (.idx (.idx (.var 2) (.neg (.con (.int 1)))) (.con (.int 0))))
    (.asg (.tgN 2) (.bin .add (.var 2) (.lst (.cons (.tup (.cons (.con (.str [66, 111, 120])) (.cons (.tup (.cons (.con (.str [109, 97, 107, 101, 114, 115])) (.cons (.tup (.cons (.tup (.cons (.con (.str [78, 111, 110, 101])) (.cons (.tup .nil) .nil))) (.cons (.tup (.cons (.con (.str [79, 110, 101])) (.cons (.tup (.cons (.var 6) .nil)) .nil))) (.cons (.tup (.cons (.con (.str [84, 119, 111])) (.cons (.tup (.cons (.con (.str [78, 117, 109])) (.cons (.var 6) .nil))) .nil))) .nil)))) .nil))) .nil))) .nil)))))
    .skip
variable {k : Nat} {t : Nat × List Nat}
theorem g1 {r : Rw} : ∃ (r' : Rw) (lo : Nat), lo < 3 ∧ es (ctxK (FS P) (k + 2) t) gS1 [some (.ref m.length), none, none, none, none, none, none] (MR m r) = .nx [some (.ref m.length), some (.int (lo : Nat)), none, none, none, none, none] (MR m r') := by
  obtain ⟨r', v, hv, hr⟩ := taken (P := P) (m := m) (r := r) (many := 3) (by omega) (by omega) (k := k + 1)
  refine ⟨r', v, hv, ?_⟩
  have hr : run (FS P) (k + 2) 40 [.ref m.length, .int 3] (MR m r) = .ok (.int (v : Nat)) (MR m r') := hr
  simp [hr, asg_N]
theorem g2 {r : Rw} {lo : Nat} : ∃ (r' : Rw) (w : Nat), w < 4 ∧ es (ctxK (FS P) (k + 2) t) gS2 [some (.ref m.length), some (.int (lo : Nat)), none, none, none, none, none] (MR m r) = .nx (eW m (.int (lo : Nat)) [bNum lo w] none none none) (MR m r') := by
  obtain ⟨r', v, hv, hr⟩ := taken (P := P) (m := m) (r := r) (many := 4) (by omega) (by omega) (k := k + 1)
  refine ⟨r', v, hv, ?_⟩
  have hr : run (FS P) (k + 2) 40 [.ref m.length, .int 4] (MR m r) = .ok (.int (v : Nat)) (MR m r') := hr
  have b1 := b_le (n := 1) (by omega)
  have b2 := b_le (n := 2) (by omega)
  have b3 := b_le (n := 3) (by omega)
  simp [hr, asg_N, b1, b2, b3, eW, eK, bNum, eB]
theorem g3 {r : Rw} {lo : D} {p : Prog} (hp : p.length ≤ 8) {s4 s5 s6 : Option D} : ∃ (r' : Rw) (p' : Prog), p' ∈ [p, p ++ [bSign]] ∧ es (ctxK (FS P) (k + 2) t) gS3 (eW m lo p s4 s5 s6) (MR m r) = .nx (eW m lo p' s4 s5 s6) (MR m r') := by
  obtain ⟨r', v, hv, hr⟩ := taken (P := P) (m := m) (r := r) (many := 2) (by omega) (by omega) (k := k + 1)
  have hr : run (FS P) (k + 2) 40 [.ref m.length, .int 2] (MR m r) = .ok (.int (v : Nat)) (MR m r') := hr
  by_cases h0 : v = 0
  · subst h0
    refine ⟨r', p ++ [bSign], by simp, ?_⟩
    have b0 := b_le (n := 0) (by omega)
    have b1 := b_le (n := 1) (by omega)
    have b2 := b_le (n := 2) (by omega)
    have ha := addK1 hp (b := bSign) (M := MR m r')
    have he : eK bSign = .tup [.str [83, 105, 103, 110], .tup [.str [109, 97, 107, 101, 114, 115], .tup [.tup [.str [80, 108, 117, 115], .tup []], .tup [.str [77, 105, 110, 117, 115], .tup []]]]] := rfl
    rw [he] at ha
    simp at hr
    simp [eW, hr, asg_N, b0, b1, b2]
    rw [ha]
    simp
  · refine ⟨r', p, by simp, ?_⟩
    have h0' : ¬ ((v : Nat) : Int) = 0 := by omega
    simp [eW, hr, h0, h0']
theorem g4 {r : Rw} {lo : D} {p : Prog} (hp : p.length ≤ 8) (hne : p ≠ []) {s4 s5 s6 : Option D} : ∃ (r' : Rw) (p' : Prog), p' ∈ p :: p.map (fun x => p ++ [bList x.1]) ∧ es (ctxK (FS P) (k + 2) t) gS4 (eW m lo p s4 s5 s6) (MR m r) = .nx (eW m lo p' s4 s5 s6) (MR m r') := by
  obtain ⟨r', v, hv, hr⟩ := taken (P := P) (m := m) (r := r) (many := 2) (by omega) (by omega) (k := k + 1)
  have hr : run (FS P) (k + 2) 40 [.ref m.length, .int 2] (MR m r) = .ok (.int (v : Nat)) (MR m r') := hr
  by_cases h0 : v = 0
  · subst h0
    have hpos : 0 < p.length := List.length_pos_iff.mpr hne
    obtain ⟨r2, x, hx, hr2⟩ := pick (P := P) (m := m) (r := r') (xs := (names p).map .str) (by unfold names; simp; omega) (by unfold names; simp; omega) (k := k)
    obtain ⟨nm, hnm, rfl⟩ := List.mem_map.mp hx
    obtain ⟨y, hy, rfl⟩ := List.mem_map.mp hnm
    refine ⟨r2, p ++ [bList y.1], List.mem_cons_of_mem _ (List.mem_map_of_mem (f := fun x : Nm × Body => p ++ [bList x.1]) hy), ?_⟩
    have b0 := b_le (n := 0) (by omega)
    have b1 := b_le (n := 1) (by omega)
    have b2 := b_le (n := 2) (by omega)
    have ha := addK1 hp (b := bList y.1) (M := MR m r2)
    have he : eK (bList y.1) = .tup [.str [76, 105, 115, 116], .tup [.str [114, 111, 119, 115], .str y.1]] := rfl
    rw [he] at ha
    have hl := names_lc hp (e := eW m lo p s4 s5 s6) (by unfold eW; simp) (M := MR m r')
    unfold eW at hl
    simp at hr
    simp [eW, hr, asg_N, b0, b1, b2]
    rw [hl]
    have c1 : 1 ≤ lineN := by unfold lineN; omega
    have c2 : 2 ≤ lineN := by unfold lineN; omega
    simp [hr2, c1, c2]
    rw [ha]
    simp
  · refine ⟨r', p, by simp, ?_⟩
    have h0' : ¬ ((v : Nat) : Int) = 0 := by omega
    simp [eW, hr, h0, h0']
theorem g5 {r : Rw} {lo : D} {p : Prog} {s4 s5 s6 : Option D} : ∃ (r' : Rw) (v : Nat), v < 4 ∧ es (ctxK (FS P) (k + 2) t) gS5 (eW m lo p s4 s5 s6) (MR m r) = .nx (eW m lo p (some (.int (v : Nat))) s5 s6) (MR m r') := by
  obtain ⟨r', v, hv, hr⟩ := taken (P := P) (m := m) (r := r) (many := 4) (by omega) (by omega) (k := k + 1)
  refine ⟨r', v, hv, ?_⟩
  have hr : run (FS P) (k + 2) 40 [.ref m.length, .int 4] (MR m r) = .ok (.int (v : Nat)) (MR m r') := hr
  simp [hr, asg_N, eW]
theorem g6 {M : Mem} {lo : D} {p : Prog} (hp : p.length ≤ 8) {v : Nat} {s5 s6 : Option D} : es (ctxK (FS P) (k + 2) t) gS6 (eW m lo p (some (.int (v : Nat))) s5 s6) M = .nx (eW m lo (if v = 0 then p ++ [bTree0] else p) (some (.int (v : Nat))) s5 s6) M := by
  by_cases h0 : v = 0
  · subst h0
    have b0 := b_le (n := 0) (by omega)
    have b1 := b_le (n := 1) (by omega)
    have b2 := b_le (n := 2) (by omega)
    have ha := addK1 hp (b := bTree0) (M := M)
    have he : eK bTree0 = .tup [.str [84, 114, 101, 101], .tup [.str [109, 97, 107, 101, 114, 115], .tup [.tup [.str [76, 101, 97, 102], .tup []], .tup [.str [78, 111, 100, 101], .tup [.str [78, 117, 109], .str [84, 114, 101, 101]]]]]] := rfl
    rw [he] at ha
    simp [eW, asg_N, b0, b1, b2]
    rw [ha]
    simp
  · have h0' : ¬ ((v : Nat) : Int) = 0 := by omega
    simp [eW, h0, h0']
theorem g7 {r : Rw} {lo : D} {p : Prog} (hp : p.length ≤ 8) (hne : p ≠ []) {v : Nat} {s5 s6 : Option D} : ∃ (r' : Rw) (p' : Prog) (s5' : Option D), ((v = 1 ∧ p' ∈ p.map (fun x => p ++ [bTree1 x.1])) ∨ (v ≠ 1 ∧ p' = p)) ∧ es (ctxK (FS P) (k + 2) t) gS7 (eW m lo p (some (.int (v : Nat))) s5 s6) (MR m r) = .nx (eW m lo p' (some (.int (v : Nat))) s5' s6) (MR m r') := by
  by_cases h0 : v = 1
  · subst h0
    have hpos : 0 < p.length := List.length_pos_iff.mpr hne
    obtain ⟨r2, x, hx, hr2⟩ := pick (P := P) (m := m) (r := r) (xs := (names p).map .str) (by unfold names; simp; omega) (by unfold names; simp; omega) (k := k)
    obtain ⟨nm, hnm, rfl⟩ := List.mem_map.mp hx
    obtain ⟨y, hy, rfl⟩ := List.mem_map.mp hnm
    refine ⟨r2, p ++ [bTree1 y.1], some (.str y.1), .inl ⟨rfl, List.mem_map_of_mem (f := fun x : Nm × Body => p ++ [bTree1 x.1]) hy⟩, ?_⟩
    have b0 := b_le (n := 0) (by omega)
    have b1 := b_le (n := 1) (by omega)
    have b2 := b_le (n := 2) (by omega)
    have ha := addK1 hp (b := bTree1 y.1) (M := MR m r2)
    have he : eK (bTree1 y.1) = .tup [.str [84, 114, 101, 101], .tup [.str [109, 97, 107, 101, 114, 115], .tup [.tup [.str [76, 101, 97, 102], .tup [.str y.1]], .tup [.str [70, 111, 114, 107], .tup [.str [84, 114, 101, 101], .str [84, 114, 101, 101]]]]]] := rfl
    rw [he] at ha
    have hl := names_lc hp (e := eW m lo p (some (.int (1 : Nat))) s5 s6) (by unfold eW; simp) (M := MR m r)
    unfold eW at hl
    simp [eW, asg_N, b0, b1, b2]
    simp at hl
    rw [hl]
    simp [hr2, asg_N, b1, b2]
    rw [ha]
    simp
  · refine ⟨r, p, s5, .inr ⟨h0, rfl⟩, ?_⟩
    have h0' : ¬ ((v : Nat) : Int) = 1 := by omega
    simp [eW, h0']
theorem g8 {M : Mem} {lo : D} {p : Prog} (hp : p.length ≤ 8) (hne : p ≠ []) {v : Nat} {s5 s6 : Option D} : ∃ s6', es (ctxK (FS P) (k + 2) t) gS8 (eW m lo p (some (.int (v : Nat))) s5 s6) M = .nx (eW m lo (if v = 2 then p ++ [bPair (lastN p)] else p) (some (.int (v : Nat))) s5 s6') M := by
  by_cases h0 : v = 2
  · subst h0
    obtain ⟨x, _, hx1, hx2⟩ := last_name hne (M := M)
    have b0 := b_le (n := 0) (by omega)
    have b1 := b_le (n := 1) (by omega)
    have b2 := b_le (n := 2) (by omega)
    have ix0 : ∀ M, idxR M (eK x) (.int 0) = .ok (.str x.1) M := fun M => idx_tup0
    have ha := addK1 hp (b := bPair x.1) (M := M)
    have he : eK (bPair x.1) = .tup [.str [80, 97, 105, 114], .tup [.str [109, 97, 107, 101, 114, 115], .tup [.tup [.str [80, 97, 105, 114], .tup [.str x.1, .str x.1]]]]] := rfl
    rw [he] at ha
    refine ⟨some (.str x.1), ?_⟩
    rw [hx2, if_pos rfl]
    simp [eW, asg_N, b0, b1, b2, hx1, ix0]
    rw [ha]
    simp
  · have h0' : ¬ ((v : Nat) : Int) = 2 := by omega
    exact ⟨s6, by simp [eW, h0, h0']⟩
theorem g9 {r : Rw} {lo : D} {p : Prog} (hp : p.length ≤ 8) (hne : p ≠ []) {s4 s5 s6 : Option D} : ∃ (r' : Rw) (p' : Prog) (s6' : Option D), p' ∈ [p, p ++ [bBox (lastN p)]] ∧ es (ctxK (FS P) (k + 2) t) gS9 (eW m lo p s4 s5 s6) (MR m r) = .nx (eW m lo p' s4 s5 s6') (MR m r') := by
  obtain ⟨r', v, hv, hr⟩ := taken (P := P) (m := m) (r := r) (many := 3) (by omega) (by omega) (k := k + 1)
  have hr : run (FS P) (k + 2) 40 [.ref m.length, .int 3] (MR m r) = .ok (.int (v : Nat)) (MR m r') := hr
  by_cases h0 : v = 0
  · subst h0
    obtain ⟨x, _, hx1, hx2⟩ := last_name hne (M := MR m r')
    have b0 := b_le (n := 0) (by omega)
    have b1 := b_le (n := 1) (by omega)
    have b2 := b_le (n := 2) (by omega)
    have b3 := b_le (n := 3) (by omega)
    have ix0 : ∀ M, idxR M (eK x) (.int 0) = .ok (.str x.1) M := fun M => idx_tup0
    have ha := addK1 hp (b := bBox x.1) (M := MR m r')
    have he : eK (bBox x.1) = .tup [.str [66, 111, 120], .tup [.str [109, 97, 107, 101, 114, 115], .tup [.tup [.str [78, 111, 110, 101], .tup []], .tup [.str [79, 110, 101], .tup [.str x.1]], .tup [.str [84, 119, 111], .tup [.str [78, 117, 109], .str x.1]]]]] := rfl
    rw [he] at ha
    refine ⟨r', p ++ [bBox x.1], some (.str x.1), by rw [hx2]; simp, ?_⟩
    simp at hr
    simp [eW, hr, asg_N, b0, b1, b2, b3, hx1, ix0]
    rw [ha]
    simp
  · refine ⟨r', p, s6, by simp, ?_⟩
    have h0' : ¬ ((v : Nat) : Int) = 0 := by omega
    simp [eW, hr, h0, h0']
end
end K00
end
section
set_option linter.all false
set_option autoImplicit false
set_option maxRecDepth 100000
/-! KM35: the program that the law makes is in the menu. -/
namespace K00
open Mt
section
variable {P : List Nat} {m : Mem}
theorem run_lawProg {r : Rw} {k : Nat} : ∃ (r' : Rw) (p : Prog), p ∈ m5 ∧ run (FS P) (k + 3) ix__law_program [.ref m.length] (MR m r) = .ok (eP p) (MR m r') := by
  let t : Nat × List Nat := (P.getD f__law_program.tab.1 0, f__law_program.tab.2)
  obtain ⟨r1, lo, hlo, h1⟩ := g1 (P := P) (m := m) (k := k) (t := t) (r := r)
  obtain ⟨r2, w, hw, h2⟩ := g2 (P := P) (m := m) (k := k) (t := t) (r := r1) (lo := lo)
  obtain ⟨r3, p2, hp2, h3⟩ := g3 (P := P) (m := m) (k := k) (t := t) (r := r2) (lo := .int (lo : Nat)) (p := [bNum lo w]) (by simp) (s4 := none) (s5 := none) (s6 := none)
  have l2 : p2.length ≤ 2 ∧ p2 ≠ [] := by
    simp at hp2
    rcases hp2 with rfl | rfl <;> simp
  obtain ⟨r4, p3, hp3, h4⟩ := g4 (P := P) (m := m) (k := k) (t := t) (r := r3) (lo := .int (lo : Nat)) (p := p2) (by omega) l2.2 (s4 := none) (s5 := none) (s6 := none)
  have l3 : p3.length ≤ 3 ∧ p3 ≠ [] := by
    rcases List.mem_cons.mp hp3 with rfl | hp3
    · exact ⟨by omega, l2.2⟩
    · obtain ⟨x, hx, rfl⟩ := List.mem_map.mp hp3
      exact ⟨by simp; omega, by simp⟩
  obtain ⟨r5, v, hv, h5⟩ := g5 (P := P) (m := m) (k := k) (t := t) (r := r4) (lo := .int (lo : Nat)) (p := p3) (s4 := none) (s5 := none) (s6 := none)
  have h6 := g6 (P := P) (m := m) (k := k) (t := t) (M := MR m r5) (lo := .int (lo : Nat)) (p := p3) (by omega) (v := v) (s5 := none) (s6 := none)
  have l3' : (if v = 0 then p3 ++ [bTree0] else p3).length ≤ 4 ∧ (if v = 0 then p3 ++ [bTree0] else p3) ≠ [] := by
    split
    · exact ⟨by simp; omega, by simp⟩
    · exact ⟨by omega, l3.2⟩
  obtain ⟨r7, p4, s5, hp4, h7⟩ := g7 (P := P) (m := m) (k := k) (t := t) (r := r5) (lo := .int (lo : Nat)) (p := if v = 0 then p3 ++ [bTree0] else p3) (by omega) l3'.2 (v := v) (s5 := none) (s6 := none)
  have l4 : p4.length ≤ 5 ∧ p4 ≠ [] := by
    rcases hp4 with ⟨_, hp4⟩ | ⟨_, rfl⟩
    · obtain ⟨x, hx, rfl⟩ := List.mem_map.mp hp4
      exact ⟨by rw [List.length_append]; simp; omega, by simp⟩
    · exact ⟨by omega, l3'.2⟩
  obtain ⟨s6, h8⟩ := g8 (P := P) (m := m) (k := k) (t := t) (M := MR m r7) (lo := .int (lo : Nat)) (p := p4) (by omega) l4.2 (v := v) (s5 := s5) (s6 := none)
  have l5 : (if v = 2 then p4 ++ [bPair (lastN p4)] else p4).length ≤ 6 ∧ (if v = 2 then p4 ++ [bPair (lastN p4)] else p4) ≠ [] := by
    split
    · exact ⟨by simp; omega, by simp⟩
    · exact ⟨by omega, l4.2⟩
  obtain ⟨r9, p5, s62, hp5, h9⟩ := g9 (P := P) (m := m) (k := k) (t := t) (r := r7) (lo := .int (lo : Nat)) (p := if v = 2 then p4 ++ [bPair (lastN p4)] else p4) (by omega) l5.2 (s4 := some (.int (v : Nat))) (s5 := s5) (s6 := s6)
  refine ⟨r9, p5, ?_, ?_⟩
  · have e1 : [bNum lo w] ∈ m1 := List.mem_flatMap.mpr ⟨lo, List.mem_range.mpr hlo, List.mem_map.mpr ⟨w, List.mem_range.mpr hw, rfl⟩⟩
    have e2 : p2 ∈ m2 := List.mem_flatMap.mpr ⟨_, e1, hp2⟩
    have e3 : p3 ∈ m3 := List.mem_flatMap.mpr ⟨_, e2, hp3⟩
    have e4 : (if v = 2 then p4 ++ [bPair (lastN p4)] else p4) ∈ m4 := by
      refine List.mem_flatMap.mpr ⟨p3, e3, ?_⟩
      rcases hp4 with ⟨rfl, hp4⟩ | ⟨hv1, rfl⟩
      · rw [if_neg (by omega)] at hp4 ⊢
        simp only [List.mem_cons]
        exact .inr (.inr (.inr hp4))
      · by_cases h0 : v = 0
        · subst h0
          simp
        · rw [if_neg h0]
          by_cases hh : v = 2
          · simp [hh]
          · simp [hh]
    exact List.mem_flatMap.mpr ⟨_, e4, hp5⟩
  · show run (FS P) ((k + 2) + 1) _ _ _ = _
    rw [run_wt (f := f__law_program) rfl]
    apply runF_rtl rfl MR_len
    show es (ctxK (FS P) (k + 2) t) (.seq gS1 (.seq gS2 (.seq gS3 (.seq gS4 (.seq gS5 (.seq gS6 (.seq gS7 (.seq gS8 (.seq gS9 (.ret (.blt .ptuple (.cons (.var 2) .nil)))))))))))) [some (.ref m.length), none, none, none, none, none, none] (MR m r) = _
    rw [es_seq, ySeq_eq, h1, fbind_nx, es_seq, ySeq_eq, h2, fbind_nx, es_seq, ySeq_eq, h3, fbind_nx, es_seq, ySeq_eq, h4, fbind_nx, es_seq, ySeq_eq, h5, fbind_nx, es_seq, ySeq_eq, h6, fbind_nx, es_seq, ySeq_eq, h7, fbind_nx, es_seq, ySeq_eq, h8, fbind_nx, es_seq, ySeq_eq, h9, fbind_nx]
    simp [eW, eP]
end
end K00
end
section
set_option linter.all false
set_option autoImplicit false
set_option maxRecDepth 100000
/-! KM36: what is alike itself. -/
namespace Mt
theorem cNe_bl {m : Mem} {a : Bool} : cNe m (.bl a) (.bl a) = .ok (.bl false) m := by cases a <;> rfl
theorem cEq_bl {m : Mem} {a : Bool} : cEq m (.bl a) (.bl a) = .ok (.bl true) m := by cases a <;> rfl
end Mt
namespace K00
open Mt
inductive AlOk : Nat → D → Prop
  | int (n : Nat) (i : Int) : AlOk n (.int i)
  | bl (n : Nat) (b : Bool) : AlOk n (.bl b)
  | non (n : Nat) : AlOk n .non
  | str (n : Nat) (s : Nm) (h : okS s = true) : AlOk n (.str s)
  | tup (n : Nat) (l : List D) (hl : l.length ≤ 1000) (h : ∀ x ∈ l, AlOk n x) : AlOk (n + 1) (.tup l)
  | lst (n : Nat) (l : List D) (hl : l.length ≤ 1000) (h : ∀ x ∈ l, AlOk n x) : AlOk (n + 1) (.lst l)
theorem AlOk.mono {n : Nat} {d : D} (h : AlOk n d) : ∀ {k : Nat}, n ≤ k → AlOk k d := by
  induction h with
  | int n i => intro k _; exact .int k i
  | bl n b => intro k _; exact .bl k b
  | non n => intro k _; exact .non k
  | str n s h => intro k _; exact .str k s h
  | tup n l hl h ih =>
    intro k hk
    obtain ⟨q, rfl⟩ : ∃ q, k = q + 1 := ⟨k - 1, by omega⟩
    exact .tup q l hl fun x hx => ih x hx (by omega)
  | lst n l hl h ih =>
    intro k hk
    obtain ⟨q, rfl⟩ : ∃ q, k = q + 1 := ⟨k - 1, by omega⟩
    exact .lst q l hl fun x hx => ih x hx (by omega)
section
variable {P : List Nat} {m : Mem}
theorem run_alike {n : Nat} {d : D} (h : AlOk n d) : ∀ (j : Nat), run (FS P) (j + (n + 1)) ix__law_alike [d, d] m = .ok (.bl true) m := by
  induction h with
  | int n i =>
    intro j
    show run (FS P) ((j + n) + 1) _ _ _ = _
    rw [run_wt (f := f__law_alike) rfl]
    apply runF_rt rfl
    have t1 : isTys m (.int i) [.tuple, .list] = some false := rfl
    have t2 : isTys m (.int i) [.str] = some false := rfl
    have t3 : isTys m (.int i) [.int] = some true := rfl
    have t4 : isTys m (.int i) [.bool] = some false := rfl
    have c1 : cIsN m (.int i) .non = .ok (.bl false) m := rfl
    simp [f__law_alike, t1, t2, t3, t4, c1, cEq_bl]
  | bl n b =>
    intro j
    show run (FS P) ((j + n) + 1) _ _ _ = _
    rw [run_wt (f := f__law_alike) rfl]
    apply runF_rt rfl
    have t1 : isTys m (.bl b) [.tuple, .list] = some false := rfl
    have t2 : isTys m (.bl b) [.str] = some false := rfl
    have t3 : isTys m (.bl b) [.int] = some true := rfl
    have t4 : isTys m (.bl b) [.bool] = some true := rfl
    have c1 : cIsN m (.bl b) .non = .ok (.bl false) m := rfl
    simp [f__law_alike, t1, t2, t3, t4, c1, cEq_bl]
  | non n =>
    intro j
    show run (FS P) ((j + n) + 1) _ _ _ = _
    rw [run_wt (f := f__law_alike) rfl]
    exact runF_rt rfl rfl
  | str n s h =>
    intro j
    show run (FS P) ((j + n) + 1) _ _ _ = _
    rw [run_wt (f := f__law_alike) rfl]
    apply runF_rt rfl
    have t1 : isTys m (.str s) [.tuple, .list] = some false := rfl
    have t2 : isTys m (.str s) [.str] = some true := rfl
    have c1 : cIsN m (.str s) .non = .ok (.bl false) m := rfl
    simp [f__law_alike, t1, t2, c1, cEq_bl, cEq_str h h]
  | tup n l hl h ih =>
    intro j
    show run (FS P) ((j + (n + 1)) + 1) _ _ _ = _
    rw [run_wt (f := f__law_alike) rfl]
    apply runF_rt rfl
    have t1 : isTys m (.tup l) [.tuple, .list] = some true := rfl
    have t2 : isTys m (.tup l) [.list] = some false := rfl
    have l1 : lcGo (turn (.tgN 2) (xNot (xCall (run (FS P) (j + (n + 1)) 43) (xCons (x2 idxR (xVar 0) (xVar 2)) (xCons (x2 idxR (xVar 1) (xVar 2)) (xCon (.tup [])))))) (give1 (xVar 2)) [some (.tup l), some (.tup l), none]) ((List.range l.length).map fun i => D.int (0 + (i : Nat))) [] m = .ok (((List.range l.length).filter fun _ => false).map fun i => D.int (i : Nat)) m := by
      refine lcGo_filter (h := fun i : Nat => D.int (0 + (i : Nat))) (g := fun i : Nat => D.int (i : Nat)) (p := fun _ => false) (fun i hi => ?_) (by simp; unfold lineN; omega)
      have hi := List.mem_range.mp hi
      have ix : idxR m (.tup l) (.int (i : Nat)) = .ok l[i] m := idx_tupN (List.getElem?_eq_getElem hi)
      have r := ih l[i] (List.getElem_mem _) j
      simp [asg_N, ix, r]
    have hrg := rng1_int (m := m) (n := l.length) (by omega)
    rw [rngL_eq] at hrg
    have hnil : cEq m (.lst []) (.lst []) = .ok (.bl true) m := rfl
    have hf : ((List.range l.length).filter fun _ => false) = [] := List.filter_eq_nil_iff.mpr fun _ _ => by simp
    rw [hf] at l1
    simp at l1 hrg
    simp [f__law_alike, t1, t2, cNe_bl, hrg, l1, hnil]
  | lst n l hl h ih =>
    intro j
    show run (FS P) ((j + (n + 1)) + 1) _ _ _ = _
    rw [run_wt (f := f__law_alike) rfl]
    apply runF_rt rfl
    have t1 : isTys m (.lst l) [.tuple, .list] = some true := rfl
    have t2 : isTys m (.lst l) [.list] = some true := rfl
    have l1 : lcGo (turn (.tgN 2) (xNot (xCall (run (FS P) (j + (n + 1)) 43) (xCons (x2 idxR (xVar 0) (xVar 2)) (xCons (x2 idxR (xVar 1) (xVar 2)) (xCon (.tup [])))))) (give1 (xVar 2)) [some (.lst l), some (.lst l), none]) ((List.range l.length).map fun i => D.int (0 + (i : Nat))) [] m = .ok (((List.range l.length).filter fun _ => false).map fun i => D.int (i : Nat)) m := by
      refine lcGo_filter (h := fun i : Nat => D.int (0 + (i : Nat))) (g := fun i : Nat => D.int (i : Nat)) (p := fun _ => false) (fun i hi => ?_) (by simp; unfold lineN; omega)
      have hi := List.mem_range.mp hi
      have ix : idxR m (.lst l) (.int (i : Nat)) = .ok l[i] m := idx_lstN (List.getElem?_eq_getElem hi)
      have r := ih l[i] (List.getElem_mem _) j
      simp [asg_N, ix, r]
    have hrg := rng1_int (m := m) (n := l.length) (by omega)
    rw [rngL_eq] at hrg
    have hnil : cEq m (.lst []) (.lst []) = .ok (.bl true) m := rfl
    have hf : ((List.range l.length).filter fun _ => false) = [] := List.filter_eq_nil_iff.mpr fun _ _ => by simp
    rw [hf] at l1
    simp at l1 hrg
    simp [f__law_alike, t1, t2, cNe_bl, hrg, l1, hnil]
end
theorem valK_al {p : Prog} (hp : WfP p) {k : Nm} {n : Nat} (hn : n ≤ 100) : ∀ x ∈ valK p k n, x.1 = n ∧ AlOk (2 * x.1) x.2.1 := fun x hx => by
  refine tg_ind hp (Q := fun _ x => AlOk (2 * x.1) x.2.1) (fun kd lo hi i hl h1 h2 => ?_) (fun kd k' l hl h hlen => ?_) (fun kd ms mk a l hl hm h => ?_) n hn k n x hx
  · exact .int _ _
  · refine AlOk.tup (2 * sizes l + 1) _ (by simp; omega) fun x hx => ?_
    obtain ⟨y, hy, rfl⟩ := List.mem_map.mp hx
    have := sizes_le y hy
    exact (h y hy).mono (by omega)
  · have hmk : MkOk ms (names p) := hp.bd hl
    have hmem : (mk, l.map (·.1)) ∈ ms := List.mem_of_getElem? hm
    have hw := hmk.w _ hmem
    have hlen : l.length ≤ 4 := by have := hw.2.2.1; simpa using this
    refine AlOk.tup (2 * sizesF l + 1) _ (by simp) fun x hx => ?_
    simp at hx
    rcases hx with rfl | rfl
    · exact .str _ _ hw.2.1
    · refine AlOk.tup (2 * sizesF l) _ (by simp; omega) fun x hx => ?_
      obtain ⟨y, hy, rfl⟩ := List.mem_map.mp hx
      have := sizesF_le y hy
      exact (h y hy).mono (by omega)
end K00
end
section
set_option linter.all false
set_option autoImplicit false
set_option maxRecDepth 100000
/-! KM37: _law_some; size, comes_before, is_value. -/
namespace K00
open Mt
theorem Pl.mono {n k : Nat} {v : D} (h : Pl n v) (hk : n ≤ k) : Pl k v := ⟨h.p, by have := h.d; omega, h.b⟩
structure WhOk (p : Prog) (kd : Nm) (n0 : Nat) (W : List Pt) : Prop where
  ex : ∃ rest, W = valK p kd n0 ++ rest ∧ ∀ x ∈ rest, n0 < x.1
  all : ∀ x ∈ W, 1 ≤ x.1 ∧ x.1 ≤ 8 ∧ x ∈ valK p kd x.1
section
variable {P : List Nat} {p : Prog} {m : Mem}
theorem fitW (hp : WfP p) {kd : Nm} {W : List Pt} (h : ∀ x ∈ W, 1 ≤ x.1 ∧ x.1 ≤ 8 ∧ x ∈ valK p kd x.1) : fit (.lst (W.map fun x => x.2.1)) = true := fit_vals (n := 8) (by omega) fun r hr => by
  obtain ⟨x, hx, rfl⟩ := List.mem_map.mp hr
  obtain ⟨h1, h2, h3⟩ := h x hx
  have : x.2.1 ∈ vals p kd x.1 := by rw [vals_valK]; exact List.mem_map_of_mem (f := fun x : Pt => x.2.1) h3
  exact (pl_vals hp x.1 kd _ this).mono h2
theorem run_some (hp : WfP p) (hb : Bd p 8) (hg : GoodM m) {kd : Nm} (hk : kd ∈ names p) {n0 : Nat} (h1 : 1 ≤ n0) (h3 : n0 ≤ 3) (hz : ∀ i < n0, cv p kd i = 0) (hpos : cv p kd n0 ≠ 0) {k : Nat} : ∃ W, WhOk p kd n0 W ∧ W.length ≤ lineN ∧ run (FS P) (k + 19) ix__law_some [eP p, .str kd, .int 60] m = .ok (.lst (W.map fun x => x.2.1)) m := by
  have hne0 : valK p kd n0 ≠ [] := fun e => hpos (by rw [cv_len, e]; rfl)
  have hlv : ∀ a, 1 ≤ a → a ≤ 8 → run (FS P) (k + 18) 47 [eP p, .str kd, .int (a : Nat)] m = .ok (.lst ((valK p kd a).map fun x => x.2.1)) m := fun a ha1 ha8 => by
    have := (run_lawV (P := P) (m := m) hg hp hb a ha8).1 kd hk (k + (16 - 2 * a))
    rw [show k + (16 - 2 * a) + (2 * a + 2) = k + 18 by omega, vals_valK] at this
    exact this
  have hmem : ∀ a, 1 ≤ a → a ≤ 8 → ∀ x ∈ valK p kd a, 1 ≤ x.1 ∧ x.1 ≤ 8 ∧ x ∈ valK p kd x.1 := fun a ha1 ha8 x hx => by
    have := (valK_ky hp (by omega) x hx).1
    rw [this]
    exact ⟨ha1, ha8, hx⟩
  let b : Y := es (ctxK (FS P) (k + 18) (P.getD 0 0, [])) (.seq (.asg (.tgN 5) (.ite (.or (.cmp .eq (.var 3) (.lst .nil)) (.cmp .lt (.var 4) (.con (.int 9)))) (.call 47 (.cons (.var 0) (.cons (.var 1) (.cons (.var 4) .nil)))) (.lst .nil)))
    (.seq (.ite (.and (.cmp .ne (.var 3) (.lst .nil)) (.cmp .gt (.bin .add (.blt .len (.cons (.var 3) .nil)) (.blt .len (.cons (.var 5) .nil))) (.var 2)))
    (.ret (.var 3))
    .skip)
    (.asg (.tgN 3) (.bin .add (.var 3) (.var 5)))))
  have hloop : ∀ (d i : Nat) (found : List Pt) (s4 s5 : Option D), i + d = 15 → ((found = [] ∧ ∀ j ≤ i, cv p kd j = 0) ∨ (WhOk p kd n0 found ∧ n0 ≤ i)) → found.length ≤ lineN → ∃ W, WhOk p kd n0 W ∧ W.length ≤ lineN ∧ (forGo (.tgN 4) b ((List.range' i d).map fun i => D.int (1 + (i : Nat))) [some (eP p), some (.str kd), some (.int 60), some (.lst (found.map fun x => x.2.1)), s4, s5] m = .rt (.lst (W.map fun x => x.2.1)) m ∨ ∃ s4' s5', forGo (.tgN 4) b ((List.range' i d).map fun i => D.int (1 + (i : Nat))) [some (eP p), some (.str kd), some (.int 60), some (.lst (found.map fun x => x.2.1)), s4, s5] m = .nx [some (eP p), some (.str kd), some (.int 60), some (.lst (W.map fun x => x.2.1)), s4', s5'] m) := by
    intro d
    induction d with
    | zero =>
      intro i found s4 s5 hi hinv hlen
      rcases hinv with ⟨rfl, hj⟩ | ⟨hw, _⟩
      · exact absurd (hj n0 (by omega)) hpos
      · exact ⟨found, hw, hlen, .inr ⟨s4, s5, rfl⟩⟩
    | succ d ih =>
      intro i found s4 s5 hi hinv hlen
      have hun : ∀ e, forGo (.tgN 4) b ((List.range' i (d + 1)).map fun i => D.int (1 + (i : Nat))) e m = (match assign (.tgN 4) (.int (1 + (i : Nat))) e with
        | none => F.bad 80
        | some e' => match b e' m with
          | .nx e2 m2 => forGo (.tgN 4) b ((List.range' (i + 1) d).map fun i => D.int (1 + (i : Nat))) e2 m2
          | .ct e2 m2 => forGo (.tgN 4) b ((List.range' (i + 1) d).map fun i => D.int (1 + (i : Nat))) e2 m2
          | .bk e2 m2 => .nx e2 m2
          | .rt d2 m2 => .rt d2 m2
          | .exc c fs e2 m2 => .exc c fs e2 m2
          | .bad w => .bad w) := fun e => rfl
      have e3 : (1 + (i : Int)) = ((i + 1 : Nat) : Int) := by omega
      rcases hinv with ⟨rfl, hj⟩ | ⟨hw, hi0⟩
      · have hin : i < n0 := by
          rcases Nat.lt_or_ge i n0 with h | h
          · exact h
          · exact absurd (hj n0 h) hpos
        have r := hlv (i + 1) (by omega) (by omega)
        have hlen2 : (valK p kd (i + 1)).length ≤ lineN := by rw [← cv_len]; exact hb.v _ (by omega) kd
        have ba : bAdd m (.lst []) (.lst ((valK p kd (i + 1)).map fun x => x.2.1)) = .ok (.lst ((valK p kd (i + 1)).map fun x => x.2.1)) m := by
          rw [bAdd_lst (by simpa using hlen2)]
          rfl
        have c0 : cEq m (.lst []) (.lst []) = .ok (.bl true) m := rfl
        have c1 : cNe m (.lst []) (.lst []) = .ok (.bl false) m := rfl
        have hb1 : b [some (eP p), some (.str kd), some (.int 60), some (.lst []), some (.int (1 + (i : Nat))), s5] m = .nx [some (eP p), some (.str kd), some (.int 60), some (.lst ((valK p kd (i + 1)).map fun x => x.2.1)), some (.int (1 + (i : Nat))), some (.lst ((valK p kd (i + 1)).map fun x => x.2.1))] m := by
          show es _ _ _ _ = _
          rw [e3]
          simp only [es_seq, ySeq_eq, es_asg, yAsg_eq, ev_ite, xIte_eq, ev_or, xOr_eq, ev_cmp, x2_eq, ev_var, xVar_s, xVar_0, bnd_ok, ev_lst, xLst_eq, ev_nil, xCon_ok, cop_eq, show Nat.ble ([] : List D).length lineN = true from rfl, if_true, c0, truth_bl, ev_call, xCall_eq, ev_cons, xCons_eq, ctxK_call, r, toF_ok]
          simp [asg_N, c1, ba]
        have hinv' : ((valK p kd (i + 1)) = [] ∧ ∀ j ≤ i + 1, cv p kd j = 0) ∨ (WhOk p kd n0 (valK p kd (i + 1)) ∧ n0 ≤ i + 1) := by
          rcases Nat.lt_or_ge (i + 1) n0 with h | h
          · left
            have hz1 := hz (i + 1) h
            refine ⟨List.eq_nil_of_length_eq_zero (by rw [← cv_len]; exact hz1), fun j hj => ?_⟩
            exact hz j (by omega)
          · right
            have : i + 1 = n0 := by omega
            subst this
            exact ⟨⟨⟨[], by simp, fun x hx => by cases hx⟩, hmem _ (by omega) (by omega)⟩, Nat.le_refl _⟩
        obtain ⟨W, w1, w2, w3⟩ := ih (i + 1) (valK p kd (i + 1)) (some (.int (1 + (i : Nat)))) (some (.lst ((valK p kd (i + 1)).map fun x => x.2.1))) (by omega) hinv' hlen2
        refine ⟨W, w1, w2, ?_⟩
        rw [hun]
        have ha : assign (.tgN 4) (.int (1 + (i : Nat))) [some (eP p), some (.str kd), some (.int 60), some (.lst (([] : List Pt).map fun x => x.2.1)), s4, s5] = some [some (eP p), some (.str kd), some (.int 60), some (.lst []), some (.int (1 + (i : Nat))), s5] := by simp [asg_N]
        rw [ha]
        dsimp only
        rw [hb1]
        exact w3
      · have hfit := fitW hp hw.all
        obtain ⟨rest, hrest, hr2⟩ := hw.ex
        have hne : found.isEmpty = false := by
          rw [hrest]
          cases hvk : valK p kd n0 with
          | nil => exact absurd hvk hne0
          | cons => rfl
        have hne' : (found.map fun x => x.2.1).isEmpty = false := by
          cases found with
          | nil => cases hne
          | cons => rfl
        have c0 := cEq_nilL (m := m) hfit
        have c1 := cNe_nil (m := m) hfit
        rw [hne'] at c0 c1
        let more : List Pt := if i + 1 < 9 then valK p kd (i + 1) else []
        have hmall : ∀ x ∈ more, 1 ≤ x.1 ∧ x.1 ≤ 8 ∧ x ∈ valK p kd x.1 := by
          intro x hx
          by_cases h9 : i + 1 < 9
          · have hx : x ∈ valK p kd (i + 1) := by simpa [more, h9] using hx
            exact hmem _ (by omega) (by omega) x hx
          · simp [more, h9] at hx
        have hmgt : ∀ x ∈ more, n0 < x.1 := by
          intro x hx
          by_cases h9 : i + 1 < 9
          · have hx : x ∈ valK p kd (i + 1) := by simpa [more, h9] using hx
            have := (valK_ky hp (by omega) x hx).1
            omega
          · simp [more, h9] at hx
        have hmore : ∀ e0, ev (ctxK (FS P) (k + 18) (P.getD 0 0, [])) (.ite (.or (.cmp .eq (.var 3) (.lst .nil)) (.cmp .lt (.var 4) (.con (.int 9)))) (.call 47 (.cons (.var 0) (.cons (.var 1) (.cons (.var 4) .nil)))) (.lst .nil)) [some (eP p), some (.str kd), some (.int 60), some (.lst (found.map fun x => x.2.1)), some (.int ((i + 1 : Nat) : Int)), e0] m = .ok (.lst (more.map fun x => x.2.1)) m := by
          intro e0
          by_cases h9 : i + 1 < 9
          · have r := hlv (i + 1) (by omega) (by omega)
            have h9' : ((i + 1 : Nat) : Int) < 9 := by omega
            simp only [ev_ite, xIte_eq, ev_or, xOr_eq, ev_cmp, x2_eq, ev_var, xVar_s, xVar_0, bnd_ok, ev_lst, xLst_eq, ev_nil, xCon_ok, cop_eq, show Nat.ble ([] : List D).length lineN = true from rfl, if_true, c0, truth_bl, ev_con, cop_lt, cLt_int, h9', decide_true, ev_call, xCall_eq, ev_cons, xCons_eq, ctxK_call, r]
            simp [more, h9]
          · have h9' : ¬ ((i + 1 : Nat) : Int) < 9 := by omega
            simp only [ev_ite, xIte_eq, ev_or, xOr_eq, ev_cmp, x2_eq, ev_var, xVar_s, xVar_0, bnd_ok, ev_lst, xLst_eq, ev_nil, xCon_ok, cop_eq, show Nat.ble ([] : List D).length lineN = true from rfl, if_true, c0, truth_bl, ev_con, cop_lt, cLt_int, h9', decide_false]
            simp [more, h9]
        have ha : assign (.tgN 4) (.int (1 + (i : Nat))) [some (eP p), some (.str kd), some (.int 60), some (.lst (found.map fun x => x.2.1)), s4, s5] = some [some (eP p), some (.str kd), some (.int 60), some (.lst (found.map fun x => x.2.1)), some (.int ((i + 1 : Nat) : Int)), s5] := by rw [e3]; simp [asg_N]
        by_cases h60 : 60 < found.length + more.length
        · have hb1 : b [some (eP p), some (.str kd), some (.int 60), some (.lst (found.map fun x => x.2.1)), some (.int ((i + 1 : Nat) : Int)), s5] m = .rt (.lst (found.map fun x => x.2.1)) m := by
            show es _ _ _ _ = _
            have h60' : (60 : Int) < (found.length : Int) + (more.length : Int) := by omega
            rw [es_seq, ySeq_eq, es_asg, yAsg_eq, hmore]
            simp [asg_N, c1, h60']
          refine ⟨found, hw, hlen, .inl ?_⟩
          rw [hun, ha]
          dsimp only
          rw [hb1]
        · have ba : bAdd m (.lst (found.map fun x => x.2.1)) (.lst (more.map fun x => x.2.1)) = .ok (.lst ((found ++ more).map fun x => x.2.1)) m := by
            rw [bAdd_lst (by simp; unfold lineN; omega)]
            simp
          have hb1 : b [some (eP p), some (.str kd), some (.int 60), some (.lst (found.map fun x => x.2.1)), some (.int ((i + 1 : Nat) : Int)), s5] m = .nx [some (eP p), some (.str kd), some (.int 60), some (.lst ((found ++ more).map fun x => x.2.1)), some (.int ((i + 1 : Nat) : Int)), some (.lst (more.map fun x => x.2.1))] m := by
            show es _ _ _ _ = _
            have h60' : ¬ (60 : Int) < (found.length : Int) + (more.length : Int) := by omega
            rw [es_seq, ySeq_eq, es_asg, yAsg_eq, hmore]
            simp [asg_N, c1, h60']
            rw [ba]
            simp
          have hw' : WhOk p kd n0 (found ++ more) := ⟨⟨rest ++ more, by rw [hrest]; simp, fun x hx => by
            rcases List.mem_append.mp hx with hx | hx
            · exact hr2 x hx
            · exact hmgt x hx⟩, fun x hx => by
            rcases List.mem_append.mp hx with hx | hx
            · exact hw.all x hx
            · exact hmall x hx⟩
          obtain ⟨W, w1, w2, w3⟩ := ih (i + 1) (found ++ more) (some (.int ((i + 1 : Nat) : Int))) (some (.lst (more.map fun x => x.2.1))) (by omega) (.inr ⟨hw', by omega⟩) (by simp; unfold lineN; omega)
          refine ⟨W, w1, w2, ?_⟩
          rw [hun, ha]
          dsimp only
          rw [hb1]
          exact w3
  obtain ⟨W, w1, w2, w3⟩ := hloop 15 0 [] none none rfl (.inl ⟨rfl, fun j hj => by
    have : j = 0 := by omega
    subst this
    rfl⟩) (Nat.zero_le _)
  refine ⟨W, w1, w2, ?_⟩
  show run (FS P) ((k + 18) + 1) _ _ _ = _
  rw [run_wt (f := f__law_some) rfl]
  apply runF_rt rfl
  have hrg : rngR m (.int 1) (.int 16) = .ok (.tup ((List.range' 0 15).map fun i => D.int (1 + (i : Nat)))) m := rfl
  have hbase : es (ctxK (FS P) (k + 18) (P.getD f__law_some.tab.1 0, f__law_some.tab.2)) f__law_some.body [some (eP p), some (.str kd), some (.int 60), none, none, none] m = (forGo (.tgN 4) b ((List.range' 0 15).map fun i => D.int (1 + (i : Nat))) [some (eP p), some (.str kd), some (.int 60), some (.lst []), none, none] m).bind (yRet (xVar 3)) := by
    rfl
  show es _ _ [some (eP p), some (.str kd), some (.int 60), none, none, none] m = _
  rw [hbase]
  rcases w3 with w3 | ⟨s4', s5', w3⟩
  · have w3 : forGo (.tgN 4) b ((List.range' 0 15).map fun i => D.int (1 + (i : Nat))) [some (eP p), some (.str kd), some (.int 60), some (.lst []), none, none] m = _ := w3
    rw [w3]
    rfl
  · have w3 : forGo (.tgN 4) b ((List.range' 0 15).map fun i => D.int (1 + (i : Nat))) [some (eP p), some (.str kd), some (.int 60), some (.lst []), none, none] m = _ := w3
    rw [w3]
    rfl
theorem run_needV (hp : WfP p) (hg : GoodM m) {kd : Nm} (hk : kd ∈ names p) {x : Pt} (hx : VOk P p kd x) (h8 : x.1 ≤ 20) {k : Nat} : run (FS P) (k + 30) ix_need_value [eP p, .str kd, x.2.1] m = .ok .non m := by
  show run (FS P) ((k + 29) + 1) _ _ _ = _
  rw [run_wt (f := f_need_value) rfl]
  have r1 : run (FS P) (k + 29) 9 [eP p, .str kd] m = .ok .non m := run_needK (k := k + 24) hg hp hk
  have r2 := hx.iv (k + (27 - x.1)) m
  rw [show k + (27 - x.1) + (x.1 + 2) = k + 29 by omega] at r2
  refine runF_nx (e := [some (eP p), some (.str kd), some x.2.1]) rfl ?_
  simp [f_need_value, r1, r2]
theorem run_isValue (hp : WfP p) (hg : GoodM m) {kd : Nm} (hk : kd ∈ names p) {x : Pt} (hx : VOk P p kd x) (h8 : x.1 ≤ 20) {k : Nat} : run (FS P) (k + 30) ix_is_value [eP p, .str kd, x.2.1] m = .ok (.bl true) m := by
  show run (FS P) ((k + 29) + 1) _ _ _ = _
  rw [run_wt (f := f_is_value) rfl]
  apply runF_rt rfl
  have r1 : run (FS P) (k + 29) 9 [eP p, .str kd] m = .ok .non m := run_needK (k := k + 24) hg hp hk
  have r2 := hx.iv (k + (27 - x.1)) m
  rw [show k + (27 - x.1) + (x.1 + 2) = k + 29 by omega] at r2
  simp [f_is_value, r1, r2]
theorem run_size (hp : WfP p) (hg : GoodM m) {kd : Nm} (hk : kd ∈ names p) {x : Pt} (hx : VOk P p kd x) (h8 : x.1 ≤ 20) {k : Nat} : run (FS P) (k + 31) ix_size [eP p, .str kd, x.2.1] m = .ok (.int (x.1 : Nat)) m := by
  show run (FS P) ((k + 30) + 1) _ _ _ = _
  rw [run_wt (f := f_size) rfl]
  apply runF_rt rfl
  have r1 : run (FS P) (k + 30) 21 [eP p, .str kd, x.2.1] m = .ok .non m := run_needV hp hg hk hx h8
  have r2 := hx.s.sz (k + (29 - x.1)) m
  rw [show k + (29 - x.1) + (x.1 + 1) = k + 30 by omega] at r2
  simp [f_size, r1, r2]
theorem cLt_ky {x y : Pt} (hx : KyOk x) (hy : KyOk y) (h1 : x.1 ≤ 20) (h2 : y.1 ≤ 20) : cLt m (ky x) (ky y) = .ok (.bl (ltP x y)) m := by
  show (if alikeD (ky x) (ky y) && fit (ky x) && fit (ky y) then R.ok (D.bl (ltD (ky x) (ky y))) m else .bad 11) = _
  rw [alike_key hx.k hy.k, fit_ky hx (by omega), fit_ky hy (by omega)]
  rfl
theorem run_before (hp : WfP p) (hg : GoodM m) {kd : Nm} (hk : kd ∈ names p) {x y : Pt} (hx : VOk P p kd x) (hy : VOk P p kd y) (kx : KyOk x) (ky' : KyOk y) (h8 : x.1 ≤ 20) (h9 : y.1 ≤ 20) {k : Nat} : run (FS P) (k + 31) ix_comes_before [eP p, .str kd, x.2.1, y.2.1] m = .ok (.bl (ltP x y)) m := by
  show run (FS P) ((k + 30) + 1) _ _ _ = _
  rw [run_wt (f := f_comes_before) rfl]
  apply runF_rt rfl
  have r1 : run (FS P) (k + 30) 21 [eP p, .str kd, x.2.1] m = .ok .non m := run_needV hp hg hk hx h8
  have r2 : run (FS P) (k + 30) 21 [eP p, .str kd, y.2.1] m = .ok .non m := run_needV hp hg hk hy h9
  have r3 := hx.s.sz (k + (29 - x.1)) m
  rw [show k + (29 - x.1) + (x.1 + 1) = k + 30 by omega] at r3
  have r4 := hy.s.sz (k + (29 - y.1)) m
  rw [show k + (29 - y.1) + (y.1 + 1) = k + 30 by omega] at r4
  have r5 := hx.key (k + (28 - x.1)) m
  rw [show k + (28 - x.1) + (x.1 + 2) = k + 30 by omega] at r5
  have r6 := hy.key (k + (28 - y.1)) m
  rw [show k + (28 - y.1) + (y.1 + 2) = k + 30 by omega] at r6
  have b2 := b_le (n := 2) (by omega)
  have c := cLt_ky (m := m) kx ky' h8 h9
  unfold ky at c
  simp [f_comes_before, r1, r2, r3, r4, r5, r6, b2, c]
end
end K00
end
section
set_option linter.all false
set_option autoImplicit false
set_option maxRecDepth 100000
/-! KM38: the law. -/
namespace Mt
theorem insG_app {α : Type} {lt : α → α → Bool} {p : α} {B : List α} (h : ∀ q ∈ B, lt q p = false) : ∀ {A : List α}, insG lt p (A ++ B) = insG lt p A ++ B
  | [] => by
    cases B with
    | nil => rfl
    | cons q r =>
      have := h q (by simp)
      show (match lt q p with
        | true => q :: insG lt p r
        | false => p :: q :: r) = _
      rw [this]
      rfl
  | a :: A => by
    show (match lt a p with
      | true => a :: insG lt p (A ++ B)
      | false => p :: a :: (A ++ B)) = (match lt a p with
      | true => a :: insG lt p A
      | false => p :: a :: A) ++ B
    rw [insG_app h]
    cases lt a p <;> rfl
theorem isortG_app {α : Type} {lt : α → α → Bool} {B : List α} : ∀ {A : List α}, (∀ a ∈ A, ∀ b ∈ B, lt b a = false) → isortG lt (A ++ B) = isortG lt A ++ isortG lt B
  | [], _ => rfl
  | a :: A, h => by
    show insG lt a (isortG lt (A ++ B)) = insG lt a (isortG lt A) ++ isortG lt B
    rw [isortG_app fun x hx => h x (by simp [hx]), insG_app fun q hq => h a (by simp) q (mem_isortG.mp hq)]
end Mt
namespace K00
open Mt
theorem ltP_size {a b : Pt} (h : a.1 < b.1) : ltP b a = false := by
  show (match eqv (.int (b.1 : Nat)) (.int (a.1 : Nat)) with
    | true => _
    | false => ltD (.int (b.1 : Nat)) (.int (a.1 : Nat))) = false
  have h2 : eqv (.int (b.1 : Nat)) (.int (a.1 : Nat)) = false := by
    show intEq _ _ = false
    rw [intEq_dec]
    exact decide_eq_false (by omega)
  rw [h2]
  show decide _ = false
  exact decide_eq_false (by omega)
abbrev lS1 : S := .asg (.tgN 1) (.cellL (.cons (.var 0) (.cons (.con (.int 0)) (.cons (.con (.int 8300)) (.cons (.con (.int 0)) .nil)))))
abbrev lS2 : S := .asg (.tgN 2) (.call 42 (.cons (.var 1) .nil))
abbrev lS3 : S := .asg (.tgN 3) (.lc (.idx (.var 4) (.con (.int 0))) (.tgN 4) (.var 2) (.con (.bl true)))
abbrev lS4 : S := .ite (.not (.call 43 (.cons (.call 11 (.cons (.var 2) .nil)) (.cons (.blt .tuple (.cons (.var 3) .nil)) .nil))))
    (.ret (.con (.bl false)))
    .skip
abbrev lS5 : S := .asg (.tgT (.cons (.tgN 4) (.cons (.tgN 5) .nil))) (.tup (.cons (.call 41 (.cons (.var 1) (.cons (.var 3) .nil))) (.cons (.bin .add (.con (.int 1)) (.call 40 (.cons (.var 1) (.cons (.con (.int 6)) .nil)))) .nil)))
abbrev lS6 : S := .asg (.tgN 6) (.call 47 (.cons (.var 2) (.cons (.var 4) (.cons (.var 5) .nil))))
abbrev lS7 : S := .ite (.not (.call 43 (.cons (.call 30 (.cons (.var 2) (.cons (.var 4) (.cons (.var 5) .nil)))) (.cons (.blt .len (.cons (.var 6) .nil)) .nil))))
    (.ret (.con (.bl false)))
    .skip
abbrev lS8 : S := .asg (.tgN 7) (.call 39 (.cons (.var 2) (.cons (.var 4) (.cons (.var 6) .nil))))
abbrev lS9 : S := .ite (.and (.cmp .le (.blt .len (.cons (.var 6) .nil)) (.con (.int 400))) (.not (.call 43 (.cons (.call 34 (.cons (.var 2) (.cons (.var 4) (.cons (.var 5) .nil)))) (.cons (.var 7) .nil)))))
    (.ret (.con (.bl false)))
    .skip
abbrev lS10 : S := .asg (.tgN 8) (.call 50 (.cons (.var 2) (.cons (.var 4) (.cons (.con (.int 60)) .nil))))
abbrev lS11 : S := .asg (.tgN 9) (.blt .sorted (.cons (.lc (.tup (.cons (.call 49 (.cons (.var 2) (.cons (.var 4) (.cons (.var 11) .nil)))) (.cons (.var 10) .nil))) (.tgT (.cons (.tgN 10) (.cons (.tgN 11) .nil))) (.enm (.var 8)) (.con (.bl true))) .nil))
abbrev lS12 : S := .ite (.not (.call 43 (.cons (.call 38 (.cons (.var 2) (.cons (.var 4) .nil))) (.cons (.idx (.var 8) (.idx (.idx (.var 9) (.con (.int 0))) (.con (.int 1)))) .nil))))
    (.ret (.con (.bl false)))
    .skip
abbrev lS13 : S := .asg (.tgT (.cons (.tgN 12) (.cons (.tgN 13) .nil))) (.tup (.cons (.call 41 (.cons (.var 1) (.cons (.var 8) .nil))) (.cons (.call 41 (.cons (.var 1) (.cons (.var 8) .nil))) .nil)))
abbrev lS14 : S := .asg (.tgN 14) (.lst (.cons (.call 48 (.cons (.var 12) .nil)) (.cons (.cmp .lt (.call 49 (.cons (.var 2) (.cons (.var 4) (.cons (.var 12) .nil)))) (.call 49 (.cons (.var 2) (.cons (.var 4) (.cons (.var 13) .nil))))) (.cons (.con (.bl true)) .nil))))
abbrev lS15 : S := .ite (.not (.call 43 (.cons (.lst (.cons (.call 23 (.cons (.var 2) (.cons (.var 4) (.cons (.var 12) .nil)))) (.cons (.call 26 (.cons (.var 2) (.cons (.var 4) (.cons (.var 12) (.cons (.var 13) .nil))))) (.cons (.call 20 (.cons (.var 2) (.cons (.var 4) (.cons (.var 12) .nil)))) .nil)))) (.cons (.var 14) .nil))))
    (.ret (.con (.bl false)))
    .skip
abbrev lS16 : S := .asg (.tgN 15) (.lc (.var 16) (.tgN 16) (.rng (.con (.int 7)) (.con (.int 22))) (.cmp .gt (.call 30 (.cons (.var 2) (.cons (.var 4) (.cons (.var 16) .nil)))) (.con (.int 0))))
abbrev lS17 : S := .asg (.tgN 17) (.blt .sum (.cons (.lc (.call 30 (.cons (.var 2) (.cons (.var 4) (.cons (.var 16) .nil)))) (.tgN 16) (.rng (.con (.int 1)) (.con (.int 22))) (.con (.bl true))) .nil))
abbrev lS18 : S := .asg (.tgN 18) (.cmp .isnone (.call 17 (.cons (.var 2) (.cons (.var 4) .nil))) (.con .non))
abbrev lS19 : S := .ite (.or (.cmp .ne (.call 15 (.cons (.var 2) (.cons (.var 4) .nil))) (.var 18)) (.and (.not (.var 18)) (.cmp .ne (.call 17 (.cons (.var 2) (.cons (.var 4) .nil))) (.var 17))))
    (.ret (.con (.bl false)))
    .skip
abbrev lS20 : S := .ret (.or (.not (.var 18)) (.cmp .ne (.var 15) (.lst .nil)))
section
variable {P : List Nat} {m : Mem}
theorem fit_ints {W : List Int} : fit (.lst (W.map .int)) = true := by
  unfold fit
  rw [Bool.and_eq_true, Nat.ble_eq]
  constructor
  · show plains (W.map .int) = true
    rw [plains_iff]
    intro x hx
    obtain ⟨y, _, rfl⟩ := List.mem_map.mp hx
    rfl
  · show deeps (W.map .int) + 1 ≤ 64
    have : deeps (W.map .int) ≤ 0 := deeps_le fun x hx => by
      obtain ⟨y, _, rfl⟩ := List.mem_map.mp hx
      exact Nat.le_refl _
    omega
theorem law_run (hm : m.all (belowO 0) = true) (ht : TabIn P m) (ns : List Int) : ∃ m', run (FS P) 230 51 [.scr (ns.map .int)] m = .ok (.bl true) m' := by
  let t : Nat × List Nat := (P.getD f_law.tab.1 0, f_law.tab.2)
  let r0 : Rw := ⟨ns, 0, 8300, 0⟩
  have hall : ∀ r : Rw, (MR m r).all (belowO 0) = true := fun r => by
    unfold MR
    rw [List.all_append, hm]
    have : belowO 0 (some (.lst r.d)) = true := by
      refine belows_all (l := r.d) fun x hx => ?_
      unfold Rw.d at hx
      simp at hx
      rcases hx with rfl | rfl | rfl | rfl
      · refine belows_all (l := r.ns.map .int) fun x hx => ?_
        obtain ⟨y, _, rfl⟩ := List.mem_map.mp hx
        rfl
      · rfl
      · rfl
      · rfl
    simp only [List.all_cons, List.all_nil, this, Bool.and_true]
  have hgood : ∀ r : Rw, GoodM (MR m r) := fun r => good0 (hall r)
  have htab : ∀ r : Rw, TabIn P (MR m r) := fun r => ht.app
  -- the program
  obtain ⟨r1, p, hp5, hprog⟩ := run_lawProg (P := P) (m := m) (r := r0) (k := 226)
  have hprog : run (FS P) 229 42 [.ref m.length] (MR m r0) = .ok (eP p) (MR m r1) := hprog
  have mo := menu_ok hp5
  have hp := mo.pg.wf
  have h8 := hp.n8
  have h1 := hp.n1
  have s1 : es (ctxK (FS P) 229 t) lS1 [some (.scr (ns.map .int)), none, none, none, none, none, none, none, none, none, none, none, none, none, none, none, none, none, none] m = .nx [some (.scr (ns.map .int)), some (.ref m.length), none, none, none, none, none, none, none, none, none, none, none, none, none, none, none, none, none] (MR m r0) := by
    have b4 := b_le (n := 4) (by omega)
    simp [b4, asg_N, MR, Rw.d, r0]
  have s2 : es (ctxK (FS P) 229 t) lS2 [some (.scr (ns.map .int)), some (.ref m.length), none, none, none, none, none, none, none, none, none, none, none, none, none, none, none, none, none] (MR m r0) = .nx [some (.scr (ns.map .int)), some (.ref m.length), some (eP p), none, none, none, none, none, none, none, none, none, none, none, none, none, none, none, none] (MR m r1) := by
    simp [hprog, asg_N]
  have hnl : lcGo (turn (.tgN 4) (xCon (.bl true)) (give1 (x2 idxR (xVar 4) (xCon (.int 0)))) [some (.scr (ns.map .int)), some (.ref m.length), some (eP p), none, none, none, none, none, none, none, none, none, none, none, none, none, none, none, none]) (p.map eK) [] (MR m r1) = .ok ((names p).map .str) (MR m r1) := by
    rw [← nameS]
    refine lcGo_map1 (fun x hx => ?_) (by unfold lineN; omega)
    have ix0 : ∀ M, idxR M (eK x) (.int 0) = .ok (.str x.1) M := fun M => idx_tup0
    simp [asg_N, ix0]
  have s3 : es (ctxK (FS P) 229 t) lS3 [some (.scr (ns.map .int)), some (.ref m.length), some (eP p), none, none, none, none, none, none, none, none, none, none, none, none, none, none, none, none] (MR m r1) = .nx [some (.scr (ns.map .int)), some (.ref m.length), some (eP p), some (.lst ((names p).map .str)), none, none, none, none, none, none, none, none, none, none, none, none, none, none, none] (MR m r1) := by
    simp [eP_it, hnl, asg_N]
  have rk : run (FS P) 229 11 [eP p] (MR m r1) = .ok (.tup ((names p).map .str)) (MR m r1) := run_kinds (k := 224) (hgood r1) hp
  have ra1 : run (FS P) 229 43 [.tup ((names p).map .str), .tup ((names p).map .str)] (MR m r1) = .ok (.bl true) (MR m r1) := run_alike (AlOk.tup 0 _ (by unfold names; simp; omega) fun x hx => by
    obtain ⟨y, hy, rfl⟩ := List.mem_map.mp hx
    exact .str _ _ (hp.okn y hy)) 227
  have s4 : es (ctxK (FS P) 229 t) lS4 [some (.scr (ns.map .int)), some (.ref m.length), some (eP p), some (.lst ((names p).map .str)), none, none, none, none, none, none, none, none, none, none, none, none, none, none, none] (MR m r1) = .nx [some (.scr (ns.map .int)), some (.ref m.length), some (eP p), some (.lst ((names p).map .str)), none, none, none, none, none, none, none, none, none, none, none, none, none, none, none] (MR m r1) := by
    simp [rk, ra1]
  obtain ⟨r2, kx, hkx, hpk⟩ := pick (P := P) (m := m) (r := r1) (xs := (names p).map .str) (by unfold names; simp; omega) (by unfold names; simp; omega) (k := 227)
  have hpk : run (FS P) 229 41 [.ref m.length, .lst ((names p).map .str)] (MR m r1) = .ok kx (MR m r2) := hpk
  obtain ⟨kd, hk, rfl⟩ := List.mem_map.mp hkx
  obtain ⟨r3, v, hv, htk⟩ := taken (P := P) (m := m) (r := r2) (many := 6) (by omega) (by omega) (k := 228)
  have htk : run (FS P) 229 40 [.ref m.length, .int 6] (MR m r2) = .ok (.int (v : Nat)) (MR m r3) := htk
  obtain ⟨n, hn⟩ : ∃ n, n = 1 + v := ⟨_, rfl⟩
  have hnv : (1 : Int) + (v : Int) = (n : Int) := by omega
  have s5 : es (ctxK (FS P) 229 t) lS5 [some (.scr (ns.map .int)), some (.ref m.length), some (eP p), some (.lst ((names p).map .str)), none, none, none, none, none, none, none, none, none, none, none, none, none, none, none] (MR m r1) = .nx [some (.scr (ns.map .int)), some (.ref m.length), some (eP p), some (.lst ((names p).map .str)), some (.str kd), some (.int (n : Nat)), none, none, none, none, none, none, none, none, none, none, none, none, none] (MR m r3) := by
    have b2 := b_le (n := 2) (by omega)
    simp [hpk, htk, hnv, b2, asg_N]
  -- the values
  have hn8 : n ≤ 8 := by omega
  have hn1 : 1 ≤ n := by omega
  have rv : run (FS P) 229 47 [eP p, .str kd, .int (n : Nat)] (MR m r3) = .ok (.lst ((valK p kd n).map fun x => x.2.1)) (MR m r3) := by
    have := (run_lawV (P := P) (m := MR m r3) (hgood r3) hp mo.bd n hn8).1 kd hk (229 - (2 * n + 2))
    rw [show 229 - (2 * n + 2) + (2 * n + 2) = 229 by omega, vals_valK] at this
    exact this
  have s6 : es (ctxK (FS P) 229 t) lS6 [some (.scr (ns.map .int)), some (.ref m.length), some (eP p), some (.lst ((names p).map .str)), some (.str kd), some (.int (n : Nat)), none, none, none, none, none, none, none, none, none, none, none, none, none] (MR m r3) = .nx [some (.scr (ns.map .int)), some (.ref m.length), some (eP p), some (.lst ((names p).map .str)), some (.str kd), some (.int (n : Nat)), some (.lst ((valK p kd n).map fun x => x.2.1)), none, none, none, none, none, none, none, none, none, none, none, none] (MR m r3) := by
    simp [rv, asg_N]
  have rcnt : ∀ (M : Mem) (j : Nat), M.all (belowO 0) = true → 1 ≤ j → j ≤ 21 → run (FS P) 229 30 [eP p, .str kd, .int (j : Nat)] M = .ok (.int (cv p kd j : Nat)) M := fun M j hM hj1 hj2 => by
    have := run_countV (P := P) (m := M) hp mo.bc hM (n := j) hj2 hj1 (by omega) hk (k := 229 - (2 * j + 7))
    rw [show 229 - (2 * j + 7) + (2 * j + 7) = 229 by omega] at this
    exact this
  have s7 : es (ctxK (FS P) 229 t) lS7 [some (.scr (ns.map .int)), some (.ref m.length), some (eP p), some (.lst ((names p).map .str)), some (.str kd), some (.int (n : Nat)), some (.lst ((valK p kd n).map fun x => x.2.1)), none, none, none, none, none, none, none, none, none, none, none, none] (MR m r3) = .nx [some (.scr (ns.map .int)), some (.ref m.length), some (eP p), some (.lst ((names p).map .str)), some (.str kd), some (.int (n : Nat)), some (.lst ((valK p kd n).map fun x => x.2.1)), none, none, none, none, none, none, none, none, none, none, none, none] (MR m r3) := by
    have r := rcnt (MR m r3) n (hall r3) hn1 (by omega)
    have ra : run (FS P) 229 43 [.int (cv p kd n : Nat), .int (cv p kd n : Nat)] (MR m r3) = .ok (.bl true) (MR m r3) := run_alike (AlOk.int 0 _) 228
    have hl : (valK p kd n).length = cv p kd n := cv_len.symm
    simp [r, hl, ra]
  have hvk := valK_vok (P := P) hp (k := kd) (n := n) (by omega)
  have hky := valK_ky hp (k := kd) (n := n) (by omega)
  have hlen : (valK p kd n).length ≤ lineN := by rw [← cv_len]; exact mo.bd.v n hn8 kd
  have ro : run (FS P) 229 39 [eP p, .str kd, .lst ((valK p kd n).map fun x => x.2.1)] (MR m r3) = .ok (.lst ((sortP (valK p kd n)).map fun x => x.2.1)) (MR m r3) :=
    run_lawOrd (P := P) (hgood r3) (N0 := 8) (fun x hx => ⟨by rw [(hvk x hx).1]; omega, (hvk x hx).2⟩) (fun x hx => (hky x hx).2) (by omega) hlen (j := 219)
  have s8 : es (ctxK (FS P) 229 t) lS8 [some (.scr (ns.map .int)), some (.ref m.length), some (eP p), some (.lst ((names p).map .str)), some (.str kd), some (.int (n : Nat)), some (.lst ((valK p kd n).map fun x => x.2.1)), none, none, none, none, none, none, none, none, none, none, none, none] (MR m r3) = .nx [some (.scr (ns.map .int)), some (.ref m.length), some (eP p), some (.lst ((names p).map .str)), some (.str kd), some (.int (n : Nat)), some (.lst ((valK p kd n).map fun x => x.2.1)), some (.lst ((sortP (valK p kd n)).map fun x => x.2.1)), none, none, none, none, none, none, none, none, none, none, none] (MR m r3) := by
    simp [ro, asg_N]
  have s9 : es (ctxK (FS P) 229 t) lS9 [some (.scr (ns.map .int)), some (.ref m.length), some (eP p), some (.lst ((names p).map .str)), some (.str kd), some (.int (n : Nat)), some (.lst ((valK p kd n).map fun x => x.2.1)), some (.lst ((sortP (valK p kd n)).map fun x => x.2.1)), none, none, none, none, none, none, none, none, none, none, none] (MR m r3) = .nx [some (.scr (ns.map .int)), some (.ref m.length), some (eP p), some (.lst ((names p).map .str)), some (.str kd), some (.int (n : Nat)), some (.lst ((valK p kd n).map fun x => x.2.1)), some (.lst ((sortP (valK p kd n)).map fun x => x.2.1)), none, none, none, none, none, none, none, none, none, none, none] (MR m r3) := by
    by_cases h400 : (valK p kd n).length ≤ 400
    · have h400' : ((valK p kd n).length : Int) ≤ 400 := by omega
      have rvl := run_values (P := P) (m := MR m r3) hp mo.bd ⟨by omega, fun i hi k => mo.bc.c i (by omega) k⟩ (hall r3) (htab r3) hn8 hn1 (by omega) hk (by rw [cv_len]; omega) (j := 229 - (2 * n + 8))
      rw [show 229 - (2 * n + 8) + (2 * n + 8) = 229 by omega] at rvl
      have ra : run (FS P) 229 43 [.lst ((sortP (valK p kd n)).map fun x => x.2.1), .lst ((sortP (valK p kd n)).map fun x => x.2.1)] (MR m r3) = .ok (.bl true) (MR m r3) := run_alike (AlOk.lst 16 _ (by unfold sortP; rw [List.length_map, isortG_len]; omega) fun x hx => by
        obtain ⟨y, hy, rfl⟩ := List.mem_map.mp hx
        have hy := mem_isortG.mp hy
        obtain ⟨a1, a2⟩ := valK_al hp (by omega) y hy
        exact a2.mono (by omega)) 211
      simp [h400', rvl, ra]
    · have h400' : ¬ ((valK p kd n).length : Int) ≤ 400 := by omega
      simp [h400']
  -- the whole
  obtain ⟨n0, x0, rs, hn01, hn03, hz, hpos, hsort, hfst⟩ := mo.lst kd hk
  obtain ⟨W, hW, hWl, hsome⟩ := run_some (P := P) (m := MR m r3) hp mo.bd (hgood r3) hk hn01 hn03 hz hpos (k := 210)
  have hsome : run (FS P) 229 50 [eP p, .str kd, .int 60] (MR m r3) = .ok (.lst (W.map fun x => x.2.1)) (MR m r3) := hsome
  have s10 : es (ctxK (FS P) 229 t) lS10 [some (.scr (ns.map .int)), some (.ref m.length), some (eP p), some (.lst ((names p).map .str)), some (.str kd), some (.int (n : Nat)), some (.lst ((valK p kd n).map fun x => x.2.1)), some (.lst ((sortP (valK p kd n)).map fun x => x.2.1)), none, none, none, none, none, none, none, none, none, none, none] (MR m r3) = .nx [some (.scr (ns.map .int)), some (.ref m.length), some (eP p), some (.lst ((names p).map .str)), some (.str kd), some (.int (n : Nat)), some (.lst ((valK p kd n).map fun x => x.2.1)), some (.lst ((sortP (valK p kd n)).map fun x => x.2.1)), some (.lst (W.map fun x => x.2.1)), none, none, none, none, none, none, none, none, none, none] (MR m r3) := by
    simp [hsome, asg_N]
  generalize some (D.lst ((valK p kd n).map fun x => x.2.1)) = e6 at s6 s7 s8 s9 s10
  generalize some (D.lst ((sortP (valK p kd n)).map fun x => x.2.1)) = e7 at s8 s9 s10
  generalize some (D.int (n : Nat)) = e5 at s5 s6 s7 s8 s9 s10
  generalize he0 : some (D.scr (ns.map .int)) = e0 at s1 s2 s3 s4 s5 s6 s7 s8 s9 s10
  have hWv : ∀ x ∈ W, (x.1 ≤ 8 ∧ VOk P p kd x) ∧ KyOk x := fun x hx => by
    obtain ⟨w1, w2, w3⟩ := hW.all x hx
    exact ⟨⟨w2, (valK_vok (P := P) hp (by omega) x w3).2⟩, (valK_ky hp (by omega) x w3).2⟩
  have en : ∀ M, enmR M (.lst (W.map fun x => x.2.1)) = .ok (.tup (W.zipIdx.map fun q => D.tup [.int (q.2 : Nat), q.1.2.1])) M := fun M => by
    rw [enmR_lst]
    have := enmL_eq (h := fun x : Pt => x.2.1) W 0
    simp at this
    rw [this]
  have l11 := run_lawKeys (P := P) (p := p) (m := MR m r3) (hgood r3) (fun x hx => (hWv x hx).1) hWl (j := 220) (a0 := 10) (a1 := 11) (e := [e0, some (.ref m.length), some (eP p), some (.lst ((names p).map .str)), some (.str kd), e5, e6, e7, some (.lst (W.map fun x => x.2.1)), none, none, none, none, none, none, none, none, none, none]) (s4 := xVar 4) (s5 := xVar 2) (fun q _ => ⟨[e0, some (.ref m.length), some (eP p), some (.lst ((names p).map .str)), some (.str kd), e5, e6, e7, some (.lst (W.map fun x => x.2.1)), none, some (.int (q.2 : Nat)), some q.1.2.1, none, none, none, none, none, none, none], by simp [asg_N], by simp, by simp, by simp, by simp⟩)
  have hs := sortOk_at (xs := W) (fun x hx => ⟨(hWv x hx).2, by have := (hWv x hx).1.1; omega⟩) hWl
  have os := oSorted_lst (m := MR m r3) hs
  rw [isortK_at, List.map_map] at os
  have hcomp : (List.map ((fun x : D × D => x.2) ∘ fun q : Pt × Nat => (kyAt q, kyAt q)) (isortG (fun q p => ltP q.1 p.1) W.zipIdx)) = (isortG (fun q p => ltP q.1 p.1) W.zipIdx).map kyAt := rfl
  rw [hcomp] at os
  have s11 : es (ctxK (FS P) 229 t) lS11 [e0, some (.ref m.length), some (eP p), some (.lst ((names p).map .str)), some (.str kd), e5, e6, e7, some (.lst (W.map fun x => x.2.1)), none, none, none, none, none, none, none, none, none, none] (MR m r3) = .nx [e0, some (.ref m.length), some (eP p), some (.lst ((names p).map .str)), some (.str kd), e5, e6, e7, some (.lst (W.map fun x => x.2.1)), some (.lst ((isortG (fun q p => ltP q.1 p.1) W.zipIdx).map kyAt)), none, none, none, none, none, none, none, none, none] (MR m r3) := by
    simp [en]
    simp at l11
    rw [l11]
    simp [os, asg_N]
  -- the first of all
  obtain ⟨rest, hrest, hrg⟩ := hW.ex
  have hsW : sortP W = x0 :: (rs ++ sortP rest) := by
    unfold sortP at hsort ⊢
    rw [hrest, isortG_app, hsort]
    · rfl
    · intro a ha b hb
      have ha1 := (valK_ky hp (by omega) a ha).1
      exact ltP_size (by have := hrg b hb; omega)
  obtain ⟨q0, qs, hq0, hq1⟩ : ∃ q0 qs, isortG (fun q p : Pt × Nat => ltP q.1 p.1) W.zipIdx = q0 :: qs ∧ q0.1 = x0 := by
    have h := sortP_at (xs := W)
    rw [hsW] at h
    cases hh : isortG (fun q p : Pt × Nat => ltP q.1 p.1) W.zipIdx with
    | nil => rw [hh] at h; cases h
    | cons q0 qs =>
      rw [hh, List.map_cons] at h
      exact ⟨q0, qs, rfl, (List.cons.inj h).1⟩
  have hq0m : q0 ∈ W.zipIdx := mem_isortG.mp (by rw [hq0]; simp)
  obtain ⟨hqa, hqb⟩ := List.mem_zipIdx' hq0m
  have hx0W : x0 ∈ W := by rw [← hq1, hqb]; exact List.getElem_mem _
  have s12 : es (ctxK (FS P) 229 t) lS12 [e0, some (.ref m.length), some (eP p), some (.lst ((names p).map .str)), some (.str kd), e5, e6, e7, some (.lst (W.map fun x => x.2.1)), some (.lst ((isortG (fun q p => ltP q.1 p.1) W.zipIdx).map kyAt)), none, none, none, none, none, none, none, none, none] (MR m r3) = .nx [e0, some (.ref m.length), some (eP p), some (.lst ((names p).map .str)), some (.str kd), e5, e6, e7, some (.lst (W.map fun x => x.2.1)), some (.lst ((isortG (fun q p => ltP q.1 p.1) W.zipIdx).map kyAt)), none, none, none, none, none, none, none, none, none] (MR m r3) := by
    have rl := run_least (P := P) (m := MR m r3) hp mo.bc hk hn01 (by omega) hz hpos hfst (hall r3) (k := 229 - (2 * n0 + 6))
    rw [show 229 - (2 * n0 + 6) + (2 * n0 + 6) = 229 by omega] at rl
    have i0 : ∀ M, idxR M (.lst ((isortG (fun q p => ltP q.1 p.1) W.zipIdx).map kyAt)) (.int 0) = .ok (kyAt q0) M := fun M => by rw [hq0]; exact idx_lstN (i := 0) rfl
    have i1 : ∀ M, idxR M (kyAt q0) (.int 1) = .ok (.int (q0.2 : Nat)) M := fun M => idx_tup1
    have i2 : ∀ M, idxR M (.lst (W.map fun x => x.2.1)) (.int (q0.2 : Nat)) = .ok x0.2.1 M := fun M => idx_lstN (by rw [List.getElem?_map, List.getElem?_eq_getElem hqa, ← hqb, hq1]; rfl)
    have ra : run (FS P) 229 43 [x0.2.1, x0.2.1] (MR m r3) = .ok (.bl true) (MR m r3) := by
      obtain ⟨w1, w2, w3⟩ := hW.all x0 hx0W
      obtain ⟨a1, a2⟩ := valK_al hp (by omega) x0 w3
      exact run_alike (a2.mono (show 2 * x0.1 ≤ 16 by omega)) 212
    simp [rl, i0, i1, i2, ra]
  generalize some (D.lst ((isortG (fun q p => ltP q.1 p.1) W.zipIdx).map kyAt)) = e9 at s11 s12
  -- two of them
  have hWne : 1 ≤ W.length := List.length_pos_of_mem hx0W
  obtain ⟨r4, d1, hd1, hp1⟩ := pick (P := P) (m := m) (r := r3) (xs := W.map fun x => x.2.1) (by simpa using hWne) (by rw [List.length_map]; unfold lineN at hWl; omega) (k := 227)
  have hp1 : run (FS P) 229 41 [.ref m.length, .lst (W.map fun x => x.2.1)] (MR m r3) = .ok d1 (MR m r4) := hp1
  obtain ⟨r5, d2, hd2, hp2⟩ := pick (P := P) (m := m) (r := r4) (xs := W.map fun x => x.2.1) (by simpa using hWne) (by rw [List.length_map]; unfold lineN at hWl; omega) (k := 227)
  have hp2 : run (FS P) 229 41 [.ref m.length, .lst (W.map fun x => x.2.1)] (MR m r4) = .ok d2 (MR m r5) := hp2
  obtain ⟨y1, hx1, rfl⟩ := List.mem_map.mp hd1
  obtain ⟨y2, hx2, rfl⟩ := List.mem_map.mp hd2
  have s13 : es (ctxK (FS P) 229 t) lS13 [e0, some (.ref m.length), some (eP p), some (.lst ((names p).map .str)), some (.str kd), e5, e6, e7, some (.lst (W.map fun x => x.2.1)), e9, none, none, none, none, none, none, none, none, none] (MR m r3) = .nx [e0, some (.ref m.length), some (eP p), some (.lst ((names p).map .str)), some (.str kd), e5, e6, e7, some (.lst (W.map fun x => x.2.1)), e9, none, none, some y1.2.1, some y2.2.1, none, none, none, none, none] (MR m r5) := by
    have b2 := b_le (n := 2) (by omega)
    simp [hp1, hp2, b2, asg_N]
  have M1 := hWv y1 hx1
  have M2 := hWv y2 hx2
  have b2 := b_le (n := 2) (by omega)
  have b3 := b_le (n := 3) (by omega)
  have hclt := cLt_ky (m := MR m r5) M1.2 M2.2 (by have := M1.1.1; omega) (by have := M2.1.1; omega)
  have k1 := M1.1.2.lkey (229 - (y1.1 + 1)) (MR m r5) (hgood r5)
  rw [show 229 - (y1.1 + 1) + (y1.1 + 1) = 229 by have := M1.1.1; omega] at k1
  have k2 := M2.1.2.lkey (229 - (y2.1 + 1)) (MR m r5) (hgood r5)
  rw [show 229 - (y2.1 + 1) + (y2.1 + 1) = 229 by have := M2.1.1; omega] at k2
  have z1 := M1.1.2.s.lsz (229 - y1.1) (MR m r5)
  rw [show 229 - y1.1 + y1.1 = 229 by have := M1.1.1; omega] at z1
  have s14 : es (ctxK (FS P) 229 t) lS14 [e0, some (.ref m.length), some (eP p), some (.lst ((names p).map .str)), some (.str kd), e5, e6, e7, some (.lst (W.map fun x => x.2.1)), e9, none, none, some y1.2.1, some y2.2.1, none, none, none, none, none] (MR m r5) = .nx [e0, some (.ref m.length), some (eP p), some (.lst ((names p).map .str)), some (.str kd), e5, e6, e7, some (.lst (W.map fun x => x.2.1)), e9, none, none, some y1.2.1, some y2.2.1, some (.lst [.int (y1.1 : Nat), .bl (ltP y1 y2), .bl true]), none, none, none, none] (MR m r5) := by
    unfold ky at hclt
    simp [z1, k1, k2, hclt, b3, asg_N]
  have rsz : run (FS P) 229 23 [eP p, .str kd, y1.2.1] (MR m r5) = .ok (.int (y1.1 : Nat)) (MR m r5) := run_size (k := 198) hp (hgood r5) hk M1.1.2 (by have := M1.1.1; omega)
  have rbf : run (FS P) 229 26 [eP p, .str kd, y1.2.1, y2.2.1] (MR m r5) = .ok (.bl (ltP y1 y2)) (MR m r5) := run_before (k := 198) hp (hgood r5) hk M1.1.2 M2.1.2 M1.2 M2.2 (by have := M1.1.1; omega) (by have := M2.1.1; omega)
  have riv : run (FS P) 229 20 [eP p, .str kd, y1.2.1] (MR m r5) = .ok (.bl true) (MR m r5) := run_isValue (k := 199) hp (hgood r5) hk M1.1.2 (by have := M1.1.1; omega)
  have ra3 : run (FS P) 229 43 [.lst [.int (y1.1 : Nat), .bl (ltP y1 y2), .bl true], .lst [.int (y1.1 : Nat), .bl (ltP y1 y2), .bl true]] (MR m r5) = .ok (.bl true) (MR m r5) := run_alike (AlOk.lst 0 _ (by simp) fun x hx => by
    simp at hx
    rcases hx with rfl | rfl | rfl
    · exact .int _ _
    · exact .bl _ _
    · exact .bl _ _) 227
  have s15 : es (ctxK (FS P) 229 t) lS15 [e0, some (.ref m.length), some (eP p), some (.lst ((names p).map .str)), some (.str kd), e5, e6, e7, some (.lst (W.map fun x => x.2.1)), e9, none, none, some y1.2.1, some y2.2.1, some (.lst [.int (y1.1 : Nat), .bl (ltP y1 y2), .bl true]), none, none, none, none] (MR m r5) = .nx [e0, some (.ref m.length), some (eP p), some (.lst ((names p).map .str)), some (.str kd), e5, e6, e7, some (.lst (W.map fun x => x.2.1)), e9, none, none, some y1.2.1, some y2.2.1, some (.lst [.int (y1.1 : Nat), .bl (ltP y1 y2), .bl true]), none, none, none, none] (MR m r5) := by
    simp [rsz, rbf, riv, b3, ra3]
  generalize some (D.lst [.int (y1.1 : Nat), .bl (ltP y1 y2), .bl true]) = e14 at s14 s15
  generalize some y1.2.1 = e12 at s13 s14 s15
  generalize some y2.2.1 = e13 at s13 s14 s15
  generalize some (D.lst (W.map fun x => x.2.1)) = e8 at s10 s11 s12 s13 s14 s15
  generalize some (D.lst ((names p).map .str)) = e3 at s3 s4 s5 s6 s7 s8 s9 s10 s11 s12 s13 s14 s15
  -- far
  have rg1 : ∀ M, rngR M (.int 7) (.int 22) = .ok (.tup ((List.range' 7 15).map fun j => D.int (j : Nat))) M := fun M => rfl
  have rg2 : ∀ M, rngR M (.int 1) (.int 22) = .ok (.tup ((List.range' 1 21).map fun j => D.int (j : Nat))) M := fun M => rfl
  have l16 : lcGo (turn (.tgN 16) (x2 cGt (xCall (run (FS P) 229 30) (xCons (xVar 2) (xCons (xVar 4) (xCons (xVar 16) (xCon (.tup [])))))) (xCon (.int 0))) (give1 (xVar 16)) [e0, some (.ref m.length), some (eP p), e3, some (.str kd), e5, e6, e7, e8, e9, none, none, e12, e13, e14, none, none, none, none]) ((List.range' 7 15).map fun j => D.int (j : Nat)) [] (MR m r5) = .ok (((List.range' 7 15).filter fun j => decide (0 < cv p kd j)).map fun j => D.int (j : Nat)) (MR m r5) := by
    refine lcGo_filter (h := fun j : Nat => D.int (j : Nat)) (g := fun j : Nat => D.int (j : Nat)) (p := fun j => decide (0 < cv p kd j)) (fun j hj => ?_) (by simp; unfold lineN; omega)
    obtain ⟨i, hi, rfl⟩ := List.mem_range'.mp hj
    have r := rcnt (MR m r5) (7 + 1 * i) (hall r5) (by omega) (by omega)
    by_cases hc : 0 < cv p kd (7 + 1 * i)
    · have hc' : (0 : Int) < (cv p kd (7 + 1 * i) : Nat) := by omega
      rw [turn_eq, asg_N (by simp)]
      simp only [List.set_cons_succ, List.set_cons_zero, x2_eq, xCall_eq, xCons_eq, xVar_s, xVar_0, bnd_ok, xCon_ok, r, cGt_int, hc', hc, decide_true, truth_bl, give1_eq, if_true]
    · have hc' : ¬ (0 : Int) < (cv p kd (7 + 1 * i) : Nat) := by omega
      rw [turn_eq, asg_N (by simp)]
      simp only [List.set_cons_succ, List.set_cons_zero, x2_eq, xCall_eq, xCons_eq, xVar_s, xVar_0, bnd_ok, xCon_ok, r, cGt_int, hc', hc, decide_false, truth_bl]
      rfl
  have s16 : es (ctxK (FS P) 229 t) lS16 [e0, some (.ref m.length), some (eP p), e3, some (.str kd), e5, e6, e7, e8, e9, none, none, e12, e13, e14, none, none, none, none] (MR m r5) = .nx [e0, some (.ref m.length), some (eP p), e3, some (.str kd), e5, e6, e7, e8, e9, none, none, e12, e13, e14, some (.lst (((List.range' 7 15).filter fun j => decide (0 < cv p kd j)).map fun j => D.int (j : Nat))), none, none, none] (MR m r5) := by
    simp [rg1]
    rw [l16]
    simp [asg_N]
  have l17 : ∀ e15, lcGo (turn (.tgN 16) (xCon (.bl true)) (give1 (xCall (run (FS P) 229 30) (xCons (xVar 2) (xCons (xVar 4) (xCons (xVar 16) (xCon (.tup []))))))) [e0, some (.ref m.length), some (eP p), e3, some (.str kd), e5, e6, e7, e8, e9, none, none, e12, e13, e14, e15, none, none, none]) ((List.range' 1 21).map fun j => D.int (j : Nat)) [] (MR m r5) = .ok ((List.range' 1 21).map fun j => D.int (cv p kd j : Nat)) (MR m r5) := by
    intro e15
    refine lcGo_map1 (h := fun j : Nat => D.int (j : Nat)) (g := fun j : Nat => D.int (cv p kd j : Nat)) (fun j hj => ?_) (by simp; unfold lineN; omega)
    obtain ⟨i, hi, rfl⟩ := List.mem_range'.mp hj
    have r := rcnt (MR m r5) (1 + 1 * i) (hall r5) (by omega) (by omega)
    rw [turn_eq, asg_N (by simp)]
    simp only [List.set_cons_succ, List.set_cons_zero, xCall_eq, xCons_eq, xVar_s, xVar_0, bnd_ok, xCon_ok, r, truth_bl, give1_eq]
  have hsum : ((List.range' 1 21).map (cv p kd)).sum = ((List.range 22).map (cv p kd)).sum := by
    rw [List.range_eq_range', List.range'_succ (s := 0) (n := 21)]
    simp [cv_0]
  have s17 : ∀ e15, es (ctxK (FS P) 229 t) lS17 [e0, some (.ref m.length), some (eP p), e3, some (.str kd), e5, e6, e7, e8, e9, none, none, e12, e13, e14, e15, none, none, none] (MR m r5) = .nx [e0, some (.ref m.length), some (eP p), e3, some (.str kd), e5, e6, e7, e8, e9, none, none, e12, e13, e14, e15, none, some (.int (((List.range 22).map (cv p kd)).sum : Nat)), none] (MR m r5) := by
    intro e15
    have os2 := oSum_map (m := MR m r5) (f := fun j : Nat => cv p kd j) (l := List.range' 1 21)
    rw [hsum] at os2
    generalize ((List.range 22).map (cv p kd)).sum = S at os2 ⊢
    simp [rg2]
    rw [l17]
    simp [os2, asg_N]
  have rca := run_countAll (P := P) (m := MR m r5) hp mo.pg.rc (hall r5) hk (f := 10) (c := ((List.range 22).map (cv p kd)).sum) (by omega) (fun he => mo.fin kd hk he) (k := 204)
  have rca : run (FS P) 229 17 [eP p, .str kd] (MR m r5) = _ := rca
  have rie : run (FS P) 229 15 [eP p, .str kd] (MR m r5) = .ok (.bl (endB p kd)) (MR m r5) := run_isEnd (k := 223) hp mo.pg.rc (hall r5) hk
  generalize hS : ((List.range 22).map (cv p kd)).sum = S at s17 rca
  have hfar : endB p kd = true → ((List.range' 7 15).filter fun j => decide (0 < cv p kd j)) ≠ [] := fun he => by
    obtain ⟨j, hj1, hj2, hj3⟩ := mo.far kd hk he
    intro hnil
    have : j ∈ (List.range' 7 15).filter fun j => decide (0 < cv p kd j) := by
      rw [List.mem_filter]
      exact ⟨List.mem_range'.mpr ⟨j - 7, by omega, by omega⟩, decide_eq_true hj3⟩
    rw [hnil] at this
    cases this
  have hfne : ∀ F : List Nat, cNe (MR m r5) (.lst (F.map fun j => D.int (j : Nat))) (.lst []) = .ok (.bl (!(F.map fun j => D.int (j : Nat)).isEmpty)) (MR m r5) := fun F => cNe_nil (by
    have := fit_ints (W := F.map fun j => ((j : Nat) : Int))
    rw [List.map_map] at this
    exact this)
  generalize hFg : ((List.range' 7 15).filter fun j => decide (0 < cv p kd j)) = F at s16 hfar
  have hen : ∃ e18, es (ctxK (FS P) 229 t) (.seq lS18 (.seq lS19 lS20)) [e0, some (.ref m.length), some (eP p), e3, some (.str kd), e5, e6, e7, e8, e9, none, none, e12, e13, e14, some (.lst (F.map fun j => D.int (j : Nat))), none, some (.int (S : Nat)), none] (MR m r5) = .rt (.bl true) (MR m r5) ∧ e18 = () := by
    refine ⟨(), ?_, rfl⟩
    cases hE : endB p kd with
    | true =>
      rw [hE] at rca rie
      have hF := hfar hE
      have hFe : (F.map fun j => D.int (j : Nat)).isEmpty = false := by
        cases F with
        | nil => exact absurd rfl hF
        | cons => rfl
      have hf := hfne F
      rw [hFe] at hf
      have c1 : cIsN (MR m r5) .non .non = .ok (.bl true) (MR m r5) := rfl
      simp at rca
      simp [rca, rie, c1, cNe_bl, hf, asg_N]
    | false =>
      rw [hE] at rca rie
      have c1 : cIsN (MR m r5) (.int (S : Nat)) .non = .ok (.bl false) (MR m r5) := rfl
      simp at rca
      simp [rca, rie, c1, cNe_bl, asg_N]
  obtain ⟨_, hen, _⟩ := hen
  have hbody : es (ctxK (FS P) 229 t) f_law.body ([D.scr (ns.map .int)].map some ++ List.replicate (f_law.ns - f_law.ps) none) m = .rt (.bl true) (MR m r5) := by
    rw [show ([D.scr (ns.map .int)].map some ++ List.replicate (f_law.ns - f_law.ps) none : Env) = [e0, none, none, none, none, none, none, none, none, none, none, none, none, none, none, none, none, none, none] from by rw [← he0]; rfl]
    show es (ctxK (FS P) 229 t) (.seq lS1 (.seq lS2 (.seq lS3 (.seq lS4 (.seq lS5 (.seq lS6 (.seq lS7 (.seq lS8 (.seq lS9 (.seq lS10 (.seq lS11 (.seq lS12 (.seq lS13 (.seq lS14 (.seq lS15 (.seq lS16 (.seq lS17 (.seq lS18 (.seq lS19 lS20))))))))))))))))))) [e0, none, none, none, none, none, none, none, none, none, none, none, none, none, none, none, none, none, none] m = _
    rw [es_seq, ySeq_eq, s1, fbind_nx, es_seq, ySeq_eq, s2, fbind_nx, es_seq, ySeq_eq, s3, fbind_nx, es_seq, ySeq_eq, s4, fbind_nx, es_seq, ySeq_eq, s5, fbind_nx, es_seq, ySeq_eq, s6, fbind_nx, es_seq, ySeq_eq, s7, fbind_nx, es_seq, ySeq_eq, s8, fbind_nx, es_seq, ySeq_eq, s9, fbind_nx, es_seq, ySeq_eq, s10, fbind_nx, es_seq, ySeq_eq, s11, fbind_nx, es_seq, ySeq_eq, s12, fbind_nx, es_seq, ySeq_eq, s13, fbind_nx, es_seq, ySeq_eq, s14, fbind_nx, es_seq, ySeq_eq, s15, fbind_nx, es_seq, ySeq_eq, s16, fbind_nx, es_seq, ySeq_eq, s17, fbind_nx, hen]
  refine ⟨m, ?_⟩
  show run (FS P) (229 + 1) _ _ _ = _
  rw [run_wt (f := f_law) rfl]
  exact runF_rtt (m' := MR m r5) rfl rfl (by unfold MR; simp) hm rfl (by unfold MR; simp) hbody
end
end K00
end
section
set_option linter.all false
/-! K00All: the law, over the memory with tables. -/
namespace K00
open Mt
theorem law_true : ∀ P : List Nat, P.length = tq.length → ∀ ns : List Int, ns.length ≤ 63 → ∃ m, Mt.run (withTabs P fns) 230 51 [.scr (ns.map .int)] (memT P tq) = .ok (.bl true) m := by
  intro P hP ns _
  match P, hP with
  | [a], _ =>
    refine law_run (m := memT [a] tq) rfl ?_ ns
    show (isTab ([a].getD 0 0, tabQ) (some (.tab a tabQ)) || _) = true
    have : isTab ([a].getD 0 0, tabQ) (some (.tab a tabQ)) = true := by
      show (Nat.beq a a && natsEq tabQ tabQ && !tabQ.isEmpty) = true
      rw [Nat.beq_refl]
      rfl
    rw [this]
    rfl
end K00
end
section
set_option Elab.async false
set_option linter.all false
set_option maxRecDepth 100000
set_option maxHeartbeats 0
namespace K00
open PySem PySem.Spec PyProof.Rows L2 Mt
theorem bb_whole : BB d_whole := fun _ _ _ _ _ _ us hl => match us, hl with | [_], _ => rfl
theorem bb_within : BB d_within := fun _ _ _ _ _ _ us hl => match us, hl with | [_, _, _], _ => rfl
theorem bb_need_number : BB d_need_number := fun _ _ _ _ _ _ us hl => match us, hl with | [_, _, _], _ => rfl
theorem bb_tuple_of : BB d_tuple_of := fun _ _ _ _ _ _ us hl => match us, hl with | [_, _, _], _ => rfl
theorem bb_is_word : BB d_is_word := fun _ _ _ _ _ _ us hl => match us, hl with | [_, _], _ => rfl
theorem bb_is_makers : BB d_is_makers := fun _ _ _ _ _ _ us hl => match us, hl with | [_, _], _ => rfl
theorem bb_is_body : BB d_is_body := fun _ _ _ _ _ _ us hl => match us, hl with | [_, _], _ => rfl
theorem bb_need_program : BB d_need_program := fun _ _ _ _ _ _ us hl => match us, hl with | [_], _ => rfl
theorem bb_body_of : BB d_body_of := fun _ _ _ _ _ _ us hl => match us, hl with | [_, _], _ => rfl
theorem bb_need_kind : BB d_need_kind := fun _ _ _ _ _ _ us hl => match us, hl with | [_, _], _ => rfl
theorem bb_filled_of : BB d_filled_of := fun _ _ _ _ _ _ us hl => match us, hl with | [_], _ => rfl
theorem bb_kinds : BB d_kinds := fun _ _ _ _ _ _ us hl => match us, hl with | [_], _ => rfl
theorem bb_parts_of : BB d_parts_of := fun _ _ _ _ _ _ us hl => match us, hl with | [_], _ => rfl
theorem bb_reach_of : BB d_reach_of := fun _ _ _ _ _ _ us hl => match us, hl with | [_, _], _ => rfl
theorem bb_endless_of : BB d_endless_of := fun _ _ _ _ _ _ us hl => match us, hl with | [_, _], _ => rfl
theorem bb_is_endless : BB d_is_endless := fun _ _ _ _ _ _ us hl => match us, hl with | [_, _], _ => rfl
theorem bb_count_of : BB d_count_of := fun _ _ _ _ _ _ us hl => match us, hl with | [_, _], _ => rfl
theorem bb_count_all : BB d_count_all := fun _ _ _ _ _ _ us hl => match us, hl with | [_, _], _ => rfl
theorem bb_fields_of : BB d_fields_of := fun _ _ _ _ _ _ us hl => match us, hl with | [_, _, _], _ => rfl
theorem bb_is_value_of : BB d_is_value_of := fun _ _ _ _ _ _ us hl => match us, hl with | [_, _, _], _ => rfl
theorem bb_is_value : BB d_is_value := fun _ _ _ _ _ _ us hl => match us, hl with | [_, _, _], _ => rfl
theorem bb_need_value : BB d_need_value := fun _ _ _ _ _ _ us hl => match us, hl with | [_, _, _], _ => rfl
theorem bb_size_of : BB d_size_of := fun _ _ _ _ _ _ us hl => match us, hl with | [_], _ => rfl
theorem bb_size : BB d_size := fun _ _ _ _ _ _ us hl => match us, hl with | [_, _, _], _ => rfl
theorem bb_key_of : BB d_key_of := fun _ _ _ _ _ _ us hl => match us, hl with | [_, _, _], _ => rfl
theorem bb_ordered : BB d_ordered := fun _ _ _ _ _ _ us hl => match us, hl with | [_, _, _], _ => rfl
theorem bb_comes_before : BB d_comes_before := fun _ _ _ _ _ _ us hl => match us, hl with | [_, _, _, _], _ => rfl
theorem bb_number_of : BB d_number_of := fun _ _ _ _ _ _ us hl => match us, hl with | [_, _, _, _], _ => rfl
theorem bb_rows_of : BB d_rows_of := fun _ _ _ _ _ _ us hl => match us, hl with | [_, _, _, _], _ => rfl
theorem bb_splits_of : BB d_splits_of := fun _ _ _ _ _ _ us hl => match us, hl with | [_, _, _, _], _ => rfl
theorem bb_count_values : BB d_count_values := fun _ _ _ _ _ _ us hl => match us, hl with | [_, _, _], _ => rfl
theorem bb_all_of : BB d_all_of := fun _ _ _ _ _ _ us hl => match us, hl with | [_, _, _], _ => rfl
theorem bb_lists_of : BB d_lists_of := fun _ _ _ _ _ _ us hl => match us, hl with | [_, _, _], _ => rfl
theorem bb_tuples_of : BB d_tuples_of := fun _ _ _ _ _ _ us hl => match us, hl with | [_, _, _], _ => rfl
theorem bb_values : BB d_values := fun _ _ _ _ _ _ us hl => match us, hl with | [_, _, _], _ => rfl
theorem bb_firsts : BB d_firsts := fun _ _ _ _ _ _ us hl => match us, hl with | [_, _, _, _], _ => rfl
theorem bb_first_tuples : BB d_first_tuples := fun _ _ _ _ _ _ us hl => match us, hl with | [_, _, _, _], _ => rfl
theorem bb_least_of : BB d_least_of := fun _ _ _ _ _ _ us hl => match us, hl with | [_, _], _ => rfl
theorem bb_least : BB d_least := fun _ _ _ _ _ _ us hl => match us, hl with | [_, _], _ => rfl
theorem bb__law_ordered : BB d__law_ordered := fun _ _ _ _ _ _ us hl => match us, hl with | [_, _, _], _ => rfl
theorem bb__law_taken : BB d__law_taken := fun _ _ _ _ _ _ us hl => match us, hl with | [_, _], _ => rfl
theorem bb__law_pick : BB d__law_pick := fun _ _ _ _ _ _ us hl => match us, hl with | [_, _], _ => rfl
theorem bb__law_program : BB d__law_program := fun _ _ _ _ _ _ us hl => match us, hl with | [_], _ => rfl
theorem bb__law_alike : BB d__law_alike := fun _ _ _ _ _ _ us hl => match us, hl with | [_, _], _ => rfl
theorem bb__law_body : BB d__law_body := fun _ _ _ _ _ _ us hl => match us, hl with | [_, _], _ => rfl
theorem bb__law_rows : BB d__law_rows := fun _ _ _ _ _ _ us hl => match us, hl with | [_, _, _], _ => rfl
theorem bb__law_fields : BB d__law_fields := fun _ _ _ _ _ _ us hl => match us, hl with | [_, _, _], _ => rfl
theorem bb__law_values : BB d__law_values := fun _ _ _ _ _ _ us hl => match us, hl with | [_, _, _], _ => rfl
theorem bb__law_size : BB d__law_size := fun _ _ _ _ _ _ us hl => match us, hl with | [_], _ => rfl
theorem bb__law_key : BB d__law_key := fun _ _ _ _ _ _ us hl => match us, hl with | [_, _, _], _ => rfl
theorem bb__law_some : BB d__law_some := fun _ _ _ _ _ _ us hl => match us, hl with | [_, _, _], _ => rfl
theorem bb_law : BB d_law := fun _ _ _ _ _ _ us hl => match us, hl with | [_], _ => rfl
theorem bb_all : ∀ d ∈ ds, BB d := by
  intro d hd
  simp only [ds, List.mem_cons, List.not_mem_nil, or_false] at hd
  rcases hd with rfl | rfl | rfl | rfl | rfl | rfl | rfl | rfl | rfl | rfl | rfl | rfl | rfl | rfl | rfl | rfl | rfl | rfl | rfl | rfl | rfl | rfl | rfl | rfl | rfl | rfl | rfl | rfl | rfl | rfl | rfl | rfl | rfl | rfl | rfl | rfl | rfl | rfl | rfl | rfl | rfl | rfl | rfl | rfl | rfl | rfl | rfl | rfl | rfl | rfl | rfl | rfl
  · exact bb_whole
  · exact bb_within
  · exact bb_need_number
  · exact bb_tuple_of
  · exact bb_is_word
  · exact bb_is_makers
  · exact bb_is_body
  · exact bb_need_program
  · exact bb_body_of
  · exact bb_need_kind
  · exact bb_filled_of
  · exact bb_kinds
  · exact bb_parts_of
  · exact bb_reach_of
  · exact bb_endless_of
  · exact bb_is_endless
  · exact bb_count_of
  · exact bb_count_all
  · exact bb_fields_of
  · exact bb_is_value_of
  · exact bb_is_value
  · exact bb_need_value
  · exact bb_size_of
  · exact bb_size
  · exact bb_key_of
  · exact bb_ordered
  · exact bb_comes_before
  · exact bb_number_of
  · exact bb_rows_of
  · exact bb_splits_of
  · exact bb_count_values
  · exact bb_all_of
  · exact bb_lists_of
  · exact bb_tuples_of
  · exact bb_values
  · exact bb_firsts
  · exact bb_first_tuples
  · exact bb_least_of
  · exact bb_least
  · exact bb__law_ordered
  · exact bb__law_taken
  · exact bb__law_pick
  · exact bb__law_program
  · exact bb__law_alike
  · exact bb__law_body
  · exact bb__law_rows
  · exact bb__law_fields
  · exact bb__law_values
  · exact bb__law_size
  · exact bb__law_key
  · exact bb__law_some
  · exact bb_law
end K00
open PySem PySem.W PySem.Calls PyProof.Rows
theorem PySem.Challenge.cw_matchtrees_k00_whole_programs_holds : PySem.Challenge.rw_matchtrees_k00_whole_programs.Holds := by
  w_on; o_law
  refine HandSHeadRun.head_any (r := OpenLaw.row PySem.Challenge.rw_matchtrees_k00_whole_programs) (q := K00.qv) (H := K00.hk) (ob := K00.ob) (M := 4000) (loose := K00.loose)
    (d := HandSHeadRun.topDef (OpenLaw.row PySem.Challenge.rw_matchtrees_k00_whole_programs).prog 68) (kwd := []) K00.ob_eq
    (by kernel_rfl) (fun s => by kernel_rfl) K00.hd_run (by kernel_rfl)
    (by kernel_rfl) (by kernel_rfl) (by rfl) (by first | assumption | decide +kernel)
    (by decide +kernel) ⟨rfl, rfl, rfl, rfl, rfl, by decide +kernel⟩ ?hw ?hc
  case hw => w_witness2
  case hc => exact Mt.walk_law (T := K00.T) (ds := K00.ds) (fs := K00.fns) (tq := K00.tq) (i := 51) (k := 229) (dl := K00.d_law) (x := "_law_script") rfl (by kernel_rfl) ⟨rfl, by decide, by decide⟩ rfl K00.bb_all K00.hd_all K00.tq_ok rfl rfl (by kernel_rfl) K00.law_true
end
