import PyProof.Rows.All
import Wide.All
import OpenK.AllK
import Wide.FinOn
import HandS.ForMost
import HandS.Star
import HandS.Conv
import KE.SortKeyHeap
import KE.SortData
import HandS.EndTab
import HandS.TupAny
import HandS.Deep
import HandS.IsInst
import HandS.Zip
import HandS.Words
import HandS.Sort
import KE.KLam
import HandS.TupSets
import HandS.SetFor
import KE.KEqDeep
import KE.KNestM
import PySem.Challenge.RW_leastthatfails_k52_crossing_of_many_lots
set_option Elab.async false
set_option linter.all false
set_option maxRecDepth 100000
/-! M1: a small language of expressions and statements without positions, and its evaluator. `none` = stuck. -/
namespace Mi
open PySem

abbrev D := PyData
/-- a value: data, a cell of the small heap, or the script -/
inductive Val where
  | d (x : D)
  | ref (n : Nat)
  | scr (ns : List Int)
/-- a cell: a list that may change -/
inductive Cell where
  | lst (xs : List D)
abbrev MH := List Cell
abbrev Env := List (Option Val)

inductive BOp where
  | add | sub | mul | fdiv | mod | pow
  deriving DecidableEq
inductive COp where
  | lt | le | gt | ge | eq | ne | isin | notin
  deriving DecidableEq
inductive Ty where
  | int | bool | tuple | str | list
  deriving DecidableEq
inductive Blt where
  | len | all | any | sum | max | min | sorted | tuple | list | int | abs
  deriving DecidableEq
/-- where an item goes: one slot, or several at once -/
inductive Tg where
  | one (i : Nat)
  | many (is : List Nat)
  deriving DecidableEq

mutual
inductive E where
  | bad
  | var (i : Nat)
  | cst (x : D)
  | glob (x : Str)
  | bin (o : BOp) (a b : E)
  | cmp (o : COp) (a b : E)
  | chain (o p : COp) (a b c : E)
  | isN (a : E)
  | notN (a : E)
  | and (a b : E)
  | or (a b : E)
  | not (a : E)
  | ite (c a b : E)
  | tup (es : Es)
  | lst (es : Es)
  | sub (a i : E)
  | slc (a : E) (lo hi : Es)
  | rev (a : E)
  | call (f : Str) (es : Es)
  | blt (b : Blt) (es : Es)
  | rng (es : Es)
  | set (a : E)
  | srt (k : Option Str) (a : E)
  | isi (a : E) (t : Ty)
  | neg (a : E)
  | new (a : E)
  | zip (a b : E)
  | comp (own : List Nat) (elt : E) (t : Tg) (it : It) (c : Es)
  | pop (a i : E)
inductive Es where
  | nil
  | cons (e : E) (es : Es)
  | star (e : E) (es : Es)
inductive It where
  | val (e : E)
  | zip (a b : E)
  | rng (es : Es)
end
/-- what is walked, off the expression -/
def itOf : E → It
  | .zip a b => .zip a b
  | .rng es => .rng es
  | e => .val e

mutual
inductive S where
  | bad
  | asg (t : Tg) (e : E)
  | par (ts : List Nat) (es : Es)
  | setI (a i e : E)
  | app (a e : E)
  | ext (a e : E)
  | exp (e : E)
  | ret (e : E)
  | ifs (c : E) (a b : Ss)
  | for (t : Tg) (it : It) (b : Ss)
  | while (c : E) (b : Ss)
  | pass
inductive Ss where
  | nil
  | cons (s : S) (r : Ss)
end

/-- a def: how many parameters, how many slots, its body, whether a list that it returns is handed on as a cell -/
structure FDef where
  np : Nat
  nl : Nat
  body : Ss
  cell : Bool

/-! ### operations on data -/
def lim : Nat := 1000000
def mulOk (i j : Int) : Bool := decide (i.natAbs < 2 ^ 64) || decide (j.natAbs < 2 ^ 64)
def powOk (i j : Int) : Bool := decide (2 ≤ i) && decide (1 ≤ j) && decide ((i.natAbs.log2 + 1) * j.natAbs ≤ 100000)
def bop : BOp → D → D → Option D
  | .add, .int i, .int j => some (.int (i + j))
  | .add, .tuple xs, .tuple ys => if xs.length + ys.length ≤ lim then some (.tuple (xs ++ ys)) else none
  | .add, .list xs, .list ys => if xs.length + ys.length ≤ lim then some (.list (xs ++ ys)) else none
  | .sub, .int i, .int j => some (.int (i - j))
  | .mul, .int i, .int j => if mulOk i j then some (.int (i * j)) else none
  | .fdiv, .int i, .int j => if 0 < j ∧ j < 1073741824 then some (.int (i / j)) else none
  | .mod, .int i, .int j => if 0 < j then some (.int (i % j)) else none
  | .pow, .int i, .int j => if powOk i j then some (.int (i ^ j.toNat)) else none
  | _, _, _ => none
def shallow (x y : D) : Bool := decide (min x.depth y.depth ≤ 60)
/-- the items of a list or a tuple -/
def items : D → Option (List D)
  | .tuple xs => some xs
  | .list xs => some xs
  | _ => none
def cop : COp → D → D → Option Bool
  | .lt, .int i, .int j => some (decide (i < j))
  | .le, .int i, .int j => some (decide (i ≤ j))
  | .gt, .int i, .int j => some (decide (j < i))
  | .ge, .int i, .int j => some (decide (j ≤ i))
  | .eq, x, y => if shallow x y then some (x.eqv y) else none
  | .ne, x, y => if shallow x y then some (!x.eqv y) else none
  | .isin, x, c => (items c).bind fun ys => if x.depth ≤ 60 then some (ys.any fun y => y.eqv x) else none
  | .notin, x, c => (items c).bind fun ys => if x.depth ≤ 60 then some (!(ys.any fun y => y.eqv x)) else none
  | _, _, _ => none
def isTy : Ty → D → Bool
  | .int, .int _ => true
  | .int, .bool _ => true
  | .bool, .bool _ => true
  | .tuple, .tuple _ => true
  | .list, .list _ => true
  | .str, .str _ => true
  | _, _ => false
def boolsOf : List D → Option (List Bool)
  | [] => some []
  | .bool b :: r => (boolsOf r).map (b :: ·)
  | _ => none
def intsOf : List D → Option (List Int)
  | [] => some []
  | .int i :: r => (intsOf r).map (i :: ·)
  | _ => none
/-- the greatest (least) of ints -/
def bigI : Int → List Int → Int
  | m, [] => m
  | m, i :: r => bigI (if m < i then i else m) r
def smallI : Int → List Int → Int
  | m, [] => m
  | m, i :: r => smallI (if i < m then i else m) r
/-- tuples of ints, in the order of Python -/
def ltL : List Int → List Int → Bool
  | _, [] => false
  | [], _ :: _ => true
  | x :: xs, y :: ys => if x = y then ltL xs ys else decide (x < y)
def natI (n : Nat) : Int := n
/-- an index of Python's -/
abbrev ixOf (n : Nat) (i : Int) : Option Nat := L2.ixN n i
/-- a slice -/
def cutL {α : Type} (xs : List α) (lo hi : Option Int) : List α :=
  (xs.drop (HT.sIx xs.length 0 lo)).take (HT.sIx xs.length xs.length hi - HT.sIx xs.length 0 lo)
def cutD : D → Option Int → Option Int → Option D
  | .tuple xs, lo, hi => some (.tuple (cutL xs lo hi))
  | .list xs, lo, hi => some (.list (cutL xs lo hi))
  | _, _, _ => none
def rangeL (lo : Int) : Nat → List D
  | 0 => []
  | n + 1 => .int lo :: rangeL (lo + 1) n
def blt1 : Blt → D → Option D
  | .len, .tuple xs => some (.int xs.length)
  | .len, .list xs => some (.int xs.length)
  | .all, .list xs => (boolsOf xs).map fun bs => .bool (bs.all id)
  | .any, .list xs => (boolsOf xs).map fun bs => .bool (bs.any id)
  | .sum, .list xs => (intsOf xs).map fun ns => .int ns.sum
  | .max, .list xs => (intsOf xs).bind fun ns => match ns with | [] => none | n :: r => some (.int (bigI n r))
  | .min, .list xs => (intsOf xs).bind fun ns => match ns with | [] => none | n :: r => some (.int (smallI n r))
  | .tuple, .list xs => some (.tuple xs)
  | .tuple, .tuple xs => some (.tuple xs)
  | .list, .list xs => some (.list xs)
  | .list, .tuple xs => some (.list xs)
  | .int, .int i => some (.int i)
  | .int, .bool b => some (.int (if b then 1 else 0))
  | .abs, .int i => some (.int (if i < 0 then -i else i))
  | _, _ => none
def blt2 : Blt → D → D → Option D
  | .max, .int i, .int j => some (.int (if j > i then j else i))
  | .min, .int i, .int j => some (.int (if j < i then j else i))
  | _, _, _ => none

/-! ### sorting -/
/-- what may be sorted together: ints, or tuples of ints -/
def rowOf : D → Option (List Int)
  | .int i => some [i]
  | .tuple xs => intsOf xs
  | _ => none
def rowsOf : List D → Option (List (List Int))
  | [] => some []
  | x :: r => (rowOf x).bind fun a => (rowsOf r).map (a :: ·)
def allInts : List D → Bool
  | [] => true
  | .int _ :: r => allInts r
  | _ => false
def allTups : List D → Bool
  | [] => true
  | .tuple _ :: r => allTups r
  | _ => false
def rowD (x : D) : List Int := (rowOf x).getD []
def leD (x y : D) : Bool := !ltL (rowD y) (rowD x)
def neT : D → Bool
  | .tuple (_ :: _) => true
  | _ => false
def sortD (xs : List D) : Option (List D) :=
  if (allInts xs || xs.all neT || decide (xs.length ≤ 1)) && (rowsOf xs).isSome then some (xs.mergeSort leD) else none
/-- by how many parts, then which -/
def leN (x y : D) : Bool := let a := rowD x; let b := rowD y; if a.length = b.length then !ltL b a else decide (a.length ≤ b.length)
def sortN (xs : List D) : Option (List D) :=
  if allTups xs && (rowsOf xs).isSome then some (xs.mergeSort leN) else none
/-- each once -/
def onceD : List D → List D
  | [] => []
  | x :: r => if (onceD r).any (fun y => y.eqv x) then onceD r else x :: onceD r

/-- what a set is made of here: a tuple of ints, or tuples of ints -/
def isTupD : D → Bool
  | .tuple _ => true
  | _ => false
def setOk (x : D) (xs : List D) : Bool := (isTupD x && allInts xs && decide (xs.length ≤ 1000)) || (allTups xs && (rowsOf xs).isSome && decide (xs.length ≤ 1000))

/-! ### cells, slots -/
def get (M : MH) : Val → Option D
  | .d x => some x
  | .ref n => match M[n]? with | some (.lst xs) => some (.list xs) | none => none
  | .scr ns => some (.list (ns.map .int))
/-- .. but the script -/
def getT (M : MH) : Val → Option D
  | .scr _ => none
  | v => get M v
def setSlot (ρ : Env) (i : Nat) (v : Val) : Env := ρ.set i (some v)
def bind1 : Tg → Val → MH → Env → Option Env
  | .one i, v, _, ρ => some (setSlot ρ i v)
  | .many is, v, M, ρ => (get M v).bind fun x => match x with
    | .tuple xs => if xs.length = is.length then some (is.zip xs |>.foldl (fun ρ p => setSlot ρ p.1 (.d p.2)) ρ) else none
    | _ => none
def wipe (ρ : Env) : List Nat → Env
  | [] => ρ
  | i :: r => (wipe ρ r).set i none

def isNonV : Val → Bool
  | .d .none => true
  | _ => false
/-- the items of a value that is walked as it stands -/
def itemsV : Val → MH → Option (List D × MH)
  | .d x, M => (items x).map fun xs => (xs, M)
  | _, _ => none
def zipV : Val → Val → MH → Option (List D × MH)
  | .d (.tuple xs), .d (.tuple ys), M => some ((xs.zip ys).map fun r => .tuple [r.1, r.2], M)
  | .d (.list xs), .d (.list ys), M => some ((xs.zip ys).map fun r => .tuple [r.1, r.2], M)
  | _, _, _ => none

/-- an expression whose value, if it is a list, has just been made -/
def isL : E → Bool
  | .lst _ => true
  | .comp .. => true
  | .blt .sorted _ => true
  | .blt .list _ => true
  | .bin .add _ _ => true
  | .slc .. => true
  | .srt _ _ => true
  | _ => false

def bysO (b : Str → Bool) : Option Str → Bool
  | some f => b f
  | none => true
structure Ctx where
  cst : Str → Option D
  call : Str → List Val → MH → Option (Val × MH)
  fuel : Nat
  bys : Str → Bool

/-- over items, each turn may leave one behind -/
def compL (f : D → MH → Option (Option D × MH)) : List D → MH → Option (List D × MH)
  | [], M => some ([], M)
  | x :: r, M => (f x M).bind fun p => (compL f r p.2).map fun q => ((match p.1 with | some y => y :: q.1 | none => q.1), q.2)

mutual
def evE (C : Ctx) : E → Env → MH → Option (Val × MH)
  | .bad, _, _ => none
  | .var i, ρ, M => match ρ[i]? with | some (some v) => some (v, M) | _ => none
  | .cst x, _, M => some (.d x, M)
  | .glob x, _, M => (C.cst x).map fun y => (.d y, M)
  | .bin o a b, ρ, M => (evE C a ρ M).bind fun p => (evE C b ρ p.2).bind fun q =>
      (getT q.2 p.1).bind fun x => (getT q.2 q.1).bind fun y => (bop o x y).map fun z => (.d z, q.2)
  | .neg a, ρ, M => (evE C a ρ M).bind fun p => match p.1 with | .d (.int k) => some (.d (.int (-k)), p.2) | _ => none
  | .cmp o a b, ρ, M => (evE C a ρ M).bind fun p => (evE C b ρ p.2).bind fun q =>
      (get q.2 p.1).bind fun x => (get q.2 q.1).bind fun y => (cop o x y).map fun z => (.d (.bool z), q.2)
  | .chain o o2 a b c, ρ, M => (evE C a ρ M).bind fun p => (evE C b ρ p.2).bind fun q =>
      (get q.2 p.1).bind fun x => (get q.2 q.1).bind fun y => (cop o x y).bind fun z =>
        if z then (evE C c ρ q.2).bind fun r => (get r.2 q.1).bind fun y' => (get r.2 r.1).bind fun w => (cop o2 y' w).map fun k => (.d (.bool k), r.2)
        else some (.d (.bool false), q.2)
  | .isN a, ρ, M => (evE C a ρ M).map fun p => (.d (.bool (isNonV p.1)), p.2)
  | .notN a, ρ, M => (evE C a ρ M).map fun p => (.d (.bool (!isNonV p.1)), p.2)
  | .and a b, ρ, M => (evE C a ρ M).bind fun p => match p.1 with
      | .d (.bool true) => (evE C b ρ p.2).bind fun q => match q.1 with | .d (.bool k) => some (.d (.bool k), q.2) | _ => none
      | .d (.bool false) => some (.d (.bool false), p.2)
      | _ => none
  | .or a b, ρ, M => (evE C a ρ M).bind fun p => match p.1 with
      | .d (.bool false) => (evE C b ρ p.2).bind fun q => match q.1 with | .d (.bool k) => some (.d (.bool k), q.2) | _ => none
      | .d (.bool true) => some (.d (.bool true), p.2)
      | _ => none
  | .not a, ρ, M => (evE C a ρ M).bind fun p => match p.1 with | .d (.bool k) => some (.d (.bool (!k)), p.2) | _ => none
  | .ite c a b, ρ, M => (evE C c ρ M).bind fun p => match p.1 with
      | .d (.bool true) => evE C a ρ p.2
      | .d (.bool false) => evE C b ρ p.2
      | _ => none
  | .tup es, ρ, M => (evDs C es ρ M).map fun p => (.d (.tuple p.1), p.2)
  | .lst es, ρ, M => (evDs C es ρ M).map fun p => (.d (.list p.1), p.2)
  | .sub a i, ρ, M => (evE C a ρ M).bind fun p => (evE C i ρ p.2).bind fun q => (get q.2 p.1).bind fun x => (items x).bind fun xs => match q.1 with
      | .d (.int k) => (ixOf xs.length k).bind fun j => (xs[j]?).map fun y => (.d y, q.2)
      | _ => none
  | .slc a lo hi, ρ, M => (evE C a ρ M).bind fun p => (evO C lo ρ p.2).bind fun q => (evO C hi ρ q.2).bind fun r => (get r.2 p.1).bind fun x => (cutD x q.1 r.1).map fun y => (.d y, r.2)
  | .rev a, ρ, M => (evE C a ρ M).bind fun p => (get p.2 p.1).bind fun x => match x with
      | .tuple xs => some (.d (.tuple xs.reverse), p.2)
      | .list xs => some (.d (.list xs.reverse), p.2)
      | _ => none
  | .call f es, ρ, M => (evEs C es ρ M).bind fun p => C.call f p.1 p.2
  | .new a, ρ, M => if isL a then (evE C a ρ M).bind fun p => match p.1 with | .d (.list xs) => some (.ref p.2.length, p.2 ++ [.lst xs]) | _ => none else none
  | .blt .sorted (.cons (.set a) .nil), ρ, M => (evE C a ρ M).bind fun p => (get p.2 p.1).bind fun x => (items x).bind fun xs => if setOk x xs then (sortD (onceD xs)).map fun ys => (.d (.list ys), p.2) else none
  | .blt .tuple (.cons (.rng es) .nil), ρ, M => (evRng C es ρ M).map fun p => (.d (.tuple p.1), p.2)
  | .blt .list (.cons (.rng es) .nil), ρ, M => (evRng C es ρ M).map fun p => (.d (.list p.1), p.2)
  | .blt b (.cons a .nil), ρ, M => (evE C a ρ M).bind fun p => (get p.2 p.1).bind fun x => match b with
      | .sorted => (items x).bind fun xs => (sortD xs).map fun ys => (.d (.list ys), p.2)
      | _ => (blt1 b x).map fun z => (.d z, p.2)
  | .blt b (.cons a (.cons c .nil)), ρ, M => (evE C a ρ M).bind fun p => (evE C c ρ p.2).bind fun q =>
      (get q.2 p.1).bind fun x => (get q.2 q.1).bind fun y => (blt2 b x y).map fun z => (.d z, q.2)
  | .blt _ _, _, _ => none
  | .rng _, _, _ => none
  | .zip _ _, _, _ => none
  | .set _, _, _ => none
  | .srt k a, ρ, M => if bysO C.bys k then (evE C a ρ M).bind fun p => (get p.2 p.1).bind fun x => (items x).bind fun xs => (sortN xs).map fun ys => (.d (.list ys), p.2) else none
  | .isi a t, ρ, M => (evE C a ρ M).bind fun p => (get p.2 p.1).map fun x => (.d (.bool (isTy t x)), p.2)
  | .comp own elt t it c, ρ, M => (evIt C it ρ M).bind fun p => if p.1.length ≤ lim then (compL (fun x M1 => (bind1 t (.d x) M1 (wipe ρ own)).bind fun ρ1 =>
      (evC C c ρ1 M1).bind fun q => if q.1 then (evE C elt ρ1 q.2).bind fun r => match r.1 with | .d y => some (some y, r.2) | _ => none else some (none, q.2)) p.1 p.2).map fun r => (.d (.list r.1), r.2) else none
  | .pop a i, ρ, M => (evE C a ρ M).bind fun p => (evE C i ρ p.2).bind fun q => match p.1, q.1 with
      | .ref n, .d (.int k) => match q.2[n]? with
        | some (.lst xs) => if k.natAbs ≤ lim then (ixOf xs.length k).bind fun j => (xs[j]?).map fun y => (.d y, q.2.set n (.lst (xs.eraseIdx j))) else none
        | _ => none
      | _, _ => none
/-- values of arguments (no star) -/
def evEs (C : Ctx) : Es → Env → MH → Option (List Val × MH)
  | .nil, _, M => some ([], M)
  | .cons e r, ρ, M => (evE C e ρ M).bind fun p => (evEs C r ρ p.2).map fun q => (p.1 :: q.1, q.2)
  | .star _ _, _, _ => none
/-- data of a display's places -/
def evDs (C : Ctx) : Es → Env → MH → Option (List D × MH)
  | .nil, _, M => some ([], M)
  | .cons e r, ρ, M => (evE C e ρ M).bind fun p => match p.1 with
      | .d x => (evDs C r ρ p.2).bind fun q => if q.1.length < lim then some (x :: q.1, q.2) else none
      | _ => none
  | .star e r, ρ, M => (evE C e ρ M).bind fun p => (get p.2 p.1).bind fun x => (items x).bind fun xs => (evDs C r ρ p.2).bind fun q => if xs.length + q.1.length ≤ lim then some (xs ++ q.1, q.2) else none
/-- a slice's end, if it is written -/
def evO (C : Ctx) : Es → Env → MH → Option (Option Int × MH)
  | .nil, _, M => some (none, M)
  | .cons e _, ρ, M => (evE C e ρ M).bind fun p => match p.1 with | .d (.int k) => some (some k, p.2) | _ => none
  | .star _ _, _, _ => none
/-- a comprehension's test, if there is one -/
def evC (C : Ctx) : Es → Env → MH → Option (Bool × MH)
  | .nil, _, M => some (true, M)
  | .cons e _, ρ, M => (evE C e ρ M).bind fun p => match p.1 with | .d (.bool k) => some (k, p.2) | _ => none
  | .star _ _, _, _ => none
def evRng (C : Ctx) : Es → Env → MH → Option (List D × MH)
  | .cons a .nil, ρ, M => (evE C a ρ M).bind fun p => match p.1 with | .d (.int k) => if k.natAbs ≤ lim then some (rangeL 0 k.toNat, p.2) else none | _ => none
  | .cons a (.cons b .nil), ρ, M => (evE C a ρ M).bind fun p => (evE C b ρ p.2).bind fun q => match p.1, q.1 with
      | .d (.int i), .d (.int k) => if i.natAbs ≤ lim ∧ k.natAbs ≤ lim then some (rangeL i (k - i).toNat, q.2) else none
      | _, _ => none
  | _, _, _ => none
/-- what is walked -/
def evIt (C : Ctx) : It → Env → MH → Option (List D × MH)
  | .val e, ρ, M => (evE C e ρ M).bind fun p => itemsV p.1 p.2
  | .zip a b, ρ, M => (evE C a ρ M).bind fun p => (evE C b ρ p.2).bind fun q => zipV p.1 q.1 q.2
  | .rng es, ρ, M => evRng C es ρ M
end

inductive Out where
  | nx (ρ : Env) (M : MH)
  | rt (v : Val) (M : MH)
def store (ρ : Env) : List Nat → List Val → Option Env
  | [], [] => some ρ
  | i :: ts, v :: vs => store (setSlot ρ i v) ts vs
  | _, _ => none
def forL (f : D → Env → MH → Option Out) : List D → Env → MH → Option Out
  | [], ρ, M => some (.nx ρ M)
  | x :: r, ρ, M => (f x ρ M).bind fun o => match o with
    | .nx ρ1 M1 => forL f r ρ1 M1
    | .rt v M1 => some (.rt v M1)
def whileL (t : Env → MH → Option (Bool × MH)) (f : Env → MH → Option Out) : Nat → Env → MH → Option Out
  | 0, _, _ => none
  | n + 1, ρ, M => (t ρ M).bind fun p => if p.1 then (f ρ p.2).bind fun o => match o with
      | .nx ρ1 M1 => whileL t f n ρ1 M1
      | .rt v M1 => some (.rt v M1)
    else some (.nx ρ p.2)
def evT (C : Ctx) (e : E) (ρ : Env) (M : MH) : Option (Bool × MH) := (evE C e ρ M).bind fun p => match p.1 with | .d (.bool k) => some (k, p.2) | _ => none

mutual
def evS (C : Ctx) : S → Env → MH → Option Out
  | .bad, _, _ => none
  | .asg t e, ρ, M => (evE C e ρ M).bind fun p => (bind1 t p.1 p.2 ρ).map fun ρ1 => .nx ρ1 p.2
  | .par ts es, ρ, M => (evEs C es ρ M).bind fun p => (store ρ ts p.1).map fun ρ1 => .nx ρ1 p.2
  | .setI a i e, ρ, M => (evE C e ρ M).bind fun p => (evE C a ρ p.2).bind fun q => (evE C i ρ q.2).bind fun r => match p.1, q.1, r.1 with
      | .d y, .ref n, .d (.int k) => match r.2[n]? with
        | some (.lst xs) => (ixOf xs.length k).map fun j => .nx ρ (r.2.set n (.lst (xs.set j y)))
        | _ => none
      | _, _, _ => none
  | .app a e, ρ, M => (evE C a ρ M).bind fun p => (evE C e ρ p.2).bind fun q => match p.1, q.1 with
      | .ref n, .d y => match q.2[n]? with
        | some (.lst xs) => if xs.length < lim then some (.nx ρ (q.2.set n (.lst (xs ++ [y])))) else none
        | _ => none
      | _, _ => none
  | .ext a e, ρ, M => (evE C a ρ M).bind fun p => (evE C e ρ p.2).bind fun q => match p.1, q.1 with
      | .ref n, .d (.list ys) => match q.2[n]? with
        | some (.lst xs) => if xs.length + ys.length ≤ lim then some (.nx ρ (q.2.set n (.lst (xs ++ ys)))) else none
        | _ => none
      | _, _ => none
  | .exp e, ρ, M => (evE C e ρ M).map fun p => .nx ρ p.2
  | .ret e, ρ, M => (evE C e ρ M).map fun p => .rt p.1 p.2
  | .ifs c a b, ρ, M => (evT C c ρ M).bind fun p => if p.1 then evSs C a ρ p.2 else evSs C b ρ p.2
  | .for t it b, ρ, M => (evIt C it ρ M).bind fun p => forL (fun x ρ1 M1 => (bind1 t (.d x) M1 ρ1).bind fun ρ2 => evSs C b ρ2 M1) p.1 ρ p.2
  | .while c b, ρ, M => whileL (evT C c) (evSs C b) C.fuel ρ M
  | .pass, ρ, M => some (.nx ρ M)
def evSs (C : Ctx) : Ss → Env → MH → Option Out
  | .nil, ρ, M => some (.nx ρ M)
  | .cons s r, ρ, M => (evS C s ρ M).bind fun o => match o with
    | .nx ρ1 M1 => evSs C r ρ1 M1
    | .rt v M1 => some (.rt v M1)
end

/-- what a def hands on: data; a cell of the caller's; a cell of its own becomes data again (or stays, where the def says so) -/
def handOn (keep : Bool) (n : Nat) : Val → MH → Option (Val × MH)
  | .d x, M => some (.d x, M.take n)
  | .scr _, _ => none
  | .ref m, M => if m < n then some (.ref m, M.take n) else if keep then (if m = n then some (.ref m, M.take (n + 1)) else none) else
    match M[m]? with
    | some (.lst xs) => some (.d (.list xs), M.take n)
    | none => none
def startE (nl : Nat) (vs : List Val) : Env := vs.map some ++ List.replicate (nl - vs.length) none
def callF (T : Str → Option FDef) (cst : Str → Option D) (fuel : Nat) (bys : Str → Bool) : Nat → Str → List Val → MH → Option (Val × MH)
  | 0, _, _, _ => none
  | n + 1, f, vs, M => (T f).bind fun fd => if vs.length = fd.np then
      (evSs ⟨cst, callF T cst fuel bys n, fuel, bys⟩ fd.body (startE fd.nl vs) M).bind fun o => match o with
        | .rt v M1 => handOn fd.cell M.length v M1
        | .nx _ M1 => some (.d .none, M1.take M.length)
    else none
end Mi
set_option maxHeartbeats 4000000
/-! M2: how data and cells stand in the abstract heap; readings by the evaluator. -/
namespace Mi
open PySem PySem.Spec PyProof.Rows L2

abbrev noH : Hp := fun _ => none
/-- a tuple that is read: tracked outside of Z, or of the written part -/
def TupAt (K : PySem.W.Frag) (H : Hp) (Z : List Addr) (a : Addr) (xs : List V) : Prop := (Rd H a (.tup xs) ∧ a ∉ Z) ∨ SqT K noH a xs
def LstAt (H : Hp) (Z : List Addr) (a : Addr) (xs : List V) : Prop := H a = some (.lst xs) ∧ a ∉ Z
mutual
/-- v is the data d in H; no list or tuple of it is one of Z -/
def RD (K : PySem.W.Frag) (H : Hp) (Z : List Addr) : D → V → Prop
  | .none, v => v = .non
  | .bool b, v => v = .bl b
  | .int i, v => v = .int i
  | .str x, v => v = .str x ∧ PyData.strOk x = true
  | .list ds, v => ∃ a xs, v = .ref a ∧ LstAt H Z a xs ∧ RDs K H Z ds xs
  | .tuple ds, v => ∃ a xs, v = .ref a ∧ TupAt K H Z a xs ∧ RDs K H Z ds xs
  | .dict _, _ => False
def RDs (K : PySem.W.Frag) (H : Hp) (Z : List Addr) : List D → List V → Prop
  | [], xs => xs = []
  | d :: ds, xs => ∃ x r, xs = x :: r ∧ RD K H Z d x ∧ RDs K H Z ds r
end
section
variable {K : PySem.W.Frag} {H H' : Hp} {Z Z' : List Addr}
theorem no_rd {a : Addr} {u : HO} (h : Rd noH a u) : False := by
  rcases h with h | ⟨o, h⟩
  · cases h
  · cases h
theorem sqT_any {a : Addr} {xs : List V} (h : SqT K noH a xs) : SqT K H a xs := by
  rcases h with h | h
  · exact (no_rd h).elim
  · exact .inr h
theorem sqL_any {a : Addr} {xs : List V} (h : SqL K noH a xs) : SqL K H a xs := by
  rcases h with h | h
  · exact (no_rd h).elim
  · exact .inr h
theorem TupAt.sq {a : Addr} {xs : List V} (h : TupAt K H Z a xs) : SqT K H a xs := h.elim (fun q => .inl q.1) sqT_any
theorem LstAt.sq {a : Addr} {xs : List V} (h : LstAt H Z a xs) : SqL K H a xs := .inl (.inl h.1)

/-- nothing stands there, or a table of code objects -/
def Nt (H : Hp) (a : Addr) : Prop := ∀ o, H a = some o → ∃ ps, o = .tbl ps
theorem Nt.of {a : Addr} (h : H a = none) : Nt H a := fun o e => by rw [h] at e; cases e
theorem Nt.no {a : Addr} {o : HO} (h : Nt H a) (e : H a = some o) (hn : ∀ ps, o ≠ .tbl ps) : False := by
  obtain ⟨ps, z⟩ := h o e
  exact hn ps z
/-- what stays of H outside of Z, and what Z may become -/
structure Grow (H : Hp) (Z : List Addr) (H' : Hp) (Z' : List Addr) : Prop where
  keep : ∀ a o, H a = some o → a ∉ Z → (∀ ps, o ≠ .tbl ps) → H' a = some o
  new : ∀ a ∈ Z', a ∈ Z ∨ Nt H a
theorem Grow.rd (g : Grow H Z H' Z') {a : Addr} {u : HO} (h : Rd H a u) (hz : a ∉ Z) (hu : ∀ ps, u ≠ .tbl ps) : Rd H' a u ∧ a ∉ Z' := by
  rcases h with h | ⟨o, h⟩
  · refine ⟨.inl (g.keep _ _ h hz hu), fun hm => ?_⟩
    rcases g.new a hm with z | z
    · exact hz z
    · exact z.no h hu
  · refine ⟨.inr ⟨o, g.keep _ _ h hz fun _ z => nomatch z⟩, fun hm => ?_⟩
    rcases g.new a hm with z | z
    · exact hz z
    · exact z.no h fun _ z => nomatch z
theorem TupAt.grow (g : Grow H Z H' Z') {a : Addr} {xs : List V} (h : TupAt K H Z a xs) : TupAt K H' Z' a xs :=
  h.elim (fun q => .inl (g.rd q.1 q.2 fun _ z => nomatch z)) .inr
theorem LstAt.grow (g : Grow H Z H' Z') {a : Addr} {xs : List V} (h : LstAt H Z a xs) : LstAt H' Z' a xs := by
  refine ⟨g.keep _ _ h.1 h.2 (fun _ z => nomatch z), fun hm => ?_⟩
  rcases g.new a hm with z | z
  · exact h.2 z
  · exact z.no h.1 fun _ z => nomatch z
mutual
theorem RD.grow (g : Grow H Z H' Z') : ∀ (d : D) (v : V), RD K H Z d v → RD K H' Z' d v
  | .none, _, h => h
  | .bool _, _, h => h
  | .int _, _, h => h
  | .str _, _, h => h
  | .list ds, _, ⟨a, xs, e, h, hs⟩ => ⟨a, xs, e, h.grow g, RDs.grow g ds xs hs⟩
  | .tuple ds, _, ⟨a, xs, e, h, hs⟩ => ⟨a, xs, e, h.grow g, RDs.grow g ds xs hs⟩
  | .dict _, _, h => h
theorem RDs.grow (g : Grow H Z H' Z') : ∀ (ds : List D) (xs : List V), RDs K H Z ds xs → RDs K H' Z' ds xs
  | [], _, h => h
  | d :: ds, _, ⟨x, r, e, h, hs⟩ => ⟨x, r, e, RD.grow g d x h, RDs.grow g ds r hs⟩
end
theorem RDs.length : ∀ {ds : List D} {xs : List V}, RDs K H Z ds xs → xs.length = ds.length
  | [], _, h => by rw [show _ = [] from h]; rfl
  | d :: ds, _, ⟨x, r, e, _, h⟩ => by rw [e, List.length_cons, List.length_cons, RDs.length h]
theorem RDs.get : ∀ {ds : List D} {xs : List V} {i : Nat} {d : D}, RDs K H Z ds xs → ds[i]? = some d → ∃ x, xs[i]? = some x ∧ RD K H Z d x
  | [], _, _, _, _, e => by simp at e
  | d :: ds, _, 0, _, ⟨x, r, e, h, _⟩, q => by
    cases (show some d = some _ from q)
    exact ⟨x, by rw [e]; rfl, h⟩
  | d :: ds, _, i + 1, _, ⟨x, r, e, _, h⟩, q => by
    obtain ⟨y, h1, h2⟩ := RDs.get (i := i) h (by simpa using q)
    exact ⟨y, by rw [e]; simpa using h1, h2⟩
theorem RDs.append : ∀ {ds es : List D} {xs ys : List V}, RDs K H Z ds xs → RDs K H Z es ys → RDs K H Z (ds ++ es) (xs ++ ys)
  | [], _, _, _, h, q => by rw [show _ = [] from h]; exact q
  | d :: ds, _, _, _, ⟨x, r, e, h, hs⟩, q => ⟨x, r ++ _, by rw [e]; rfl, h, RDs.append hs q⟩
theorem RDs.drop : ∀ {ds : List D} {xs : List V} (n : Nat), RDs K H Z ds xs → RDs K H Z (ds.drop n) (xs.drop n)
  | _, _, 0, h => h
  | [], _, n + 1, h => by rw [show _ = [] from h]; rfl
  | d :: ds, _, n + 1, ⟨x, r, e, _, h⟩ => by rw [e]; exact RDs.drop n h
theorem RDs.take : ∀ {ds : List D} {xs : List V} (n : Nat), RDs K H Z ds xs → RDs K H Z (ds.take n) (xs.take n)
  | _, _, 0, h => rfl
  | [], _, n + 1, h => by rw [show _ = [] from h]; rfl
  | d :: ds, _, n + 1, ⟨x, r, e, h1, h⟩ => by rw [e]; exact ⟨x, r.take n, rfl, h1, RDs.take n h⟩
theorem RDs.set : ∀ {ds : List D} {xs : List V} {d : D} {x : V} (n : Nat), RDs K H Z ds xs → RD K H Z d x → RDs K H Z (ds.set n d) (xs.set n x)
  | [], _, _, _, _, h, _ => by rw [show _ = [] from h]; rfl
  | d :: ds, _, _, _, 0, ⟨x, r, e, h1, h⟩, q => by rw [e]; exact ⟨_, r, rfl, q, h⟩
  | d :: ds, _, _, y, n + 1, ⟨x, r, e, h1, h⟩, q => by rw [e]; exact ⟨x, r.set n y, rfl, h1, RDs.set n h q⟩
theorem RDs.eraseIdx : ∀ {ds : List D} {xs : List V} (n : Nat), RDs K H Z ds xs → RDs K H Z (ds.eraseIdx n) (xs.eraseIdx n)
  | [], _, _, h => by rw [show _ = [] from h]; rfl
  | d :: ds, _, 0, ⟨x, r, e, h1, h⟩ => by rw [e]; exact h
  | d :: ds, _, n + 1, ⟨x, r, e, h1, h⟩ => by rw [e]; exact ⟨x, r.eraseIdx n, rfl, h1, RDs.eraseIdx n h⟩
theorem RDs.snoc {ds : List D} {xs : List V} {d : D} {x : V} (h : RDs K H Z ds xs) (q : RD K H Z d x) : RDs K H Z (ds ++ [d]) (xs ++ [x]) := h.append ⟨x, [], rfl, q, rfl⟩
theorem RDs.reverse : ∀ {ds : List D} {xs : List V}, RDs K H Z ds xs → RDs K H Z ds.reverse xs.reverse
  | [], _, h => by rw [show _ = [] from h]; rfl
  | d :: ds, _, ⟨x, r, e, h1, h⟩ => by rw [e, List.reverse_cons, List.reverse_cons]; exact (RDs.reverse h).snoc h1
theorem RDs.of_get : ∀ {ds : List D} {xs : List V}, xs.length = ds.length → (∀ (i : Nat) (d : D) (x : V), ds[i]? = some d → xs[i]? = some x → RD K H Z d x) → RDs K H Z ds xs
  | [], [], _, _ => rfl
  | d :: ds, x :: xs, hl, h => ⟨x, xs, rfl, h 0 d x rfl rfl, RDs.of_get (by simpa using hl) fun i d' x' h1 h2 => h (i + 1) d' x' (by simpa using h1) (by simpa using h2)⟩

/-! ### to the layer's data -/
mutual
theorem RD.dp : ∀ (d : D) (v : V), RD K H Z d v → Dp K H v d
  | .none, _, h => by cases (show _ = _ from h); exact .non
  | .bool _, _, h => by cases (show _ = _ from h); exact .bl _
  | .int _, _, h => by cases (show _ = _ from h); exact .int _
  | .str _, _, ⟨e, _⟩ => by rw [e]; exact .str _
  | .list ds, _, ⟨a, xs, e, h, hs⟩ => by rw [e]; exact .lst h.sq (RDs.dp ds xs hs)
  | .tuple ds, _, ⟨a, xs, e, h, hs⟩ => by rw [e]; exact .tup h.sq (RDs.dp ds xs hs)
  | .dict _, _, h => (show False from h).elim
theorem RDs.dp : ∀ (ds : List D) (xs : List V), RDs K H Z ds xs → DpAll K H xs ds
  | [], _, h => by rw [show _ = [] from h]; exact .nil
  | d :: ds, _, ⟨x, r, e, h, hs⟩ => by rw [e]; exact .cons (RD.dp d x h) (RDs.dp ds r hs)
end
mutual
theorem RD.lay : ∀ (d : D) (v : V), RD K H Z d v → d.canLay0 = true
  | .none, _, _ => by simp [PyData.canLay0]
  | .bool _, _, _ => by simp [PyData.canLay0]
  | .int _, _, _ => by simp [PyData.canLay0]
  | .str _, _, ⟨_, h⟩ => by rw [PyData.canLay0]; exact h
  | .list ds, _, ⟨a, xs, e, h, hs⟩ => by rw [PyData.canLay0]; exact RDs.lay ds xs hs
  | .tuple ds, _, ⟨a, xs, e, h, hs⟩ => by rw [PyData.canLay0]; exact RDs.lay ds xs hs
  | .dict _, _, h => (show False from h).elim
theorem RDs.lay : ∀ (ds : List D) (xs : List V), RDs K H Z ds xs → PyData.canLayAll0 ds = true
  | [], _, h => by simp [PyData.canLayAll0]
  | d :: ds, _, ⟨x, r, e, h, hs⟩ => by rw [PyData.canLayAll0, RD.lay d x h, RDs.lay ds r hs]; rfl
end

/-- .. where the list at the top may be one of Z -/
def RT (K : PySem.W.Frag) (H : Hp) (Z : List Addr) : D → V → Prop
  | .list ds, v => ∃ a xs, v = .ref a ∧ SqL K H a xs ∧ RDs K H Z ds xs
  | d, v => RD K H Z d v
theorem RD.rt : ∀ {d : D} {v : V}, RD K H Z d v → RT K H Z d v
  | .none, _, h => h
  | .bool _, _, h => h
  | .int _, _, h => h
  | .str _, _, h => h
  | .list ds, _, ⟨a, xs, e, h, hs⟩ => ⟨a, xs, e, h.sq, hs⟩
  | .tuple ds, _, h => h
  | .dict _, _, h => h
theorem RT.dp : ∀ {d : D} {v : V}, RT K H Z d v → Dp K H v d
  | .none, _, h => RD.dp _ _ (show RD K H Z _ _ from h)
  | .bool _, _, h => RD.dp _ _ (show RD K H Z _ _ from h)
  | .int _, _, h => RD.dp _ _ (show RD K H Z _ _ from h)
  | .str _, _, h => RD.dp _ _ (show RD K H Z _ _ from h)
  | .list ds, _, ⟨a, xs, e, h, hs⟩ => by rw [e]; exact .lst h (RDs.dp ds xs hs)
  | .tuple ds, _, h => RD.dp _ _ (show RD K H Z _ _ from h)
  | .dict _, _, h => (show False from h).elim
theorem RT.lay : ∀ {d : D} {v : V}, RT K H Z d v → d.canLay0 = true
  | .none, _, h => RD.lay _ _ (show RD K H Z _ _ from h)
  | .bool _, _, h => RD.lay _ _ (show RD K H Z _ _ from h)
  | .int _, _, h => RD.lay _ _ (show RD K H Z _ _ from h)
  | .str _, _, h => RD.lay _ _ (show RD K H Z _ _ from h)
  | .list ds, _, ⟨a, xs, e, h, hs⟩ => by rw [PyData.canLay0]; exact RDs.lay ds xs hs
  | .tuple ds, _, h => RD.lay _ _ (show RD K H Z _ _ from h)
  | .dict _, _, h => (show False from h).elim
/-- the items of a list or a tuple -/
theorem RT.items {d : D} {v : V} {ds : List D} (h : RT K H Z d v) (e : items d = some ds) : ∃ a xs, v = .ref a ∧ (SqL K H a xs ∨ SqT K H a xs) ∧ RDs K H Z ds xs := by
  cases d with
  | list zs => cases e; obtain ⟨a, xs, e, h, hs⟩ := h; exact ⟨a, xs, e, .inl h, hs⟩
  | tuple zs => cases e; obtain ⟨a, xs, e, h, hs⟩ := h; exact ⟨a, xs, e, .inr h.sq, hs⟩
  | _ => cases e
end

/-! ### values, slots, cells -/
/-- the script: locked, or of the written part -/
def ScrAt (K : PySem.W.Frag) (H : Hp) (Z : List Addr) (a : Addr) (ns : List Int) : Prop := (Rd H a (.lst (ns.map V.int)) ∧ a ∉ Z) ∨ SqL K noH a (ns.map V.int)
theorem ScrAt.sq {K : PySem.W.Frag} {H : Hp} {Z : List Addr} {a : Addr} {ns : List Int} (h : ScrAt K H Z a ns) : SqL K H a (ns.map V.int) := h.elim (fun q => .inl q.1) sqL_any
theorem ScrAt.grow {K : PySem.W.Frag} {H H' : Hp} {Z Z' : List Addr} (g : Grow H Z H' Z') {a : Addr} {ns : List Int} (h : ScrAt K H Z a ns) : ScrAt K H' Z' a ns :=
  h.elim (fun q => .inl (g.rd q.1 q.2 fun _ z => nomatch z)) .inr
theorem rds_ints {K : PySem.W.Frag} {H : Hp} {Z : List Addr} : ∀ ns : List Int, RDs K H Z (ns.map .int) (ns.map V.int)
  | [] => rfl
  | n :: ns => ⟨_, _, rfl, rfl, rds_ints ns⟩
def RV (K : PySem.W.Frag) (H : Hp) (L B : List Addr) : Val → V → Prop
  | .d x, v => RD K H (L ++ B) x v
  | .ref n, v => ∃ a, L[n]? = some a ∧ v = .ref a
  | .scr ns, v => ∃ a, v = .ref a ∧ ScrAt K H (L ++ B) a ns
def RVs (K : PySem.W.Frag) (H : Hp) (L B : List Addr) : List Val → List V → Prop
  | [], xs => xs = []
  | v :: vs, xs => ∃ x r, xs = x :: r ∧ RV K H L B v x ∧ RVs K H L B vs r
structure EnvR (K : PySem.W.Frag) (H : Hp) (L B : List Addr) (ρ : Env) (σ : L2.St) : Prop where
  len : ρ.length = σ.length
  at_ : ∀ (i : Nat) (v : Val), ρ[i]? = some (some v) → ∃ x, σ[i]? = some (some x) ∧ RV K H L B v x
def CellR (K : PySem.W.Frag) (H : Hp) (Z : List Addr) (a : Addr) : Cell → Prop
  | .lst ds => ∃ xs, H a = some (.lst xs) ∧ RDs K H Z ds xs
/-- the small heap M stands at L; B is what may not change meanwhile -/
structure Wd (K : PySem.W.Frag) (T : List (Addr × Str)) (B L : List Addr) (M : MH) (H : Hp) : Prop where
  tabs : LamX.Tabs T H
  len : L.length = M.length
  nd : L.Nodup
  cell : ∀ (i : Nat) a c, L[i]? = some a → M[i]? = some c → CellR K H (L ++ B) a c
  blk : ∀ b ∈ B, ∃ xs, H b = some (.lst xs)
  dis : ∀ b ∈ B, b ∉ L
structure Ext (L : List Addr) (H : Hp) (L' : List Addr) (H' : Hp) : Prop where
  keep : ∀ a o, H a = some o → a ∉ L → (∀ ps, o ≠ .tbl ps) → H' a = some o
  there : ∀ a, Nt H' a → Nt H a
  new : ∃ n, L' = L ++ n ∧ ∀ a ∈ n, Nt H a
section
variable {K : PySem.W.Frag} {T : List (Addr × Str)} {H H1 H2 : Hp} {L L1 L2' B : List Addr} {M : MH} {ρ : Env} {σ : L2.St}
theorem Ext.refl : Ext L H L H := ⟨fun _ _ h _ _ => h, fun _ h => h, [], by simp, fun _ h => nomatch h⟩
theorem Ext.trans (a : Ext L H L1 H1) (b : Ext L1 H1 L2' H2) : Ext L H L2' H2 := by
  obtain ⟨n1, e1, h1⟩ := a.new
  obtain ⟨n2, e2, h2⟩ := b.new
  refine ⟨fun c o h hc hn => b.keep c o (a.keep c o h hc hn) (fun hm => ?_) hn, fun c h => a.there c (b.there c h), n1 ++ n2, by rw [e2, e1, List.append_assoc], fun c hc => ?_⟩
  · rw [e1] at hm
    rcases List.mem_append.mp hm with z | z
    · exact hc z
    · exact (h1 c z).no h hn
  · rcases List.mem_append.mp hc with z | z
    · exact h1 c z
    · exact a.there c (h2 c z)
theorem Ext.grow (a : Ext L H L1 H1) : Grow H (L ++ B) H1 (L1 ++ B) := by
  obtain ⟨n, e, h⟩ := a.new
  refine ⟨fun c o q hc hn => a.keep c o q (fun z => hc (List.mem_append_left _ z)) hn, fun c hc => ?_⟩
  rcases List.mem_append.mp hc with z | z
  · rw [e] at z
    rcases List.mem_append.mp z with z | z
    · exact .inl (List.mem_append_left _ z)
    · exact .inr (h c z)
  · exact .inl (List.mem_append_right _ z)
theorem Ext.at_ (a : Ext L H L1 H1) {i : Nat} {c : Addr} (h : L[i]? = some c) : L1[i]? = some c := by
  obtain ⟨n, e, _⟩ := a.new
  rw [e, List.getElem?_append_left (List.getElem?_eq_some_iff.mp h).1]
  exact h
theorem RV.ext (a : Ext L H L1 H1) {v : Val} {x : V} (h : RV K H L B v x) : RV K H1 L1 B v x := by
  cases v with
  | d d => exact RD.grow a.grow d x h
  | ref n => obtain ⟨c, h1, h2⟩ := h; exact ⟨c, a.at_ h1, h2⟩
  | scr ns => obtain ⟨c, h1, h2⟩ := h; exact ⟨c, h1, h2.grow a.grow⟩
theorem RVs.ext (a : Ext L H L1 H1) : ∀ {vs : List Val} {xs : List V}, RVs K H L B vs xs → RVs K H1 L1 B vs xs
  | [], _, h => h
  | v :: vs, _, ⟨x, r, e, h, hs⟩ => ⟨x, r, e, h.ext a, RVs.ext a hs⟩
theorem EnvR.ext (a : Ext L H L1 H1) (h : EnvR K H L B ρ σ) : EnvR K H1 L1 B ρ σ :=
  ⟨h.len, fun i v e => let ⟨x, h1, h2⟩ := h.at_ i v e; ⟨x, h1, h2.ext a⟩⟩
theorem EnvR.set {i : Nat} {v : Val} {x : V} (h : EnvR K H L B ρ σ) (r : RV K H L B v x) : EnvR K H L B (setSlot ρ i v) (σ.set i (some x)) := by
  refine ⟨by unfold setSlot; rw [List.length_set, List.length_set]; exact h.len, fun j w e => ?_⟩
  unfold setSlot at e
  by_cases hj : i = j
  · subst hj
    rw [List.getElem?_set] at e
    simp only [if_true] at e
    split at e
    · rename_i hl
      have e2 : v = w := Option.some.inj (Option.some.inj e)
      subst e2
      exact ⟨x, by rw [List.getElem?_set_self (by rw [← h.len]; exact hl)], r⟩
    · cases e
  · rw [List.getElem?_set_ne hj] at e
    rw [List.getElem?_set_ne hj]
    exact h.at_ j w e
theorem Wd.tracked (w : Wd K T B L M H) {a : Addr} (h : a ∈ L ++ B) : H a ≠ none := by
  rcases List.mem_append.mp h with z | z
  · obtain ⟨i, hi, e⟩ := List.getElem_of_mem z
    have hM : i < M.length := by rw [← w.len]; exact hi
    have q := w.cell i a M[i] (by rw [List.getElem?_eq_getElem hi, e]) (List.getElem?_eq_getElem hM)
    cases hc : M[i] with
    | lst ds =>
      rw [hc] at q
      obtain ⟨xs, q, _⟩ := q
      rw [q]; simp
  · obtain ⟨xs, q⟩ := w.blk a z
    rw [q]; simp
/-- a new object is none of them -/
theorem Wd.apart (w : Wd K T B L M H) {p : Addr} (hp : H p = none) : p ∉ L ++ B := fun h => w.tracked h hp
theorem upd_ext {p : Addr} {o : HO} (hp : H p = none) : Ext L H L (upd H p o) :=
  ⟨fun a u h _ _ => by rw [upd_ne (fun z => by rw [z, hp] at h; cases h)]; exact h, fun a h o e => h o (by rw [upd_ne (fun z => by rw [z, hp] at e; cases e)]; exact e), [], by simp, fun _ h => nomatch h⟩
theorem Wd.blkE (w : Wd K T B L M H) (e : Ext L H L1 H1) : ∀ b ∈ B, ∃ xs, H1 b = some (.lst xs) := fun b hb => by
  obtain ⟨xs, q⟩ := w.blk b hb
  exact ⟨xs, e.keep b _ q (w.dis b hb) fun _ z => nomatch z⟩
theorem Wd.ext0 (w : Wd K T B L M H) (e : Ext L H L H1) (hc : ∀ a ∈ L, H1 a = H a) (ht : LamX.Tabs T H1) : Wd K T B L M H1 := by
  refine ⟨ht, w.len, w.nd, fun i a c h1 h2 => ?_, w.blkE e, w.dis⟩
  have q := w.cell i a c h1 h2
  cases c with
  | lst ds =>
    obtain ⟨xs, q1, q2⟩ := q
    exact ⟨xs, by rw [hc a (List.mem_of_getElem? h1)]; exact q1, RDs.grow e.grow ds xs q2⟩
/-- a new object is laid -/
theorem Wd.new (w : Wd K T B L M H) {p : Addr} {o : HO} (hp : H p = none) : Wd K T B L M (upd H p o) :=
  w.ext0 (upd_ext hp) (fun a ha => upd_ne fun z => w.tracked (List.mem_append_left _ ha) (by rw [z]; exact hp)) (w.tabs.ext fun b u e => by rw [upd_ne (ne_of_none e hp)]; exact e)
/-- a list is written: the tables stay -/
theorem tabs_write {a : Addr} {ys xs : List V} (t : LamX.Tabs T H) (ha : H a = some (.lst ys)) : LamX.Tabs T (upd H a (.lst xs)) := fun p hp => by
  obtain ⟨ps, h1, h2, h3⟩ := t p hp
  refine ⟨ps, ?_, h2, fun pos cv hc => ?_⟩
  · rw [upd_ne (fun z => by rw [z, ha] at h1; cases h1)]; exact h1
  · obtain ⟨c, e1, e2⟩ := h3 pos cv hc
    exact ⟨c, e1, by rw [upd_ne (fun z => by rw [z, ha] at e2; cases e2)]; exact e2⟩
theorem get_rt (w : Wd K T B L M H) {v : Val} {x : V} {d : D} (r : RV K H L B v x) (h : get M v = some d) : RT K H (L ++ B) d x := by
  cases v with
  | d y => cases (show some y = some d from h); exact RD.rt r
  | ref n =>
    obtain ⟨a, ha, rfl⟩ := r
    have h : (match M[n]? with | some (.lst xs) => some (PyData.list xs) | none => none) = some d := h
    cases hm : M[n]? with
    | none => rw [hm] at h; cases h
    | some c =>
      rw [hm] at h
      cases c with
      | lst ds =>
        cases h
        obtain ⟨xs, q1, q2⟩ := w.cell n a _ ha hm
        exact ⟨a, xs, rfl, SqL.of q1, q2⟩
  | scr ns =>
    cases (show some (PyData.list (ns.map .int)) = some d from h)
    obtain ⟨a, rfl, q⟩ := r
    exact ⟨a, _, rfl, q.sq, rds_ints ns⟩
/-- a list that is tracked, a tuple, or no container -/
def RTt (K : PySem.W.Frag) (H : Hp) (Z : List Addr) : D → V → Prop
  | .list ds, v => ∃ a xs, v = .ref a ∧ H a = some (.lst xs) ∧ RDs K H Z ds xs
  | d, v => RT K H Z d v
theorem getT_rt (w : Wd K T B L M H) {v : Val} {x : V} {d : D} (r : RV K H L B v x) (h : getT M v = some d) : RTt K H (L ++ B) d x := by
  cases v with
  | d y =>
    cases (show some y = some d from h)
    cases d with
    | list ds => obtain ⟨a, xs, e, q, hs⟩ := r; exact ⟨a, xs, e, q.1, hs⟩
    | _ => exact RD.rt r
  | ref n =>
    obtain ⟨a, ha, rfl⟩ := r
    have h : (match M[n]? with | some (.lst xs) => some (PyData.list xs) | none => none) = some d := h
    cases hm : M[n]? with
    | none => rw [hm] at h; cases h
    | some c =>
      rw [hm] at h
      cases c with
      | lst ds =>
        cases h
        obtain ⟨xs, q1, q2⟩ := w.cell n a _ ha hm
        exact ⟨a, xs, rfl, q1, q2⟩
  | scr ns => cases (show (none : Option D) = some d from h)
/-- a cell is written -/
theorem Wd.write (w : Wd K T B L M H) {n : Nat} {a : Addr} {ds : List D} {xs : List V} (ha : L[n]? = some a) (hx : RDs K H (L ++ B) ds xs) :
    Ext L H L (upd H a (.lst xs)) ∧ Wd K T B L (M.set n (.lst ds)) (upd H a (.lst xs)) := by
  have hm : a ∈ L := List.mem_of_getElem? ha
  have e : Ext L H L (upd H a (.lst xs)) := by
    refine ⟨fun b u h hb _ => by rw [upd_ne (fun z => hb (by rw [z]; exact hm))]; exact h, fun b h o q => ?_, [], by simp, fun _ h => nomatch h⟩
    by_cases z : b = a
    · have := h _ (by rw [z, upd_same])
      obtain ⟨ps, z⟩ := this
      cases z
    · exact h o (by rw [upd_ne z]; exact q)
  refine ⟨e, ?_, by rw [List.length_set]; exact w.len, w.nd, fun i b c h1 h2 => ?_, w.blkE e, w.dis⟩
  · have hM : n < M.length := by rw [← w.len]; exact (List.getElem?_eq_some_iff.mp ha).1
    have q := w.cell n a M[n] ha (List.getElem?_eq_getElem hM)
    cases hc : M[n] with
    | lst es =>
      rw [hc] at q
      obtain ⟨ys, q, _⟩ := q
      exact tabs_write w.tabs q
  by_cases hi : n = i
  · subst hi
    rw [ha] at h1
    cases h1
    rw [List.getElem?_set] at h2
    simp only [if_true] at h2
    split at h2
    · cases h2
      exact ⟨xs, upd_same, RDs.grow e.grow ds xs hx⟩
    · cases h2
  · rw [List.getElem?_set_ne hi] at h2
    have q := w.cell i b c h1 h2
    have hne : b ≠ a := fun z => by
      subst z
      exact hi ((nd_ix w.nd ha h1))
    cases c with
    | lst es =>
      obtain ⟨ys, q1, q2⟩ := q
      exact ⟨ys, by rw [upd_ne hne]; exact q1, RDs.grow e.grow es ys q2⟩
end
end Mi
set_option maxHeartbeats 4000000
/-! M3: the operations by values. -/
namespace Mi
open PySem PySem.Spec PyProof.Rows L2

/-- what an operation hands on: as H stands, or a new list, a new tuple -/
def Res (K : PySem.W.Frag) (H : Hp) (Z : List Addr) (c : D) (z : V) (H' : Hp) : Prop := match c with
  | .list ds => ∃ p zs, z = .ref p ∧ H p = none ∧ H' = upd H p (.lst zs) ∧ RDs K H Z ds zs
  | .tuple ds => (H' = H ∧ RD K H Z (.tuple ds) z) ∨ ∃ p zs, z = .ref p ∧ H p = none ∧ H' = upd H p (.tup zs) ∧ RDs K H Z ds zs
  | d => H' = H ∧ RD K H Z d z
def Trk (H : Hp) (Z : List Addr) : Prop := ∀ z ∈ Z, H z ≠ none
def opOf : BOp → Operator
  | .add => .Add | .sub => .Sub | .mul => .Mult | .fdiv => .FloorDiv | .mod => .Mod | .pow => .Pow
def cmpOf : COp → CmpOp
  | .lt => .Lt | .le => .LtE | .gt => .Gt | .ge => .GtE | .eq => .Eq | .ne => .NotEq | .isin => .In | .notin => .NotIn
def rBin (K : PySem.W.Frag) (o : BOp) : R2 := fun x y H Q => ∃ Z a b c, Trk H Z ∧ RTt K H Z a x ∧ RTt K H Z b y ∧ bop o a b = some c ∧ ∀ z H', Res K H Z c z H' → Q z H'
def rCmp (K : PySem.W.Frag) (o : COp) : R2 := fun x y H Q => ∃ Z a b k, RT K H Z a x ∧ RT K H Z b y ∧ cop o a b = some k ∧ Q (.bl k) H
def rBlt (K : PySem.W.Frag) (b : Blt) : List V → Hp → VK → Prop := fun xs H Q => ∃ Z a x c, xs = [x] ∧ RT K H Z a x ∧ blt1 b a = some c ∧ ∀ z H', Res K H Z c z H' → Q z H'
def rBlt2 (K : PySem.W.Frag) (b : Blt) : List V → Hp → VK → Prop := fun xs H Q => ∃ Z a x b' y c, xs = [x, y] ∧ RT K H Z a x ∧ RT K H Z b' y ∧ blt2 b a b' = some c ∧ ∀ z H', Res K H Z c z H' → Q z H'
theorem lim_line : lim ≤ sizeLine := by rw [sizeLine_eq]; decide

theorem pow_ok {X : Cx} : OpR X (binaryOp .Pow) (rI (fun i j => powOk i j = true) fun i j => .int (i ^ j.toNat)) := opI fun i j t u s Q E hc q => by
  have hc : (decide (2 ≤ i) && decide (1 ≤ j) && decide ((i.natAbs.log2 + 1) * j.natAbs ≤ 100000)) = true := hc
  simp only [Bool.and_eq_true, decide_eq_true_eq] at hc
  obtain ⟨⟨h1, h2⟩, h3⟩ := hc
  refine PySem.AutoIntOps.pow_4 (b := j) (by omega) ?_ ?_ ?_ ?_ q
  · simp only [beq_iff_eq]; omega
  · simp only [Bool.or_eq_true, beq_iff_eq]; omega
  · simp only [beq_iff_eq]; omega
  · have hb : Builtin.Int.intBits i ≤ i.natAbs.log2 + 1 := by
      unfold Builtin.Int.intBits
      split <;> omega
    have e : bitsLine = 134217728 := by decide
    unfold Builtin.Int.intTooBig
    rw [decide_eq_true_eq, e]
    have hj : ((j.natAbs : Nat) : Int) = j := by omega
    have h4 : Builtin.Int.intBits i * j.natAbs ≤ 100000 := Nat.le_trans (Nat.mul_le_mul_right _ hb) h3
    have h5 : ((Builtin.Int.intBits i : Nat) : Int) * j = ((Builtin.Int.intBits i * j.natAbs : Nat) : Int) := by
      rw [Int.natCast_mul, hj]
    rw [h5]
    omega

/-- two ints in, an int out -/
theorem fin_int {X : Cx} {pins : List (Addr × Obj)} {σ : L2.St} {H : Hp} {s s' : Shared} {Q : VK} {Z : List Addr} {i : Int} {u : Value} (h : EP X pins σ (fun v H' => v = .int i ∧ H' = H) u s') (q : ∀ z H', Res X.K H Z (.int i) z H' → Q z H') : EP X pins σ Q u s' := by
  obtain ⟨v, H', I, r, rfl, rfl⟩ := h
  exact ⟨_, _, I, r, q _ _ ⟨rfl, rfl⟩⟩
theorem opR_bin {X : Cx} (o : BOp) : OpR X (binaryOp (opOf o)) (rBin X.K o) := by
  intro pins s σ H x y v u Q I rx ry ⟨Z, a, b, c, ht, ra, rb, hc, q⟩
  unfold bop at hc
  split at hc
  · cases hc
    obtain rfl : x = .int _ := ra
    obtain rfl : y = .int _ := rb
    exact thn (op_add pins s σ H _ _ v u (fun v H' => v = .int _ ∧ H' = H) I rx ry ⟨_, _, rfl, rfl, rfl, rfl⟩) fun u' s' h => fin_int (s := s) h q
  · split at hc
    · rename_i xs ys hl
      cases hc
      obtain ⟨p1, zs, rfl, h1, r1⟩ := ra
      obtain ⟨p2, ws, rfl, h2, r2⟩ := rb
      have l1 := r1.length
      have l2 := r2.length
      refine op_catA pins s σ H _ _ v u Q I rx ry ⟨p1, p2, zs, ws, rfl, rfl, h1.sq, h2.sq, by have := lim_line; omega, fun e => ?_, fun _ e => ?_, fun _ _ p hp => q _ _ (.inr ⟨p, zs ++ ws, rfl, hp, rfl, r1.append r2⟩)⟩
      · subst e
        have e1 : xs = [] := by cases xs with | nil => rfl | cons _ _ => cases l1
        subst e1
        exact q _ _ (.inl ⟨rfl, p2, ws, rfl, h2, r2⟩)
      · subst e
        have e1 : ys = [] := by cases ys with | nil => rfl | cons _ _ => cases l2
        subst e1
        exact q _ _ (.inl ⟨rfl, p1, zs, rfl, h1, by rw [List.append_nil]; exact r1⟩)
    · cases hc
  · split at hc
    · rename_i xs ys hl
      cases hc
      obtain ⟨p1, zs, rfl, h1, r1⟩ := ra
      obtain ⟨p2, ws, rfl, h2, r2⟩ := rb
      have l1 := r1.length
      have l2 := r2.length
      exact op_cat pins s σ H _ _ v u Q I rx ry ⟨p1, p2, zs, ws, rfl, rfl, h1, h2, by have := lim_line; omega, fun p hp => q _ _ ⟨p, zs ++ ws, rfl, hp, rfl, r1.append r2⟩⟩
    · cases hc
  · cases hc
    obtain rfl : x = .int _ := ra
    obtain rfl : y = .int _ := rb
    exact thn (op_sub pins s σ H _ _ v u (fun v H' => v = .int _ ∧ H' = H) I rx ry ⟨_, _, rfl, rfl, rfl, rfl⟩) fun u' s' h => fin_int (s := s) h q
  · split at hc
    · rename_i hm
      cases hc
      obtain rfl : x = .int _ := ra
      obtain rfl : y = .int _ := rb
      refine thn (op_mul pins s σ H _ _ v u (fun v H' => v = .int _ ∧ H' = H) I rx ry ⟨_, _, rfl, rfl, ?_, rfl, rfl⟩) fun u' s' h => fin_int (s := s) h q
      unfold mulOk at hm
      simp only [Bool.or_eq_true, decide_eq_true_eq] at hm
      rcases hm with hm | hm
      · exact .inl ⟨by omega, by omega⟩
      · exact .inr ⟨by omega, by omega⟩
    · cases hc
  · split at hc
    · rename_i hm
      cases hc
      obtain rfl : x = .int _ := ra
      obtain rfl : y = .int _ := rb
      exact thn (op_fdiv pins s σ H _ _ v u (fun v H' => v = .int _ ∧ H' = H) I rx ry ⟨_, _, rfl, rfl, hm, rfl, rfl⟩) fun u' s' h => fin_int (s := s) h q
    · cases hc
  · split at hc
    · rename_i hm
      cases hc
      obtain rfl : x = .int _ := ra
      obtain rfl : y = .int _ := rb
      exact thn (op_mod pins s σ H _ _ v u (fun v H' => v = .int _ ∧ H' = H) I rx ry ⟨_, _, rfl, rfl, hm, rfl, rfl⟩) fun u' s' h => fin_int (s := s) h q
    · cases hc
  · split at hc
    · rename_i hm
      cases hc
      obtain rfl : x = .int _ := ra
      obtain rfl : y = .int _ := rb
      exact thn (pow_ok pins s σ H _ _ v u (fun v H' => v = .int _ ∧ H' = H) I rx ry ⟨_, _, rfl, rfl, hm, rfl, rfl⟩) fun u' s' h => fin_int (s := s) h q
    · cases hc
  · cases hc

section
variable {X : Cx} {pins : List (Addr × Obj)} {σ : L2.St} {H : Hp} {s : Shared} {Z : List Addr}
theorem RT.reads (I : Inv X pins σ H s) {d : D} {v : V} {u : Value} (h : RT X.K H Z d v) (r : RelV v u) : ∃ as, Reads s.heap u d as := Dp.reads I d v u h.dp r
theorem depth_min {x y : D} (h : shallow x y = true) (hu : X.A.units + 64 < cLine) : X.A.units + min x.depth y.depth < cLine := by
  have h' : min x.depth y.depth ≤ 60 := of_decide_eq_true h
  omega
theorem items_cases {c : D} {ys : List D} (h : items c = some ys) : c = .list ys ∨ c = .tuple ys := by
  cases c with
  | list zs => cases h; exact .inl rfl
  | tuple zs => cases h; exact .inr rfl
  | _ => cases h
theorem depth_in {A : Around} {ys : List D} {d : D} (hd : d.depth ≤ 60) (hu : A.units + 64 < cLine) : A.units + 1 + min (PyData.depthAll ys) d.depth < cLine := by
  have := Nat.min_le_right (PyData.depthAll ys) d.depth
  omega
theorem opR_cmp (o : COp) (hu : X.A.units + 64 < cLine) : OpR X (compareOp (cmpOf o)) (rCmp X.K o) := by
  intro pins s σ H x y v u Q I rx ry ⟨Z, a, b, k, ra, rb, hk, q⟩
  have fin : EP X pins σ Q (.bool k) s := ⟨.bl k, H, I, rfl, q⟩
  unfold cop at hk
  split at hk
  · cases hk
    obtain rfl : x = .int _ := ra
    obtain rfl : y = .int _ := rb
    exact op_lt pins s σ H _ _ v u Q I rx ry ⟨_, _, rfl, rfl, q⟩
  · cases hk
    obtain rfl : x = .int _ := ra
    obtain rfl : y = .int _ := rb
    exact op_le pins s σ H _ _ v u Q I rx ry ⟨_, _, rfl, rfl, q⟩
  · cases hk
    obtain rfl : x = .int _ := ra
    obtain rfl : y = .int _ := rb
    exact op_gt pins s σ H _ _ v u Q I rx ry ⟨_, _, rfl, rfl, q⟩
  · cases hk
    obtain rfl : x = .int _ := ra
    obtain rfl : y = .int _ := rb
    exact op_ge pins s σ H _ _ v u Q I rx ry ⟨_, _, rfl, rfl, q⟩
  · split at hk
    · rename_i hs
      cases hk
      obtain ⟨as, r1⟩ := ra.reads I rx
      obtain ⟨bs, r2⟩ := rb.reads I ry
      exact SeqAt.compareEq_reads r1 r2 ra.lay rb.lay (depth_min hs hu) fin
    · cases hk
  · split at hk
    · rename_i hs
      cases hk
      obtain ⟨as, r1⟩ := ra.reads I rx
      obtain ⟨bs, r2⟩ := rb.reads I ry
      exact SeqAt.compareNe_reads r1 r2 ra.lay rb.lay (depth_min hs hu) fin
    · cases hk
  · obtain ⟨ys, hy, hk⟩ := Option.bind_eq_some_iff.mp hk
    split at hk
    · rename_i hd
      cases hk
      obtain ⟨as, r1⟩ := ra.reads I rx
      obtain ⟨bs, r2⟩ := rb.reads I ry
      have lb := rb.lay
      rcases items_cases hy with e | e
      · subst e
        rw [PyData.canLay0] at lb
        exact SeqAt.in_list_reads r2 r1 lb ra.lay (depth_in hd hu) fin
      · subst e
        rw [PyData.canLay0] at lb
        exact SeqAt.in_tuple_reads r2 r1 lb ra.lay (depth_in hd hu) fin
    · cases hk
  · obtain ⟨ys, hy, hk⟩ := Option.bind_eq_some_iff.mp hk
    split at hk
    · rename_i hd
      cases hk
      obtain ⟨as, r1⟩ := ra.reads I rx
      obtain ⟨bs, r2⟩ := rb.reads I ry
      have lb := rb.lay
      rcases items_cases hy with e | e
      · subst e
        rw [PyData.canLay0] at lb
        exact SeqAt.notIn_list_reads r2 r1 lb ra.lay (depth_in hd hu) fin
      · subst e
        rw [PyData.canLay0] at lb
        exact SeqAt.notIn_tuple_reads r2 r1 lb ra.lay (depth_in hd hu) fin
    · cases hk
  · cases hk

/-! ### built-ins -/
theorem bools_of {ds : List D} : ∀ {xs : List V} {bs : List Bool}, RDs X.K H Z ds xs → boolsOf ds = some bs → xs = bs.map V.bl := by
  induction ds with
  | nil => intro xs bs h e; cases (show some [] = some bs from e); exact h
  | cons d ds ih =>
    intro xs bs ⟨x, r, e, h, hs⟩ q
    cases d with
    | bool b =>
      have q : (boolsOf ds).map (b :: ·) = some bs := q
      obtain ⟨bs', q1, rfl⟩ := Option.map_eq_some_iff.mp q
      obtain rfl : x = .bl b := h
      rw [e, ih hs q1]; rfl
    | _ => cases q
theorem ints_of {ds : List D} : ∀ {xs : List V} {ns : List Int}, RDs X.K H Z ds xs → intsOf ds = some ns → xs = ns.map V.int := by
  induction ds with
  | nil => intro xs bs h e; cases (show some [] = some bs from e); exact h
  | cons d ds ih =>
    intro xs bs ⟨x, r, e, h, hs⟩ q
    cases d with
    | int b =>
      have q : (intsOf ds).map (b :: ·) = some bs := q
      obtain ⟨bs', q1, rfl⟩ := Option.map_eq_some_iff.mp q
      obtain rfl : x = .int b := h
      rw [e, ih hs q1]; rfl
    | _ => cases q
end
theorem big_mem : ∀ (r : List Int) (m : Int), bigI m r ∈ m :: r
  | [], m => by simp [bigI]
  | i :: r, m => by
    unfold bigI
    have h := big_mem r (if m < i then i else m)
    rcases List.mem_cons.mp h with e | e
    · rw [e]; split <;> simp
    · simp [e]
theorem big_up : ∀ (r : List Int) (m : Int), ∀ y ∈ m :: r, y ≤ bigI m r
  | [], m, y, h => by simp at h; rw [h]; exact Int.le_refl _
  | i :: r, m, y, h => by
    unfold bigI
    have u := big_up r (if m < i then i else m)
    have u0 := u (if m < i then i else m) (by simp)
    rcases List.mem_cons.mp h with e | e
    · rw [e]; split at u0 <;> (split <;> omega)
    · rcases List.mem_cons.mp e with e | e
      · rw [e]; split at u0 <;> (split <;> omega)
      · exact u y (by simp [e])
theorem small_mem : ∀ (r : List Int) (m : Int), smallI m r ∈ m :: r
  | [], m => by simp [smallI]
  | i :: r, m => by
    unfold smallI
    have h := small_mem r (if i < m then i else m)
    rcases List.mem_cons.mp h with e | e
    · rw [e]; split <;> simp
    · simp [e]
theorem small_up : ∀ (r : List Int) (m : Int), ∀ y ∈ m :: r, smallI m r ≤ y
  | [], m, y, h => by simp at h; rw [h]; exact Int.le_refl _
  | i :: r, m, y, h => by
    unfold smallI
    have u := small_up r (if i < m then i else m)
    have u0 := u (if i < m then i else m) (by simp)
    rcases List.mem_cons.mp h with e | e
    · rw [e]; split at u0 <;> (split <;> omega)
    · rcases List.mem_cons.mp e with e | e
      · rw [e]; split at u0 <;> (split <;> omega)
      · exact u y (by simp [e])
def bltV : Blt → Value
  | .len => .builtin "len" | .all => .builtin "all" | .any => .builtin "any" | .sum => .builtin "sum" | .max => .builtin "max" | .min => .builtin "min"
  | .sorted => .builtin "sorted" | .tuple => .type "tuple" | .list => .type "list" | .int => .type "int" | .abs => .builtin "abs"
section
variable {X : Cx}
theorem callR_blt (b : Blt) (hc : X.calm = true) : CallR X (bltV b) (rBlt X.K b) := by
  intro pins s σ H xs us Q I r ⟨Z, a, x, c, e, ra, hk, q⟩
  subst e
  unfold blt1 at hk
  split at hk
  · cases hk
    obtain ⟨p, zs, rfl, h, hs⟩ := ra
    exact call_len_seq pins s σ H _ us Q I r ⟨p, zs, rfl, .inr h.sq, by rw [hs.length]; exact q _ _ ⟨rfl, rfl⟩⟩
  · cases hk
    obtain ⟨p, zs, rfl, h, hs⟩ := ra
    exact call_len_seq pins s σ H _ us Q I r ⟨p, zs, rfl, .inl h, by rw [hs.length]; exact q _ _ ⟨rfl, rfl⟩⟩
  · obtain ⟨bs, hb, rfl⟩ := Option.map_eq_some_iff.mp hk
    obtain ⟨p, zs, rfl, h, hs⟩ := ra
    rw [bools_of hs hb] at h
    exact cr_all hc pins s σ H _ us Q I r ⟨p, bs, rfl, h, q _ _ ⟨rfl, rfl⟩⟩
  · obtain ⟨bs, hb, rfl⟩ := Option.map_eq_some_iff.mp hk
    obtain ⟨p, zs, rfl, h, hs⟩ := ra
    rw [bools_of hs hb] at h
    exact cr_any hc pins s σ H _ us Q I r ⟨p, bs, rfl, h, q _ _ ⟨rfl, rfl⟩⟩
  · obtain ⟨ns, hb, rfl⟩ := Option.map_eq_some_iff.mp hk
    obtain ⟨p, zs, rfl, h, hs⟩ := ra
    rw [ints_of hs hb] at h
    exact cr_sum hc pins s σ H _ us Q I r ⟨p, ns, rfl, h, q _ _ ⟨rfl, rfl⟩⟩
  · obtain ⟨ns, hb, hk⟩ := Option.bind_eq_some_iff.mp hk
    obtain ⟨p, zs, rfl, h, hs⟩ := ra
    rw [ints_of hs hb] at h
    cases ns with
    | nil => cases hk
    | cons n r' =>
      cases hk
      refine cr_max hc pins s σ H _ us Q I r ⟨p, n :: r', rfl, h, Nat.succ_pos _, fun m hm hu => ?_⟩
      have e : m = bigI n r' := Int.le_antisymm (big_up r' n m hm) (hu _ (big_mem r' n))
      rw [e]
      exact q _ _ ⟨rfl, rfl⟩
  · obtain ⟨ns, hb, hk⟩ := Option.bind_eq_some_iff.mp hk
    obtain ⟨p, zs, rfl, h, hs⟩ := ra
    rw [ints_of hs hb] at h
    cases ns with
    | nil => cases hk
    | cons n r' =>
      cases hk
      refine cr_min hc pins s σ H _ us Q I r ⟨p, n :: r', rfl, h, Nat.succ_pos _, fun m hm hu => ?_⟩
      have e : m = smallI n r' := Int.le_antisymm (hu _ (small_mem r' n)) (small_up r' n m hm)
      rw [e]
      exact q _ _ ⟨rfl, rfl⟩
  · cases hk
    obtain ⟨p, zs, rfl, h, hs⟩ := ra
    exact call_tuple_of pins s σ H _ us Q I r ⟨p, zs, rfl, .inl ⟨h, fun l hl => q _ _ (.inr ⟨l, zs, rfl, hl, rfl, hs⟩)⟩⟩
  · cases hk
    obtain ⟨p, zs, rfl, h, hs⟩ := ra
    exact call_tuple_of pins s σ H _ us Q I r ⟨p, zs, rfl, .inr ⟨h.sq, q _ _ (.inl ⟨rfl, p, zs, rfl, h, hs⟩)⟩⟩
  · cases hk
    obtain ⟨p, zs, rfl, h, hs⟩ := ra
    exact call_list_of pins s σ H _ us Q I r ⟨p, zs, rfl, .inl h, fun l hl => q _ _ ⟨l, zs, rfl, hl, rfl, hs⟩⟩
  · cases hk
    obtain ⟨p, zs, rfl, h, hs⟩ := ra
    exact call_list_of pins s σ H _ us Q I r ⟨p, zs, rfl, .inr h.sq, fun l hl => q _ _ ⟨l, zs, rfl, hl, rfl, hs⟩⟩
  · cases hk
    obtain rfl : x = .int _ := ra
    exact call_int1 pins s σ H _ us Q I r (.inl ⟨_, rfl, q _ _ ⟨rfl, rfl⟩⟩)
  · cases hk
    obtain rfl : x = .bl _ := ra
    exact call_int1 pins s σ H _ us Q I r (.inr ⟨_, rfl, q _ _ ⟨rfl, rfl⟩⟩)
  · cases hk
    obtain rfl : x = .int _ := ra
    exact call_abs pins s σ H _ us Q I r ⟨_, rfl, q _ _ ⟨rfl, rfl⟩⟩
  · cases hk
theorem callR_blt2 (b : Blt) (hc : X.calm = true) : CallR X (bltV b) (rBlt2 X.K b) := by
  intro pins s σ H xs us Q I r ⟨Z, a, x, b', y, c, e, ra, rb, hk, q⟩
  subst e
  unfold blt2 at hk
  split at hk
  · cases hk
    obtain rfl : x = .int _ := ra
    obtain rfl : y = .int _ := rb
    exact call_max2 hc pins s σ H _ us Q I r ⟨_, _, rfl, q _ _ ⟨rfl, rfl⟩⟩
  · cases hk
    obtain rfl : x = .int _ := ra
    obtain rfl : y = .int _ := rb
    exact call_min2 hc pins s σ H _ us Q I r ⟨_, _, rfl, q _ _ ⟨rfl, rfl⟩⟩
  · cases hk
end

/-! ### isinstance -/
def tyName : Ty → String
  | .int => "int" | .bool => "bool" | .tuple => "tuple" | .str => "str" | .list => "list"
def rIsA (K : PySem.W.Frag) (t : Ty) : List V → Hp → VK → Prop := fun xs H Q => ∃ Z a x, xs = [x, .ty (tyName t)] ∧ RT K H Z a x ∧ Q (.bl (isTy t a)) H
theorem tyx_of {K : PySem.W.Frag} {H : Hp} {Z : List Addr} : ∀ {a : D} {x : V}, RT K H Z a x → ∃ n, TyX K H x (.type n) ∧ ∀ t : Ty, kitB n (tyName t) = some (isTy t a)
  | .none, _, h => by
    obtain rfl : _ = V.non := h
    exact ⟨_, .base .non, fun t => by cases t <;> (show kitB "NoneType" _ = some false; decide +kernel)⟩
  | .bool b, _, h => by
    obtain rfl : _ = V.bl b := h
    exact ⟨_, .base (.bl b), fun t => by cases t <;> first | (show kitB "bool" _ = some true; decide +kernel) | (show kitB "bool" _ = some false; decide +kernel)⟩
  | .int i, _, h => by
    obtain rfl : _ = V.int i := h
    exact ⟨_, .base (.int i), fun t => by cases t <;> first | (show kitB "int" _ = some true; decide +kernel) | (show kitB "int" _ = some false; decide +kernel)⟩
  | .str z, _, h => by
    obtain ⟨e, _⟩ := (show _ = V.str z ∧ _ from h)
    subst e
    exact ⟨_, .base (.str z), fun t => by cases t <;> first | (show kitB "str" _ = some true; decide +kernel) | (show kitB "str" _ = some false; decide +kernel)⟩
  | .list ds, _, ⟨p, zs, e, h, hs⟩ => by
    subst e
    refine ⟨"list", ?_, fun t => by cases t <;> first | (show kitB "list" _ = some true; decide +kernel) | (show kitB "list" _ = some false; decide +kernel)⟩
    rcases h with (h | ⟨o, h⟩) | ⟨o, its, n, h, hc, _⟩
    · exact .base (.lst h)
    · exact .base (.frz h)
    · exact .kList h hc
  | .tuple ds, _, ⟨p, zs, e, h, hs⟩ => by
    subst e
    refine ⟨"tuple", ?_, fun t => by cases t <;> first | (show kitB "tuple" _ = some true; decide +kernel) | (show kitB "tuple" _ = some false; decide +kernel)⟩
    rcases h.sq with (h | ⟨o, h⟩) | ⟨o, its, n, h, hc, _⟩
    · exact .base (.tup h)
    · exact .fTuple h
    · exact .kTuple h hc
  | .dict _, _, h => (show False from h).elim
theorem callR_isA {X : Cx} (t : Ty) : CallR X (.builtin "isinstance") (rIsA X.K t) := by
  intro pins s σ H xs us Q I r ⟨Z, a, x, e, ra, q⟩
  obtain ⟨n, hn, hk⟩ := tyx_of ra
  exact call_isi pins s σ H xs us Q I r ⟨x, .ty (tyName t), _, _, _, e, .ty _, hn, kit_ty (hk t), q⟩

/-! ### subscripts, slices -/
section
variable {X : Cx}
def rSub (K : PySem.W.Frag) : R2 := fun x y H Q => ∃ Z a xs k j c, RT K H Z a x ∧ items a = some xs ∧ y = .int k ∧ ixOf xs.length k = some j ∧ xs[j]? = some c ∧ ∀ z, RD K H Z c z → Q z H
theorem ixR_sub : IxR X (rSub X.K) := by
  intro value slice pins s σ H x y v u Q I rx ry ⟨Z, a, xs, k, j, c, ra, hi, e, hk, hj, q⟩ hpl
  subst e
  obtain ⟨p, zs, rfl, h, hs⟩ := ra.items hi
  obtain ⟨z, hz, rz⟩ := hs.get hj
  have ha : atI zs k = some z := by
    unfold atI
    rw [hs.length, show L2.ixN xs.length k = some j from hk]
    exact hz
  rcases h with h | h
  · exact ix_list value slice pins s σ H _ _ v u Q I rx ry ⟨p, zs, k, z, rfl, rfl, h, ha, q z rz⟩ hpl
  · exact ix_tup value slice pins s σ H _ _ v u Q I rx ry ⟨p, zs, k, z, rfl, rfl, h, ha, q z rz⟩ hpl
def rCut (K : PySem.W.Frag) : V → Option Int → Option Int → Hp → VK → Prop := fun x lo hi H Q => ∃ Z a c, RT K H Z a x ∧ cutD a lo hi = some c ∧ ∀ z H', Res K H Z c z H' → Q z H'
theorem RDs.cut {K : PySem.W.Frag} {H : Hp} {Z : List Addr} {ds : List D} {xs : List V} (h : RDs K H Z ds xs) (lo hi : Option Int) : RDs K H Z (cutL ds lo hi) (cutV xs lo hi) := by
  unfold cutL cutV
  rw [h.length]
  exact (h.drop _).take _
theorem slR_cut : SlR X (rCut X.K) := by
  intro pins s σ H x v vl vu lo hi sl Q I rx hs pl pu ⟨Z, a, c, ra, hc, q⟩
  unfold cutD at hc
  split at hc
  · cases hc
    obtain ⟨p, zs, rfl, h, hz⟩ := ra
    refine sl_tupA pins s σ H _ v vl vu lo hi sl Q I rx hs pl pu ⟨p, zs, rfl, h.sq, fun ⟨e1, e2⟩ => q _ _ (.inl ⟨rfl, p, zs, rfl, h, ?_⟩), fun _ r hr => q _ _ (.inr ⟨r, _, rfl, hr, rfl, hz.cut lo hi⟩)⟩
    rw [hz.length] at e1 e2
    unfold cutL
    rw [e1, e2, List.drop_zero, Nat.sub_zero, List.take_length]
    exact hz
  · cases hc
    obtain ⟨p, zs, rfl, h, hz⟩ := ra
    exact sl_list pins s σ H _ v vl vu lo hi sl Q I rx hs pl pu ⟨p, zs, rfl, h, fun r hr => q _ _ ⟨r, _, rfl, hr, rfl, hz.cut lo hi⟩⟩
  · cases hc
end
end Mi
set_option maxHeartbeats 4000000
/-! M4: from the text to the small language. -/
namespace Mi
open PySem PySem.Spec PyProof.Rows L2

def okN (x : Str) : Bool := !(x == ("__debug__" : Str)) && !(x == ("__classdict__" : Str)) && !(x == ("__name__" : Str))
def isVis (sc : Scope) (x : Str) : Bool := match sc.names.lookup x with
  | some .local => true
  | some .cell => true
  | some .free => true
  | _ => false
def isLoc (sc : Scope) (x : Str) : Bool := match sc.names.lookup x with
  | some .local => true
  | some .cell => true
  | _ => false
def isGlb (sc : Scope) (x : Str) : Bool := match sc.names.lookup x with
  | some .globalImplicit => true
  | _ => false
def slot : List Str → Str → Option Nat
  | [], _ => none
  | y :: r, x => if y = x then some 0 else (slot r x).map (· + 1)
theorem slot_get : ∀ {N : List Str} {x : Str} {i : Nat}, slot N x = some i → N[i]? = some x
  | [], _, _, h => nomatch h
  | y :: r, x, i, h => by
    unfold slot at h
    split at h
    · rename_i e
      cases h
      rw [e]; rfl
    · obtain ⟨j, h1, rfl⟩ := Option.map_eq_some_iff.mp h
      simpa using slot_get h1
def stC : Const → E
  | .none => .cst .none
  | .bool b => .cst (.bool b)
  | .int i => .cst (.int i)
  | .str x => if PyData.strOk x then .cst (.str x) else .bad
  | _ => .bad
def stOp : Operator → Option BOp
  | .Add => some .add | .Sub => some .sub | .Mult => some .mul | .FloorDiv => some .fdiv | .Mod => some .mod | .Pow => some .pow
  | _ => none
def stCmp : CmpOp → Option COp
  | .Lt => some .lt | .LtE => some .le | .Gt => some .gt | .GtE => some .ge | .Eq => some .eq | .NotEq => some .ne | .In => some .isin | .NotIn => some .notin
  | _ => none
def foldB (op : BoolOp) : Es → E
  | .cons e .nil => e
  | .cons e r => match op with | .And => .and e (foldB op r) | .Or => .or e (foldB op r)
  | _ => .bad
def mkName (N : List Str) (x : Str) (sc : Scope) : E :=
  if okN x then (if isVis sc x then (match slot N x with | some i => .var i | none => .bad) else if isGlb sc x then .glob x else .bad) else .bad
def mkBin (op : Operator) (a b : E) : E := match stOp op with | some o => .bin o a b | none => .bad
def isNoneE : Expr → Bool
  | .Constant .none _ _ => true
  | _ => false
def mkCmp (op : CmpOp) (n : Bool) (a b : E) : E := match stCmp op with | some o => .cmp o a b | none => (match op, n with
  | .Is, true => .isN a
  | .IsNot, true => .notN a
  | _, _ => .bad)
def mkChain (op op2 : CmpOp) (a b c : E) : E := match stCmp op, stCmp op2 with | some o, some o2 => .chain o o2 a b c | _, _ => .bad
def stBlt (f : Str) : Option Blt :=
  if f = "len" then some .len else if f = "all" then some .all else if f = "any" then some .any else if f = "sum" then some .sum else if f = "max" then some .max
  else if f = "min" then some .min else if f = "sorted" then some .sorted else if f = "tuple" then some .tuple else if f = "list" then some .list else if f = "int" then some .int else if f = "abs" then some .abs else none
def stTy (t : Str) : Option Ty :=
  if t = "int" then some .int else if t = "bool" then some .bool else if t = "tuple" then some .tuple else if t = "str" then some .str else if t = "list" then some .list else none
/-- the names that must be the built-in ones -/
def bnames : List Str := ["len", "all", "any", "sum", "max", "min", "sorted", "tuple", "list", "int", "abs", "bool", "str", "isinstance", "set", "range", "zip"]
def mkCall (f : Str) (es : Es) : E := match stBlt f with
  | some b => .blt b es
  | none =>
    if f = "set" then (match es with | .cons a .nil => .set a | _ => .bad)
    else if f = "range" then .rng es
    else if f = "zip" then (match es with | .cons a (.cons b .nil) => .zip a b | _ => .bad)
    else if f ∈ bnames then .bad
    else match es with | .nil => .bad | _ => .call f es
/-- may be stored: a local, or a cell of this very block -/
def isSto (sc : Scope) (ck : Str → Bool) (x : Str) : Bool := isLoc sc x && (ck x || decide (sc.names.lookup x = some .local))
def tgNames (N : List Str) (sc : Scope) (ck : Str → Bool) : List Expr → Option (List Nat)
  | [] => some []
  | .Name x _ :: r => if isSto sc ck x then (slot N x).bind fun i => (tgNames N sc ck r).map (i :: ·) else none
  | _ => none
def stTg (N : List Str) (sc : Scope) (ck : Str → Bool) : Expr → Option Tg
  | .Name x _ => if isSto sc ck x then (slot N x).map .one else none
  | .Tuple es _ _ => (tgNames N sc ck es).map .many
  | _ => none
abbrev ckC (scope : Scope) : Str → Bool := fun x => scope.names.lookup x == some .cell
abbrev ckT : Str → Bool := fun _ => true
/-- (len(x), x) -/
def szBody (x : Str) : Expr → Bool
  | .Tuple [.Call (.Name f _) [.Name y _] [] _, .Name z _] _ _ => decide (f = "len") && decide (y = x) && decide (z = x)
  | _ => false
def szScope (x : Str) (scope : Scope) : Bool := okN x && decide (scope.kind = .function) && !scope.isCoroutine && !scope.isGenerator &&
  scope.names.all (fun p => decide (p.2 ≠ .cell) && decide (p.2 ≠ .free)) && decide (scope.names.lookup x = some .local) && decide (scope.names.lookup ("len" : Str) = some .globalImplicit)
def szArgs : Arguments → Option Str
  | ⟨[], [⟨x, none, _⟩], none, [], [], none, []⟩ => some x
  | _ => none
/-- lambda x: (len(x), x) -/
def bySz : Expr → Bool
  | .Lambda args body scope _ => (match szArgs args with | some x => szBody x body && szScope x scope | none => false)
  | _ => false
/-- the key of a sort: a lambda; a def of that name -/
def stKey (lam : Bool) : Expr → Scope → Option (Option Str)
  | .Name f _, sc => if okN f && isGlb sc f && !bnames.contains f then some (some f) else none
  | e, _ => if lam && bySz e then some none else none
def tgIn (own : List Nat) : Tg → Bool
  | .one i => own.contains i
  | .many is => is.all own.contains
def ownOf (N : List Str) (scope : Scope) : List (Str × Nat) := (scope.names.filter fun y => match y.2 with | .local => true | .cell => true | _ => false).filterMap fun y => (slot N y.1).map fun i => (y.1, i)

def notSet : Expr → Bool
  | .Set .. => false
  | _ => true
def notSlice : Expr → Bool
  | .Slice .. => false
  | _ => true
def isTupE : Expr → Bool
  | .Tuple .. => true
  | _ => false
def isZip : E → Bool
  | .zip .. => true
  | _ => false
/-- a call, its arguments told -/
def mkCallX (N : List Str) (lam : Bool) (sc : Scope) (cpos : Pos) (kws : List Keyword) (args : List Expr) (es : Es) : Expr → E
  | .Name f _ => (match kws with
    | [] => if okN f && isGlb sc f then (if f = "isinstance" then (match args, es with
        | [_, .Name t _], .cons m (.cons _ .nil) => (match stTy t with | some ty => if okN t && isGlb sc t then .isi m ty else .bad | none => .bad)
        | _, _ => .bad) else mkCall f es) else .bad
    | [⟨some k, e, _⟩] => if f = "sorted" && isGlb sc f && k = "key" then (match es, stKey lam e sc with | .cons m .nil, some g => .srt g m | _, _ => .bad) else .bad
    | _ => .bad)
  | .Attribute (.Name x _) m apos => (match kws, es with
    | [], .cons i .nil => if m = "pop" && apos.endLine == cpos.line then .pop (mkName N x sc) i else .bad
    | _, _ => .bad)
  | _ => .bad
mutual
def stE (N : List Str) (lam : Bool) : Expr → Scope → E
  | .Name x _, sc => mkName N x sc
  | .Constant c _ _, _ => stC c
  | .BinOp a op b _, sc => mkBin op (stE N lam a sc) (stE N lam b sc)
  | .UnaryOp .Not a _, sc => .not (stE N lam a sc)
  | .UnaryOp .USub a _, sc => .neg (stE N lam a sc)
  | .BoolOp op (a :: b :: r) _, sc => foldB op (stEs N lam (a :: b :: r) sc)
  | .IfExp c a b _, sc => .ite (stE N lam c sc) (stE N lam a sc) (stE N lam b sc)
  | .Compare a [op] [b] _, sc => mkCmp op (isNoneE b) (stE N lam a sc) (stE N lam b sc)
  | .Compare a [op, op2] [b, c] _, sc => if notSet c then mkChain op op2 (stE N lam a sc) (stE N lam b sc) (stE N lam c sc) else .bad
  | .Tuple es _ _, sc => .tup (stEs N lam es sc)
  | .List es _, sc => .lst (stEs N lam es sc)
  | .Subscript a (.Slice lo hi none _) _, sc => .slc (stE N lam a sc) (stO N lam lo sc) (stO N lam hi sc)
  | .Subscript a i _, sc => if notSlice i then .sub (stE N lam a sc) (stE N lam i sc) else .bad
  | .Call f args kws cpos, sc => mkCallX N lam sc cpos kws args (stEs N lam args sc) f
  | .ListComp elt [⟨t, it, ifs, k⟩] scope _, sc => if decide (k = 0) && blkC N sc scope (ownOf N scope) && notSet it && ifs.length ≤ 1 && (!isZip (stE N lam it sc) || isTupE t) then (match stTg N (relS scope sc) (ckC scope) t with
      | some tg => if tgIn ((ownOf N scope).map (·.2)) tg then .comp ((ownOf N scope).map (·.2)) (stE N lam elt (relS scope sc)) tg (itOf (stE N lam it sc)) (stEs N lam ifs (relS scope sc)) else .bad
      | none => .bad) else .bad
  | _, _ => .bad
def stEs (N : List Str) (lam : Bool) : List Expr → Scope → Es
  | [], _ => .nil
  | .Starred e _ :: r, sc => .star (stE N lam e sc) (stEs N lam r sc)
  | e :: r, sc => .cons (stE N lam e sc) (stEs N lam r sc)
def stO (N : List Str) (lam : Bool) : Option Expr → Scope → Es
  | none, _ => .nil
  | some e, sc => .cons (stE N lam e sc) .nil
end
end Mi
namespace Mi
open PySem PySem.Spec PyProof.Rows L2
/-! ### statements. ms: the names whose lists change -/
def mkFresh (ms : List Str) (x : Str) (e : E) : E := if x ∈ ms && isL e then .new e else e
def isStar : Expr → Bool
  | .Starred .. => true
  | _ => false
/-- a, b = x, y: some true: stored from the right at once; some false: through a tuple; none: not served -/
def parB (sc : Scope) (x y : Str) (px py : Pos) (vs : List Expr) : Option Bool :=
  if vs.any isStar then none
  else if x = y then none
  else if decide (sc.names.lookup x = some .local) && decide (sc.names.lookup y = some .local) && py.line == px.line then
      (if vs.all (foldedForSure 8) then some false else if vs.all (constantsAlone 8) then none else some true)
     else if isLoc sc x && isLoc sc y then some false else none
def stAsg (N ms : List Str) (lam : Bool) (sc : Scope) : List Expr → Expr → S
  | [.Name x _], e => if isLoc sc x then (match slot N x with | some i => .asg (.one i) (mkFresh ms x (stE N lam e sc)) | none => .bad) else .bad
  | [.Tuple [.Name x px, .Name y py] _ _], .Tuple [a, b] _ _ => (match parB sc x y px py [a, b], slot N x, slot N y with
      | some _, some i, some j => .par [i, j] (.cons (mkFresh ms x (stE N lam a sc)) (.cons (mkFresh ms y (stE N lam b sc)) .nil))
      | _, _, _ => .bad)
  | [.Tuple es k p], e => if !isTupE e then (match stTg N sc ckT (.Tuple es k p) with | some t => .asg t (stE N lam e sc) | none => .bad) else .bad
  | [.Subscript a i _], e => if notSlice i then .setI (stE N lam a sc) (stE N lam i sc) (stE N lam e sc) else .bad
  | _, _ => .bad
def stExp (N : List Str) (lam : Bool) (sc : Scope) : Expr → S
  | .Call (.Attribute (.Name x _) m apos) [e] [] cpos => if apos.endLine == cpos.line && !isStar e then
      (if m = "append" then .app (mkName N x sc) (stE N lam e sc) else if m = "extend" then .ext (mkName N x sc) (stE N lam e sc) else .bad) else .bad
  | .Call (.Name f p) args [] cpos => .exp (stE N lam (.Call (.Name f p) args [] cpos) sc)
  | _ => .bad
mutual
def stS (N ms : List Str) (lam : Bool) : Stmt → Scope → S
  | .Assign ts e _, sc => stAsg N ms lam sc ts e
  | .Expr e _, sc => stExp N lam sc e
  | .Return (some e) _, sc => .ret (mkFresh ms "return" (stE N lam e sc))
  | .Return none _, _ => .ret (.cst .none)
  | .If c a b _, sc => .ifs (stE N lam c sc) (stSs N ms lam a sc) (stSs N ms lam b sc)
  | .For t it body [] _, sc => if notSet it && (!isZip (stE N lam it sc) || isTupE t) then (match stTg N sc ckT t with | some tg => .for tg (itOf (stE N lam it sc)) (stSs N ms lam body sc) | none => .bad) else .bad
  | .While c body [] _, sc => .while (stE N lam c sc) (stSs N ms lam body sc)
  | .Pass _, _ => .pass
  | _, _ => .bad
def stSs (N ms : List Str) (lam : Bool) : List Stmt → Scope → Ss
  | [], _ => .nil
  | s :: r, sc => .cons (stS N ms lam s sc) (stSs N ms lam r sc)
end
end Mi
set_option maxHeartbeats 4000000
/-! M5: readings by the evaluator; each form of expression. -/
namespace Mi
open PySem PySem.Spec PyProof.Rows L2

theorem _root_.L2.PE.imp {X : Cx} {e : Expr} {t t' : TE} (h : PE X e t) (w : ∀ σ H Q, t' σ H Q → t σ H Q) : PE X e t' := ⟨fun pins s σ H Q I q => h.run pins s σ H Q I (w σ H Q q)⟩
theorem _root_.L2.PT.imp {X : Cx} {e : Expr} {t t' : TT} (h : PT X e t) (w : ∀ σ H Q, t' σ H Q → t σ H Q) : PT X e t' := ⟨fun pins s σ H Q I q => h.run pins s σ H Q I (w σ H Q q)⟩
theorem _root_.L2.PW.imp {X : Cx} {e : Expr} {t t' : TT} (h : PW X e t) (w : ∀ σ H Q, t' σ H Q → t σ H Q) : PW X e t' := ⟨fun wh pins s σ H Q I q => h.run wh pins s σ H Q I (w σ H Q q)⟩
theorem _root_.L2.PA.imp {X : Cx} {e : List Expr} {t t' : TA} (h : PA X e t) (w : ∀ σ H Q, t' σ H Q → t σ H Q) : PA X e t' := ⟨fun pos pins s σ H Q I q => h.run pos pins s σ H Q I (w σ H Q q)⟩
theorem _root_.L2.PO.imp {X : Cx} {e : Option Expr} {t t' : TO} (h : PO X e t) (w : ∀ σ H Q, t' σ H Q → t σ H Q) : PO X e t' := ⟨fun pins s σ H Q I q => h.run pins s σ H Q I (w σ H Q q)⟩
theorem _root_.L2.PS.imp {X : Cx} {e : Stmt} {t t' : TS} (h : PS X e t) (w : ∀ D σ H, t' D σ H → t D σ H) : PS X e t' := ⟨fun pins s σ H D I q => h.run pins s σ H D I (w D σ H q)⟩

/-- a list that has just been made -/
def Fresh (K : PySem.W.Frag) (T : List (Addr × Str)) (B : List Addr) (H : Hp) (L' : List Addr) (M' : MH) (H' : Hp) (v : Val) (x : V) : Prop :=
  ∀ xs, v = .d (.list xs) → ∃ a zs, x = .ref a ∧ Nt H a ∧ H' a = some (.lst zs) ∧ Wd K T (a :: B) L' M' H' ∧ RDs K H' (L' ++ a :: B) xs zs
def TEv (K : PySem.W.Frag) (T : List (Addr × Str)) (fr : Bool) (ev : Env → MH → Option (Val × MH)) : TE := fun σ H Q =>
  ∃ B L M ρ v M', EnvR K H L B ρ σ ∧ Wd K T B L M H ∧ ev ρ M = some (v, M') ∧ ∀ L' H' x, Ext L H L' H' → Wd K T B L' M' H' → RV K H' L' B v x → (fr = true → Fresh K T B H L' M' H' v x) → Q x H'
def TTv (K : PySem.W.Frag) (T : List (Addr × Str)) (ev : Env → MH → Option (Bool × MH)) : TT := fun σ H Q =>
  ∃ B L M ρ k M', EnvR K H L B ρ σ ∧ Wd K T B L M H ∧ ev ρ M = some (k, M') ∧ ∀ L' H', Ext L H L' H' → Wd K T B L' M' H' → Q k H'
def TAv (K : PySem.W.Frag) (T : List (Addr × Str)) (ev : Env → MH → Option (List Val × MH)) : TA := fun σ H Q =>
  ∃ B L M ρ vs M', EnvR K H L B ρ σ ∧ Wd K T B L M H ∧ ev ρ M = some (vs, M') ∧ ∀ L' H' xs, Ext L H L' H' → Wd K T B L' M' H' → RVs K H' L' B vs xs → Q xs H'
def TDv (K : PySem.W.Frag) (T : List (Addr × Str)) (ev : Env → MH → Option (List D × MH)) : TA := fun σ H Q =>
  ∃ B L M ρ vs M', EnvR K H L B ρ σ ∧ Wd K T B L M H ∧ ev ρ M = some (vs, M') ∧ ∀ L' H' xs, Ext L H L' H' → Wd K T B L' M' H' → RDs K H' (L' ++ B) vs xs → Q xs H'
def TOv (K : PySem.W.Frag) (T : List (Addr × Str)) (ev : Env → MH → Option (Option Int × MH)) : TO := fun σ H Q =>
  ∃ B L M ρ k M', EnvR K H L B ρ σ ∧ Wd K T B L M H ∧ ev ρ M = some (k, M') ∧ ∀ L' H', Ext L H L' H' → Wd K T B L' M' H' → Q k H'

section
variable {K : PySem.W.Frag} {T : List (Addr × Str)} {H H1 H2 H3 : Hp} {L L1 L2' B : List Addr} {M M1 M2 : MH}
/-- a new object also kept out of the data -/
theorem growp {p : Addr} {o : HO} (hp : H p = none) : Grow H (L ++ B) (upd H p o) (L ++ p :: B) := by
  refine ⟨fun a u h _ _ => by rw [upd_ne (ne_of_none h hp)]; exact h, fun a ha => ?_⟩
  rcases List.mem_append.mp ha with z | z
  · exact .inl (List.mem_append_left _ z)
  · rcases List.mem_cons.mp z with z | z
    · rw [z]; exact .inr (.of hp)
    · exact .inl (List.mem_append_right _ z)
theorem growu {p : Addr} {o : HO} (hp : H p = none) : Grow H (L ++ B) (upd H p o) (L ++ B) := Ext.grow (upd_ext hp)
theorem Wd.newB (w : Wd K T B L M H) {p : Addr} {zs : List V} (hp : H p = none) : Wd K T (p :: B) L M (upd H p (.lst zs)) := by
  have w' := w.new (o := .lst zs) hp
  refine ⟨w'.tabs, w'.len, w'.nd, fun i a c h1 h2 => ?_, fun b hb => ?_, fun b hb => ?_⟩
  · have q := w.cell i a c h1 h2
    cases c with
    | lst ds =>
      obtain ⟨xs, q1, q2⟩ := q
      exact ⟨xs, by rw [upd_ne (ne_of_none q1 hp)]; exact q1, RDs.grow (growp hp) ds xs q2⟩
  · rcases List.mem_cons.mp hb with z | z
    · rw [z]; exact ⟨_, upd_same⟩
    · exact w'.blk b z
  · rcases List.mem_cons.mp hb with z | z
    · rw [z]; exact fun z => w.apart hp (List.mem_append_left _ z)
    · exact w'.dis b z
theorem Wd.unB (w : Wd K T (p :: B) L M H) : Wd K T B L M H := by
  refine ⟨w.tabs, w.len, w.nd, fun i a c h1 h2 => ?_, fun b hb => w.blk b (List.mem_cons_of_mem _ hb), fun b hb => w.dis b (List.mem_cons_of_mem _ hb)⟩
  have q := w.cell i a c h1 h2
  cases c with
  | lst ds =>
    obtain ⟨xs, q1, q2⟩ := q
    refine ⟨xs, q1, RDs.grow (Z := L ++ p :: B) ⟨fun a o h _ _ => h, fun a ha => .inl ?_⟩ ds xs q2⟩
    rcases List.mem_append.mp ha with z | z
    · exact List.mem_append_left _ z
    · exact List.mem_append_right _ (List.mem_cons_of_mem _ z)
theorem growB {p : Addr} : Grow H (L ++ p :: B) H (L ++ B) := ⟨fun a o h _ _ => h, fun a ha => .inl (by
    rcases List.mem_append.mp ha with z | z
    · exact List.mem_append_left _ z
    · exact List.mem_append_right _ (List.mem_cons_of_mem _ z))⟩
theorem none_of (e : Ext L H L1 H1) {p : Addr} (hp : H1 p = none) : Nt H p := e.there p (.of hp)
/-- an operation's end -/
theorem res_list (e : Ext L H L2' H2) (w : Wd K T B L2' M2 H2) {ds : List D} {zs : List V} {p : Addr} (hp : H2 p = none) (r : RDs K H2 (L2' ++ B) ds zs) :
    Ext L2' H2 L2' (upd H2 p (.lst zs)) ∧ Wd K T B L2' M2 (upd H2 p (.lst zs)) ∧ RV K (upd H2 p (.lst zs)) L2' B (.d (.list ds)) (.ref p) ∧ Fresh K T B H L2' M2 (upd H2 p (.lst zs)) (.d (.list ds)) (.ref p) := by
  refine ⟨upd_ext hp, w.new hp, ⟨p, zs, rfl, ⟨upd_same, w.apart hp⟩, RDs.grow (growu hp) ds zs r⟩, fun xs ex => ?_⟩
  cases ex
  exact ⟨p, zs, rfl, none_of e hp, upd_same, w.newB hp, RDs.grow (growp hp) ds zs r⟩
theorem res_tup (w : Wd K T B L2' M2 H2) {ds : List D} {zs : List V} {p : Addr} (hp : H2 p = none) (r : RDs K H2 (L2' ++ B) ds zs) :
    Ext L2' H2 L2' (upd H2 p (.tup zs)) ∧ Wd K T B L2' M2 (upd H2 p (.tup zs)) ∧ RV K (upd H2 p (.tup zs)) L2' B (.d (.tuple ds)) (.ref p) :=
  ⟨upd_ext hp, w.new hp, ⟨p, zs, rfl, .inl ⟨.inl upd_same, w.apart hp⟩, RDs.grow (growu hp) ds zs r⟩⟩
theorem res_fin (e : Ext L H L2' H2) (w : Wd K T B L2' M2 H2) {c : D} {z : V} (r : Res K H2 (L2' ++ B) c z H3) :
    Ext L2' H2 L2' H3 ∧ Wd K T B L2' M2 H3 ∧ RV K H3 L2' B (.d c) z ∧ Fresh K T B H L2' M2 H3 (.d c) z := by
  cases c with
  | list ds =>
    obtain ⟨p, zs, rfl, hp, rfl, hr⟩ := r
    exact res_list e w hp hr
  | tuple ds =>
    rcases r with ⟨rfl, hr⟩ | ⟨p, zs, rfl, hp, rfl, hr⟩
    · exact ⟨Ext.refl, w, hr, fun _ q => nomatch q⟩
    · obtain ⟨a, b, c⟩ := res_tup w hp hr
      exact ⟨a, b, c, fun _ q => nomatch q⟩
  | _ =>
    obtain ⟨rfl, hr⟩ := r
    exact ⟨Ext.refl, w, hr, fun _ q => nomatch q⟩
theorem nofr {v : Val} {x : V} (h : ∀ xs, v ≠ .d (.list xs)) : Fresh K T B H L1 M1 H1 v x := fun xs e => (h xs e).elim
end
theorem bindE {α β : Type} {o : Option α} {f : α → Option β} {b : β} (h : o.bind f = some b) : ∃ a, o = some a ∧ f a = some b := Option.bind_eq_some_iff.mp h
theorem mapE {α β : Type} {o : Option α} {f : α → β} {b : β} (h : o.map f = some b) : ∃ a, o = some a ∧ f a = b := Option.map_eq_some_iff.mp h

/-! ### what is known of a place in the text -/
/-- a def's promise by the evaluator -/
def spM (K : PySem.W.Frag) (T : List (Addr × Str)) (call : Str → List Val → MH → Option (Val × MH)) (np : Nat) (f : Str) : Sp := fun xs H Q _ =>
  xs.length = np ∧ ∃ B L M vs v M', RVs K H L B vs xs ∧ Wd K T B L M H ∧ call f vs M = some (v, M') ∧ ∀ L' H' x, Ext L H L' H' → Wd K T B L' M' H' → RV K H' L' B v x → Q x H'
structure FnAt (T : List (Addr × Str)) (C : Ctx) (X : Cx) (f : Str) : Prop where
  ok : ∃ k fa fd ps, FnOk X.prog X.w X.K X.mg X.base CX0 k fa fd ps (spM X.K T C.call ps.length f) ∧ Room k X.A ∧ X.mg f = some (.ref fa) ∧ PySem.W.keepIn X.K (.ref fa) = true ∧ Binds X.K fd ps [] ∧ ∀ vs M r, C.call f vs M = some r → vs.length = ps.length
/-- a def that tells how many, then which -/
def SzAt (X : Cx) (f : Str) : Prop := ∃ (fa : Addr) (oc : Value) (od : Option Addr) (args : Arguments) (x : Str) (e : Expr) (pos : Pos) (sc : Scope) (kV doc pm cdv ct : Value) (an : Option Addr) (osl : Array (Option Value)),
  X.mg f = some (.ref fa) ∧ X.K.lookup fa = some ⟨oc, od, .func (PySem.W.fnOf f f args [.Return (some e) pos] sc .none kV doc pm an cdv ct), osl⟩ ∧ PySem.W.codeIn X.K cdv f = true ∧ szArgs args = some x ∧ szBody x e = true ∧ szScope x sc = true
structure Good (T : List (Addr × Str)) (C : Ctx) (N : List Str) (sc : Scope) (X : Cx) : Prop where
  nn : X.N = N
  sc : X.env.scope = sc
  nd : N.Nodup
  calm : X.calm = true
  un : X.A.units + 64 < cLine
  bn : ∀ x ∈ bnames, X.mg x = none
  cst : ∀ x d, C.cst x = some d → ∃ u v, X.mg x = some u ∧ RelV v u ∧ ∀ H Z, RD X.K H Z d v
  fn : ∀ f vs M r, C.call f vs M = some r → FnAt T C X f
  room : Room 4 X.A
  key : ∀ f, C.bys f = true → SzAt X f
theorem Good.blk {T : List (Addr × Str)} {C : Ctx} {N : List Str} {sc : Scope} {X : Cx} (g : Good T C N sc X) (s : Shared) (H : Hp) (scope : Scope) (Cc : Addr) (cl : List (Str × Addr)) (fp : List Addr) :
    Good T C N (relS scope sc) (X.blk s H scope (compEnvC scope cl Cc X.env) fp) :=
  ⟨g.nn, by rw [← g.sc]; rfl, g.nd, g.calm, g.un, g.bn, g.cst, fun f vs M r h => ⟨(g.fn f vs M r h).ok⟩, g.room, g.key⟩
abbrev tE (K : PySem.W.Frag) (T : List (Addr × Str)) (C : Ctx) (m : E) : TE := TEv K T (isL m) (evE C m)
abbrev tT (K : PySem.W.Frag) (T : List (Addr × Str)) (C : Ctx) (m : E) : TT := TTv K T (evT C m)
def NoStar (e : Expr) : Prop := ∀ (es : List Expr) (env : PySem.Env), starEach (e :: es) env = (false, eval e env) :: starEach es env
/-- what the text e does: what m says -/
structure Snd (T : List (Addr × Str)) (C : Ctx) (X : Cx) (e : Expr) (m : E) : Prop where
  pe : PE X e (tE X.K T C m)
  pt : PT X e (tT X.K T C m)
  set : ∀ a, m = .set a → ∃ p pos e2, e = .Call (.Name "set" p) [e2] [] pos ∧ Gl X "set" ∧ NoStar e2 ∧ PE X e2 (tE X.K T C a)
  zip : ∀ a b, m = .zip a b → ∃ p pos e1 e2, e = .Call (.Name "zip" p) [e1, e2] [] pos ∧ Gl X "zip" ∧ NoStar e1 ∧ NoStar e2 ∧ PE X e1 (tE X.K T C a) ∧ PE X e2 (tE X.K T C b)
  rng1 : ∀ a, m = .rng (.cons a .nil) → ∃ p pos e1, e = .Call (.Name "range" p) [e1] [] pos ∧ Gl X "range" ∧ NoStar e1 ∧ PE X e1 (tE X.K T C a)
  rng2 : ∀ a b, m = .rng (.cons a (.cons b .nil)) → ∃ p pos e1 e2, e = .Call (.Name "range" p) [e1, e2] [] pos ∧ Gl X "range" ∧ NoStar e1 ∧ NoStar e2 ∧ PE X e1 (tE X.K T C a) ∧ PE X e2 (tE X.K T C b)
inductive SndEs (T : List (Addr × Str)) (C : Ctx) (X : Cx) : List Expr → Es → Prop
  | nil : SndEs T C X [] .nil
  | cons {e : Expr} {m : E} {es : List Expr} {ms : Es} : Snd T C X e m → NoStar e → SndEs T C X es ms → SndEs T C X (e :: es) (.cons m ms)
  | star {e : Expr} {m : E} {es : List Expr} {ms : Es} {p : Pos} : Snd T C X e m → SndEs T C X es ms → SndEs T C X (.Starred e p :: es) (.star m ms)

section
variable {X : Cx} {T : List (Addr × Str)} {C : Ctx} {N : List Str} {sc : Scope} {e e1 e2 e3 : Expr} {m m1 m2 m3 : E} {pos : Pos}

/-! ### forms whose value is no list, no set .. -/
theorem pe_none (h : ∀ ρ M, evE C m ρ M = none) : PE X e (tE X.K T C m) := ⟨fun _ _ _ _ _ _ ⟨_, _, _, ρ, _, _, _, _, hev, _⟩ => by rw [h] at hev; cases hev⟩
theorem pt_none (h : ∀ ρ M, evE C m ρ M = none) : PT X e (tT X.K T C m) := ⟨fun _ _ _ _ _ _ ⟨_, _, _, ρ, _, _, _, _, hev, _⟩ => by
  unfold evT at hev
  rw [h] at hev
  cases hev⟩
theorem pw_none (h : ∀ ρ M, evE C m ρ M = none) : PW X e (tT X.K T C m) := ⟨fun _ _ _ _ _ _ _ ⟨_, _, _, ρ, _, _, _, _, hev, _⟩ => by
  unfold evT at hev
  rw [h] at hev
  cases hev⟩
/-- a test by its value -/
theorem pt_by (h : PE X e (tE X.K T C m)) (he : ∀ whole, PySem.isTrue e X.env whole = (do let v ← whole; standAt e.pos; holding [v] (truthy v))) : PT X e (tT X.K T C m) :=
  (pt_val h he).imp fun σ H Q ⟨B, L, M, ρ, k, M', he, hw, hev, q⟩ => by
    obtain ⟨⟨v, M1⟩, h1, hev⟩ := bindE hev
    dsimp only at hev
    split at hev
    · cases hev
      exact ⟨B, L, M, ρ, _, _, he, hw, h1, fun L' H' x e1 w1 r1 _ => ⟨_, r1, q _ _ e1 w1⟩⟩
    · cases hev
/-- nothing special -/
theorem Snd.mk' (pe : PE X e (tE X.K T C m)) (pt : PT X e (tT X.K T C m)) (h : ∀ a b es, m ≠ .set a ∧ m ≠ .zip a b ∧ m ≠ .rng es) : Snd T C X e m :=
  ⟨pe, pt, fun a q => ((h a a .nil).1 q).elim, fun a b q => ((h a b .nil).2.1 q).elim, fun a q => ((h a a _).2.2 q).elim, fun a b q => ((h a b _).2.2 q).elim⟩
theorem Snd.bad : Snd T C X e .bad := .mk' (pe_none fun _ _ => rfl) (pt_none fun _ _ => rfl) fun _ _ _ => ⟨nofun, nofun, nofun⟩

theorem not_dbg {x : Str} (h : okN x = true) : (x == ("__debug__" : Str)) = false ∧ (x == ("__classdict__" : Str)) = false ∧ x ≠ "__name__" := by
  unfold okN at h
  simp only [Bool.and_eq_true, Bool.not_eq_true'] at h
  exact ⟨h.1.1, h.1.2, fun e => by rw [e] at h; exact absurd h.2 (by decide)⟩
theorem isVis_ok {x : Str} (h : isVis sc x = true) : Vis sc x := by
  unfold isVis at h
  split at h
  · exact .inl ‹_›
  · exact .inr (.inl ‹_›)
  · exact .inr (.inr ‹_›)
  · cases h
theorem isLoc_ok {x : Str} (h : isLoc sc x = true) : Loc sc x := by
  unfold isLoc at h
  split at h
  · exact .inl ‹_›
  · exact .inr ‹_›
  · cases h
theorem isGlb_ok {x : Str} (g : Good T C N sc X) (h : isGlb sc x = true) : Gl X x := by
  unfold isGlb at h
  split at h
  · show X.env.scope.names.lookup x = _
    rw [g.sc]; assumption
  · cases h
/-! ### names, constants -/
theorem s_name {x : Str} (g : Good T C N sc X) : Snd T C X (.Name x pos) (mkName N x sc) := by
  unfold mkName
  split
  · rename_i ho
    obtain ⟨o1, o2, o3⟩ := not_dbg ho
    split
    · rename_i hv
      split
      · rename_i i hi
        have pe : PE X (.Name x pos) (tE X.K T C (.var i)) := (pe_var (i := i) (by rw [g.nn]; exact slot_get hi) (by rw [g.sc]; exact isVis_ok hv) o1 o2).imp fun σ H Q ⟨B, L, M, ρ, v, M', he, hw, hev, q⟩ => by
          have hev : (match ρ[i]? with | some (some v) => some (v, M) | _ => none) = some (v, M') := hev
          split at hev
          · rename_i z hz
            cases hev
            obtain ⟨y, h1, h2⟩ := he.at_ i _ hz
            exact ⟨y, h1, q _ _ _ Ext.refl hw h2 fun z => nomatch z⟩
          · cases hev
        exact .mk' pe (pt_by pe fun _ => rfl) fun _ _ _ => ⟨nofun, nofun, nofun⟩
      · exact .bad
    · split
      · rename_i hg
        have pe : PE X (.Name x pos) (tE X.K T C (.glob x)) := by
          refine ⟨fun pins s σ H Q I ⟨B, L, M, ρ, v, M', he, hw, hev, q⟩ => ?_⟩
          obtain ⟨d, hd, e⟩ := mapE hev
          cases e
          obtain ⟨u, y, h1, h2, h3⟩ := g.cst x d hd
          exact (pe_glob (isGlb_ok g hg) h1 h2 o1).run pins s σ H Q I (q _ _ _ Ext.refl hw (h3 _ _) fun z => nomatch z)
        exact .mk' pe (pt_by pe fun _ => rfl) fun _ _ _ => ⟨nofun, nofun, nofun⟩
      · exact .bad
  · exact .bad
theorem s_cst {c : Const} {k : Nat} : Snd T C X (.Constant c k pos) (stC c) := by
  have fin : ∀ (d : D) (v : V), (∀ H Z, RD X.K H Z d v) → PE X (.Constant c k pos) (tC v) → Snd T C X (.Constant c k pos) (.cst d) := fun d v hr h => by
    have pe : PE X (.Constant c k pos) (tE X.K T C (.cst d)) := h.imp fun σ H Q ⟨B, L, M, ρ, v, M', he, hw, hev, q⟩ => by
      cases hev
      exact q _ _ _ Ext.refl hw (hr _ _) fun z => nomatch z
    exact .mk' pe (pt_by pe fun _ => rfl) fun _ _ _ => ⟨nofun, nofun, nofun⟩
  unfold stC
  split
  · exact fin .none .non (fun _ _ => rfl) pe_non
  · exact fin (.bool _) (.bl _) (fun _ _ => rfl) pe_bl
  · exact fin (.int _) (.int _) (fun _ _ => rfl) pe_int
  · split
    · exact fin (.str _) (.str _) (fun _ _ => ⟨rfl, ‹_›⟩) pe_str
    · exact .bad
  · exact .bad

/-! ### operations -/
theorem s_bin (o : BOp) (ha : PE X e1 (tE X.K T C m1)) (hb : PE X e2 (tE X.K T C m2)) : PE X (.BinOp e1 (opOf o) e2 pos) (tE X.K T C (.bin o m1 m2)) :=
  (pe_op (opR_bin o) ha hb).imp fun σ H Q ⟨B, L, M, ρ, v, M', he, hw, hev, q⟩ => by
    obtain ⟨⟨v1, M1⟩, h1, hev⟩ := bindE hev
    obtain ⟨⟨v2, M2⟩, h2, hev⟩ := bindE hev
    obtain ⟨x1, g1, hev⟩ := bindE hev
    obtain ⟨x2, g2, hev⟩ := bindE hev
    obtain ⟨z, hz, e⟩ := mapE hev
    cases e
    refine ⟨B, L, M, ρ, v1, M1, he, hw, h1, fun L1 H1 y1 e1 w1 r1 _ => ⟨B, L1, M1, ρ, v2, M2, he.ext e1, w1, h2, fun L2 H2 y2 e2 w2 r2 _ => ?_⟩⟩
    refine ⟨L2 ++ B, x1, x2, z, fun _ => w2.tracked, getT_rt w2 (r1.ext e2) g1, getT_rt w2 r2 g2, hz, fun y H3 rr => ?_⟩
    have f := res_fin (e1.trans e2) w2 rr
    exact q _ _ _ ((e1.trans e2).trans f.1) f.2.1 f.2.2.1 fun _ => f.2.2.2
theorem s_neg (ha : PE X e1 (tE X.K T C m1)) : PE X (.UnaryOp .USub e1 pos) (tE X.K T C (.neg m1)) :=
  (pe_un un_neg ha).imp fun σ H Q ⟨B, L, M, ρ, v, M', he, hw, hev, q⟩ => by
    obtain ⟨⟨v1, M1⟩, h1, hev⟩ := bindE hev
    dsimp only at hev
    split at hev
    · cases hev
      refine ⟨B, L, M, ρ, _, _, he, hw, h1, fun L1 H1 y1 e1 w1 r1 _ => ?_⟩
      exact ⟨_, r1, q _ _ _ e1 w1 rfl fun z => nomatch z⟩
    · cases hev
theorem cmp_run {o : COp} {σ : L2.St} {H : Hp} {Q : V → Hp → Prop} (w : tE X.K T C (.cmp o m1 m2) σ H Q) : tOp (rCmp X.K o) (tE X.K T C m1) (tE X.K T C m2) σ H Q := by
  obtain ⟨B, L, M, ρ, v, M', he, hw, hev, q⟩ := w
  obtain ⟨⟨v1, M1⟩, h1, hev⟩ := bindE hev
  obtain ⟨⟨v2, M2⟩, h2, hev⟩ := bindE hev
  obtain ⟨x1, g1, hev⟩ := bindE hev
  obtain ⟨x2, g2, hev⟩ := bindE hev
  obtain ⟨z, hz, e⟩ := mapE hev
  cases e
  refine ⟨B, L, M, ρ, v1, M1, he, hw, h1, fun L1 H1 y1 e1 w1 r1 _ => ⟨B, L1, M1, ρ, v2, M2, he.ext e1, w1, h2, fun L2 H2 y2 e2 w2 r2 _ => ?_⟩⟩
  exact ⟨L2 ++ B, x1, x2, z, get_rt w2 (r1.ext e2) g1, get_rt w2 r2 g2, hz, q _ _ _ (e1.trans e2) w2 rfl fun z => nomatch z⟩
/-- a test off a value's reading -/
theorem tt_of {σ : L2.St} {H : Hp} {Q : Bool → Hp → Prop} (w : tT X.K T C m σ H Q) : tE X.K T C m σ H fun x H' => ∃ k, x = .bl k ∧ Q k H' := by
  obtain ⟨B, L, M, ρ, k, M', he, hw, hev, q⟩ := w
  obtain ⟨⟨v, M1⟩, h1, hev⟩ := bindE hev
  dsimp only at hev
  split at hev
  · cases hev
    exact ⟨B, L, M, ρ, _, _, he, hw, h1, fun L' H' x e1 w1 r1 _ => ⟨_, r1, q _ _ e1 w1⟩⟩
  · cases hev
theorem s_cmp (o : COp) (g : Good T C N sc X) (hm : behindInMarks (cmpOf o) e2 = false) (ha : PE X e1 (tE X.K T C m1)) (hb : PE X e2 (tE X.K T C m2)) : PE X (.Compare e1 [cmpOf o] [e2] pos) (tE X.K T C (.cmp o m1 m2)) :=
  (pe_cmpR (opR_cmp o g.un) ha hb hm).imp fun σ H Q w => cmp_run w
theorem t_cmp (o : COp) (g : Good T C N sc X) (hm : behindInMarks (cmpOf o) e2 = false) (ha : PE X e1 (tE X.K T C m1)) (hb : PE X e2 (tE X.K T C m2)) : PT X (.Compare e1 [cmpOf o] [e2] pos) (tT X.K T C (.cmp o m1 m2)) :=
  (pt_cmpR (opR_cmp o g.un) ha hb hm).imp fun σ H Q w => cmp_run (tt_of w)
theorem chain_run {o p : COp} {σ : L2.St} {H : Hp} {Q : V → Hp → Prop} (w : tE X.K T C (.chain o p m1 m2 m3) σ H Q) : tChain (rCmp X.K o) (rCmp X.K p) (tE X.K T C m1) (tE X.K T C m2) (tE X.K T C m3) σ H Q := by
  obtain ⟨B, L, M, ρ, v, M', he, hw, hev, q⟩ := w
  obtain ⟨⟨v1, M1⟩, h1, hev⟩ := bindE hev
  obtain ⟨⟨v2, M2⟩, h2, hev⟩ := bindE hev
  obtain ⟨x1, g1, hev⟩ := bindE hev
  obtain ⟨x2, g2, hev⟩ := bindE hev
  obtain ⟨z, hz, hev⟩ := bindE hev
  refine ⟨B, L, M, ρ, v1, M1, he, hw, h1, fun L1 H1 y1 e1 w1 r1 _ => ⟨B, L1, M1, ρ, v2, M2, he.ext e1, w1, h2, fun L2 H2 y2 e2 w2 r2 _ => ?_⟩⟩
  refine ⟨L2 ++ B, x1, x2, z, get_rt w2 (r1.ext e2) g1, get_rt w2 r2 g2, hz, z, rfl, ?_⟩
  cases z with
  | false =>
    cases hev
    exact q _ _ _ (e1.trans e2) w2 rfl fun z => nomatch z
  | true =>
    obtain ⟨⟨v3, M3⟩, h3, hev⟩ := bindE hev
    obtain ⟨x2', g2', hev⟩ := bindE hev
    obtain ⟨x3, g3, hev⟩ := bindE hev
    obtain ⟨k, hk, e⟩ := mapE hev
    cases e
    exact ⟨B, L2, M2, ρ, v3, M3, (he.ext e1).ext e2, w2, h3, fun L3 H3 y3 e3 w3 r3 _ => ⟨L3 ++ B, x2', x3, k, get_rt w3 (r2.ext e3) g2', get_rt w3 r3 g3, hk, q _ _ _ ((e1.trans e2).trans e3) w3 rfl fun z => nomatch z⟩⟩
theorem s_chain (o p : COp) (g : Good T C N sc X) (hm : lastMarks [cmpOf o, cmpOf p] [e2, e3] = false) (ha : PE X e1 (tE X.K T C m1)) (hb : PE X e2 (tE X.K T C m2)) (hc : PE X e3 (tE X.K T C m3)) : PE X (.Compare e1 [cmpOf o, cmpOf p] [e2, e3] pos) (tE X.K T C (.chain o p m1 m2 m3)) :=
  (pe_chain (opR_cmp o g.un) (opR_cmp p g.un) ha hb hc hm).imp fun σ H Q w => chain_run w
theorem t_chain (o p : COp) (g : Good T C N sc X) (hm : lastMarks [cmpOf o, cmpOf p] [e2, e3] = false) (ha : PE X e1 (tE X.K T C m1)) (hb : PE X e2 (tE X.K T C m2)) (hc : PE X e3 (tE X.K T C m3)) : PT X (.Compare e1 [cmpOf o, cmpOf p] [e2, e3] pos) (tT X.K T C (.chain o p m1 m2 m3)) :=
  (pt_chain (opR_cmp o g.un) (opR_cmp p g.un) ha hb hc hm).imp fun σ H Q w => chain_run (tt_of w)
theorem non_iff {H : Hp} {L B : List Addr} {v : Val} {x : V} (r : RV X.K H L B v x) : decide (x = .non) = isNonV v := by
  cases v with
  | ref n => obtain ⟨a, _, e⟩ := r; subst e; rfl
  | scr ns => obtain ⟨a, e, _⟩ := r; subst e; rfl
  | d d =>
    cases d with
    | none => cases (show x = .non from r); rfl
    | bool b => cases (show x = .bl b from r); rfl
    | int b => cases (show x = .int b from r); rfl
    | str b => obtain ⟨e, _⟩ := r; subst e; rfl
    | list ds => obtain ⟨a, xs, e, _⟩ := r; subst e; rfl
    | tuple ds => obtain ⟨a, xs, e, _⟩ := r; subst e; rfl
    | dict ds => exact (show False from r).elim
theorem s_isN {j : Nat} {p' : Pos} (ha : PE X e1 (tE X.K T C m1)) : PE X (.Compare e1 [.Is] [.Constant .none j p'] pos) (tE X.K T C (.isN m1)) ∧ PT X (.Compare e1 [.Is] [.Constant .none j p'] pos) (tT X.K T C (.isN m1)) := by
  have run : ∀ σ H Q, tE X.K T C (.isN m1) σ H Q → tIsN (tE X.K T C m1) σ H Q := fun σ H Q ⟨B, L, M, ρ, v, M', he, hw, hev, q⟩ => by
    obtain ⟨⟨v1, M1⟩, h1, e⟩ := mapE hev
    cases e
    exact ⟨B, L, M, ρ, v1, M1, he, hw, h1, fun L1 H1 y1 e1 w1 r1 _ => q _ _ _ e1 w1 (congrArg V.bl (non_iff r1)) fun z => nomatch z⟩
  exact ⟨(pe_cmp (pc_isN ha) rfl).imp run, (pt_cmp (pc_isN ha) rfl).imp fun σ H Q w => run _ _ _ (tt_of w)⟩
theorem s_notN {j : Nat} {p' : Pos} (ha : PE X e1 (tE X.K T C m1)) : PE X (.Compare e1 [.IsNot] [.Constant .none j p'] pos) (tE X.K T C (.notN m1)) ∧ PT X (.Compare e1 [.IsNot] [.Constant .none j p'] pos) (tT X.K T C (.notN m1)) := by
  have run : ∀ σ H Q, tE X.K T C (.notN m1) σ H Q → tNotN (tE X.K T C m1) σ H Q := fun σ H Q ⟨B, L, M, ρ, v, M', he, hw, hev, q⟩ => by
    obtain ⟨⟨v1, M1⟩, h1, e⟩ := mapE hev
    cases e
    exact ⟨B, L, M, ρ, v1, M1, he, hw, h1, fun L1 H1 y1 e1 w1 r1 _ => q _ _ _ e1 w1 (congrArg (fun b => V.bl (!b)) (non_iff r1)) fun z => nomatch z⟩
  exact ⟨(pe_cmp (pc_notN ha) rfl).imp run, (pt_cmp (pc_notN ha) rfl).imp fun σ H Q w => run _ _ _ (tt_of w)⟩

/-! ### and, or, not, if -/
theorem s_not (ha : PE X e1 (tE X.K T C m1)) : PE X (.UnaryOp .Not e1 pos) (tE X.K T C (.not m1)) :=
  (pe_not ha).imp fun σ H Q ⟨B, L, M, ρ, v, M', he, hw, hev, q⟩ => by
    obtain ⟨⟨v1, M1⟩, h1, hev⟩ := bindE hev
    dsimp only at hev
    split at hev
    · cases hev
      refine ⟨B, L, M, ρ, _, _, he, hw, h1, fun L1 H1 y1 e1 w1 r1 _ => ?_⟩
      exact ⟨_, r1, q _ _ _ e1 w1 rfl fun z => nomatch z⟩
    · cases hev
theorem t_not (ha : PT X e1 (tT X.K T C m1)) : PT X (.UnaryOp .Not e1 pos) (tT X.K T C (.not m1)) :=
  (pt_not ha).imp fun σ H Q ⟨B, L, M, ρ, k, M', he, hw, hev, q⟩ => by
    obtain ⟨⟨v, M1⟩, h1, hev⟩ := bindE hev
    obtain ⟨⟨v1, M2⟩, h2, h3⟩ := bindE h1
    dsimp only at h3
    split at h3
    · cases h3
      cases hev
      rename_i k'
      exact ⟨B, L, M, ρ, k', _, he, hw, by unfold evT; rw [h2]; rfl, fun L' H' e1 w1 => q _ _ e1 w1⟩
    · cases h3
theorem s_and {rest : List Expr} (ha : PE X e1 (tE X.K T C m1)) (hb : PE X (.BoolOp .And (e2 :: rest) pos) (tE X.K T C m2)) : PE X (.BoolOp .And (e1 :: e2 :: rest) pos) (tE X.K T C (.and m1 m2)) :=
  (pe_and ha hb).imp fun σ H Q ⟨B, L, M, ρ, v, M', he, hw, hev, q⟩ => by
    obtain ⟨⟨v1, M1⟩, h1, hev⟩ := bindE hev
    refine ⟨B, L, M, ρ, v1, M1, he, hw, h1, fun L1 H1 y1 e1 w1 r1 _ => ?_⟩
    dsimp only at hev
    split at hev
    · obtain ⟨⟨v2, M2⟩, h2, hev⟩ := bindE hev
      dsimp only at hev
      split at hev
      · cases hev
        exact ⟨true, r1, B, L1, M1, ρ, _, _, he.ext e1, w1, h2, fun L2 H2 y2 e2 w2 r2 _ => q _ _ _ (e1.trans e2) w2 r2 fun z => nomatch z⟩
      · cases hev
    · cases hev
      exact ⟨false, r1, q _ _ _ e1 w1 rfl fun z => nomatch z⟩
    · cases hev
theorem s_or {rest : List Expr} (ha : PE X e1 (tE X.K T C m1)) (hb : PE X (.BoolOp .Or (e2 :: rest) pos) (tE X.K T C m2)) : PE X (.BoolOp .Or (e1 :: e2 :: rest) pos) (tE X.K T C (.or m1 m2)) :=
  (pe_or ha hb).imp fun σ H Q ⟨B, L, M, ρ, v, M', he, hw, hev, q⟩ => by
    obtain ⟨⟨v1, M1⟩, h1, hev⟩ := bindE hev
    refine ⟨B, L, M, ρ, v1, M1, he, hw, h1, fun L1 H1 y1 e1 w1 r1 _ => ?_⟩
    dsimp only at hev
    split at hev
    · obtain ⟨⟨v2, M2⟩, h2, hev⟩ := bindE hev
      dsimp only at hev
      split at hev
      · cases hev
        exact ⟨false, r1, B, L1, M1, ρ, _, _, he.ext e1, w1, h2, fun L2 H2 y2 e2 w2 r2 _ => q _ _ _ (e1.trans e2) w2 r2 fun z => nomatch z⟩
      · cases hev
    · cases hev
      exact ⟨true, r1, q _ _ _ e1 w1 rfl fun z => nomatch z⟩
    · cases hev
theorem evT_of {C : Ctx} {m : E} {ρ : Env} {M M1 : MH} {k : Bool} (h : evE C m ρ M = some (.d (.bool k), M1)) : evT C m ρ M = some (k, M1) := by unfold evT; rw [h]; rfl
theorem t_and {rest : List Expr} (ha : PT X e1 (tT X.K T C m1)) (hb : PW X (.BoolOp .And (e2 :: rest) pos) (tT X.K T C m2)) : PW X (.BoolOp .And (e1 :: e2 :: rest) pos) (tT X.K T C (.and m1 m2)) :=
  (pw_and ha hb).imp fun σ H Q ⟨B, L, M, ρ, k, M', he, hw, hev, q⟩ => by
    obtain ⟨⟨v, M0⟩, h0, hev⟩ := bindE hev
    obtain ⟨⟨v1, M1⟩, h1, h3⟩ := bindE h0
    dsimp only at h3
    split at h3
    · obtain ⟨⟨v2, M2⟩, h2, h4⟩ := bindE h3
      dsimp only at h4
      split at h4
      · cases h4
        cases hev
        exact ⟨B, L, M, ρ, true, M1, he, hw, evT_of h1, fun L1 H1 e1 w1 => ⟨B, L1, M1, ρ, _, _, he.ext e1, w1, evT_of h2, fun L2 H2 e2 w2 => q _ _ (e1.trans e2) w2⟩⟩
      · cases h4
    · cases h3
      cases hev
      exact ⟨B, L, M, ρ, false, _, he, hw, evT_of h1, fun L1 H1 e1 w1 => q _ _ e1 w1⟩
    · cases h3
theorem t_or {rest : List Expr} (ha : PT X e1 (tT X.K T C m1)) (hb : PW X (.BoolOp .Or (e2 :: rest) pos) (tT X.K T C m2)) : PW X (.BoolOp .Or (e1 :: e2 :: rest) pos) (tT X.K T C (.or m1 m2)) :=
  (pw_or ha hb).imp fun σ H Q ⟨B, L, M, ρ, k, M', he, hw, hev, q⟩ => by
    obtain ⟨⟨v, M0⟩, h0, hev⟩ := bindE hev
    obtain ⟨⟨v1, M1⟩, h1, h3⟩ := bindE h0
    dsimp only at h3
    split at h3
    · obtain ⟨⟨v2, M2⟩, h2, h4⟩ := bindE h3
      dsimp only at h4
      split at h4
      · cases h4
        cases hev
        exact ⟨B, L, M, ρ, false, M1, he, hw, evT_of h1, fun L1 H1 e1 w1 => ⟨B, L1, M1, ρ, _, _, he.ext e1, w1, evT_of h2, fun L2 H2 e2 w2 => q _ _ (e1.trans e2) w2⟩⟩
      · cases h4
    · cases h3
      cases hev
      exact ⟨B, L, M, ρ, true, _, he, hw, evT_of h1, fun L1 H1 e1 w1 => q _ _ e1 w1⟩
    · cases h3
theorem isL_fold {op : BoolOp} {a : E} {b : E} : isL (match op with | .And => E.and a b | .Or => E.or a b) = false := by cases op <;> rfl
theorem s_bool {op : BoolOp} {es : List Expr} {ms : Es} (h : SndEs T C X es ms) : ∀ pos, PE X (.BoolOp op es pos) (tE X.K T C (foldB op ms)) ∧ PW X (.BoolOp op es pos) (tT X.K T C (foldB op ms)) := by
  induction h with
  | nil => exact fun pos => ⟨pe_none fun _ _ => rfl, pw_none fun _ _ => rfl⟩
  | star _ _ _ => exact fun pos => ⟨pe_none fun _ _ => rfl, pw_none fun _ _ => rfl⟩
  | cons h1 hn h2 ih =>
    cases h2 with
    | nil => exact fun pos => ⟨pe_one h1.pe, match op with | .And => pw_and1 h1.pt | .Or => pw_or1 h1.pt⟩
    | cons h3 _ h4 => exact match op, ih with
      | .And, ih => fun pos => ⟨s_and h1.pe (ih pos).1, t_and h1.pt (ih pos).2⟩
      | .Or, ih => fun pos => ⟨s_or h1.pe (ih pos).1, t_or h1.pt (ih pos).2⟩
    | star h3 h4 => exact match op, ih with
      | .And, ih => fun pos => ⟨s_and h1.pe (ih pos).1, t_and h1.pt (ih pos).2⟩
      | .Or, ih => fun pos => ⟨s_or h1.pe (ih pos).1, t_or h1.pt (ih pos).2⟩
theorem s_ite (hc : PT X e1 (tT X.K T C m1)) (ha : PE X e2 (tE X.K T C m2)) (hb : PE X e3 (tE X.K T C m3)) : PE X (.IfExp e1 e2 e3 pos) (tE X.K T C (.ite m1 m2 m3)) :=
  (pe_ifExp hc ha hb).imp fun σ H Q ⟨B, L, M, ρ, v, M', he, hw, hev, q⟩ => by
    obtain ⟨⟨v1, M1⟩, h1, hev⟩ := bindE hev
    dsimp only at hev
    split at hev
    · exact ⟨B, L, M, ρ, true, M1, he, hw, evT_of h1, fun L1 H1 e1 w1 => ⟨B, L1, M1, ρ, _, _, he.ext e1, w1, hev, fun L2 H2 y2 e2 w2 r2 _ => q _ _ _ (e1.trans e2) w2 r2 fun z => nomatch z⟩⟩
    · exact ⟨B, L, M, ρ, false, M1, he, hw, evT_of h1, fun L1 H1 e1 w1 => ⟨B, L1, M1, ρ, _, _, he.ext e1, w1, hev, fun L2 H2 y2 e2 w2 r2 _ => q _ _ _ (e1.trans e2) w2 r2 fun z => nomatch z⟩⟩
    · cases hev
theorem t_ite (hc : PT X e1 (tT X.K T C m1)) (ha : PT X e2 (tT X.K T C m2)) (hb : PT X e3 (tT X.K T C m3)) : PT X (.IfExp e1 e2 e3 pos) (tT X.K T C (.ite m1 m2 m3)) := by
  refine ⟨fun pins s σ H Q I ⟨B, L, M, ρ, k, M', he, hw, hev, q⟩ => ?_⟩
  obtain ⟨⟨v, M0⟩, h0, hev⟩ := bindE hev
  obtain ⟨⟨v1, M1⟩, h1, h3⟩ := bindE h0
  have e0 : PySem.isTrue (.IfExp e1 e2 e3 pos) X.env (eval (.IfExp e1 e2 e3 pos) X.env) = (do if ← PySem.isTrue e1 X.env (eval e1 X.env) then PySem.isTrue e2 X.env (eval e2 X.env) else PySem.isTrue e3 X.env (eval e3 X.env)) := by rw [PySem.isTrue]
  rw [e0]
  dsimp only at h3
  split at h3
  · refine wpAny_bind (thn (hc.run pins s σ H (fun b H1 => b = true ∧ tT X.K T C m2 σ H1 Q) I ⟨B, L, M, ρ, true, M1, he, hw, evT_of h1, fun L1 H1 e1 w1 => ⟨rfl, B, L1, M1, ρ, k, M', he.ext e1, w1, ?_, fun L2 H2 e2 w2 => q _ _ (e1.trans e2) w2⟩⟩) fun b s1 ⟨H1, I1, hb', h4⟩ => ?_)
    · unfold evT; rw [h3]; exact hev
    · subst hb'
      exact ha.run pins s1 σ H1 Q I1 h4
  · refine wpAny_bind (thn (hc.run pins s σ H (fun b H1 => b = false ∧ tT X.K T C m3 σ H1 Q) I ⟨B, L, M, ρ, false, M1, he, hw, evT_of h1, fun L1 H1 e1 w1 => ⟨rfl, B, L1, M1, ρ, k, M', he.ext e1, w1, ?_, fun L2 H2 e2 w2 => q _ _ (e1.trans e2) w2⟩⟩) fun b s1 ⟨H1, I1, hb', h4⟩ => ?_)
    · unfold evT; rw [h3]; exact hev
    · subst hb'
      exact hb.run pins s1 σ H1 Q I1 h4
  · cases h3
end
end Mi
set_option maxHeartbeats 4000000
/-! M6: argument lists, displays, calls, subscripts, methods. -/
namespace Mi
open PySem PySem.Spec PyProof.Rows L2
section
variable {X : Cx} {T : List (Addr × Str)} {C : Ctx} {N : List Str} {sc : Scope} {e e1 e2 e3 : Expr} {m m1 m2 m3 : E} {pos : Pos}

/-! ### lists of expressions -/
theorem a_args {es : List Expr} {ms : Es} (h : SndEs T C X es ms) : PA X es (TAv X.K T (evEs C ms)) := by
  induction h with
  | nil =>
    exact pa_nil.imp fun σ H Q ⟨B, L, M, ρ, vs, M', he, hw, hev, q⟩ => by
      cases hev
      exact q _ _ _ Ext.refl hw rfl
  | star h1 h2 ih => exact ⟨fun _ _ _ _ _ _ _ ⟨_, _, _, _, _, _, _, _, hev, _⟩ => nomatch hev⟩
  | cons h1 hn h2 ih =>
    exact (pa_cons h1.pe ih (hn _ _)).imp fun σ H Q ⟨B, L, M, ρ, vs, M', he, hw, hev, q⟩ => by
      obtain ⟨⟨v1, M1⟩, g1, hev⟩ := bindE hev
      obtain ⟨⟨v2, M2⟩, g2, e⟩ := mapE hev
      cases e
      exact ⟨B, L, M, ρ, v1, M1, he, hw, g1, fun L1 H1 y1 e1 w1 r1 _ => ⟨B, L1, M1, ρ, v2, M2, he.ext e1, w1, g2, fun L2 H2 ys e2 w2 r2 => q _ _ _ (e1.trans e2) w2 ⟨_, _, rfl, r1.ext e2, r2⟩⟩⟩
theorem d_args {es : List Expr} {ms : Es} (h : SndEs T C X es ms) : PA X es (TDv X.K T (evDs C ms)) := by
  induction h with
  | nil =>
    exact pa_nil.imp fun σ H Q ⟨B, L, M, ρ, vs, M', he, hw, hev, q⟩ => by
      cases hev
      exact q _ _ _ Ext.refl hw rfl
  | star h1 h2 ih =>
    exact (StX.pa_star h1.pe ih).imp fun σ H Q ⟨B, L, M, ρ, vs, M', he, hw, hev, q⟩ => by
      obtain ⟨⟨v1, M1⟩, g1, hev⟩ := bindE hev
      obtain ⟨x, gx, hev⟩ := bindE hev
      obtain ⟨xs, gi, hev⟩ := bindE hev
      obtain ⟨⟨v2, M2⟩, g2, hev⟩ := bindE hev
      dsimp only at hev
      split at hev
      · cases hev
        refine ⟨B, L, M, ρ, v1, M1, he, hw, g1, fun L1 H1 y1 e1 w1 r1 _ => ?_⟩
        obtain ⟨a, zs, rfl, hs, rs⟩ := (get_rt w1 r1 gx).items gi
        exact ⟨a, zs, rfl, hs.symm, B, L1, M1, ρ, v2, _, he.ext e1, w1, g2, fun L2 H2 ys e2 w2 r2 => q _ _ _ (e1.trans e2) w2 ((RDs.grow e2.grow _ _ rs).append r2)⟩
      · cases hev
  | cons h1 hn h2 ih =>
    exact (pa_cons h1.pe ih (hn _ _)).imp fun σ H Q ⟨B, L, M, ρ, vs, M', he, hw, hev, q⟩ => by
      obtain ⟨⟨v1, M1⟩, g1, hev⟩ := bindE hev
      dsimp only at hev
      split at hev
      · obtain ⟨⟨v2, M2⟩, g2, hev⟩ := bindE hev
        dsimp only at hev
        split at hev
        · cases hev
          refine ⟨B, L, M, ρ, _, _, he, hw, g1, fun L1 H1 y1 e1 w1 r1 _ => ⟨B, L1, _, ρ, v2, _, he.ext e1, w1, g2, fun L2 H2 ys e2 w2 r2 => q _ _ _ (e1.trans e2) w2 ⟨_, _, rfl, ?_, r2⟩⟩⟩
          exact r1.ext e2
        · cases hev
      · cases hev
theorem evDs_len : ∀ {ms : Es} {ρ : Env} {M M' : MH} {ds : List D}, evDs C ms ρ M = some (ds, M') → ds.length ≤ lim
  | .nil, _, _, _, _, h => by cases h; exact Nat.zero_le _
  | .cons e r, ρ, M, M', ds, h => by
    obtain ⟨⟨v1, M1⟩, g1, hev⟩ := bindE h
    dsimp only at hev
    split at hev
    · obtain ⟨⟨v2, M2⟩, g2, hev⟩ := bindE hev
      dsimp only at hev
      split at hev
      · cases hev; assumption
      · cases hev
    · cases hev
  | .star e r, ρ, M, M', ds, h => by
    obtain ⟨⟨v1, M1⟩, g1, hev⟩ := bindE h
    obtain ⟨x, gx, hev⟩ := bindE hev
    obtain ⟨xs, gi, hev⟩ := bindE hev
    obtain ⟨⟨v2, M2⟩, g2, hev⟩ := bindE hev
    dsimp only at hev
    split at hev
    · cases hev
      rw [List.length_append]; assumption
    · cases hev
theorem s_tup {es : List Expr} {ms : Es} {k : Nat} (h : SndEs T C X es ms) : PE X (.Tuple es k pos) (tE X.K T C (.tup ms)) :=
  (pe_tup (d_args h)).imp fun σ H Q ⟨B, L, M, ρ, v, M', he, hw, hev, q⟩ => by
    obtain ⟨⟨ds, M1⟩, g1, e⟩ := mapE hev
    cases e
    refine ⟨B, L, M, ρ, ds, M1, he, hw, g1, fun L1 H1 xs e1 w1 r1 => ⟨?_, fun p hp => ?_⟩⟩
    · rw [r1.length]; exact Nat.le_trans (evDs_len g1) lim_line
    · obtain ⟨a, b, c⟩ := res_tup w1 hp r1
      exact q _ _ _ (e1.trans a) b c fun z => nomatch z
theorem s_lst {es : List Expr} {ms : Es} (h : SndEs T C X es ms) : PE X (.List es pos) (tE X.K T C (.lst ms)) :=
  (pe_lst (d_args h)).imp fun σ H Q ⟨B, L, M, ρ, v, M', he, hw, hev, q⟩ => by
    obtain ⟨⟨ds, M1⟩, g1, e⟩ := mapE hev
    cases e
    refine ⟨B, L, M, ρ, ds, M1, he, hw, g1, fun L1 H1 xs e1 w1 r1 => ⟨?_, fun p hp => ?_⟩⟩
    · rw [r1.length]; exact Nat.le_trans (evDs_len g1) lim_line
    · obtain ⟨a, b, c, d⟩ := res_list e1 w1 hp r1
      exact q _ _ _ (e1.trans a) b c fun _ => d
theorem no_star {es : List Expr} {ms : Es} (h : SndEs T C X es ms) : (∀ (pos : Pos) (env : PySem.Env), (backTo pos (starEach es env)).any (·.1) = false) ∨ ∀ ρ M, evEs C ms ρ M = none := by
  induction h with
  | nil => exact .inl fun _ _ => rfl
  | star _ _ _ => exact .inr fun _ _ => rfl
  | cons h1 hn h2 ih =>
    rcases ih with h | h
    · refine .inl fun pos env => ?_
      rw [hn]
      exact h pos env
    · refine .inr fun ρ M => ?_
      show (evE C _ ρ M).bind _ = none
      cases evE C _ ρ M with
      | none => rfl
      | some p => show (evEs C _ ρ p.2).map _ = none; rw [h]; rfl

/-! ### calls -/
theorem RVs.length {K : PySem.W.Frag} {H : Hp} {L B : List Addr} : ∀ {vs : List Val} {xs : List V}, RVs K H L B vs xs → xs.length = vs.length
  | [], _, h => by rw [show _ = [] from h]; rfl
  | v :: vs, _, ⟨x, r, e, _, h⟩ => by rw [e, List.length_cons, List.length_cons, RVs.length h]
theorem s_call {f : Str} {fp : Pos} {es : List Expr} {ms : Es} (g : Good T C N sc X) (ho : okN f = true) (hg : isGlb sc f = true) (h1 : Snd T C X e1 m1) (hn : NoStar e1) (h2 : SndEs T C X es ms) :
    PE X (.Call (.Name f fp) (e1 :: es) [] pos) (tE X.K T C (.call f (.cons m1 ms))) := by
  refine ⟨fun pins s σ H Q I ⟨B, L, M, ρ, v, M', he, hw, hev, q⟩ => ?_⟩
  obtain ⟨⟨vs, M1⟩, g1, hev⟩ := bindE hev
  obtain ⟨k, fa, fd, ps, F, hr, hm, hk, hb, hl⟩ := (g.fn f vs M1 _ hev).ok
  have hpl : (backTo pos (starEach es X.env)).any (·.1) = false := by
    rcases no_star h2 with z | z
    · exact z pos X.env
    · obtain ⟨_, _, g2⟩ := bindE g1
      rw [z] at g2
      cases g2
  refine (pe_call F hr (isGlb_ok g hg) hm hk hb .nil pass0 (a_args (.cons h1 hn h2)) (not_dbg ho).1 (hn _ _) hpl (E := E0)).run pins s σ H Q I ?_
  refine ⟨B, L, M, ρ, vs, M1, he, hw, g1, fun L1 H1 xs e1 w1 r1 => ?_⟩
  show spM X.K T C.call ps.length f (xs ++ []) H1 Q E0
  rw [List.append_nil]
  exact ⟨by rw [r1.length, hl vs M1 _ hev], B, L1, M1, vs, v, M', r1, w1, hev, fun L2 H2 x e2 w2 r2 => q _ _ _ (e1.trans e2) w2 r2 fun z => nomatch z⟩
theorem blt_cases {f : Str} {b : Blt} (h : stBlt f = some b) : f ∈ bnames ∧ okN f = true ∧ bootBuiltins f = some (bltV b) := by
  unfold stBlt at h
  repeat' (split at h; · rename_i q; cases h; subst q; exact ⟨by decide, by decide, by rfl⟩)
  cases h
theorem pe_bltA {f : Str} {b : Blt} {fp : Pos} {es : List Expr} {r : List V → Hp → VK → Prop} {t : TA} (g : Good T C N sc X) (hb : stBlt f = some b) (hg : isGlb sc f = true) (hr : CallR X (bltV b) r) (hn : NoStar e1)
    (hpl : (backTo pos (starEach es X.env)).any (·.1) = false) (ha : PA X (e1 :: es) t) : PE X (.Call (.Name f fp) (e1 :: es) [] pos) (tCB r t) := by
  obtain ⟨h1, h2, h3⟩ := blt_cases hb
  obtain ⟨d1, d2, d3⟩ := not_dbg h2
  have hG := isGlb_ok g hg
  have hM := g.bn f h1
  cases b <;> first | exact pe_callB hr hG hM h3 ha d3 d1 (hn _ _) hpl | exact pe_callTy hr hG hM h3 ha d3 d1 (hn _ _) hpl
theorem nostar0 (pos : Pos) : (backTo pos (starEach [] X.env)).any (·.1) = false := rfl
/-- the plain ones, with one argument -/
theorem s_blt1 {f : Str} {b : Blt} {fp : Pos} (g : Good T C N sc X) (hb : stBlt f = some b) (hg : isGlb sc f = true) (h1 : Snd T C X e1 m1) (hn : NoStar e1)
    (hf : ∀ ρ M, evE C (.blt b (.cons m1 .nil)) ρ M = (evE C m1 ρ M).bind fun p => (get p.2 p.1).bind fun x => (blt1 b x).map fun z => (.d z, p.2)) :
    PE X (.Call (.Name f fp) [e1] [] pos) (tE X.K T C (.blt b (.cons m1 .nil))) :=
  (pe_bltA g hb hg (callR_blt b g.calm) hn (nostar0 pos) (pa_cons h1.pe pa_nil (hn _ _))).imp fun σ H Q ⟨B, L, M, ρ, v, M', he, hw, hev, q⟩ => by
    rw [hf] at hev
    obtain ⟨⟨v1, M1⟩, g1, hev⟩ := bindE hev
    obtain ⟨x, gx, hev⟩ := bindE hev
    obtain ⟨z, hz, e⟩ := mapE hev
    cases e
    refine ⟨B, L, M, ρ, v1, M1, he, hw, g1, fun L1 H1 y1 e1 w1 r1 _ => ⟨L1 ++ B, x, y1, z, rfl, get_rt w1 r1 gx, hz, fun w H2 rr => ?_⟩⟩
    have f := res_fin e1 w1 rr
    exact q _ _ _ (e1.trans f.1) f.2.1 f.2.2.1 fun _ => f.2.2.2
theorem s_blt2 {f : Str} {b : Blt} {fp : Pos} (g : Good T C N sc X) (hb : stBlt f = some b) (hg : isGlb sc f = true) (h1 : Snd T C X e1 m1) (hn : NoStar e1) (h2 : Snd T C X e2 m2) (hn2 : NoStar e2) :
    PE X (.Call (.Name f fp) [e1, e2] [] pos) (tE X.K T C (.blt b (.cons m1 (.cons m2 .nil)))) :=
  (pe_bltA g hb hg (callR_blt2 b g.calm) hn (by rw [hn2]; rfl) (pa_cons h1.pe (pa_cons h2.pe pa_nil (hn2 _ _)) (hn _ _))).imp fun σ H Q ⟨B, L, M, ρ, v, M', he, hw, hev, q⟩ => by
    have hev : ((evE C m1 ρ M).bind fun p => (evE C m2 ρ p.2).bind fun q => (get q.2 p.1).bind fun x => (get q.2 q.1).bind fun y => (blt2 b x y).map fun z => (.d z, q.2)) = some (v, M') := by
      cases b <;> first | exact hev | (cases m1 <;> exact hev)
    obtain ⟨⟨v1, M1⟩, g1, hev⟩ := bindE hev
    obtain ⟨⟨v2, M2⟩, g2, hev⟩ := bindE hev
    obtain ⟨x, gx, hev⟩ := bindE hev
    obtain ⟨y, gy, hev⟩ := bindE hev
    obtain ⟨z, hz, e⟩ := mapE hev
    cases e
    refine ⟨B, L, M, ρ, v1, M1, he, hw, g1, fun L1 H1 y1 e1 w1 r1 _ => ⟨B, L1, M1, ρ, v2, M2, he.ext e1, w1, g2, fun L2 H2 y2 e2 w2 r2 _ => ⟨L2 ++ B, x, y1, y, y2, z, rfl, get_rt w2 (r1.ext e2) gx, get_rt w2 r2 gy, hz, fun w H3 rr => ?_⟩⟩⟩
    have f := res_fin (e1.trans e2) w2 rr
    exact q _ _ _ ((e1.trans e2).trans f.1) f.2.1 f.2.2.1 fun _ => f.2.2.2
theorem ty_cases {t : Str} {ty : Ty} (h : stTy t = some ty) : t ∈ bnames ∧ okN t = true ∧ bootBuiltins t = some (.type (tyName ty)) := by
  unfold stTy at h
  repeat' (split at h; · rename_i q; cases h; subst q; exact ⟨by decide, by decide, by rfl⟩)
  cases h
theorem s_isi {t : Str} {ty : Ty} {fp tp : Pos} (g : Good T C N sc X) (hg : isGlb sc "isinstance" = true) (ht : stTy t = some ty) (hgt : isGlb sc t = true) (h1 : Snd T C X e1 m1) (hn : NoStar e1) :
    PE X (.Call (.Name "isinstance" fp) [e1, .Name t tp] [] pos) (tE X.K T C (.isi m1 ty)) := by
  obtain ⟨t1, t2, t3⟩ := ty_cases ht
  obtain ⟨d1, d2, d3⟩ := not_dbg t2
  refine (pe_callB (callR_isA ty) (isGlb_ok g hg) (g.bn "isinstance" (by decide)) (by rfl) (pa_cons h1.pe (pa_cons (pe_bltn (v := .ty (tyName ty)) (isGlb_ok g hgt) (g.bn t t1) t3 rfl d3 d1) pa_nil) (hn _ _)) (by decide) (by decide) (hn _ _)).imp fun σ H Q ⟨B, L, M, ρ, v, M', he, hw, hev, q⟩ => ?_
  obtain ⟨⟨v1, M1⟩, g1, hev⟩ := bindE hev
  obtain ⟨x, gx, e⟩ := mapE hev
  cases e
  exact ⟨B, L, M, ρ, v1, M1, he, hw, g1, fun L1 H1 y1 e1 w1 r1 _ => ⟨L1 ++ B, x, y1, rfl, get_rt w1 r1 gx, q _ _ _ e1 w1 rfl fun z => nomatch z⟩⟩

/-! ### subscripts, slices -/
theorem s_sub (hp : PlainIx e2) (ha : PE X e1 (tE X.K T C m1)) (hb : PE X e2 (tE X.K T C m2)) : PE X (.Subscript e1 e2 pos) (tE X.K T C (.sub m1 m2)) :=
  (pe_ix ixR_sub ha hb hp).imp fun σ H Q ⟨B, L, M, ρ, v, M', he, hw, hev, q⟩ => by
    obtain ⟨⟨v1, M1⟩, g1, hev⟩ := bindE hev
    obtain ⟨⟨v2, M2⟩, g2, hev⟩ := bindE hev
    obtain ⟨x, gx, hev⟩ := bindE hev
    obtain ⟨xs, gi, hev⟩ := bindE hev
    dsimp only at hev
    split at hev
    · obtain ⟨j, hj, hev⟩ := bindE hev
      obtain ⟨y, hy, e⟩ := mapE hev
      cases e
      refine ⟨B, L, M, ρ, v1, M1, he, hw, g1, fun L1 H1 y1 e1 w1 r1 _ => ⟨B, L1, M1, ρ, _, _, he.ext e1, w1, g2, fun L2 H2 y2 e2 w2 r2 _ => ?_⟩⟩
      exact ⟨L2 ++ B, x, xs, _, j, y, get_rt w2 (r1.ext e2) gx, gi, r2, hj, hy, fun z rz => q _ _ _ (e1.trans e2) w2 rz fun z => nomatch z⟩
    · cases hev
theorem o_none : PO X none (TOv X.K T (evO C .nil)) := po_none.imp fun σ H Q ⟨B, L, M, ρ, v, M', he, hw, hev, q⟩ => by
  cases hev
  exact q _ _ Ext.refl hw
theorem o_some (h : PE X e1 (tE X.K T C m1)) : PO X (some e1) (TOv X.K T (evO C (.cons m1 .nil))) := (po_some h).imp fun σ H Q ⟨B, L, M, ρ, v, M', he, hw, hev, q⟩ => by
  obtain ⟨⟨v1, M1⟩, g1, hev⟩ := bindE hev
  dsimp only at hev
  split at hev
  · cases hev
    refine ⟨B, L, M, ρ, _, _, he, hw, g1, fun L1 H1 y1 e1 w1 r1 _ => ?_⟩
    exact ⟨_, r1, q _ _ e1 w1⟩
  · cases hev
theorem s_slc {lo hi : Option Expr} {ml mh : Es} {p2 : Pos} (ha : PE X e1 (tE X.K T C m1)) (hl : PO X lo (TOv X.K T (evO C ml))) (hh : PO X hi (TOv X.K T (evO C mh))) : PE X (.Subscript e1 (.Slice lo hi none p2) pos) (tE X.K T C (.slc m1 ml mh)) :=
  (pe_slice slR_cut ha hl hh).imp fun σ H Q ⟨B, L, M, ρ, v, M', he, hw, hev, q⟩ => by
    obtain ⟨⟨v1, M1⟩, g1, hev⟩ := bindE hev
    obtain ⟨⟨v2, M2⟩, g2, hev⟩ := bindE hev
    obtain ⟨⟨v3, M3⟩, g3, hev⟩ := bindE hev
    obtain ⟨x, gx, hev⟩ := bindE hev
    obtain ⟨y, hy, e⟩ := mapE hev
    cases e
    refine ⟨B, L, M, ρ, v1, M1, he, hw, g1, fun L1 H1 y1 e1 w1 r1 _ => ⟨B, L1, M1, ρ, v2, M2, he.ext e1, w1, g2, fun L2 H2 e2 w2 => ⟨B, L2, M2, ρ, v3, M3, (he.ext e1).ext e2, w2, g3, fun L3 H3 e3 w3 => ?_⟩⟩⟩
    refine ⟨L3 ++ B, x, y, get_rt w3 ((r1.ext e2).ext e3) gx, hy, fun z H4 rr => ?_⟩
    have f := res_fin ((e1.trans e2).trans e3) w3 rr
    exact q _ _ _ (((e1.trans e2).trans e3).trans f.1) f.2.1 f.2.2.1 fun _ => f.2.2.2

/-! ### methods of lists -/
theorem pe_lm {o : Expr} {name : Str} {apos cpos : Pos} {id : String} {r : V → List V → Hp → VK → Prop} {to : TE} {t : TA} (slot : Slot "list" name id) (hty : typeOf (.builtin id) = pure (.type "method_descriptor")) (hm : MtR X id r) (ho : PE X o to)
    (ha : PA X [e1] t) (hn : NoStar e1) (hbase : attributeBase o name X.env (eval o X.env) = eval o X.env) (hl : (apos.endLine == cpos.line) = true) : PE X (.Call (.Attribute o name apos) [e1] [] cpos) (tBM X.K "list" r to t) :=
  pe_bm PySem.F.plainAttrs_list slot hty hm ho ha hbase (by rw [hn]; rfl) hl (hn _ _) rfl
theorem s_pop {x : Str} {px apos cpos : Pos} (g : Good T C N sc X) (hl : (apos.endLine == cpos.line) = true) (ha : PE X (.Name x px) (tE X.K T C m1)) (h2 : PE X e2 (tE X.K T C m2)) (hn : NoStar e2) :
    PE X (.Call (.Attribute (.Name x px) "pop" apos) [e2] [] cpos) (tE X.K T C (.pop m1 m2)) :=
  (pe_lm PySem.F.slot_list_pop PySem.F.type_list_pop mt_popAt ha (pa_cons h2 pa_nil (hn _ _)) hn (by rfl) hl).imp fun σ H Q ⟨B, L, M, ρ, v, M', he, hw, hev, q⟩ => by
    obtain ⟨⟨v1, M1⟩, g1, hev⟩ := bindE hev
    obtain ⟨⟨v2, M2⟩, g2, hev⟩ := bindE hev
    dsimp only at hev
    split at hev
    · rename_i n k _
      split at hev
      · rename_i ds hd
        split at hev
        · rename_i hk
          obtain ⟨j, hj, hev⟩ := bindE hev
          obtain ⟨y, hy, e⟩ := mapE hev
          cases e
          refine ⟨B, L, M, ρ, _, M1, he, hw, g1, fun L1 H1 y1 e1 w1 r1 _ => ?_⟩
          obtain ⟨a, ha, rfl⟩ := r1
          have hn1 : n < M1.length := by rw [← w1.len]; exact (List.getElem?_eq_some_iff.mp ha).1
          have ty1 : tyV X.K "list" (.ref a) H1 := by
            have c1 := w1.cell n a M1[n] ha (List.getElem?_eq_getElem hn1)
            cases hc : M1[n] with
            | lst ds1 =>
              rw [hc] at c1
              obtain ⟨xs1, q1, _⟩ := c1
              exact .inl ⟨rfl, xs1, SqL.of q1⟩
          refine ⟨ty1, B, L1, M1, ρ, _, M2, he.ext e1, w1, g2, fun L2 H2 y2 e2 w2 r2 _ => ?_⟩
          have ha2 := e2.at_ ha
          obtain ⟨xs, hx, rx⟩ := w2.cell n a _ ha2 hd
          obtain ⟨z, hz, rz⟩ := rx.get hy
          have hj' := ixN_seq (show ixN ds.length k = some j from hj)
          have hw3 := w2.write ha2 (rx.eraseIdx j)
          have hlim : lim = 1000000 := rfl
          refine ⟨a, xs, k, j, z, rfl, ?_, hx, by omega, by omega, by rw [rx.length]; exact hj'.1, hz, ?_⟩
          · rw [show y2 = .int k from r2]
          · exact q _ _ _ ((e1.trans e2).trans hw3.1) hw3.2 (RD.grow hw3.1.grow _ _ rz) fun z => nomatch z
        · cases hev
      · cases hev
    · cases hev
/-! ### ranges -/
theorem range_rds {K : PySem.W.Frag} {H : Hp} {Z : List Addr} : ∀ (n : Nat) (a : Int), RDs K H Z (rangeL a n) ((List.range n).map fun i => V.int (a + (i : Nat)))
  | 0, _ => rfl
  | n + 1, a => by
    rw [List.range_succ_eq_map, List.map_cons, List.map_map]
    refine ⟨_, _, rfl, by simp [RD], ?_⟩
    have h := range_rds (K := K) (H := H) (Z := Z) n (a + 1)
    have e : ((fun i => V.int (a + (i : Nat))) ∘ Nat.succ) = fun i : Nat => V.int (a + 1 + (i : Nat)) := by
      funext i
      show V.int _ = V.int _
      congr 1
      rw [Nat.succ_eq_add_one]
      omega
    rw [e]
    exact h
/-- range(..) as an argument -/
theorem p_rng {es : Es} (g : Good T C N sc X) (h : Snd T C X e (.rng es)) : PRg X e (fun σ H Q => ∃ B L M ρ vs M', EnvR X.K H L B ρ σ ∧ Wd X.K T B L M H ∧ evRng C es ρ M = some (vs, M') ∧
    ∀ L' H' (a b : Int), Ext L H L' H' → Wd X.K T B L' M' H' → RgOk a b → vs = rangeL a (b - a).toNat → Q a b H') := by
  intro pins s σ H Q I ⟨B, L, M, ρ, vs, M', he, hw, hev, q⟩
  have hlim : lim = 1000000 := rfl
  match es, h, hev with
  | .nil, _, hev => cases hev
  | .star _ _, _, hev => cases hev
  | .cons a .nil, h, hev =>
    obtain ⟨p, pos, e1, rfl, hg, hn, h1⟩ := h.rng1 a rfl
    obtain ⟨⟨v1, M1⟩, g1, hev⟩ := bindE hev
    dsimp only at hev
    split at hev
    · split at hev
      · rename_i k hk
        cases hev
        refine (prg_1 hg (g.bn "range" (by decide)) h1 (hn _ _)) pins s σ H Q I ⟨B, L, M, ρ, _, _, he, hw, g1, fun L1 H1 y1 e1 w1 r1 _ => ?_⟩
        refine ⟨k, r1, q _ _ _ _ e1 w1 ⟨by omega, by omega, by omega, by omega, by omega⟩ ?_⟩
        rw [show (k - 0).toNat = k.toNat by omega]
      · cases hev
    · cases hev
  | .cons a (.cons b .nil), h, hev =>
    obtain ⟨p, pos, e1, e2, rfl, hg, hn, hn2, h1, h2⟩ := h.rng2 a b rfl
    obtain ⟨⟨v1, M1⟩, g1, hev⟩ := bindE hev
    obtain ⟨⟨v2, M2⟩, g2, hev⟩ := bindE hev
    dsimp only at hev
    split at hev
    · split at hev
      · rename_i i k _ hk
        cases hev
        refine (prg_2 hg (g.bn "range" (by decide)) h1 h2 (hn _ _) (hn2 _ _) (by rw [hn2]; rfl)) pins s σ H Q I ⟨B, L, M, ρ, _, _, he, hw, g1, fun L1 H1 y1 e1 w1 r1 _ => ⟨B, L1, _, ρ, _, _, he.ext e1, w1, g2, fun L2 H2 y2 e2 w2 r2 _ => ?_⟩⟩
        refine ⟨i, k, r1, r2, q _ _ _ _ (e1.trans e2) w2 ⟨by omega, by omega, by omega, by omega, by omega⟩ rfl⟩
      · cases hev
    · cases hev
  | .cons a (.star _ _), _, hev => cases hev
  | .cons a (.cons b (.cons _ _)), _, hev => cases hev
  | .cons a (.cons b (.star _ _)), _, hev => cases hev
theorem s_tupRg {es : Es} {fp : Pos} (g : Good T C N sc X) (hg : isGlb sc "tuple" = true) (h : Snd T C X e1 (.rng es)) (hn : NoStar e1) : PE X (.Call (.Name "tuple" fp) [e1] [] pos) (tE X.K T C (.blt .tuple (.cons (.rng es) .nil))) :=
  (pe_tupRg g.calm (isGlb_ok g hg) (g.bn "tuple" (by decide)) (p_rng g h) (hn _ _)).imp fun σ H Q ⟨B, L, M, ρ, v, M', he, hw, hev, q⟩ => by
    obtain ⟨⟨vs, M1⟩, g1, e⟩ := mapE hev
    cases e
    refine ⟨B, L, M, ρ, vs, M1, he, hw, g1, fun L1 H1 a b e1 w1 ok ev => ⟨ok, fun p hp => ?_⟩⟩
    obtain ⟨x1, x2, x3⟩ := res_tup w1 hp (range_rds (b - a).toNat a)
    refine q _ _ _ (e1.trans x1) x2 ?_ fun z => nomatch z
    dsimp only
    rw [ev]
    exact x3
theorem s_lstRg {es : Es} {fp : Pos} (g : Good T C N sc X) (hg : isGlb sc "list" = true) (h : Snd T C X e1 (.rng es)) (hn : NoStar e1) : PE X (.Call (.Name "list" fp) [e1] [] pos) (tE X.K T C (.blt .list (.cons (.rng es) .nil))) :=
  (pe_listRg g.calm (isGlb_ok g hg) (g.bn "list" (by decide)) (p_rng g h) (hn _ _)).imp fun σ H Q ⟨B, L, M, ρ, v, M', he, hw, hev, q⟩ => by
    obtain ⟨⟨vs, M1⟩, g1, e⟩ := mapE hev
    cases e
    refine ⟨B, L, M, ρ, vs, M1, he, hw, g1, fun L1 H1 a b e1 w1 ok ev => ⟨ok, fun p hp => ?_⟩⟩
    obtain ⟨x1, x2, x3, x4⟩ := res_list e1 w1 hp (range_rds (b - a).toNat a)
    dsimp only at q
    rw [ev] at q
    exact q _ _ _ (e1.trans x1) x2 x3 fun _ => x4
end
end Mi
set_option maxHeartbeats 4000000
/-! M7: targets, iteration, comprehensions. -/
namespace Mi
open PySem PySem.Spec PyProof.Rows L2

/-! ### targets -/
def gNames : List Nat → TGs
  | [] => gNil
  | i :: r => gCons (gName i) (gNames r)
def gTg (K : PySem.W.Frag) : Tg → TG
  | .one i => gName i
  | .many is => gTup K is.length (gNames is)
theorem sto_ok {X : Cx} {sc : Scope} {ck : Str → Bool} {x : Str} (hsc : X.env.scope = sc) (hf : ∀ x, ck x = true → X.fn x = true) (h : isSto sc ck x = true) : Loc X.env.scope x ∧ (X.fn x = true ∨ X.env.scope.names.lookup x = some .local) := by
  unfold isSto at h
  simp only [Bool.and_eq_true, Bool.or_eq_true, decide_eq_true_eq] at h
  rw [hsc]
  exact ⟨isLoc_ok h.1, h.2.elim (fun q => .inl (hf x q)) .inr⟩
theorem g_names {X : Cx} {N : List Str} {sc : Scope} {ck : Str → Bool} (hN : X.N = N) (nd : N.Nodup) (hsc : X.env.scope = sc) (hf : ∀ x, ck x = true → X.fn x = true) :
    ∀ (es : List Expr) (is : List Nat), tgNames N sc ck es = some is → PGs X es (gNames is) ∧ (assignEach es X.env).length = is.length ∧ (assignEach es X.env).findIdx? (·.1) = none
  | [], is, h => by cases h; exact ⟨pgs_nil, rfl, rfl⟩
  | .Name x p :: r, is, h => by
    rw [tgNames] at h
    split at h
    · rename_i hx
      obtain ⟨i, hi, h⟩ := bindE h
      obtain ⟨js, hj, rfl⟩ := mapE h
      obtain ⟨a, b, c⟩ := g_names hN nd hsc hf r js hj
      obtain ⟨l1, l2⟩ := sto_ok hsc hf hx
      refine ⟨pgs_cons (pg_name (by rw [hN]; exact nd) (by rw [hN]; exact slot_get hi) l1 l2) a, ?_, ?_⟩
      · rw [assignEach]
        · rw [List.length_cons, List.length_cons, b]
        · exact fun _ _ z => nomatch z
      · rw [assignEach]
        · rw [List.findIdx?_cons, c]; rfl
        · exact fun _ _ z => nomatch z
    · cases h
  | .BoolOp .. :: _, _, h | .NamedExpr .. :: _, _, h | .BinOp .. :: _, _, h | .UnaryOp .. :: _, _, h | .Lambda .. :: _, _, h | .IfExp .. :: _, _, h | .Dict .. :: _, _, h | .Set .. :: _, _, h | .ListComp .. :: _, _, h | .SetComp .. :: _, _, h
  | .DictComp .. :: _, _, h | .GeneratorExp .. :: _, _, h | .Await .. :: _, _, h | .Yield .. :: _, _, h | .YieldFrom .. :: _, _, h | .Compare .. :: _, _, h | .Call .. :: _, _, h | .FormattedValue .. :: _, _, h | .JoinedStr .. :: _, _, h
  | .Constant .. :: _, _, h | .Attribute .. :: _, _, h | .Subscript .. :: _, _, h | .Starred .. :: _, _, h | .List .. :: _, _, h | .Tuple .. :: _, _, h | .Slice .. :: _, _, h => nomatch (show (none : Option (List Nat)) = some _ from h)
theorem g_tg {X : Cx} {N : List Str} {sc : Scope} {ck : Str → Bool} (hN : X.N = N) (nd : N.Nodup) (hc : X.calm = true) (hsc : X.env.scope = sc) (hf : ∀ x, ck x = true → X.fn x = true) {tg : Expr} {t : Tg} (h : stTg N sc ck tg = some t) : PG X tg (gTg X.K t) := by
  unfold stTg at h
  split at h
  · split at h
    · rename_i hx
      obtain ⟨i, hi, rfl⟩ := mapE h
      obtain ⟨l1, l2⟩ := sto_ok hsc hf hx
      exact pg_name (by rw [hN]; exact nd) (by rw [hN]; exact slot_get hi) l1 l2
    · cases h
  · obtain ⟨is, hi, rfl⟩ := mapE h
    obtain ⟨a, b, c⟩ := g_names hN nd hsc hf _ is hi
    exact pg_tup hc a b c
  · cases h

section
variable {K : PySem.W.Frag} {T : List (Addr × Str)} {H H1 H2 H3 : Hp} {L L1 B : List Addr} {M M1 M2 : MH} {ρ ρ1 : Env} {σ : L2.St}
theorem wipe_set {σ : L2.St} {i : Nat} {v : Option V} : ∀ {vs : List Nat}, i ∈ vs → L2.wipe (σ.set i v) vs = L2.wipe σ vs
  | [], h => nomatch h
  | w :: ws, h => by
    show (L2.wipe (σ.set i v) ws).set w none = (L2.wipe σ ws).set w none
    by_cases hw : i ∈ ws
    · rw [wipe_set hw]
    · have e : i = w := (List.mem_cons.mp h).resolve_right hw
      subst e
      have aux : ∀ {ws : List Nat} {σ : L2.St}, i ∉ ws → L2.wipe (σ.set i v) ws = (L2.wipe σ ws).set i v := by
        intro ws
        induction ws with
        | nil => intro σ _; rfl
        | cons u us ih =>
          intro σ hn
          show (L2.wipe (σ.set i v) us).set u none = ((L2.wipe σ us).set u none).set i v
          rw [ih (fun z => hn (List.mem_cons_of_mem _ z)), List.set_comm _ _ (fun z => hn (by rw [z]; exact List.mem_cons_self))]
      rw [aux hw, List.set_set]
theorem wipe_none {σ : L2.St} {i : Nat} : ∀ {vs : List Nat}, L2.wipe (L2.wipe σ vs) vs = L2.wipe σ vs
  | [] => rfl
  | w :: ws => by
    show (L2.wipe ((L2.wipe σ ws).set w none) ws).set w none = (L2.wipe σ ws).set w none
    by_cases hw : w ∈ ws
    · rw [wipe_set hw, wipe_none (i := 0)]
    · have aux : ∀ {us : List Nat} {σ : L2.St}, w ∉ us → L2.wipe (σ.set w none) us = (L2.wipe σ us).set w none := by
        intro us
        induction us with
        | nil => intro σ _; rfl
        | cons u us ih =>
          intro σ hn
          show (L2.wipe (σ.set w none) us).set u none = ((L2.wipe σ us).set u none).set w none
          rw [ih (fun z => hn (List.mem_cons_of_mem _ z)), List.set_comm _ _ (fun z => hn (by rw [z]; exact List.mem_cons_self))]
      rw [aux hw, wipe_none (i := 0), List.set_set]
theorem EnvR.unset {i : Nat} (h : EnvR K H L B ρ σ) : EnvR K H L B (ρ.set i none) (σ.set i none) := by
  refine ⟨by rw [List.length_set, List.length_set]; exact h.len, fun j w e => ?_⟩
  by_cases hj : i = j
  · subst hj
    rw [List.getElem?_set] at e
    simp only [if_true] at e
    split at e
    · cases e
    · cases e
  · rw [List.getElem?_set_ne hj] at e
    rw [List.getElem?_set_ne hj]
    exact h.at_ j w e
theorem EnvR.wipe (h : EnvR K H L B ρ σ) : ∀ vs : List Nat, EnvR K H L B (Mi.wipe ρ vs) (L2.wipe σ vs)
  | [] => h
  | v :: vs => EnvR.unset (EnvR.wipe h vs)
theorem names_run : ∀ (is : List Nat) (ds : List D) (xs : List V) (ρ : Env) (σ : L2.St) (Q : L2.St → Hp → Prop), is.length = ds.length → EnvR K H L B ρ σ → RDs K H (L ++ B) ds xs →
    (∀ σ', EnvR K H L B (is.zip ds |>.foldl (fun ρ p => setSlot ρ p.1 (.d p.2)) ρ) σ' → (∀ vs : List Nat, (∀ i ∈ is, i ∈ vs) → L2.wipe σ' vs = L2.wipe σ vs) → Q σ' H) → gNames is xs σ H Q
  | [], [], xs, ρ, σ, Q, _, he, hr, q => ⟨hr, q σ he fun _ _ => rfl⟩
  | i :: is, d :: ds, xs, ρ, σ, Q, hl, he, ⟨x, r, e, h1, h2⟩, q => by
    refine ⟨x, r, e, ?_⟩
    refine names_run is ds r (setSlot ρ i (.d d)) (σ.set i (some x)) Q (by simpa using hl) (he.set (v := .d d) h1) h2 fun σ' he' hw => q σ' he' fun vs hv => ?_
    rw [hw vs fun j hj => hv j (List.mem_cons_of_mem _ hj), wipe_set (hv i List.mem_cons_self)]
theorem bind_run {t : Tg} {v : Val} {x : V} {Q : L2.St → Hp → Prop} (he : EnvR K H L B ρ σ) (hb : bind1 t v M ρ = some ρ1) (hr : RV K H L B v x)
    (q : ∀ σ', EnvR K H L B ρ1 σ' → (∀ vs : List Nat, tgIn vs t = true → L2.wipe σ' vs = L2.wipe σ vs) → Q σ' H) : gTg K t x σ H Q := by
  cases t with
  | one i =>
    cases (show some (setSlot ρ i v) = some ρ1 from hb)
    exact q _ (he.set hr) fun vs hv => wipe_set (by simpa [tgIn] using hv)
  | many is =>
    obtain ⟨d, hd, hb⟩ := bindE hb
    split at hb
    · split at hb
      · rename_i ds hl
        cases hb
        have hv : v = .d (.tuple ds) := by
          cases v with
          | d y => cases (show some y = some _ from hd); rfl
          | ref n =>
            have hd : (match M[n]? with | some (.lst xs) => some (PyData.list xs) | none => none) = some (.tuple ds) := hd
            split at hd <;> cases hd
          | scr ns => cases (show some (PyData.list (ns.map .int)) = some (.tuple ds) from hd)
        subst hv
        obtain ⟨a, xs, rfl, h1, h2⟩ := hr
        refine ⟨a, xs, rfl, h1.sq, by rw [h2.length]; exact hl, ?_⟩
        exact names_run is ds xs ρ σ Q hl.symm he h2 fun σ' he' hw => q σ' he' fun vs hv => hw vs fun i hi => by
          have hv : is.all vs.contains = true := hv
          rw [List.all_eq_true] at hv
          simpa using hv i hi
      · cases hb
    · cases hb
end

/-! ### what is walked -/
def Walk (K : PySem.W.Frag) (J : L2.It) (H1 : Hp) (Z1 : List Addr) (xs : List D) : Prop := ∀ H2 Z2, Grow H1 Z1 H2 Z2 → J.stop xs.length H2 ∧ ∀ (i : Nat) d, xs[i]? = some d → J.go i H2 ∧ ∀ x H3, J.yld i H2 x H3 → (H3 = H2 ∧ RD K H2 Z2 d x) ∨ Res K H2 Z2 d x H3
def TIv (K : PySem.W.Frag) (T : List (Addr × Str)) (ev : Env → MH → Option (List D × MH)) : TI := fun σ H R =>
  ∃ B L M ρ ds M', EnvR K H L B ρ σ ∧ Wd K T B L M H ∧ ev ρ M = some (ds, M') ∧ ∀ L' H' (J : L2.It), Ext L H L' H' → Wd K T B L' M' H' → Walk K J H' (L' ++ B) ds → R J H'
section
variable {K : PySem.W.Frag} {H : Hp} {Z : List Addr}
theorem walk_list {a : Addr} {xs : List V} {ds : List D} (h : LstAt H Z a xs) (hs : RDs K H Z ds xs) : Walk K (Itl K a) H Z ds := fun H2 Z2 g => by
  have h2 := h.grow g
  have hs2 := RDs.grow g ds xs hs
  refine ⟨⟨xs, SqL.of h2.1, by rw [hs2.length]; exact Nat.le_refl _⟩, fun i d e => ?_⟩
  obtain ⟨x, e1, e2⟩ := hs2.get e
  refine ⟨⟨xs, x, SqL.of h2.1, e1⟩, fun y H3 ⟨hH, hy⟩ => .inl ⟨hH, ?_⟩⟩
  cases Option.some.inj ((hy xs (SqL.of h2.1)).symm.trans e1)
  exact e2
theorem walk_tup {a : Addr} {xs : List V} {ds : List D} (h : TupAt K H Z a xs) (hs : RDs K H Z ds xs) : Walk K (Itt K a) H Z ds := fun H2 Z2 g => by
  have h2 := (h.grow g).sq
  have hs2 := RDs.grow g ds xs hs
  refine ⟨⟨xs, h2, by rw [hs2.length]; exact Nat.le_refl _⟩, fun i d e => ?_⟩
  obtain ⟨x, e1, e2⟩ := hs2.get e
  refine ⟨⟨xs, x, h2, e1⟩, fun y H3 ⟨hH, hy⟩ => .inl ⟨hH, ?_⟩⟩
  cases Option.some.inj ((hy xs h2).symm.trans e1)
  exact e2
theorem rangeL_get : ∀ (n : Nat) (lo : Int) (i : Nat), (rangeL lo n)[i]? = if i < n then some (.int (lo + i)) else none
  | 0, lo, i => by simp [rangeL]
  | n + 1, lo, 0 => by simp [rangeL]
  | n + 1, lo, i + 1 => by
    rw [rangeL, List.getElem?_cons_succ, rangeL_get n (lo + 1) i]
    by_cases h : i < n
    · rw [if_pos h, if_pos (by omega)]
      congr 2
      omega
    · rw [if_neg h, if_neg (by omega)]
theorem rangeL_len : ∀ (n : Nat) (lo : Int), (rangeL lo n).length = n
  | 0, _ => rfl
  | n + 1, lo => by rw [rangeL, List.length_cons, rangeL_len]
theorem walk_range (lo : Int) (n : Nat) : Walk K (Itr lo n) H Z (rangeL lo n) := fun H2 Z2 g => by
  refine ⟨by rw [rangeL_len]; exact Nat.le_refl _, fun i d e => ?_⟩
  rw [rangeL_get] at e
  split at e
  · cases e
    exact ⟨‹_›, fun y H3 ⟨hH, hy⟩ => .inl ⟨hH, hy⟩⟩
  · cases e
theorem zip_get {α β : Type} : ∀ (xs : List α) (ys : List β) (i : Nat) (z : α × β), (xs.zip ys)[i]? = some z → xs[i]? = some z.1 ∧ ys[i]? = some z.2 := by
  intro xs ys i z h
  rw [List.getElem?_zip_eq_some] at h
  exact h
theorem walk_zipL {a b : Addr} {xs ys : List V} {ds es : List D} (h : LstAt H Z a xs) (hs : RDs K H Z ds xs) (h' : LstAt H Z b ys) (hs' : RDs K H Z es ys) : Walk K (Itz K a b) H Z ((ds.zip es).map fun r => .tuple [r.1, r.2]) := fun H2 Z2 g => by
  have h2 := h.grow g
  have hs2 := RDs.grow g ds xs hs
  have h2' := h'.grow g
  have hs2' := RDs.grow g es ys hs'
  refine ⟨⟨xs, ys, SqL.of h2.1, SqL.of h2'.1, ?_⟩, fun i d e => ?_⟩
  · rw [List.length_map, List.length_zip, hs2.length, hs2'.length]; omega
  · rw [List.getElem?_map] at e
    obtain ⟨z, hz, rfl⟩ := mapE e
    obtain ⟨z1, z2⟩ := zip_get _ _ _ _ hz
    obtain ⟨x, e1, e2⟩ := hs2.get z1
    obtain ⟨y, f1, f2⟩ := hs2'.get z2
    refine ⟨⟨xs, ys, x, y, SqL.of h2.1, SqL.of h2'.1, e1, f1⟩, fun w H3 ⟨P, x', y', hw, hP, hH, hx, hy⟩ => .inr (.inr ⟨P, [x', y'], hw, hP, hH, ?_⟩)⟩
    cases Option.some.inj ((hx xs (SqL.of h2.1)).symm.trans e1)
    cases Option.some.inj ((hy ys (SqL.of h2'.1)).symm.trans f1)
    exact ⟨_, _, rfl, e2, _, _, rfl, f2, rfl⟩
theorem walk_zipT {a b : Addr} {xs ys : List V} {ds es : List D} (h : TupAt K H Z a xs) (hs : RDs K H Z ds xs) (h' : TupAt K H Z b ys) (hs' : RDs K H Z es ys) : Walk K (RZ.ItzT K a b) H Z ((ds.zip es).map fun r => .tuple [r.1, r.2]) := fun H2 Z2 g => by
  have h2 := (h.grow g).sq
  have hs2 := RDs.grow g ds xs hs
  have h2' := (h'.grow g).sq
  have hs2' := RDs.grow g es ys hs'
  refine ⟨⟨xs, ys, h2, h2', ?_⟩, fun i d e => ?_⟩
  · rw [List.length_map, List.length_zip, hs2.length, hs2'.length]; omega
  · rw [List.getElem?_map] at e
    obtain ⟨z, hz, rfl⟩ := mapE e
    obtain ⟨z1, z2⟩ := zip_get _ _ _ _ hz
    obtain ⟨x, e1, e2⟩ := hs2.get z1
    obtain ⟨y, f1, f2⟩ := hs2'.get z2
    refine ⟨⟨xs, ys, x, y, h2, h2', e1, f1⟩, fun w H3 ⟨P, x', y', hw, hP, hH, hx, hy⟩ => .inr (.inr ⟨P, [x', y'], hw, hP, hH, ?_⟩)⟩
    cases Option.some.inj ((hx xs h2).symm.trans e1)
    cases Option.some.inj ((hy ys h2').symm.trans f1)
    exact ⟨_, _, rfl, e2, _, _, rfl, f2, rfl⟩
end
section
variable {X : Cx} {T : List (Addr × Str)} {C : Ctx} {N : List Str} {sc : Scope} {e e1 e2 e3 tg : Expr} {m m1 m2 m3 : E} {pos : Pos}
theorem i_val (h : PE X e (tE X.K T C m)) : PI X tg e (TIv X.K T (evIt C (.val m))) := by
  refine ⟨fun pins s σ H R I ⟨B, L, M, ρ, ds, M', he, hw, hev, q⟩ => ?_⟩
  obtain ⟨⟨v, M1⟩, g1, hev⟩ := bindE hev
  cases v with
  | ref n => cases (show (none : Option (List D × MH)) = some _ from hev)
  | scr ns => cases (show (none : Option (List D × MH)) = some _ from hev)
  | d x =>
    obtain ⟨xs, gx, e⟩ := mapE (show (items x).map (fun xs => (xs, M1)) = some (ds, M') from hev)
    cases e
    rcases items_cases gx with rfl | rfl
    · refine (pi_list h).run pins s σ H R I ⟨B, L, M, ρ, _, _, he, hw, g1, fun L1 H1 y1 e1 w1 r1 _ => ?_⟩
      obtain ⟨a, zs, rfl, h1, h2⟩ := r1
      exact ⟨a, rfl, ⟨zs, h1.sq⟩, q _ _ _ e1 w1 (walk_list h1 h2)⟩
    · refine (pi_tup h).run pins s σ H R I ⟨B, L, M, ρ, _, _, he, hw, g1, fun L1 H1 y1 e1 w1 r1 _ => ?_⟩
      obtain ⟨a, zs, rfl, h1, h2⟩ := r1
      exact ⟨a, rfl, ⟨zs, h1.sq⟩, q _ _ _ e1 w1 (walk_tup h1 h2)⟩
theorem i_rng {es : Es} (g : Good T C N sc X) (h : Snd T C X e (.rng es)) : PI X tg e (TIv X.K T (evIt C (.rng es))) := by
  refine ⟨fun pins s σ H R I ⟨B, L, M, ρ, vs, M', he, hw, hev, q⟩ => ?_⟩
  have hlim : lim = 1000000 := rfl
  have hev : evRng C es ρ M = some (vs, M') := hev
  match es, h, hev with
  | .nil, _, hev => cases hev
  | .star _ _, _, hev => cases hev
  | .cons a .nil, h, hev =>
    obtain ⟨p, pos, e1, rfl, hg, hn, h1⟩ := h.rng1 a rfl
    obtain ⟨⟨v1, M1⟩, g1, hev⟩ := bindE hev
    dsimp only at hev
    split at hev
    · split at hev
      · rename_i k hk
        cases hev
        refine (pi_range1 hg (g.bn "range" (by decide)) (pa_cons h1 pa_nil (hn _ _)) (hn _ _)).run pins s σ H R I ⟨B, L, M, ρ, _, _, he, hw, g1, fun L1 H1 y1 e1 w1 r1 _ => ?_⟩
        exact ⟨k, by rw [show y1 = .int k from r1], by omega, by omega, q _ _ _ e1 w1 (walk_range 0 k.toNat)⟩
      · cases hev
    · cases hev
  | .cons a (.cons b .nil), h, hev =>
    obtain ⟨p, pos, e1, e2, rfl, hg, hn, hn2, h1, h2⟩ := h.rng2 a b rfl
    obtain ⟨⟨v1, M1⟩, g1, hev⟩ := bindE hev
    obtain ⟨⟨v2, M2⟩, g2, hev⟩ := bindE hev
    dsimp only at hev
    split at hev
    · split at hev
      · rename_i i k _ hk
        cases hev
        refine (pi_range2 hg (g.bn "range" (by decide)) (pa_cons h1 (pa_cons h2 pa_nil (hn2 _ _)) (hn _ _)) (by rw [hn, hn2]; rfl) (hn2 _ _)).run pins s σ H R I ⟨B, L, M, ρ, _, _, he, hw, g1, fun L1 H1 y1 e1 w1 r1 _ => ⟨B, L1, _, ρ, _, _, he.ext e1, w1, g2, fun L2 H2 y2 e2 w2 r2 _ => ?_⟩⟩
        exact ⟨i, k, by rw [show y1 = .int i from r1, show y2 = .int k from r2], ⟨by omega, by omega, by omega, by omega⟩, q _ _ _ (e1.trans e2) w2 (walk_range i (k - i).toNat)⟩
      · cases hev
    · cases hev
  | .cons a (.star _ _), _, hev => cases hev
  | .cons a (.cons b (.cons _ _)), _, hev => cases hev
  | .cons a (.cons b (.star _ _)), _, hev => cases hev
theorem i_zip (g : Good T C N sc X) (ht : isTupE tg = true) (h : Snd T C X e (.zip m1 m2)) : PI X tg e (TIv X.K T (evIt C (.zip m1 m2))) := by
  obtain ⟨p, pos, e1, e2, rfl, hg, hn, hn2, h1, h2⟩ := h.zip _ _ rfl
  match tg, ht with
  | .Tuple elts kk tpos, _ =>
    refine ⟨fun pins s σ H R I ⟨B, L, M, ρ, vs, M', he, hw, hev, q⟩ => ?_⟩
    obtain ⟨⟨v1, M1⟩, g1, hev⟩ := bindE hev
    obtain ⟨⟨v2, M2⟩, g2, hev⟩ := bindE hev
    refine (RZ.pi_zipA hg (g.bn "zip" (by decide)) (pa_cons h1 (pa_cons h2 pa_nil (hn2 _ _)) (hn _ _)) (hn _ _) (by rw [hn2]; rfl)).run pins s σ H R I ⟨B, L, M, ρ, v1, M1, he, hw, g1, fun L1 H1 y1 e1 w1 r1 _ => ⟨B, L1, M1, ρ, v2, M2, he.ext e1, w1, g2, fun L2 H2 y2 e2 w2 r2 _ => ?_⟩⟩
    have r1' := r1.ext e2
    dsimp only at hev
    unfold zipV at hev
    split at hev
    · cases hev
      obtain ⟨a, xs, rfl, a1, a2⟩ := r1'
      obtain ⟨b, ys, rfl, b1, b2⟩ := r2
      exact ⟨a, b, xs, ys, rfl, .inr ⟨a1.sq, b1.sq, q _ _ _ (e1.trans e2) w2 (walk_zipT a1 a2 b1 b2)⟩⟩
    · cases hev
      obtain ⟨a, xs, rfl, a1, a2⟩ := r1'
      obtain ⟨b, ys, rfl, b1, b2⟩ := r2
      exact ⟨a, b, xs, ys, rfl, .inl ⟨a1.sq, b1.sq, q _ _ _ (e1.trans e2) w2 (walk_zipL a1 a2 b1 b2)⟩⟩
    · cases hev
theorem i_it (g : Good T C N sc X) (h : Snd T C X e m) (ht : isZip m = true → isTupE tg = true) : PI X tg e (TIv X.K T (evIt C (itOf m))) := by
  unfold itOf
  split
  · exact i_zip g (ht rfl) h
  · exact i_rng g h
  · exact i_val h.pe
theorem fs_of (h : ∀ es k p, e ≠ .Set es k p) : ∀ x, foldedSetIterable e X.env x = pure x := by
  intro x
  unfold foldedSetIterable
  split
  · exact absurd rfl (h _ _ _)
  · rfl

/-! ### comprehensions -/
theorem c_none {X' : Cx} : PTs X' [] (TTv X'.K T (evC C .nil)) := ⟨fun pins s σ H Q I ⟨B, L, M, ρ, k, M', he, hw, hev, q⟩ => by
  cases hev
  exact pts_nil.run pins s σ H Q I (q _ _ Ext.refl hw)⟩
theorem c_one {X' : Cx} {ms : Es} (h : PT X' e (tT X'.K T C m)) : PTs X' [e] (TTv X'.K T (evC C (.cons m ms))) := ⟨fun pins s σ H Q I w => (pts_one h).run pins s σ H Q I w⟩
theorem c_bad {X' : Cx} {ifs : List Expr} {es : Es} (h : ∀ ρ M, evC C es ρ M = none) : PTs X' ifs (TTv X'.K T (evC C es)) := ⟨fun pins s σ H Q I ⟨B, L, M, ρ, k, M', he, hw, hev, q⟩ => by
  rw [h] at hev
  cases hev⟩
theorem drop_get {α : Type} : ∀ {l : List α} {i : Nat} {x : α}, l[i]? = some x → l.drop i = x :: l.drop (i + 1)
  | a :: l, 0, x, h => by cases h; rfl
  | a :: l, i + 1, x, h => by
    show l.drop i = x :: l.drop (i + 1)
    exact drop_get (by simpa using h)
/-- the list that grows meanwhile is written -/
theorem Wd.writeB {K : PySem.W.Frag} {B L : List Addr} {M : MH} {H : Hp} {D : Addr} {ys zs : List V} (w : Wd K T (D :: B) L M H) (hD : H D = some (.lst ys)) :
    Wd K T (D :: B) L M (upd H D (.lst zs)) ∧ Grow H (L ++ D :: B) (upd H D (.lst zs)) (L ++ D :: B) := by
  have g : Grow H (L ++ D :: B) (upd H D (.lst zs)) (L ++ D :: B) := ⟨fun a o h hz _ => by rw [upd_ne (fun z => hz (by rw [z]; simp))]; exact h, fun a ha => .inl ha⟩
  refine ⟨⟨tabs_write w.tabs hD, w.len, w.nd, fun i a c h1 h2 => ?_, fun b hb => ?_, w.dis⟩, g⟩
  · have q := w.cell i a c h1 h2
    cases c with
    | lst ds =>
      obtain ⟨xs, q1, q2⟩ := q
      refine ⟨xs, ?_, RDs.grow g ds xs q2⟩
      rw [upd_ne (fun z => w.dis D List.mem_cons_self (by rw [← z]; exact List.mem_of_getElem? h1))]
      exact q1
  · by_cases z : b = D
    · rw [z]; exact ⟨_, upd_same⟩
    · rw [upd_ne z]; exact w.blk b hb
theorem lc_run {own : List Nat} {me : E} {mc : Es} {t : Tg} {ti : Mi.It} {K : PySem.W.Frag} (ht : tgIn own t = true) {σ : L2.St} {H : Hp} {Q : VK} (w : TEv K T true (evE C (.comp own me t ti mc)) σ H Q) :
    tLc (TIv K T (evIt C ti)) (gTg K t) (TTv K T (evC C mc)) (tE K T C me) own σ H Q := by
  obtain ⟨B, L, M, ρ, v, M', he, hw, hev, q⟩ := w
  obtain ⟨⟨ds, M1⟩, g1, hev⟩ := bindE hev
  dsimp only at hev
  by_cases hlen : ds.length ≤ lim
  case neg =>
    rw [if_neg hlen] at hev
    cases hev
  rw [if_pos hlen] at hev
  obtain ⟨⟨res, M2⟩, g2, e⟩ := mapE hev
  cases e
  refine ⟨B, L, M, ρ, ds, M1, he, hw, g1, fun L1 H1 J e1 w1 wk D hD => ?_⟩
  have hDL := w1.apart hD
  refine ⟨fun i m H => m = ds.length - i ∧ i ≤ ds.length ∧ ∃ L2 M2' acc as r, Ext L1 H1 L2 H ∧ Wd K T (D :: B) L2 M2' H ∧ H D = some (.lst acc) ∧ RDs K H (L2 ++ D :: B) as acc ∧ as.length ≤ i ∧
    compL (fun x M1 => (bind1 t (.d x) M1 (Mi.wipe ρ own)).bind fun ρ1 =>
      (evC C mc ρ1 M1).bind fun q => if q.1 then (evE C me ρ1 q.2).bind fun r => match r.1 with | .d y => some (some y, r.2) | _ => none else some (none, q.2)) (ds.drop i) M2' = some (r, M2) ∧ res = as ++ r, ⟨ds.length, by omega, Nat.zero_le _, L1, M1, [], [], res, ?_, w1.newB hD, upd_same, rfl, Nat.le_refl _, ?_, rfl⟩, ?_⟩
  · exact upd_ext hD
  · rw [List.drop_zero]; exact g2
  rintro i m H2 ⟨rfl, hi, L2, M2', acc, as, r, e2, w2, hacc, ras, hal, g3, rfl⟩
  have hDB : D ∉ B := fun z => by
    obtain ⟨xs, q⟩ := w1.blk D z
    rw [hD] at q; cases q
  have gr : Grow H1 (L1 ++ B) H2 (L2 ++ D :: B) := by
    obtain ⟨n, en, hn⟩ := e2.new
    refine ⟨fun a o h hz hn => e2.keep a o h (fun z => hz (List.mem_append_left _ z)) hn, fun a ha => ?_⟩
    rcases List.mem_append.mp ha with z | z
    · rw [en] at z
      rcases List.mem_append.mp z with z | z
      · exact .inl (List.mem_append_left _ z)
      · exact .inr (hn a z)
    · rcases List.mem_cons.mp z with z | z
      · rw [z]; exact .inr (.of hD)
      · exact .inl (List.mem_append_right _ z)
  obtain ⟨hstop, hgo⟩ := wk H2 _ gr
  by_cases hlt : i < ds.length
  · have hd := List.getElem?_eq_getElem hlt
    obtain ⟨go, yld⟩ := hgo i _ hd
    rw [drop_get hd] at g3
    obtain ⟨⟨o, M3⟩, g4, g3⟩ := bindE g3
    obtain ⟨⟨r', M4⟩, g5, g3⟩ := mapE g3
    obtain ⟨ρ1, gb, g4⟩ := bindE g4
    obtain ⟨⟨k, M5⟩, gc, g4⟩ := bindE g4
    refine .inr ⟨go, fun H => i + 1 ≤ ds.length ∧ ∃ L2 M2' acc as r, Ext L1 H1 L2 H ∧ Wd K T (D :: B) L2 M2' H ∧ H D = some (.lst acc) ∧ RDs K H (L2 ++ D :: B) as acc ∧ as.length ≤ i + 1 ∧ compL (fun x M1 => (bind1 t (.d x) M1 (Mi.wipe ρ own)).bind fun ρ1 =>
      (evC C mc ρ1 M1).bind fun q => if q.1 then (evE C me ρ1 q.2).bind fun r => match r.1 with | .d y => some (some y, r.2) | _ => none else some (none, q.2)) (ds.drop (i + 1)) M2' = some (r, M2) ∧ _ = as ++ r, fun H' h => ⟨ds.length - (i + 1), by omega, rfl, h.1, h.2⟩, fun x H3 hy => ?_⟩
    have st : Ext L2 H2 L2 H3 ∧ Wd K T (D :: B) L2 M2' H3 ∧ RD K H3 (L2 ++ D :: B) ds[i] x := by
      rcases yld x H3 hy with ⟨rfl, rr⟩ | rr
      · exact ⟨Ext.refl, w2, rr⟩
      · have f := res_fin Ext.refl w2 rr
        exact ⟨f.1, f.2.1, f.2.2.1⟩
    obtain ⟨e3, w3, rx⟩ := st
    have acc3 : ∀ {L' : List Addr} {H' : Hp}, Ext L2 H2 L' H' → H' D = some (.lst acc) := fun e => e.keep D _ hacc (fun z => w2.dis D List.mem_cons_self z) fun _ z => nomatch z
    have heD : EnvR K H2 L2 (D :: B) ρ σ := ⟨he.len, fun i v hv => by
      obtain ⟨x, h1, h2⟩ := (he.ext e1).at_ i v hv
      refine ⟨x, h1, ?_⟩
      cases v with
      | d d => exact RD.grow gr d x h2
      | ref n => obtain ⟨c, c1, c2⟩ := h2; exact ⟨c, e2.at_ c1, c2⟩
      | scr ns => obtain ⟨c, c1, c2⟩ := h2; exact ⟨c, c1, c2.grow gr⟩⟩
    refine bind_run (v := .d ds[i]) ((heD.ext e3).wipe own) gb rx fun σ2 he2 hw2 => ⟨?_, ?_⟩
    · rw [hw2 own ht, wipe_none (i := 0)]
    · refine ⟨D :: B, L2, M2', ρ1, k, M5, he2, w3, gc, fun L5 H5 e5 w5 => ?_⟩
      dsimp only at g4
      cases k with
      | false =>
        rw [if_neg (by decide)] at g4 ⊢
        cases g4
        dsimp only at g3
        cases g3
        exact ⟨by omega, L5, _, acc, as, _, e2.trans (e3.trans e5), w5, acc3 (e3.trans e5), RDs.grow (e3.trans e5).grow _ _ ras, by omega, g5, rfl⟩
      | true =>
        rw [if_pos rfl] at g4 ⊢
        obtain ⟨⟨v6, M6⟩, g6, g4⟩ := bindE g4
        dsimp only at g4
        split at g4
        · cases g4
          dsimp only at g3
          cases g3
          refine ⟨D :: B, L5, M5, ρ1, _, _, he2.ext e5, w5, g6, fun L6 H6 y e6 w6 r6 _ => ?_⟩
          have eall := e3.trans (e5.trans e6)
          have a6 := acc3 eall
          have ras6 := RDs.grow (eall.grow (B := D :: B)) _ _ ras
          obtain ⟨w7, g7⟩ := w6.writeB (zs := acc ++ [y]) a6
          refine ⟨acc, a6, ?_, by omega, L6, _, acc ++ [y], as ++ [_], _, ?_, w7, upd_same, RDs.grow g7 _ _ (ras6.snoc r6), ?_, g5, ?_⟩
          · have := lim_line
            rw [ras.length]; omega
          · have e12 := e2.trans eall
            refine ⟨fun a o h hz hn => ?_, fun a h => ?_, e12.new⟩
            · rw [upd_ne (fun z => by rw [z, hD] at h; cases h)]
              exact e12.keep a o h hz hn
            · by_cases z : a = D
              · rw [z]; exact .of hD
              · exact e12.there a fun o q => h o (by rw [upd_ne z]; exact q)
          · rw [List.length_append, List.length_singleton]; omega
          · rw [List.append_assoc]; rfl
        · cases g4
  · have hi' : i = ds.length := by omega
    subst hi'
    rw [List.drop_length] at g3
    cases g3
    refine .inl ⟨hstop, ?_⟩
    rw [List.append_nil] at *
    refine q _ _ _ (e1.trans e2) w2.unB ⟨D, acc, rfl, ⟨hacc, fun z => ?_⟩, RDs.grow growB _ _ ras⟩ fun _ xs ex => ?_
    · rcases List.mem_append.mp z with z | z
      · exact w2.dis D List.mem_cons_self z
      · exact hDB z
    · cases ex
      exact ⟨D, acc, rfl, none_of e1 hD, hacc, w2, ras⟩
end
end Mi
set_option maxHeartbeats 4000000
/-! M8: every expression. -/
namespace Mi
open PySem PySem.Spec PyProof.Rows L2

/-- what a lambda needs -/
def LamAt (T : List (Addr × Str)) (X : Cx) : Prop := ∃ c P, X.env.code = .ref c ∧ LamX.TabB X.base X.mg c P ∧ (P, X.env.qual ++ "<lambda>") ∈ T ∧ ∀ p ∈ T, p.1 = P → p.2 = X.env.qual ++ "<lambda>"
/-- sorting, as the texts have it -/
structure SortsR (T : List (Addr × Str)) (C : Ctx) (X : Cx) (sc : Scope) (lam : Bool) : Prop where
  plain : ∀ {e1 : Expr} {m1 : E} {fp pos : Pos}, isGlb sc "sorted" = true → Snd T C X e1 m1 → NoStar e1 → (∀ a es, m1 ≠ .set a ∧ m1 ≠ .rng es) → PE X (.Call (.Name "sorted" fp) [e1] [] pos) (tE X.K T C (.blt .sorted (.cons m1 .nil)))
  ofset : ∀ {e1 : Expr} {m1 : E} {fp pos : Pos}, isGlb sc "sorted" = true → Snd T C X e1 (.set m1) → NoStar e1 → PE X (.Call (.Name "sorted" fp) [e1] [] pos) (tE X.K T C (.blt .sorted (.cons (.set m1) .nil)))
  key : ∀ {e1 k : Expr} {m1 : E} {fp pos kp : Pos} {g : Option Str}, isGlb sc "sorted" = true → Snd T C X e1 m1 → NoStar e1 → stKey lam k sc = some g → PE X (.Call (.Name "sorted" fp) [e1] [⟨some "key", k, kp⟩] pos) (tE X.K T C (.srt g m1))
def Sorting (T : List (Addr × Str)) (C : Ctx) (lam : Bool) : Prop := ∀ (X : Cx) (N : List Str) (sc : Scope), Good T C N sc X → (lam = true → LamAt T X) → SortsR T C X sc lam

theorem noStar_of : ∀ {e : Expr}, (∀ x p, e ≠ .Starred x p) → NoStar e := fun {e} h es env => by
  cases e <;> first | rfl | exact absurd rfl (h _ _)
theorem opOf_ok {op : Operator} {o : BOp} (h : stOp op = some o) : op = opOf o := by
  cases op <;> cases h <;> rfl
theorem cmpOf_ok {op : CmpOp} {o : COp} (h : stCmp op = some o) : op = cmpOf o := by
  cases op <;> cases h <;> rfl
theorem beh_ok {op : CmpOp} {e : Expr} (h : notSet e = true) : behindInMarks op e = false := by
  cases e <;> first | rfl | cases h
theorem plain_ok {e : Expr} (h : notSlice e = true) : PlainIx e := fun o i => by
  cases e <;> first | rfl | cases h
section
variable {X : Cx} {T : List (Addr × Str)} {C : Ctx} {N : List Str} {lam : Bool} {sc : Scope} {e e1 e2 e3 : Expr} {m m1 m2 m3 : E} {pos : Pos}
theorem snd_val (pe : PE X e (tE X.K T C m)) (he : ∀ whole, PySem.isTrue e X.env whole = (do let v ← whole; standAt e.pos; holding [v] (truthy v))) (h : ∀ a b es, m ≠ .set a ∧ m ≠ .zip a b ∧ m ≠ .rng es) : Snd T C X e m := .mk' pe (pt_by pe he) h
theorem set_bad (h : notSet e = false) : stE N lam e sc = .bad := by
  cases e <;> first | rfl | cases h
theorem slice_bad (h : notSlice e = false) : stE N lam e sc = .bad := by
  cases e <;> first | rfl | cases h
theorem cmp_bad (o : COp) (ρ : Env) (M : MH) : evE C (.cmp o m1 .bad) ρ M = none := by
  show (evE C m1 ρ M).bind _ = none
  cases evE C m1 ρ M <;> rfl
theorem sub_bad (ρ : Env) (M : MH) : evE C (.sub m1 .bad) ρ M = none := by
  show (evE C m1 ρ M).bind _ = none
  cases evE C m1 ρ M <;> rfl

theorem c_bin {op : Operator} (h1 : Snd T C X e1 m1) (h2 : Snd T C X e2 m2) : Snd T C X (.BinOp e1 op e2 pos) (mkBin op m1 m2) := by
  unfold mkBin
  split
  · rename_i o ho
    rw [opOf_ok ho]
    exact snd_val (s_bin o h1.pe h2.pe) (fun _ => rfl) fun _ _ _ => ⟨nofun, nofun, nofun⟩
  · exact .bad
theorem none_ok (h : isNoneE e = true) : ∃ j p', e = .Constant .none j p' := by
  unfold isNoneE at h
  split at h
  · exact ⟨_, _, rfl⟩
  · cases h
theorem c_cmp {op : CmpOp} (g : Good T C N sc X) (h1 : Snd T C X e1 m1) (h2 : Snd T C X e2 (stE N lam e2 sc)) : Snd T C X (.Compare e1 [op] [e2] pos) (mkCmp op (isNoneE e2) m1 (stE N lam e2 sc)) := by
  unfold mkCmp
  split
  · rename_i o ho
    rw [cmpOf_ok ho]
    cases hs : notSet e2 with
    | true => exact .mk' (s_cmp o g (beh_ok hs) h1.pe h2.pe) (t_cmp o g (beh_ok hs) h1.pe h2.pe) fun _ _ _ => ⟨nofun, nofun, nofun⟩
    | false =>
      rw [set_bad hs]
      exact .mk' (pe_none fun _ _ => cmp_bad o _ _) (pt_none fun _ _ => cmp_bad o _ _) fun _ _ _ => ⟨nofun, nofun, nofun⟩
  · split
    · obtain ⟨j, p', rfl⟩ := none_ok ‹isNoneE e2 = true›
      exact .mk' (s_isN h1.pe).1 (s_isN h1.pe).2 fun _ _ _ => ⟨nofun, nofun, nofun⟩
    · obtain ⟨j, p', rfl⟩ := none_ok ‹isNoneE e2 = true›
      exact .mk' (s_notN h1.pe).1 (s_notN h1.pe).2 fun _ _ _ => ⟨nofun, nofun, nofun⟩
    · exact .bad
theorem chain_bad3 (o p : COp) (ρ : Env) (M : MH) (k : Bool) (M' : MH) (q : evE C (.chain o p m1 m2 .bad) ρ M = some (.d (.bool k), M')) : k = false := by
  obtain ⟨⟨v1, M1⟩, h1, hev⟩ := bindE q
  obtain ⟨⟨v2, M2⟩, h2, hev⟩ := bindE hev
  obtain ⟨x1, g1, hev⟩ := bindE hev
  obtain ⟨x2, g2, hev⟩ := bindE hev
  obtain ⟨z, hz, hev⟩ := bindE hev
  cases z with
  | true => cases hev
  | false => cases hev; rfl
theorem c_chain {op op2 : CmpOp} (g : Good T C N sc X) (hs : notSet e3 = true) (h1 : Snd T C X e1 m1) (h2 : Snd T C X e2 m2) (h3 : Snd T C X e3 m3) : Snd T C X (.Compare e1 [op, op2] [e2, e3] pos) (mkChain op op2 m1 m2 m3) := by
  unfold mkChain
  split
  · rename_i o o2 ho ho2
    rw [cmpOf_ok ho, cmpOf_ok ho2]
    have hm : lastMarks [cmpOf o, cmpOf o2] [e2, e3] = false := beh_ok hs
    exact .mk' (s_chain o o2 g hm h1.pe h2.pe h3.pe) (t_chain o o2 g hm h1.pe h2.pe h3.pe) fun _ _ _ => ⟨nofun, nofun, nofun⟩
  · exact .bad
theorem bltn_of {f : Str} {b : Blt} (h : stBlt f = some b) : f ∈ bnames := (blt_cases h).1
theorem blt_spec (b : Blt) (hm : ∀ a es, m1 ≠ .set a ∧ m1 ≠ .rng es) (hb : b ≠ .sorted) : ∀ ρ M, evE C (.blt b (.cons m1 .nil)) ρ M = (evE C m1 ρ M).bind fun p => (get p.2 p.1).bind fun x => (blt1 b x).map fun z => (.d z, p.2) := by
  intro ρ M
  cases b <;> first
    | rfl
    | exact absurd rfl hb
    | (cases m1 <;> first | rfl | exact absurd rfl (hm _ .nil).1 | exact absurd rfl (hm .bad _).2)
theorem blt_name {f : Str} {b : Blt} (h : stBlt f = some b) : (b = .sorted → f = "sorted") ∧ (b = .tuple → f = "tuple") ∧ (b = .list → f = "list") := by
  unfold stBlt at h
  repeat' (split at h; · rename_i q; cases h; subst q; refine ⟨?_, ?_, ?_⟩ <;> intro z <;> first | rfl | cases z)
  cases h
/-- a call of a built-in with one argument -/
theorem c_blt1 {f : Str} {b : Blt} {fp : Pos} (g : Good T C N sc X) (S : SortsR T C X sc lam) (hb : stBlt f = some b) (hg : isGlb sc f = true) (h1 : Snd T C X e1 m1) (hn : NoStar e1) : PE X (.Call (.Name f fp) [e1] [] pos) (tE X.K T C (.blt b (.cons m1 .nil))) := by
  have fname := blt_name hb
  by_cases hset : ∃ a, m1 = .set a
  · obtain ⟨a, rfl⟩ := hset
    by_cases hs : b = .sorted
    · subst hs
      obtain rfl := fname.1 rfl
      exact S.ofset hg h1 hn
    · refine pe_none fun ρ M => ?_
      cases b <;> first | rfl | exact absurd rfl hs
  · by_cases hrng : ∃ es, m1 = .rng es
    · obtain ⟨es, rfl⟩ := hrng
      by_cases hs : b = .tuple
      · subst hs
        obtain rfl := fname.2.1 rfl
        exact s_tupRg g hg h1 hn
      · by_cases hs2 : b = .list
        · subst hs2
          obtain rfl := fname.2.2 rfl
          exact s_lstRg g hg h1 hn
        · refine pe_none fun ρ M => ?_
          cases b <;> first | rfl | exact absurd rfl hs | exact absurd rfl hs2
    · have hm : ∀ a es, m1 ≠ .set a ∧ m1 ≠ .rng es := fun a es => ⟨fun z => hset ⟨a, z⟩, fun z => hrng ⟨es, z⟩⟩
      by_cases hs : b = .sorted
      · subst hs
        obtain rfl := fname.1 rfl
        exact S.plain hg h1 hn hm
      · exact s_blt1 g hb hg h1 hn (blt_spec b hm hs)

/-! ### calls -/
theorem c_call {f : Str} {fp : Pos} {args : List Expr} {ms : Es} (g : Good T C N sc X) (S : SortsR T C X sc lam) (ho : okN f = true) (hg : isGlb sc f = true) (h : SndEs T C X args ms) : Snd T C X (.Call (.Name f fp) args [] pos) (mkCall f ms) := by
  have val : ∀ m, PE X (.Call (.Name f fp) args [] pos) (tE X.K T C m) → (∀ a b es, m ≠ .set a ∧ m ≠ .zip a b ∧ m ≠ .rng es) → Snd T C X (.Call (.Name f fp) args [] pos) m := fun m pe hm => snd_val pe (fun _ => rfl) hm
  unfold mkCall
  split
  · rename_i b hb
    refine val _ ?_ fun _ _ _ => ⟨nofun, nofun, nofun⟩
    cases h with
    | nil => exact pe_none fun ρ M => by cases b <;> rfl
    | star h1 h2 => exact pe_none fun ρ M => by cases b <;> rfl
    | cons h1 hn h2 =>
      cases h2 with
      | nil => exact c_blt1 g S hb hg h1 hn
      | star h3 h4 =>
        rename_i e m _ _ _ _ _
        exact pe_none fun ρ M => by cases b <;> first | rfl | (cases m <;> rfl)
      | cons h3 hn3 h4 =>
        cases h4 with
        | nil => exact s_blt2 g hb hg h1 hn h3 hn3
        | star h5 h6 =>
          rename_i e m _ _ _ _ _ _ _
          exact pe_none fun ρ M => by cases b <;> first | rfl | (cases m <;> rfl)
        | cons h5 hn5 h6 =>
          rename_i e m _ _ _ _ _ _
          exact pe_none fun ρ M => by cases b <;> first | rfl | (cases m <;> rfl)
  · split
    · rename_i _ hf
      subst hf
      split
      · rename_i a
        cases h with
        | cons h1 hn h2 =>
          cases h2
          exact ⟨pe_none fun _ _ => rfl, pt_none fun _ _ => rfl, fun a e => by cases e; exact ⟨fp, pos, _, rfl, isGlb_ok g hg, hn, h1.pe⟩, nofun, nofun, nofun⟩
      · exact .bad
    · split
      · rename_i _ _ hf
        subst hf
        refine ⟨pe_none fun _ _ => rfl, pt_none fun _ _ => rfl, nofun, nofun, fun a e => ?_, fun a b e => ?_⟩
        · cases e
          cases h with
          | cons h1 hn h2 => cases h2; exact ⟨fp, pos, _, rfl, isGlb_ok g hg, hn, h1.pe⟩
        · cases e
          cases h with
          | cons h1 hn h2 =>
            cases h2 with
            | cons h3 hn3 h4 => cases h4; exact ⟨fp, pos, _, _, rfl, isGlb_ok g hg, hn, hn3, h1.pe, h3.pe⟩
      · split
        · rename_i _ _ _ hf
          subst hf
          split
          · cases h with
            | cons h1 hn h2 =>
              cases h2 with
              | cons h3 hn3 h4 =>
                cases h4
                exact ⟨pe_none fun _ _ => rfl, pt_none fun _ _ => rfl, nofun, fun a b e => by cases e; exact ⟨fp, pos, _, _, rfl, isGlb_ok g hg, hn, hn3, h1.pe, h3.pe⟩, nofun, nofun⟩
          · exact .bad
        · split
          · exact .bad
          · split
            · exact .bad
            · cases h with
              | nil => exact absurd rfl ‹_›
              | star h1 h2 => exact val _ (pe_none fun _ _ => rfl) fun _ _ _ => ⟨nofun, nofun, nofun⟩
              | cons h1 hn h2 => exact val _ (s_call g ho hg h1 hn h2) fun _ _ _ => ⟨nofun, nofun, nofun⟩
theorem ifb {α : Type} {b : Bool} {P : α → Prop} {x y : α} (h1 : b = true → P x) (h2 : P y) : P (if b = true then x else y) := by
  split
  · exact h1 ‹_›
  · exact h2
/-! ### comprehensions -/
theorem c_comp {elt tg iter : Expr} {ifs : List Expr} {scope : Scope} {me mi : E} {mc : Es} {t : Tg} (g : Good T C N sc X) (hb : blkC N sc scope (ownOf N scope) = true) (ht : stTg N (relS scope sc) (ckC scope) tg = some t) (hi : tgIn ((ownOf N scope).map (·.2)) t = true)
    (hl : ifs.length ≤ 1) (h1 : Snd T C X iter mi) (hz : isZip mi = true → isTupE tg = true) (hs : ∀ x, foldedSetIterable iter X.env x = pure x)
    (he : ∀ (s : Shared) (H : Hp) (Cc : Addr) (cl : List (Str × Addr)) (fp : List Addr), Snd T C (X.blk s H scope (compEnvC scope cl Cc X.env) fp) elt me)
    (hc : ∀ (s : Shared) (H : Hp) (Cc : Addr) (cl : List (Str × Addr)) (fp : List Addr), SndEs T C (X.blk s H scope (compEnvC scope cl Cc X.env) fp) ifs mc) :
    PE X (.ListComp elt [⟨tg, iter, ifs, 0⟩] scope pos) (tE X.K T C (.comp ((ownOf N scope).map (·.2)) me t (itOf mi) mc)) ∧
    ∀ (i : Nat) (y : Str) (py spos : Pos), N[i]? = some y → X.env.scope.names.lookup y = some .local → swapsWith (.ListComp elt [⟨tg, iter, ifs, 0⟩] scope pos) (some (.Name y py)) spos.line X.env = pure true →
      PS X (.Assign [.Name y py] (.ListComp elt [⟨tg, iter, ifs, 0⟩] scope pos) spos) (tAsg (tE X.K T C (.comp ((ownOf N scope).map (·.2)) me t (itOf mi) mc)) (gName i)) := by
  have hok : BlkOk X.N X.env.scope scope (ownOf N scope) := by rw [g.nn, g.sc]; exact blkOk_by hb
  have hg : ∀ (s : Shared) (H : Hp) (Cc : Addr) (cl : List (Str × Addr)) (fp : List Addr), PG (X.blk s H scope (compEnvC scope cl Cc X.env) fp) tg (gTg X.K t) := fun s H Cc cl fp =>
    g_tg (X := X.blk s H scope (compEnvC scope cl Cc X.env) fp) g.nn g.nd g.calm (g.blk s H scope Cc cl fp).sc (fun x hx => hx) ht
  have hcc : ∀ (s : Shared) (H : Hp) (Cc : Addr) (cl : List (Str × Addr)) (fp : List Addr), PTs (X.blk s H scope (compEnvC scope cl Cc X.env) fp) ifs (TTv X.K T (evC C mc)) := fun s H Cc cl fp => by
    have q := hc s H Cc cl fp
    cases q with
    | nil => exact c_none (X' := X.blk s H scope (compEnvC scope cl Cc X.env) fp)
    | star _ _ => exact c_bad (X' := X.blk s H scope (compEnvC scope cl Cc X.env) fp) fun _ _ => rfl
    | cons h1 hn h2 =>
      cases h2 with
      | nil => exact c_one (X' := X.blk s H scope (compEnvC scope cl Cc X.env) fp) h1.pt
      | cons _ _ _ => simp at hl
      | star _ _ => simp at hl
  have hN : X.N.Nodup := by rw [g.nn]; exact g.nd
  refine ⟨(pe_lc g.calm hN (i_it g h1 hz) hok hg hcc (fun s H Cc cl fp => (he s H Cc cl fp).pe) hs).imp fun σ H Q w => lc_run hi w, fun i y py spos hy hyl hsw => ?_⟩
  exact (ps_setLc g.calm hN (by rw [g.nn]; exact hy) hyl hsw (i_it g h1 hz) hok hg hcc (fun s H Cc cl fp => (he s H Cc cl fp).pe) hs).imp fun D σ H w => lc_run hi w
end

/-! ### all expressions -/
section
variable {T : List (Addr × Str)} {C : Ctx} {N : List Str} {lam : Bool}
theorem st_sub {a i : Expr} {pos : Pos} {sc : Scope} (h : notSlice i = true) : stE N lam (.Subscript a i pos) sc = .sub (stE N lam a sc) (stE N lam i sc) := by
  cases i <;> first | rfl | cases h
theorem st_cons {e : Expr} {r : List Expr} {sc : Scope} (h : ∀ x p, e ≠ .Starred x p) : stEs N lam (e :: r) sc = .cons (stE N lam e sc) (stEs N lam r sc) := by
  cases e <;> first | rfl | exact absurd rfl (h _ _)
theorem lam_blk {X : Cx} (h : lam = true → LamAt T X) (s : Shared) (H : Hp) (scope : Scope) (Cc : Addr) (cl : List (Str × Addr)) (fp : List Addr) : lam = true → LamAt T (X.blk s H scope (compEnvC scope cl Cc X.env) fp) := h
theorem c_bool {X : Cx} {op : BoolOp} {a b : Expr} {r : List Expr} {ms : Es} {p : Pos} (h : SndEs T C X (a :: b :: r) ms) : Snd T C X (.BoolOp op (a :: b :: r) p) (foldB op ms) := by
  have q := s_bool (op := op) h p
  cases h with
  | star h1 h2 => exact .bad
  | cons h1 hn h2 =>
    refine .mk' q.1 q.2.pt ?_
    cases h2 with
    | star h3 h4 => cases op <;> exact fun _ _ _ => ⟨nofun, nofun, nofun⟩
    | cons h3 _ h4 => cases op <;> exact fun _ _ _ => ⟨nofun, nofun, nofun⟩
theorem c_callX {X : Cx} {sc : Scope} {f : Expr} {args : List Expr} {kws : List Keyword} {pos : Pos} {ms : Es} (g : Good T C N sc X) (S : SortsR T C X sc lam) (h : SndEs T C X args ms) : Snd T C X (.Call f args kws pos) (mkCallX N lam sc pos kws args ms f) := by
  unfold mkCallX
  split
  · split
    · refine ifb (fun hf => ?_) .bad
      simp only [Bool.and_eq_true] at hf
      split
      · rename_i hi
        subst hi
        split
        · cases h with
          | cons h1 hn h2 =>
            split
            · rename_i ty ht
              refine ifb (fun hg => ?_) .bad
              simp only [Bool.and_eq_true] at hg
              exact snd_val (s_isi g hf.2 ht hg.2 h1 hn) (fun _ => rfl) fun _ _ _ => ⟨nofun, nofun, nofun⟩
            · exact .bad
        · exact .bad
      · exact c_call g S hf.1 hf.2 h
    · refine ifb (fun hf => ?_) .bad
      simp only [Bool.and_eq_true, decide_eq_true_eq] at hf
      obtain ⟨⟨rfl, hg⟩, rfl⟩ := hf
      split
      · rename_i k e _ _ _ _ _ _ hk
        cases h with
        | cons h1 hn h2 =>
          cases h2
          exact snd_val (S.key hg h1 hn hk) (fun _ => rfl) fun _ _ _ => ⟨nofun, nofun, nofun⟩
      · exact .bad
    · exact .bad
  · split
    · refine ifb (fun hf => ?_) .bad
      simp only [Bool.and_eq_true, decide_eq_true_eq] at hf
      obtain ⟨rfl, hl⟩ := hf
      cases h with
      | cons h1 hn h2 =>
        cases h2
        exact snd_val (s_pop g hl (s_name g).pe h1.pe hn) (fun _ => rfl) fun _ _ _ => ⟨nofun, nofun, nofun⟩
    · exact .bad
  · exact .bad
mutual
theorem sndE (hS : Sorting T C lam) : ∀ (e : Expr) (sc : Scope) (X : Cx), Good T C N sc X → (lam = true → LamAt T X) → Snd T C X e (stE N lam e sc)
  | .Name x p, sc, X, g, hl => s_name g
  | .Constant c k p, sc, X, g, hl => s_cst
  | .BinOp a op b p, sc, X, g, hl => c_bin (sndE hS a sc X g hl) (sndE hS b sc X g hl)
  | .UnaryOp .Not a p, sc, X, g, hl => .mk' (s_not (sndE hS a sc X g hl).pe) (t_not (sndE hS a sc X g hl).pt) fun _ _ _ => ⟨nofun, nofun, nofun⟩
  | .UnaryOp .USub a p, sc, X, g, hl => snd_val (s_neg (sndE hS a sc X g hl).pe) (fun _ => rfl) fun _ _ _ => ⟨nofun, nofun, nofun⟩
  | .UnaryOp .Invert a p, sc, X, g, hl => .bad
  | .UnaryOp .UAdd a p, sc, X, g, hl => .bad
  | .BoolOp op [] p, sc, X, g, hl => .bad
  | .BoolOp op [a] p, sc, X, g, hl => .bad
  | .BoolOp op (a :: b :: r) p, sc, X, g, hl => c_bool (sndEs hS (a :: b :: r) sc X g hl)
  | .IfExp c a b p, sc, X, g, hl => .mk' (s_ite (sndE hS c sc X g hl).pt (sndE hS a sc X g hl).pe (sndE hS b sc X g hl).pe) (t_ite (sndE hS c sc X g hl).pt (sndE hS a sc X g hl).pt (sndE hS b sc X g hl).pt) fun _ _ _ => ⟨nofun, nofun, nofun⟩
  | .Compare a [op] [b] p, sc, X, g, hl => c_cmp g (sndE hS a sc X g hl) (sndE hS b sc X g hl)
  | .Compare a [op, op2] [b, c] p, sc, X, g, hl => ifb (P := fun m => Snd T C X (.Compare a [op, op2] [b, c] p) m) (fun hs => c_chain g hs (sndE hS a sc X g hl) (sndE hS b sc X g hl) (sndE hS c sc X g hl)) .bad
  | .Compare a [] bs p, sc, X, g, hl => .bad
  | .Compare a [op] [] p, sc, X, g, hl => .bad
  | .Compare a [op] (b :: c :: r) p, sc, X, g, hl => .bad
  | .Compare a [op, op2] [] p, sc, X, g, hl => .bad
  | .Compare a [op, op2] [b] p, sc, X, g, hl => .bad
  | .Compare a [op, op2] (b :: c :: d :: r) p, sc, X, g, hl => .bad
  | .Compare a (op :: op2 :: op3 :: r) bs p, sc, X, g, hl => .bad
  | .Tuple es k p, sc, X, g, hl => snd_val (s_tup (sndEs hS es sc X g hl)) (fun _ => rfl) fun _ _ _ => ⟨nofun, nofun, nofun⟩
  | .List es p, sc, X, g, hl => snd_val (s_lst (sndEs hS es sc X g hl)) (fun _ => rfl) fun _ _ _ => ⟨nofun, nofun, nofun⟩
  | .Subscript a (.Slice lo hi none p2) p, sc, X, g, hl => snd_val (s_slc (sndE hS a sc X g hl).pe (sndO hS lo sc X g hl) (sndO hS hi sc X g hl)) (fun _ => rfl) fun _ _ _ => ⟨nofun, nofun, nofun⟩
  | .Subscript a (.Slice lo hi (some s) p2) p, sc, X, g, hl => .bad
  | .Subscript a i p, sc, X, g, hl => by
    have h1 := sndE hS a sc X g hl
    have h2 := sndE hS i sc X g hl
    cases hn : notSlice i with
    | true =>
      rw [st_sub hn]
      exact snd_val (s_sub (plain_ok hn) h1.pe h2.pe) (fun _ => rfl) fun _ _ _ => ⟨nofun, nofun, nofun⟩
    | false =>
      cases i <;> first | cases hn | skip
      rename_i lo hi st p2
      cases st with
      | none => exact snd_val (s_slc h1.pe (sndO hS lo sc X g hl) (sndO hS hi sc X g hl)) (fun _ => rfl) fun _ _ _ => ⟨nofun, nofun, nofun⟩
      | some s => exact .bad
  | .Call f args kws p, sc, X, g, hl => c_callX g (hS X N sc g hl) (sndEs hS args sc X g hl)
  | .ListComp elt [] scope p, sc, X, g, hl => .bad
  | .ListComp elt (⟨_, _, _, _⟩ :: b :: r) scope p, sc, X, g, hl => .bad
  | .ListComp elt [⟨t, it, ifs, k⟩] scope p, sc, X, g, hl => by
    have h1 := sndE hS it sc X g hl
    have h2 := fun (s : Shared) (H : Hp) (Cc : Addr) (cl : List (Str × Addr)) (fp : List Addr) => sndE hS elt (relS scope sc) (X.blk s H scope (compEnvC scope cl Cc X.env) fp) (g.blk s H scope Cc cl fp) (lam_blk hl s H scope Cc cl fp)
    have h3 := fun (s : Shared) (H : Hp) (Cc : Addr) (cl : List (Str × Addr)) (fp : List Addr) => sndEs hS ifs (relS scope sc) (X.blk s H scope (compEnvC scope cl Cc X.env) fp) (g.blk s H scope Cc cl fp) (lam_blk hl s H scope Cc cl fp)
    show Snd T C X _ (if _ then _ else _)
    refine ifb (fun hq => ?_) .bad
    simp only [Bool.and_eq_true, decide_eq_true_eq, Bool.or_eq_true, Bool.not_eq_true'] at hq
    obtain ⟨⟨⟨⟨rfl, hb⟩, hset⟩, hlen⟩, hz⟩ := hq
    split
    · rename_i tg ht
      refine ifb (fun hi => ?_) .bad
      refine snd_val (c_comp g hb ht hi hlen h1 (fun z => hz.resolve_left (by rw [z]; nofun)) (fs_of fun es k p e => by rw [e] at hset; cases hset) h2 h3).1 (fun _ => rfl) fun _ _ _ => ⟨nofun, nofun, nofun⟩
    · exact .bad
  | .NamedExpr .., sc, X, g, hl => .bad
  | .Lambda .., sc, X, g, hl => .bad
  | .Dict .., sc, X, g, hl => .bad
  | .Set .., sc, X, g, hl => .bad
  | .SetComp .., sc, X, g, hl => .bad
  | .DictComp .., sc, X, g, hl => .bad
  | .GeneratorExp .., sc, X, g, hl => .bad
  | .Await .., sc, X, g, hl => .bad
  | .Yield .., sc, X, g, hl => .bad
  | .YieldFrom .., sc, X, g, hl => .bad
  | .FormattedValue .., sc, X, g, hl => .bad
  | .JoinedStr .., sc, X, g, hl => .bad
  | .Attribute .., sc, X, g, hl => .bad
  | .Starred .., sc, X, g, hl => .bad
  | .Slice .., sc, X, g, hl => .bad
theorem sndEs (hS : Sorting T C lam) : ∀ (es : List Expr) (sc : Scope) (X : Cx), Good T C N sc X → (lam = true → LamAt T X) → SndEs T C X es (stEs N lam es sc)
  | [], sc, X, g, hl => .nil
  | .Starred e p :: r, sc, X, g, hl => .star (sndE hS e sc X g hl) (sndEs hS r sc X g hl)
  | e :: r, sc, X, g, hl => by
    have h1 := sndE hS e sc X g hl
    have h2 := sndEs hS r sc X g hl
    by_cases hs : ∃ x p, e = .Starred x p
    · obtain ⟨x, p, rfl⟩ := hs
      exact .star (sndE hS x sc X g hl) h2
    · have hn : ∀ x p, e ≠ .Starred x p := fun x p z => hs ⟨x, p, z⟩
      rw [st_cons hn]
      exact .cons h1 (noStar_of hn) h2
theorem sndO (hS : Sorting T C lam) : ∀ (e : Option Expr) (sc : Scope) (X : Cx), Good T C N sc X → (lam = true → LamAt T X) → PO X e (TOv X.K T (evO C (stO N lam e sc)))
  | none, sc, X, g, hl => o_none
  | some e, sc, X, g, hl => o_some (sndE hS e sc X g hl).pe
end
end
end Mi
set_option maxHeartbeats 4000000
/-! M9: statements. -/
namespace Mi
open PySem PySem.Spec PyProof.Rows L2

/-- what a statement hands on -/
def OutR (K : PySem.W.Frag) (T : List (Addr × Str)) (B L : List Addr) (H : Hp) (D : Ends) : Out → Prop
  | .nx ρ M => ∀ L' H' σ', Ext L H L' H' → Wd K T B L' M H' → EnvR K H' L' B ρ σ' → D.nx σ' H'
  | .rt v M => ∀ L' H' x, Ext L H L' H' → Wd K T B L' M H' → RV K H' L' B v x → D.rt x H'
def TSv (K : PySem.W.Frag) (T : List (Addr × Str)) (ev : Env → MH → Option Out) : TS := fun D σ H => ∃ B L M ρ o, EnvR K H L B ρ σ ∧ Wd K T B L M H ∧ ev ρ M = some o ∧ OutR K T B L H D o
theorem OutR.ext {K : PySem.W.Frag} {T : List (Addr × Str)} {B L L1 : List Addr} {H H1 : Hp} {D : Ends} {o : Out} (e : Ext L H L1 H1) (h : OutR K T B L H D o) : OutR K T B L1 H1 D o := by
  cases o with
  | nx ρ M => exact fun L' H' σ' e' w r => h L' H' σ' (e.trans e') w r
  | rt v M => exact fun L' H' x e' w r => h L' H' x (e.trans e') w r
section
variable {X : Cx} {T : List (Addr × Str)} {C : Ctx} {N ms : List Str} {lam : Bool} {sc : Scope} {e e1 e2 e3 : Expr} {m m1 m2 m3 : E} {pos : Pos}
theorem ps_none {st : Stmt} {ev : Env → MH → Option Out} (h : ∀ ρ M, ev ρ M = none) : PS X st (TSv X.K T ev) := ⟨fun _ _ _ _ _ _ ⟨_, _, _, ρ, _, _, _, hev, _⟩ => by rw [h] at hev; cases hev⟩

/-! ### a list that becomes a cell -/
theorem new_run {K : PySem.W.Frag} {σ : L2.St} {H : Hp} {Q : VK} (w : tE K T C (.new m) σ H Q) : tE K T C m σ H Q := by
  obtain ⟨B, L, M, ρ, v, M', he, hw, hev, q⟩ := w
  have hev : (if isL m then (evE C m ρ M).bind fun p => match p.1 with | .d (.list xs) => some (.ref p.2.length, p.2 ++ [.lst xs]) | _ => none else none) = some (v, M') := hev
  split at hev
  · rename_i hl
    obtain ⟨⟨v1, M1⟩, h1, hev⟩ := bindE hev
    dsimp only at hev
    split at hev
    · rename_i xs
      cases hev
      refine ⟨B, L, M, ρ, _, _, he, hw, h1, fun L' H' x e1 w1 r1 fr => ?_⟩
      obtain ⟨a, zs, rfl, hna, ha, wB, rs⟩ := fr hl xs rfl
      have haL : a ∉ L' := wB.dis a List.mem_cons_self
      have eZ : (L' ++ [a]) ++ B = L' ++ a :: B := by rw [List.append_assoc]; rfl
      refine q (L' ++ [a]) H' (.ref a) ⟨e1.keep, e1.there, ?_⟩ ⟨wB.tabs, ?_, ?_, fun i b c g1 g2 => ?_, fun b hb => wB.blk b (List.mem_cons_of_mem _ hb), fun b hb hm => ?_⟩ ⟨a, ?_, rfl⟩ fun z => nomatch z
      · obtain ⟨n, en, hn⟩ := e1.new
        refine ⟨n ++ [a], by rw [en, List.append_assoc], fun c hc => ?_⟩
        rcases List.mem_append.mp hc with z | z
        · exact hn c z
        · rw [List.mem_singleton.mp z]; exact hna
      · rw [List.length_append, List.length_append, wB.len]; rfl
      · rw [List.nodup_append]
        refine ⟨wB.nd, by simp, fun c hc d hd e => haL ?_⟩
        rw [List.mem_singleton.mp hd] at e
        rw [← e]; exact hc
      · rw [eZ]
        by_cases hi : i < L'.length
        · rw [List.getElem?_append_left hi] at g1
          rw [List.getElem?_append_left (by rw [← wB.len]; exact hi)] at g2
          exact wB.cell i b c g1 g2
        · have hi' : i = L'.length := by
            have := (List.getElem?_eq_some_iff.mp g1).1
            rw [List.length_append, List.length_singleton] at this
            omega
          subst hi'
          rw [List.getElem?_append_right (Nat.le_refl _), Nat.sub_self] at g1
          rw [wB.len, List.getElem?_append_right (Nat.le_refl _), Nat.sub_self] at g2
          cases g1
          cases g2
          exact ⟨zs, ha, rs⟩
      · rcases List.mem_append.mp hm with z | z
        · exact wB.dis b (List.mem_cons_of_mem _ hb) z
        · rw [List.mem_singleton.mp z] at hb
          obtain ⟨ys, q⟩ := hw.blk a hb
          exact hna.no q fun _ z => nomatch z
      · rw [← wB.len, List.getElem?_append_right (Nat.le_refl _), Nat.sub_self]; rfl
    · cases hev
  · cases hev
theorem new_ref {ρ : Env} {M M' : MH} {v : Val} (h : evE C (.new m) ρ M = some (v, M')) : ∃ n, v = .ref n := by
  have hev : (if isL m then (evE C m ρ M).bind fun p => match p.1 with | .d (.list xs) => some (.ref p.2.length, p.2 ++ [.lst xs]) | _ => none else none) = some (v, M') := h
  split at hev
  · obtain ⟨⟨v1, M1⟩, h1, hev⟩ := bindE hev
    dsimp only at hev
    split at hev
    · cases hev; exact ⟨_, rfl⟩
    · cases hev
  · cases hev
theorem Snd.new (h : Snd T C X e m) : Snd T C X e (.new m) := .mk' (h.pe.imp fun σ H Q w => new_run w) (by
    refine ⟨fun pins s σ H Q I ⟨B, L, M, ρ, k, M', he, hw, hev, q⟩ => ?_⟩
    obtain ⟨⟨v, M1⟩, h1, hev⟩ := bindE hev
    obtain ⟨n, rfl⟩ := new_ref h1
    cases hev) fun _ _ _ => ⟨nofun, nofun, nofun⟩
theorem Snd.fresh {x : Str} (h : Snd T C X e m) : Snd T C X e (mkFresh ms x m) := by
  unfold mkFresh
  split
  · exact h.new
  · exact h

/-! ### stores -/
theorem asg_run {t : Tg} {D : Ends} {σ : L2.St} {H : Hp} (w : TSv X.K T (evS C (.asg t m)) D σ H) : tAsg (tE X.K T C m) (gTg X.K t) D σ H := by
  obtain ⟨B, L, M, ρ, o, he, hw, hev, q⟩ := w
  obtain ⟨⟨v, M1⟩, h1, hev⟩ := bindE hev
  obtain ⟨ρ1, h2, e⟩ := mapE hev
  cases e
  exact ⟨B, L, M, ρ, v, M1, he, hw, h1, fun L1 H1 x e1 w1 r1 _ => bind_run (he.ext e1) h2 r1 fun σ' he' _ => q _ _ _ e1 w1 he'⟩
def isComp : Expr → Bool
  | .ListComp .. => true
  | .SetComp .. => true
  | .DictComp .. => true
  | _ => false
theorem sw_no {tg : Option Expr} {l : Nat} (h : isComp e = false) : swapsWith e tg l X.env = pure false := by
  cases e <;> first | rfl | cases h
theorem sw_tg {tg : Expr} {l : Nat} (h : ∀ x p, tg ≠ .Name x p) : swapsWith e (some tg) l X.env = pure false := by
  cases tg <;> first
    | exact absurd rfl (h _ _)
    | (cases e <;> rfl)
theorem bad_comp (h : isComp e = true) (h2 : ∀ a g s p, e ≠ .ListComp a g s p) : stE N lam e sc = .bad := by
  cases e <;> first | rfl | exact absurd rfl (h2 _ _ _ _) | cases h
theorem swaps_lc {elt : Expr} {gs : List Comprehension} {scope : Scope} {p py : Pos} {y : Str} {l : Nat} : ∃ b, swapsWith (.ListComp elt gs scope p) (some (.Name y py)) l X.env = pure b ∧ (b = true → X.env.scope.names.lookup y = some .local) := by
  refine ⟨X.env.blockKind == .function && X.env.kindOf y == some .local && py.line == p.line && !(scope.names.any fun (n, k) => n == y && (k == .local || k == .cell)), rfl, fun h => ?_⟩
  simp only [Bool.and_eq_true, beq_iff_eq] at h
  exact h.1.1.2
theorem bad_asg {t : Tg} {ρ : Env} {M : MH} (h : ∀ ρ M, evE C m ρ M = none) : evS C (.asg t m) ρ M = none := by
  show (evE C m ρ M).bind _ = none
  rw [h]; rfl
theorem fresh_bad {x : Str} : ∀ ρ M, evE C (mkFresh ms x .bad) ρ M = none := by
  intro ρ M
  unfold mkFresh
  split
  · rename_i h
    simp [isL] at h
  · rfl
/-- name = e -/
theorem c_asg1 {x : Str} {px : Pos} {i : Nat} (hS : Sorting T C lam) (g : Good T C N sc X) (hl : lam = true → LamAt T X) (hfn : ∀ x, X.fn x = true) (hx : isLoc sc x = true) (hi : slot N x = some i) :
    PS X (.Assign [.Name x px] e pos) (TSv X.K T (evS C (.asg (.one i) (mkFresh ms x (stE N lam e sc))))) := by
  have hN : X.N.Nodup := by rw [g.nn]; exact g.nd
  have hs := slot_get hi
  have hloc : Loc X.env.scope x := by rw [g.sc]; exact isLoc_ok hx
  have h1 := (sndE hS e sc X g hl).fresh (ms := ms) (x := x)
  by_cases hc : isComp e = true
  · by_cases hlc : ∃ a gs s p, e = .ListComp a gs s p
    · obtain ⟨elt, gs, scope, p, rfl⟩ := hlc
      obtain ⟨b, hb, hbl⟩ := swaps_lc (X := X) (elt := elt) (gs := gs) (scope := scope) (p := p) (py := px) (y := x) (l := pos.line)
      cases b with
      | false => exact (ps_set hN (by rw [g.nn]; exact hs) hloc h1.pe hb (.inl (hfn x))).imp fun D σ H w => asg_run w
      | true =>
        match gs, hb, hbl, h1 with
        | [], _, _, _ => exact ps_none fun ρ M => bad_asg (fresh_bad)
        | ⟨_, _, _, _⟩ :: _ :: _, _, _, _ => exact ps_none fun ρ M => bad_asg (fresh_bad)
        | [⟨t, it, ifs, k⟩], hb, hbl, h1 =>
          have a1 := sndE hS it sc X g hl
          have a2 := fun (s : Shared) (H : Hp) (Cc : Addr) (cl : List (Str × Addr)) (fp : List Addr) => sndE hS elt (relS scope sc) (X.blk s H scope (compEnvC scope cl Cc X.env) fp) (g.blk s H scope Cc cl fp) (lam_blk hl s H scope Cc cl fp)
          have a3 := fun (s : Shared) (H : Hp) (Cc : Addr) (cl : List (Str × Addr)) (fp : List Addr) => sndEs hS ifs (relS scope sc) (X.blk s H scope (compEnvC scope cl Cc X.env) fp) (g.blk s H scope Cc cl fp) (lam_blk hl s H scope Cc cl fp)
          have key : PS X (.Assign [.Name x px] (.ListComp elt [⟨t, it, ifs, k⟩] scope p) pos) (tAsg (tE X.K T C (stE N lam (.ListComp elt [⟨t, it, ifs, k⟩] scope p) sc)) (gName i)) := by
            show PS X _ (tAsg (tE X.K T C (if _ then _ else _)) (gName i))
            have nv : PS X (.Assign [.Name x px] (.ListComp elt [⟨t, it, ifs, k⟩] scope p) pos) (tAsg (tE X.K T C .bad) (gName i)) := ⟨fun _ _ _ _ _ _ ⟨_, _, _, _, _, _, _, _, hev, _⟩ => nomatch hev⟩
            refine ifb (P := fun m => PS X (.Assign [.Name x px] (.ListComp elt [⟨t, it, ifs, k⟩] scope p) pos) (tAsg (tE X.K T C m) (gName i))) (fun hq => ?_) nv
            simp only [Bool.and_eq_true, decide_eq_true_eq, Bool.or_eq_true, Bool.not_eq_true'] at hq
            obtain ⟨⟨⟨⟨rfl, hbk⟩, hset⟩, hlen⟩, hz⟩ := hq
            split
            · rename_i tg ht
              refine ifb (P := fun m => PS X (.Assign [.Name x px] (.ListComp elt [⟨t, it, ifs, 0⟩] scope p) pos) (tAsg (tE X.K T C m) (gName i))) (fun hti => ?_) nv
              exact (c_comp g hbk ht hti hlen a1 (fun z => hz.resolve_left (by rw [z]; nofun)) (fs_of fun es k p e => by rw [e] at hset; cases hset) a2 a3).2 i x px pos hs (hbl rfl) hb
            · exact nv
          refine key.imp fun D σ H w => ?_
          have w2 := asg_run w
          unfold mkFresh at w2
          split at w2
          · exact new_run w2
          · exact w2
    · have hb : stE N lam e sc = .bad := bad_comp hc fun a g s p z => hlc ⟨a, g, s, p, z⟩
      rw [hb]
      exact ps_none fun ρ M => bad_asg (fresh_bad)
  · exact (ps_set hN (by rw [g.nn]; exact hs) hloc h1.pe (sw_no (by simpa using hc)) (.inl (hfn x))).imp fun D σ H w => asg_run w
/-- (a, ..) = e -/
theorem c_asgT {es : List Expr} {k : Nat} {p : Pos} {t : Tg} (g : Good T C N sc X) (hfn : ∀ x, X.fn x = true) (h1 : Snd T C X e m) (ht : stTg N sc ckT (.Tuple es k p) = some t) (he : isTupE e = false) : PS X (.Assign [.Tuple es k p] e pos) (TSv X.K T (evS C (.asg t m))) :=
  (ps_asg h1.pe (g_tg g.nn g.nd g.calm g.sc (fun x _ => hfn x) ht) (sw_tg (X := X) (l := pos.line) (tg := .Tuple es k p) (by intro x p; nofun)) (by cases e <;> first | rfl | cases he) (by rfl)).imp fun D σ H w => asg_run w
theorem c_setI {a i : Expr} {p : Pos} {ma mi : E} (hn : notSlice i = true) (h1 : Snd T C X e m) (ha : Snd T C X a ma) (hi : Snd T C X i mi) : PS X (.Assign [.Subscript a i p] e pos) (TSv X.K T (evS C (.setI ma mi m))) :=
  (ps_asg h1.pe (pg_sub ha.pe hi.pe set_list (by intro v; cases i <;> first | rfl | cases hn)) (sw_tg (X := X) (l := pos.line) (tg := .Subscript a i p) (by intro x p; nofun)) (by rfl) (by rfl)).imp fun D σ H ⟨B, L, M, ρ, o, he, hw, hev, q⟩ => by
    obtain ⟨⟨v, M1⟩, h1, hev⟩ := bindE hev
    obtain ⟨⟨v2, M2⟩, h2, hev⟩ := bindE hev
    obtain ⟨⟨v3, M3⟩, h3, hev⟩ := bindE hev
    dsimp only at hev
    split at hev
    · rename_i y n k _ _
      split at hev
      · rename_i ds hd
        obtain ⟨j, hj, e⟩ := mapE hev
        cases e
        refine ⟨B, L, M, ρ, _, _, he, hw, h1, fun L1 H1 x1 e1 w1 r1 _ => ⟨B, L1, _, ρ, _, _, he.ext e1, w1, h2, fun L2 H2 x2 e2 w2 r2 _ => ⟨B, L2, _, ρ, _, _, (he.ext e1).ext e2, w2, h3, fun L3 H3 x3 e3 w3 r3 _ => ?_⟩⟩⟩
        obtain ⟨b, hb, rfl⟩ := r2.ext e3
        obtain ⟨xs, hx, rx⟩ := w3.cell n b _ hb hd
        have r1' : RD X.K H3 (L3 ++ B) y x1 := (r1.ext e2).ext e3
        have ww := w3.write hb (rx.set j r1')
        refine ⟨b, xs, k, j, rfl, r3, hx, by rw [rx.length]; exact hj, ?_⟩
        exact q _ _ _ (((e1.trans e2).trans e3).trans ww.1) ww.2 ((((he.ext e1).ext e2).ext e3).ext ww.1)
      · cases hev
    · cases hev
theorem ty_list {L B : List Addr} {M : MH} {H : Hp} {n : Nat} {a : Addr} (w : Wd X.K T B L M H) (ha : L[n]? = some a) : tyV X.K "list" (.ref a) H := by
  have hn1 : n < M.length := by rw [← w.len]; exact (List.getElem?_eq_some_iff.mp ha).1
  have c1 := w.cell n a M[n] ha (List.getElem?_eq_getElem hn1)
  cases hc : M[n] with
  | lst ds1 =>
    rw [hc] at c1
    obtain ⟨xs1, q1, _⟩ := c1
    exact .inl ⟨rfl, xs1, SqL.of q1⟩
theorem c_app {x : Str} {px apos cpos : Pos} {ma : E} (hl : (apos.endLine == cpos.line) = true) (ha : Snd T C X (.Name x px) ma) (h1 : Snd T C X e m) (hn : NoStar e) : PS X (.Expr (.Call (.Attribute (.Name x px) "append" apos) [e] [] cpos) pos) (TSv X.K T (evS C (.app ma m))) :=
  (ps_expr (pe_lm PySem.F.slot_list_append PySem.F.type_list_append mt_append ha.pe (pa_cons h1.pe pa_nil (hn _ _)) hn (by rfl) hl) (by rfl)).imp fun D σ H ⟨B, L, M, ρ, o, he, hw, hev, q⟩ => by
    obtain ⟨⟨v, M1⟩, h1, hev⟩ := bindE hev
    obtain ⟨⟨v2, M2⟩, h2, hev⟩ := bindE hev
    dsimp only at hev
    split at hev
    · rename_i n y _
      split at hev
      · rename_i ds hd
        split at hev
        · rename_i hlen
          cases hev
          refine ⟨B, L, M, ρ, _, M1, he, hw, h1, fun L1 H1 x1 e1 w1 r1 _ => ?_⟩
          obtain ⟨a, ha, rfl⟩ := r1
          refine ⟨ty_list w1 ha, B, L1, M1, ρ, _, _, he.ext e1, w1, h2, fun L2 H2 x2 e2 w2 r2 _ => ?_⟩
          obtain ⟨xs, hx, rx⟩ := w2.cell n a _ (e2.at_ ha) hd
          have ww := w2.write (e2.at_ ha) (rx.snoc r2)
          refine ⟨a, xs, x2, rfl, rfl, hx, ?_, q _ _ _ ((e1.trans e2).trans ww.1) ww.2 (((he.ext e1).ext e2).ext ww.1)⟩
          have := lim_line
          rw [rx.length]; omega
        · cases hev
      · cases hev
    · cases hev
theorem c_ext {x : Str} {px apos cpos : Pos} {ma : E} (hl : (apos.endLine == cpos.line) = true) (ha : Snd T C X (.Name x px) ma) (h1 : Snd T C X e m) (hn : NoStar e) : PS X (.Expr (.Call (.Attribute (.Name x px) "extend" apos) [e] [] cpos) pos) (TSv X.K T (evS C (.ext ma m))) :=
  (ps_expr (pe_lm PySem.F.slot_list_extend PySem.F.type_list_extend mt_extend ha.pe (pa_cons h1.pe pa_nil (hn _ _)) hn (by rfl) hl) (by rfl)).imp fun D σ H ⟨B, L, M, ρ, o, he, hw, hev, q⟩ => by
    obtain ⟨⟨v, M1⟩, h1, hev⟩ := bindE hev
    obtain ⟨⟨v2, M2⟩, h2, hev⟩ := bindE hev
    dsimp only at hev
    split at hev
    · rename_i n ys _
      split at hev
      · rename_i ds hd
        split at hev
        · rename_i hlen
          cases hev
          refine ⟨B, L, M, ρ, _, M1, he, hw, h1, fun L1 H1 x1 e1 w1 r1 _ => ?_⟩
          obtain ⟨a, ha, rfl⟩ := r1
          refine ⟨ty_list w1 ha, B, L1, M1, ρ, _, _, he.ext e1, w1, h2, fun L2 H2 x2 e2 w2 r2 _ => ?_⟩
          obtain ⟨xs, hx, rx⟩ := w2.cell n a _ (e2.at_ ha) hd
          obtain ⟨b, zs, rfl, hb, rz⟩ := r2
          have ww := w2.write (e2.at_ ha) (rx.append rz)
          refine ⟨a, b, xs, zs, rfl, rfl, hx, hb.1, ?_, q _ _ _ ((e1.trans e2).trans ww.1) ww.2 (((he.ext e1).ext e2).ext ww.1)⟩
          have := lim_line
          rw [rx.length, rz.length]; omega
        · cases hev
      · cases hev
    · cases hev
theorem c_exp (hc : isComp e = false) (h : Snd T C X e m) : PS X (.Expr e pos) (TSv X.K T (evS C (.exp m))) :=
  (ps_expr h.pe (sw_no hc)).imp fun D σ H ⟨B, L, M, ρ, o, he, hw, hev, q⟩ => by
    obtain ⟨⟨v, M1⟩, h1, e⟩ := mapE hev
    cases e
    exact ⟨B, L, M, ρ, v, M1, he, hw, h1, fun L1 H1 x1 e1 w1 r1 _ => q _ _ _ e1 w1 (he.ext e1)⟩
theorem c_ret (h : Snd T C X e m) : PS X (.Return (some e) pos) (TSv X.K T (evS C (.ret m))) :=
  (ps_ret h.pe).imp fun D σ H ⟨B, L, M, ρ, o, he, hw, hev, q⟩ => by
    obtain ⟨⟨v, M1⟩, h1, e⟩ := mapE hev
    cases e
    exact ⟨B, L, M, ρ, v, M1, he, hw, h1, fun L1 H1 x1 e1 w1 r1 _ => q _ _ _ e1 w1 r1⟩
theorem c_pass : PS X (.Pass pos) (TSv X.K T (evS C .pass)) := ps_pass.imp fun D σ H ⟨B, L, M, ρ, o, he, hw, hev, q⟩ => by
  cases hev
  exact q _ _ _ Ext.refl hw he
theorem c_if {a b : List Stmt} {ma mb : Ss} (h : Snd T C X e m) (ha : PSs X a (TSv X.K T (evSs C ma))) (hb : PSs X b (TSv X.K T (evSs C mb))) : PS X (.If e a b pos) (TSv X.K T (evS C (.ifs m ma mb))) :=
  (ps_if h.pt ha hb).imp fun D σ H ⟨B, L, M, ρ, o, he, hw, hev, q⟩ => by
    obtain ⟨⟨k, M1⟩, h1, hev⟩ := bindE hev
    refine ⟨B, L, M, ρ, k, M1, he, hw, h1, fun L1 H1 e1 w1 => ?_⟩
    dsimp only at hev
    cases k with
    | true => exact ⟨B, L1, M1, ρ, o, he.ext e1, w1, hev, q.ext e1⟩
    | false => exact ⟨B, L1, M1, ρ, o, he.ext e1, w1, hev, q.ext e1⟩
theorem c_nil : PSs X [] (TSv X.K T (evSs C .nil)) := ⟨fun pins s σ H D I ⟨B, L, M, ρ, o, he, hw, hev, q⟩ => by
  cases hev
  exact pss_nil.run pins s σ H D I (q _ _ _ Ext.refl hw he)⟩
theorem c_cons {st : Stmt} {r : List Stmt} {ma : S} {mr : Ss} (h : PS X st (TSv X.K T (evS C ma))) (hr : PSs X r (TSv X.K T (evSs C mr))) : PSs X (st :: r) (TSv X.K T (evSs C (.cons ma mr))) := ⟨fun pins s σ H D I ⟨B, L, M, ρ, o, he, hw, hev, q⟩ => by
  refine (pss_cons h hr).run pins s σ H D I ?_
  obtain ⟨o1, h1, hev⟩ := bindE hev
  refine ⟨B, L, M, ρ, o1, he, hw, h1, ?_⟩
  cases o1 with
  | nx ρ1 M1 => exact fun L1 H1 σ1 e1 w1 r1 => ⟨B, L1, M1, ρ1, o, r1, w1, hev, q.ext e1⟩
  | rt v M1 =>
    cases hev
    exact q⟩
theorem c_for {tg it : Expr} {body : List Stmt} {mi : Mi.It} {t : Tg} {mb : Ss} (hp : PassesOwn (model X.prog X.w) X.A X.env X.xe) (g : Good T C N sc X) (hfn : ∀ x, X.fn x = true) (ht : stTg N sc ckT tg = some t) (hi : PI X tg it (TIv X.K T (evIt C mi)))
    (hs : ∀ x, foldedSetIterable it X.env x = pure x) (hb : PSs X body (TSv X.K T (evSs C mb))) : PS X (.For tg it body [] pos) (TSv X.K T (evS C (.for t mi mb))) :=
  (ps_for hp g.calm hi (g_tg g.nn g.nd g.calm g.sc (fun x _ => hfn x) ht) hb hs).imp fun D σ H ⟨B, L, M, ρ, o, he, hw, hev, q⟩ => by
    obtain ⟨⟨ds, M1⟩, h1, hev⟩ := bindE hev
    refine ⟨B, L, M, ρ, ds, M1, he, hw, h1, fun L1 H1 J e1 w1 wk => ?_⟩
    refine ⟨fun i m σ H => m = ds.length - i ∧ i ≤ ds.length ∧ ∃ L2 M2 ρ2, Ext L1 H1 L2 H ∧ Wd X.K T B L2 M2 H ∧ EnvR X.K H L2 B ρ2 σ ∧ forL (fun x ρ1 M1 => (bind1 t (.d x) M1 ρ1).bind fun ρ2 => evSs C mb ρ2 M1) (ds.drop i) ρ2 M2 = some o,
      ⟨ds.length, by omega, Nat.zero_le _, L1, M1, ρ, Ext.refl, w1, he.ext e1, by rw [List.drop_zero]; exact hev⟩, ?_⟩
    rintro i m σ2 H2 ⟨rfl, hi, L2, M2, ρ2, e2, w2, he2, hf⟩
    obtain ⟨hstop, hgo⟩ := wk H2 _ e2.grow
    by_cases hlt : i < ds.length
    · have hd := List.getElem?_eq_getElem hlt
      obtain ⟨go, yld⟩ := hgo i _ hd
      rw [drop_get hd] at hf
      obtain ⟨o1, hf1, hf2⟩ := bindE hf
      obtain ⟨ρ3, hb3, hf1⟩ := bindE hf1
      refine .inr ⟨go, fun σ H => i + 1 ≤ ds.length ∧ ∃ L2 M2 ρ2, Ext L1 H1 L2 H ∧ Wd X.K T B L2 M2 H ∧ EnvR X.K H L2 B ρ2 σ ∧ forL (fun x ρ1 M1 => (bind1 t (.d x) M1 ρ1).bind fun ρ2 => evSs C mb ρ2 M1) (ds.drop (i + 1)) ρ2 M2 = some o,
        fun σ' H' h => ⟨ds.length - (i + 1), by omega, rfl, h.1, h.2⟩, fun x H3 hy => ?_⟩
      have st : Ext L2 H2 L2 H3 ∧ Wd X.K T B L2 M2 H3 ∧ RD X.K H3 (L2 ++ B) ds[i] x := by
        rcases yld x H3 hy with ⟨rfl, rr⟩ | rr
        · exact ⟨Ext.refl, w2, rr⟩
        · have f := res_fin Ext.refl w2 rr
          exact ⟨f.1, f.2.1, f.2.2.1⟩
      obtain ⟨e3, w3, rx⟩ := st
      refine bind_run (v := .d ds[i]) (he2.ext e3) hb3 rx fun σ3 he3 _ => ⟨B, L2, M2, ρ3, o1, he3, w3, hf1, ?_⟩
      cases o1 with
      | nx ρ4 M4 => exact fun L4 H4 σ4 e4 w4 r4 => ⟨hlt, L4, M4, ρ4, e2.trans (e3.trans e4), w4, r4, hf2⟩
      | rt v M4 =>
        cases hf2
        exact fun L4 H4 x4 e4 w4 r4 => q _ _ _ (e1.trans (e2.trans (e3.trans e4))) w4 r4
    · have hi' : i = ds.length := by omega
      subst hi'
      rw [List.drop_length] at hf
      cases hf
      exact .inl ⟨hstop, q _ _ _ (e1.trans e2) w2 he2⟩
theorem c_while {body : List Stmt} {mb : Ss} (hp : PassesOwn (model X.prog X.w) X.A X.env X.xe) (h : Snd T C X e m) (hb : PSs X body (TSv X.K T (evSs C mb))) : PS X (.While e body [] pos) (TSv X.K T (evS C (.while m mb))) :=
  (ps_while hp h.pt hb).imp fun D σ H ⟨B, L, M, ρ, o, he, hw, hev, q⟩ => by
    refine ⟨fun n σ H1 => ∃ L2 M2 ρ2, Ext L H L2 H1 ∧ Wd X.K T B L2 M2 H1 ∧ EnvR X.K H1 L2 B ρ2 σ ∧ whileL (evT C m) (evSs C mb) n ρ2 M2 = some o, ⟨C.fuel, L, M, ρ, Ext.refl, hw, he, hev⟩, ?_⟩
    rintro n σ2 H2 ⟨L2, M2, ρ2, e2, w2, he2, hf⟩
    cases n with
    | zero => cases hf
    | succ n =>
      obtain ⟨⟨k, M3⟩, h3, hf⟩ := bindE hf
      refine ⟨B, L2, M2, ρ2, k, M3, he2, w2, h3, fun L3 H3 e3 w3 => ?_⟩
      dsimp only at hf
      cases k with
      | false =>
        rw [if_neg (by decide)] at hf ⊢
        cases hf
        exact q _ _ _ (e2.trans e3) w3 (he2.ext e3)
      | true =>
        rw [if_pos rfl] at hf ⊢
        obtain ⟨o1, h4, hf⟩ := bindE hf
        refine ⟨fun σ H1 => ∃ L2 M2 ρ2, Ext L H L2 H1 ∧ Wd X.K T B L2 M2 H1 ∧ EnvR X.K H1 L2 B ρ2 σ ∧ whileL (evT C m) (evSs C mb) n ρ2 M2 = some o, fun σ' H' h => ⟨n, Nat.lt_succ_self n, h⟩, B, L3, M3, ρ2, o1, he2.ext e3, w3, h4, ?_⟩
        cases o1 with
        | nx ρ4 M4 => exact fun L4 H4 σ4 e4 w4 r4 => ⟨L4, M4, ρ4, e2.trans (e3.trans e4), w4, r4, hf⟩
        | rt v M4 =>
          cases hf
          exact fun L4 H4 x4 e4 w4 r4 => q _ _ _ (e2.trans (e3.trans e4)) w4 r4
end
end Mi
set_option maxHeartbeats 4000000
/-! M10: pairs stored, every statement. -/
namespace Mi
open PySem PySem.Spec PyProof.Rows L2
theorem any_star {a b : Expr} (h : ([a, b].any isStar) = false) : ([a, b].any fun | .Starred .. => true | _ => false) = false ∧ NoStar a ∧ NoStar b := by
  simp only [List.any_cons, List.any_nil, Bool.or_false, Bool.or_eq_false_iff] at h
  refine ⟨?_, noStar_of fun x p e => ?_, noStar_of fun x p e => ?_⟩
  · simp only [List.any_cons, List.any_nil, Bool.or_false, Bool.or_eq_false_iff]
    refine ⟨?_, ?_⟩
    · have := h.1
      cases a <;> first | rfl | cases this
    · have := h.2
      cases b <;> first | rfl | cases this
  · rw [e] at h; cases h.1
  · rw [e] at h; cases h.2
theorem star_no {a b : Expr} (h : [a, b].any isStar = false) : ¬ ([a, b].any fun | .Starred .. => true | _ => false) = true := by
  rw [(any_star h).1]; decide
theorem fm2 {f : Expr → Option Str} {u v : Expr} {x y : Str} (h1 : f u = some x) (h2 : f v = some y) : [u, v].filterMap f = [x, y] := by simp [List.filterMap_cons, h1, h2]
theorem fm1 {f : Expr → Option Str} {u v : Expr} (h : f u = none ∨ f v = none) : (([u, v].filterMap f).length != [u, v].length) = true := by
  rcases h with h | h
  · cases h2 : f v <;> simp [List.filterMap_cons, h, h2]
  · cases h2 : f u <;> simp [List.filterMap_cons, h, h2]
theorem sw_stores {env : PySem.Env} {sc : Scope} {x y : Str} {px py pt pt2 : Pos} {kt k2 : Nat} {a b : Expr} {bb : Bool} (hk : env.scope.kind = .function) (hsc : env.scope = sc) (h : parB sc x y px py [a, b] = some bb) :
    swappedStores [.Tuple [.Name x px, .Name y py] kt pt] (.Tuple [a, b] k2 pt2) env = pure (if bb then some [x, y] else none) ∧ x ≠ y ∧ NoStar a ∧ NoStar b ∧ (bb = true → sc.names.lookup x = some .local ∧ sc.names.lookup y = some .local) ∧ isLoc sc x = true ∧ isLoc sc y = true := by
  have hbk : env.blockKind = .function := by unfold PySem.Env.blockKind; rw [hk]; rfl
  unfold parB at h
  cases hst : ([a, b].any isStar) with
  | true => rw [hst, if_pos rfl] at h; cases h
  | false =>
    rw [hst, if_neg (by decide)] at h
    obtain ⟨s1, s2, s3⟩ := any_star hst
    by_cases hxy : x = y
    · rw [if_pos hxy] at h; cases h
    · rw [if_neg hxy] at h
      have kx : env.kindOf x = sc.names.lookup x := by rw [← hsc]; rfl
      have ky : env.kindOf y = sc.names.lookup y := by rw [← hsc]; rfl
      by_cases hc : (decide (sc.names.lookup x = some .local) && decide (sc.names.lookup y = some .local) && py.line == px.line) = true
      · rw [if_pos hc] at h
        simp only [Bool.and_eq_true, decide_eq_true_eq] at hc
        obtain ⟨⟨c1, c2⟩, c3⟩ := hc
        have lx : isLoc sc x = true := by unfold isLoc; rw [c1]
        have ly : isLoc sc y = true := by unfold isLoc; rw [c2]
        have e0 : swappedStores [.Tuple [.Name x px, .Name y py] kt pt] (.Tuple [a, b] k2 pt2) env = (if [a, b].all (foldedForSure 8) = true then pure none else if [a, b].all (constantsAlone 8) = true then (do let _ ← (unsupported "assign.tuple-of-constant-expressions:order-of-the-stores" : Sem Unit); pure (some [x, y])) else pure (some [x, y])) := by
          unfold swappedStores
          simp only [hbk]
          refine (if_neg (by simp)).trans ((if_neg (star_no hst)).trans ?_)
          have e1 : (env.kindOf x == some NameKind.local && px.line == px.line) = true := by rw [kx, c1]; simp
          have e2 : (env.kindOf y == some NameKind.local && py.line == px.line) = true := by rw [ky, c2, c3]; rfl
          rw [fm2 (x := x) (y := y) (if_pos e1) (if_pos e2)]
          refine (if_neg (by simp [List.eraseDups_cons, Ne.symm hxy, hxy])).trans ?_
          rfl
        rw [e0]
        by_cases f1 : [a, b].all (foldedForSure 8) = true
        · rw [if_pos f1] at h ⊢
          cases h
          exact ⟨rfl, hxy, s2, s3, nofun, lx, ly⟩
        · rw [if_neg f1] at h ⊢
          by_cases f2 : [a, b].all (constantsAlone 8) = true
          · rw [if_pos f2] at h; cases h
          · rw [if_neg f2] at h ⊢
            cases h
            exact ⟨rfl, hxy, s2, s3, fun _ => ⟨c1, c2⟩, lx, ly⟩
      · rw [if_neg hc] at h
        split at h
        · rename_i hl
          cases h
          simp only [Bool.and_eq_true] at hl
          refine ⟨?_, hxy, s2, s3, nofun, hl.1, hl.2⟩
          unfold swappedStores
          simp only [hbk]
          refine (if_neg (by simp)).trans ((if_neg (star_no hst)).trans (if_pos ?_))
          simp only [Bool.or_eq_true]
          left
          have hc' : ¬ ((env.kindOf x == some NameKind.local && px.line == px.line) = true ∧ (env.kindOf y == some NameKind.local && py.line == px.line) = true) := fun z => hc (by
            obtain ⟨z1, z2⟩ := z
            simp only [Bool.and_eq_true, beq_iff_eq] at z1 z2
            rw [← kx, ← ky, z1.1, z2.1, z2.2]; simp)
          refine fm1 ?_
          by_cases d1 : (env.kindOf x == some NameKind.local && px.line == px.line) = true
          · exact .inr (if_neg fun z => hc' ⟨d1, z⟩)
          · exact .inl (if_neg d1)
        · cases h

section
variable {X : Cx} {T : List (Addr × Str)} {C : Ctx} {N ms : List Str} {lam : Bool} {sc : Scope} {e e1 e2 e3 : Expr} {m m1 m2 m3 : E} {pos : Pos}
theorem store2 {ρ ρ1 : Env} {i j : Nat} {vs : List Val} (h : store ρ [i, j] vs = some ρ1) : ∃ v w, vs = [v, w] ∧ ρ1 = setSlot (setSlot ρ i v) j w := by
  match vs, h with
  | [v, w], h => cases h; exact ⟨v, w, rfl, rfl⟩
theorem c_par {x y : Str} {px py pt pt2 : Pos} {kt k2 : Nat} {a b : Expr} {bb : Bool} {i j : Nat} {ma mb : E} (g : Good T C N sc X) (hfn : ∀ x, X.fn x = true) (hi : slot N x = some i) (hj : slot N y = some j) (h : parB sc x y px py [a, b] = some bb)
    (ha : Snd T C X a ma) (hb : Snd T C X b mb) : PS X (.Assign [.Tuple [.Name x px, .Name y py] kt pt] (.Tuple [a, b] k2 pt2) pos) (TSv X.K T (evS C (.par [i, j] (.cons ma (.cons mb .nil))))) := by
  refine ⟨fun pins s σ H D I ⟨B, L, M, ρ, o, he, hw, hev, q⟩ => ?_⟩
  obtain ⟨hsw, hxy, na, nb, hloc, lx, ly⟩ := sw_stores (pt := pt) (pt2 := pt2) (kt := kt) (k2 := k2) I.ok.kind g.sc h
  have hN : X.N.Nodup := by rw [g.nn]; exact g.nd
  have hi' : X.N[i]? = some x := by rw [g.nn]; exact slot_get hi
  have hj' : X.N[j]? = some y := by rw [g.nn]; exact slot_get hj
  have hij : i ≠ j := fun z => by
    subst z
    exact hxy (Option.some.inj (hi'.symm.trans hj'))
  obtain ⟨⟨vs, M1⟩, h1, hev⟩ := bindE hev
  obtain ⟨ρ1, h2, e⟩ := mapE hev
  cases e
  obtain ⟨v, w, rfl, rfl⟩ := store2 h2
  have pa := a_args (SndEs.cons ha na (.cons hb nb .nil))
  cases bb with
  | true =>
    obtain ⟨kx, ky⟩ := hloc rfl
    refine (ps_par g.calm hN hi' hj' hij (by rw [g.sc]; exact kx) (by rw [g.sc]; exact ky) pa hsw (by rfl)).run pins s σ H D I ⟨B, L, M, ρ, _, M1, he, hw, h1, fun L1 H1 xs e1 w1 r1 => ?_⟩
    obtain ⟨x1, r, rfl, q1, x2, r', rfl, q2, q3⟩ := r1
    obtain rfl : r' = [] := q3
    exact ⟨x1, x2, rfl, q _ _ _ e1 w1 (((he.ext e1).set q1).set q2)⟩
  | false =>
    refine (ps_asg (pe_tup pa) (pg_tup g.calm (pgs_cons (pg_name hN hi' (by rw [g.sc]; exact isLoc_ok lx) (.inl (hfn x))) (pgs_cons (pg_name hN hj' (by rw [g.sc]; exact isLoc_ok ly) (.inl (hfn y))) pgs_nil))) (by rfl) hsw (by rfl)).run pins s σ H D I ⟨B, L, M, ρ, _, M1, he, hw, h1, fun L1 H1 xs e1 w1 r1 => ?_⟩
    obtain ⟨x1, r, rfl, q1, x2, r', rfl, q2, q3⟩ := r1
    obtain rfl : r' = [] := q3
    refine ⟨by rw [sizeLine_eq]; exact (by decide : 2 ≤ 16777216), fun p hp => ⟨p, [x1, x2], rfl, SqT.of upd_same, rfl, x1, _, rfl, x2, _, rfl, rfl, ?_⟩⟩
    have ue : Ext L1 H1 L1 (upd H1 p (.tup [x1, x2])) := upd_ext hp
    exact q _ _ _ (e1.trans ue) (w1.new hp) (((he.ext (e1.trans ue)).set (q1.ext ue)).set (q2.ext ue))
theorem c_retN : PS X (.Return none pos) (TSv X.K T (evS C (.ret (.cst .none)))) := ps_retN.imp fun D σ H ⟨B, L, M, ρ, o, he, hw, hev, q⟩ => by
  cases hev
  exact q _ _ _ Ext.refl hw rfl
theorem c_stAsg (hS : Sorting T C lam) (g : Good T C N sc X) (hl : lam = true → LamAt T X) (hfn : ∀ x, X.fn x = true) (ts : List Expr) (e : Expr) : PS X (.Assign ts e pos) (TSv X.K T (evS C (stAsg N ms lam sc ts e))) := by
  have nv : PS X (.Assign ts e pos) (TSv X.K T (evS C .bad)) := ps_none fun _ _ => rfl
  unfold stAsg
  split
  · refine ifb (P := fun m => PS X (.Assign _ e pos) (TSv X.K T (evS C m))) (fun hx => ?_) nv
    split
    · exact c_asg1 hS g hl hfn hx ‹_›
    · exact nv
  · split
    · exact c_par g hfn ‹_› ‹_› ‹_› (sndE hS _ sc X g hl).fresh (sndE hS _ sc X g hl).fresh
    · exact nv
  · refine ifb (P := fun m => PS X (.Assign _ e pos) (TSv X.K T (evS C m))) (fun hx => ?_) nv
    split
    · exact c_asgT g hfn (sndE hS e sc X g hl) ‹_› (by simpa using hx)
    · exact nv
  · refine ifb (P := fun m => PS X (.Assign _ e pos) (TSv X.K T (evS C m))) (fun hx => ?_) nv
    exact c_setI hx (sndE hS e sc X g hl) (sndE hS _ sc X g hl) (sndE hS _ sc X g hl)
  · exact nv
theorem star_ns {e : Expr} (h : isStar e = false) : NoStar e := noStar_of fun x p z => by rw [z] at h; cases h
theorem c_stExp (hS : Sorting T C lam) (g : Good T C N sc X) (hl : lam = true → LamAt T X) (e : Expr) : PS X (.Expr e pos) (TSv X.K T (evS C (stExp N lam sc e))) := by
  have nv : PS X (.Expr e pos) (TSv X.K T (evS C .bad)) := ps_none fun _ _ => rfl
  unfold stExp
  split
  · refine ifb (P := fun m => PS X (.Expr _ pos) (TSv X.K T (evS C m))) (fun hx => ?_) nv
    simp only [Bool.and_eq_true, Bool.not_eq_true'] at hx
    split
    · rename_i hm
      subst hm
      exact c_app hx.1 (s_name g) (sndE hS _ sc X g hl) (star_ns hx.2)
    · split
      · rename_i _ hm
        subst hm
        exact c_ext hx.1 (s_name g) (sndE hS _ sc X g hl) (star_ns hx.2)
      · exact nv
  · exact c_exp rfl (sndE hS _ sc X g hl)
  · exact nv
mutual
theorem sndS (hS : Sorting T C lam) (g : Good T C N sc X) (hl : lam = true → LamAt T X) (hfn : ∀ x, X.fn x = true) (hp : PassesOwn (model X.prog X.w) X.A X.env X.xe) : ∀ (st : Stmt), PS X st (TSv X.K T (evS C (stS N ms lam st sc)))
  | .Assign ts e p => c_stAsg hS g hl hfn ts e
  | .Expr e p => c_stExp hS g hl e
  | .Return none p => c_retN
  | .Return (some e) p => c_ret (sndE hS e sc X g hl).fresh
  | .If c a b p => c_if (sndE hS c sc X g hl) (sndSs hS g hl hfn hp a) (sndSs hS g hl hfn hp b)
  | .For t it body [] p => by
    show PS X _ (TSv X.K T (evS C (if _ then _ else _)))
    refine ifb (P := fun m => PS X (.For t it body [] p) (TSv X.K T (evS C m))) (fun hx => ?_) (ps_none fun _ _ => rfl)
    simp only [Bool.and_eq_true, Bool.or_eq_true, Bool.not_eq_true'] at hx
    split
    · exact c_for hp g hfn ‹_› (i_it g (sndE hS it sc X g hl) fun z => hx.2.resolve_left (by rw [z]; nofun)) (fs_of fun es k p e => by rw [e] at hx; cases hx.1) (sndSs hS g hl hfn hp body)
    · exact ps_none fun _ _ => rfl
  | .While c body [] p => c_while hp (sndE hS c sc X g hl) (sndSs hS g hl hfn hp body)
  | .Pass p => c_pass
  | .FunctionDef .. => ps_none fun _ _ => rfl
  | .AsyncFunctionDef .. => ps_none fun _ _ => rfl
  | .ClassDef .. => ps_none fun _ _ => rfl
  | .Delete .. => ps_none fun _ _ => rfl
  | .TypeAlias .. => ps_none fun _ _ => rfl
  | .AugAssign .. => ps_none fun _ _ => rfl
  | .AnnAssign .. => ps_none fun _ _ => rfl
  | .For _ _ _ (_ :: _) _ => ps_none fun _ _ => rfl
  | .AsyncFor .. => ps_none fun _ _ => rfl
  | .While _ _ (_ :: _) _ => ps_none fun _ _ => rfl
  | .With .. => ps_none fun _ _ => rfl
  | .AsyncWith .. => ps_none fun _ _ => rfl
  | .Match .. => ps_none fun _ _ => rfl
  | .Raise .. => ps_none fun _ _ => rfl
  | .Try .. => ps_none fun _ _ => rfl
  | .TryStar .. => ps_none fun _ _ => rfl
  | .Assert .. => ps_none fun _ _ => rfl
  | .Import .. => ps_none fun _ _ => rfl
  | .ImportFrom .. => ps_none fun _ _ => rfl
  | .Global .. => ps_none fun _ _ => rfl
  | .Nonlocal .. => ps_none fun _ _ => rfl
  | .Break .. => ps_none fun _ _ => rfl
  | .Continue .. => ps_none fun _ _ => rfl
theorem sndSs (hS : Sorting T C lam) (g : Good T C N sc X) (hl : lam = true → LamAt T X) (hfn : ∀ x, X.fn x = true) (hp : PassesOwn (model X.prog X.w) X.A X.env X.xe) : ∀ (sts : List Stmt), PSs X sts (TSv X.K T (evSs C (stSs N ms lam sts sc)))
  | [] => c_nil
  | st :: r => c_cons (sndS hS g hl hfn hp st) (sndSs hS g hl hfn hp r)
end
end
end Mi
set_option maxHeartbeats 4000000
/-! M11: defs, by their depth of calls; the law's end. -/
namespace Mi
open PySem PySem.Spec PyProof.Rows L2

structure Row where
  name : Str
  st : Stmt
  N : List Str
  ps : List Str
  ms : List Str
  lam : Bool
  cell : Bool
def Row.fd (r : Row) : FDef := ⟨r.ps.length, r.N.length, stSs r.N r.ms r.lam (defBody r.st) (defScope r.st), r.cell⟩
def tabOf (rs : List Row) (f : Str) : Option FDef := (rs.find? (fun r => decide (r.name = f))).map Row.fd
/-- def f(x): return (len(x), x) -/
def bySzD (st : Stmt) : Bool := match szArgs (defArgs st), defBody st with
  | some x, [.Return (some e) _] => szBody x e && szScope x (defScope st)
  | _, _ => false
theorem szD_ok {st : Stmt} (h : bySzD st = true) : ∃ x e pos, szArgs (defArgs st) = some x ∧ defBody st = [.Return (some e) pos] ∧ szBody x e = true ∧ szScope x (defScope st) = true := by
  unfold bySzD at h
  split at h
  · rename_i h1 h2
    simp only [Bool.and_eq_true] at h
    exact ⟨_, _, _, h1, h2, h.1, h.2⟩
  · cases h
/-- a def of the text, in the heap -/
structure FunX (T : List (Addr × Str)) (K : PySem.W.Frag) (mg : Str → Option Value) (base : Heap) (r : Row) (fa : Addr) (fd : FuncData) : Prop where
  ex : ∃ (oc : Value) (od : Option Addr) (kV doc pm : Value) (an : Option Addr) (cdv ct : Value) (osl : Array (Option Value)),
    fd = PySem.W.fnOf r.name r.name (defArgs r.st) (defBody r.st) (defScope r.st) .none kV doc pm an cdv ct ∧ K.lookup fa = some ⟨oc, od, .func fd, osl⟩ ∧ PySem.W.codeIn K cdv r.name = true ∧
    (r.lam = true → ∃ c P, cdv = .ref c ∧ LamX.TabB base mg c P ∧ (P, r.name ++ ".<locals>." ++ "<lambda>") ∈ T ∧ ∀ p ∈ T, p.1 = P → p.2 = r.name ++ ".<locals>." ++ "<lambda>")
  kp : PySem.W.keepIn K (.ref fa) = true
  binds : Binds K fd r.ps []
  scope : FnScope r.N r.ps (defScope r.st)
  glob : mg r.name = some (.ref fa)
section
variable {K : PySem.W.Frag} {T : List (Addr × Str)} {H H1 : Hp} {L L1 B : List Addr} {M M1 : MH}
theorem grow_sub {k : Nat} : Grow H (L1 ++ B) H (L1.take k ++ B) := ⟨fun a o h _ _ => h, fun a ha => .inl (by
  rcases List.mem_append.mp ha with z | z
  · exact List.mem_append_left _ (List.mem_of_mem_take z)
  · exact List.mem_append_right _ z)⟩
theorem Wd.take (w : Wd K T B L1 M1 H1) (k : Nat) : Wd K T B (L1.take k) (M1.take k) H1 := by
  refine ⟨w.tabs, by rw [List.length_take, List.length_take, w.len], w.nd.sublist (List.take_sublist _ _), fun i a c h1 h2 => ?_, w.blk, fun b hb hm => w.dis b hb (List.mem_of_mem_take hm)⟩
  have hi : i < k := by
    have := (List.getElem?_eq_some_iff.mp h1).1
    rw [List.length_take] at this
    omega
  rw [List.getElem?_take_of_lt hi] at h1 h2
  have q := w.cell i a c h1 h2
  cases c with
  | lst ds =>
    obtain ⟨xs, q1, q2⟩ := q
    exact ⟨xs, q1, RDs.grow grow_sub ds xs q2⟩
theorem Ext.take (e : Ext L H L1 H1) {k : Nat} (hk : L.length ≤ k) : Ext L H (L1.take k) H1 := by
  obtain ⟨n, en, hn⟩ := e.new
  refine ⟨e.keep, e.there, n.take (k - L.length), ?_, fun a ha => hn a (List.mem_of_mem_take ha)⟩
  rw [en, List.take_append, List.take_of_length_le hk]
theorem take_all (w : Wd K T B L M H) (e : Ext L H L1 H1) : L1.take M.length = L := by
  obtain ⟨n, en, _⟩ := e.new
  rw [en, ← w.len, List.take_append_of_le_length (Nat.le_refl _), List.take_length]
/-- what is handed on -/
theorem hand_run {keep : Bool} {v0 v : Val} {M' : MH} {x : V} (w : Wd K T B L M H) (e : Ext L H L1 H1) (w1 : Wd K T B L1 M1 H1) (r : RV K H1 L1 B v0 x) (h : handOn keep M.length v0 M1 = some (v, M')) :
    ∃ L', Ext L H L' H1 ∧ Wd K T B L' M' H1 ∧ RV K H1 L' B v x := by
  have e0 : Ext L H (L1.take M.length) H1 := e.take (by rw [w.len]; exact Nat.le_refl _)
  have w0 := w1.take M.length
  cases v0 with
  | d d =>
    cases (show some (Val.d d, M1.take M.length) = some (v, M') from h)
    exact ⟨_, e0, w0, RD.grow grow_sub d x r⟩
  | scr ns => cases (show (none : Option (Val × MH)) = some (v, M') from h)
  | ref m =>
    have h : (if m < M.length then some (Val.ref m, M1.take M.length) else if keep then (if m = M.length then some (Val.ref m, M1.take (M.length + 1)) else none) else match M1[m]? with | some (.lst xs) => some (.d (.list xs), M1.take M.length) | none => none) = some (v, M') := h
    obtain ⟨a, ha, rfl⟩ := r
    split at h
    · rename_i hm
      cases h
      exact ⟨_, e0, w0, a, by rw [List.getElem?_take_of_lt hm]; exact ha, rfl⟩
    · rename_i hm
      split at h
      · split at h
        · cases h
          exact ⟨_, e.take (by rw [w.len]; exact Nat.le_succ _), w1.take _, a, by rw [List.getElem?_take_of_lt (by omega)]; exact ha, rfl⟩
        · cases h
      · split at h
        · rename_i ds hd
          cases h
          obtain ⟨xs, hx, rx⟩ := w1.cell m a _ ha hd
          refine ⟨_, e0, w0, a, xs, rfl, ⟨hx, fun hz => ?_⟩, RDs.grow grow_sub ds xs rx⟩
          rcases List.mem_append.mp hz with z | z
          · obtain ⟨j, hj, ej⟩ := List.getElem_of_mem z
            have hj2 : j < M.length := by rw [List.length_take] at hj; omega
            have : L1[j]? = some a := by
              rw [List.getElem_take] at ej
              have hjl : j < L1.length := by rw [List.length_take] at hj; omega
              rw [List.getElem?_eq_getElem hjl, ej]
            have := nd_ix w1.nd ha this
            omega
          · exact w1.dis a z (List.mem_of_getElem? ha)
        · cases h
theorem envR_start {N : List Str} : ∀ {vs : List Val} {xs : List V}, RVs K H L B vs xs → EnvR K H L B (startE N.length vs) (L2.start N xs) := by
  intro vs xs h
  have hl := h.length
  refine ⟨?_, fun i v e => ?_⟩
  · unfold startE L2.start
    simp only [List.length_append, List.length_map, List.length_replicate]
    omega
  · unfold startE at e
    unfold L2.start
    by_cases hi : i < vs.length
    · rw [List.getElem?_append_left (by rw [List.length_map]; exact hi), List.getElem?_map] at e
      rw [List.getElem?_append_left (by rw [List.length_map]; omega), List.getElem?_map]
      obtain ⟨v', hv, e'⟩ := mapE e
      cases e'
      have get : ∀ {vs : List Val} {xs : List V} {i : Nat} {v : Val}, RVs K H L B vs xs → vs[i]? = some v → ∃ x, xs[i]? = some x ∧ RV K H L B v x := by
        intro vs
        induction vs with
        | nil => intro xs i v _ q; simp at q
        | cons u us ih =>
          intro xs i v ⟨x, r, ex, h1, h2⟩ q
          subst ex
          cases i with
          | zero => cases (show some u = some v from q); exact ⟨x, rfl, h1⟩
          | succ i =>
            obtain ⟨y, a, b⟩ := ih h2 (by simpa using q)
            exact ⟨y, by simpa using a, b⟩
      obtain ⟨x, hx, rx⟩ := get h hv
      exact ⟨x, by rw [hx]; rfl, rx⟩
    · rw [List.getElem?_append_right (by rw [List.length_map]; omega), List.getElem?_replicate] at e
      split at e <;> cases e
end

/-- what the top must have left -/
structure TopOk (T : List (Addr × Str)) (K : PySem.W.Frag) (mg : Str → Option Value) (base : Heap) (rs : List Row) (cst : Str → Option D) : Prop where
  bn : ∀ x ∈ bnames, mg x = none
  cst : ∀ x d, cst x = some d → ∃ u v, mg x = some u ∧ RelV v u ∧ ∀ H Z, RD K H Z d v
  fns : ∀ r ∈ rs, ∃ fa fd, FunX T K mg base r fa fd
theorem nx_of_find {rs : List Row} {f : Str} {fd : FDef} (h : tabOf rs f = some fd) : ∃ r ∈ rs, r.name = f ∧ fd = r.fd := by
  obtain ⟨r, hr, e⟩ := mapE h
  have hd := List.find?_some (p := fun r : Row => decide (r.name = f)) hr
  exact ⟨r, List.mem_of_find?_eq_some hr, of_decide_eq_true hd, e.symm⟩
section
variable {P : Program} {w : World} {K : PySem.W.Frag} {T : List (Addr × Str)} {mg : Str → Option Value} {base : Heap} {rs : List Row} {cst : Str → Option D} {fuel : Nat} {bys : Str → Bool}
theorem call_len {n : Nat} {f : Str} {vs : List Val} {M : MH} {r : Val × MH} {fd : FDef} (ht : tabOf rs f = some fd) (h : callF (tabOf rs) cst fuel bys n f vs M = some r) : vs.length = fd.np := by
  cases n with
  | zero => cases h
  | succ n =>
    have h : ((tabOf rs f).bind fun fd => if vs.length = fd.np then (evSs ⟨cst, callF (tabOf rs) cst fuel bys n, fuel, bys⟩ fd.body (startE fd.nl vs) M).bind fun o => match o with
        | .rt v M1 => handOn fd.cell M.length v M1
        | .nx _ M1 => some (.d .none, M1.take M.length) else none) = some r := h
    rw [ht] at h
    have h : (if vs.length = fd.np then _ else none) = some r := h
    split at h
    · assumption
    · cases h
theorem fn_all (G : TopOk T K mg base rs cst) (hby : ∀ f, bys f = true → ∃ r ∈ rs, r.name = f ∧ bySzD r.st = true) (hS : ∀ n lam, Sorting T ⟨cst, callF (tabOf rs) cst fuel bys n, fuel, bys⟩ lam) : ∀ n f vs M r, callF (tabOf rs) cst fuel bys n f vs M = some r →
    ∃ fa fd ps, FnOk P w K mg base CX0 (n + 4) fa fd ps (spM K T (callF (tabOf rs) cst fuel bys n) ps.length f) ∧ mg f = some (.ref fa) ∧ PySem.W.keepIn K (.ref fa) = true ∧ Binds K fd ps [] ∧ (∀ vs M r, callF (tabOf rs) cst fuel bys n f vs M = some r → vs.length = ps.length) ∧ ∃ r ∈ rs, r.name = f ∧ r.ps = ps ∧ FunX T K mg base r fa fd
  | 0, _, _, _, _, h => nomatch h
  | n + 1, f, vs0, M0, r0, h0 => by
    have IH := fn_all G hby hS n
    cases ht : tabOf rs f with
    | none =>
      have h : ((tabOf rs f).bind fun fd => if vs0.length = fd.np then (evSs ⟨cst, callF (tabOf rs) cst fuel bys n, fuel, bys⟩ fd.body (startE fd.nl vs0) M0).bind fun o => match o with
        | .rt v M1 => handOn fd.cell M0.length v M1
        | .nx _ M1 => some (.d .none, M1.take M0.length) else none) = some r0 := h0
      rw [ht] at h
      cases h
    | some fdef =>
      obtain ⟨r, hr, rfl, rfl⟩ := nx_of_find ht
      obtain ⟨fa, fd, F⟩ := G.fns r hr
      refine ⟨fa, fd, r.ps, ?_, F.glob, F.kp, F.binds, fun vs M r' h => call_len ht h, r, hr, rfl, rfl, F⟩
      obtain ⟨oc, od, kV, doc, pm, an, cdv, ct, osl, rfl, lk, hcd, hlam⟩ := F.ex
      refine fn_of lk hcd F.scope (fun vs H Q E h => h.1) fun A outer s H vs Q E hr2 hsp => ?_
      obtain ⟨hlen, B, L, M, us, v, M', ru, hw, hev, q⟩ := hsp
      let X : Cx := (cxOf CX0 P w K mg base r.N r.name (defScope r.st) fa cdv A outer s H E).nox
      have good : Good T ⟨cst, callF (tabOf rs) cst fuel bys n, fuel, bys⟩ r.N (defScope r.st) X := by
        refine ⟨rfl, rfl, F.scope.nd, rfl, hr2.units, G.bn, G.cst, fun g us M r' h => ⟨?_⟩, hr2.mono (by omega), fun g hg => ?_⟩
        · obtain ⟨ga, gd, gps, g1, g2, g3, g4, g5, _⟩ := IH g us M r' h
          exact ⟨n + 4, ga, gd, gps, g1, hr2.mono (by omega), g2, g3, g4, g5⟩
        · obtain ⟨r', hr', rfl, hd⟩ := hby g hg
          obtain ⟨ga, gd, F'⟩ := G.fns r' hr'
          obtain ⟨oc', od', kV', doc', pm', an', cdv', ct', osl', rfl, lk', hcd', _⟩ := F'.ex
          obtain ⟨x, e, pos, a1, a2, a3, a4⟩ := szD_ok hd
          exact ⟨ga, oc', od', _, x, e, pos, _, kV', doc', pm', cdv', ct', an', osl', F'.glob, by rw [← a2]; exact lk', hcd', a1, a3, a4⟩
      have hl : r.lam = true → LamAt T X := fun z => by
        obtain ⟨c, Pt, e, tb, m1, m2⟩ := hlam z
        exact ⟨c, Pt, e, tb, m1, m2⟩
      refine ⟨_, (sndSs (ms := r.ms) (hS n r.lam) good hl (fun _ => rfl) PassesOwn.never (defBody r.st)).nox, ?_⟩
      have hev : ((tabOf rs r.name).bind fun fd => if us.length = fd.np then (evSs ⟨cst, callF (tabOf rs) cst fuel bys n, fuel, bys⟩ fd.body (startE fd.nl us) M).bind fun o => match o with
        | .rt v M1 => handOn fd.cell M.length v M1
        | .nx _ M1 => some (.d .none, M1.take M.length) else none) = some (v, M') := hev
      rw [ht] at hev
      have hev : (if us.length = r.fd.np then (evSs ⟨cst, callF (tabOf rs) cst fuel bys n, fuel, bys⟩ r.fd.body (startE r.fd.nl us) M).bind fun o => match o with
        | .rt v M1 => handOn r.fd.cell M.length v M1
        | .nx _ M1 => some (.d .none, M1.take M.length) else none) = some (v, M') := hev
      by_cases hnp : us.length = r.fd.np
      case neg =>
        rw [if_neg hnp] at hev
        cases hev
      rw [if_pos hnp] at hev
      obtain ⟨o, ho, hev⟩ := bindE hev
      refine ⟨B, L, M, startE r.N.length us, o, envR_start ru, hw, ho, ?_⟩
      cases o with
      | nx ρ1 M1 =>
        cases (show some (Val.d PyData.none, M1.take M.length) = some (v, M') from hev)
        exact fun L1 H1 σ1 e1 w1 _ => q _ _ _ (e1.take (by rw [hw.len]; exact Nat.le_refl _)) (w1.take _) rfl
      | rt v0 M1 =>
        exact fun L1 H1 x e1 w1 r1 => by
          obtain ⟨L', a, b, c⟩ := hand_run hw e1 w1 r1 hev
          exact q _ _ _ a b c
end
end Mi
set_option maxHeartbeats 4000000
/-! M12: sorting. -/
namespace Mi
open PySem PySem.Spec PySem.Calls PyProof.Rows PySem.W L2
section
variable {prog : Program} {w : World} {A : Around} {E : Value → Shared → Prop} {s : Shared} {vs : List Value}
theorem sorted_from {v : Value} {kw : List (Str × Value)} {Q : Value → Shared → Prop} (hL : vs.length ≤ sizeLine) (ha1 : argsOk "sorted" ⟨[v], kw⟩)
    (hcol : ∀ (A' : Around) (E' : Value → Shared → Prop) (Q' : List Value → Shared → Prop), (∀ h' : Heap, (∀ b o, s.heap.get? b = some o → h'.get? b = some o) → Q' vs { s with heap := h' }) → wpAny (model prog w) A' (collect v) Q' E' s)
    (body : ∀ h' : Heap, (∀ b o, s.heap.get? b = some o → h'.get? b = some o) → ∀ E', wpAny (model prog w) A.in1 (call (.builtin "list.sort") [.ref h'.objs.size] kw) (fun _ s' => Q (.ref h'.objs.size) s') E' { s with heap := h'.push (seqObj "list" vs.toArray 0) }) :
    wpAny (model prog w) A (call (.builtin "sorted") [v] kw) Q E s := by
  refine call_function_entry_kw kind_sorted plain_sorted entry_sorted ha1 ?_
  unfold Builtin.«sorted»
  refine wpAny_bind (m := checkCount "sorted" 1 1 _) (wpAny_pure ?_)
  refine wpAny_bind (hcol _ _ _ fun h' hk => ?_)
  refine wpAny_bind (wpAny_newList ?_ hL)
  refine wpAny_bind (wpAny_holding (wpAny_mono (body h' hk _) (fun _ s' hq => ?_) fun _ _ e => e))
  exact wpAny_pure ⟨_, rfl, hq⟩
end

/-! ### the order -/
def tk : List Int → List (Int ⊕ List Nat)
  | [] => [.inl 0]
  | i :: r => .inl 1 :: .inl i :: tk r
theorem toks_ints : ∀ {xs : List D} {ns : List Int}, intsOf xs = some ns → keyToksAll xs = tk ns
  | [], ns, h => by cases h; simp [keyToksAll, tk]
  | .int i :: xs, ns, h => by
    obtain ⟨r, hr, rfl⟩ := mapE (show (intsOf xs).map (i :: ·) = some ns from h)
    rw [keyToksAll, keyToks, toks_ints hr]
    rfl
  | .none :: _, _, h | .bool _ :: _, _, h | .str _ :: _, _, h | .list _ :: _, _, h | .tuple _ :: _, _, h | .dict _ :: _, _, h => nomatch h
theorem lex_ints : ∀ a b : List Int, lexLt itemOrd (tk a) (tk b) = ltL a b
  | [], [] => by decide
  | [], _ :: _ => by
    show lexLt itemOrd (.inl 0 :: []) (.inl 1 :: _ :: _) = true
    rw [lex_diff (O := itemOrd) (by simp)]
    rfl
  | _ :: _, [] => by
    show lexLt itemOrd (.inl 1 :: _ :: _) (.inl 0 :: []) = false
    rw [lex_diff (O := itemOrd) (by simp)]
    rfl
  | x :: a, y :: b => by
    show lexLt itemOrd (.inl 1 :: .inl x :: tk a) (.inl 1 :: .inl y :: tk b) = ltL (x :: a) (y :: b)
    rw [lex_self (O := itemOrd), ltL]
    by_cases h : x = y
    · subst h
      rw [lex_self (O := itemOrd), if_pos rfl]
      exact lex_ints a b
    · rw [lex_diff (O := itemOrd) (by simpa using h), if_neg h]
      rfl
/-- both ints, or both tuples -/
def samek : D → D → Bool
  | .int _, .int _ => true
  | .tuple _, .tuple _ => true
  | _, _ => false
theorem row_D {d : D} {r : List Int} (h : rowOf d = some r) : rowD d = r := by unfold rowD; rw [h]; rfl
theorem le_rows {x y : D} {a b : List Int} (hx : rowOf x = some a) (hy : rowOf y = some b) (hk : samek x y = true) : dataLe (β := D) false id x y = leD x y := by
  rw [dataLe_eq]
  show (!lexLt itemOrd (keyToks y) (keyToks x)) = _
  unfold leD
  rw [row_D hx, row_D hy]
  cases x with
  | int i =>
    cases y with
    | int j =>
      cases hx
      cases hy
      rw [keyToks, keyToks]
      congr 1
      by_cases h : j = i
      · subst h
        rw [lex_self (O := itemOrd)]
        simp [ltL]
        rfl
      · rw [lex_diff (O := itemOrd) (by simpa using h), ltL, if_neg h]
        rfl
    | _ => cases hk
  | tuple xs =>
    cases y with
    | tuple ys => rw [keyToks, keyToks, toks_ints hx, toks_ints hy, lex_ints]
    | _ => cases hk
  | _ => cases hx
theorem rows_mem : ∀ {xs : List D} {rs : List (List Int)}, rowsOf xs = some rs → ∀ d ∈ xs, ∃ r, rowOf d = some r
  | [], _, _, _, h => nomatch h
  | x :: xs, rs, h, d, hd => by
    obtain ⟨a, ha, h⟩ := bindE (show (rowOf x).bind (fun a => (rowsOf xs).map (a :: ·)) = some rs from h)
    obtain ⟨bs, hb, _⟩ := mapE h
    rcases List.mem_cons.mp hd with e | e
    · rw [e]; exact ⟨a, ha⟩
    · exact rows_mem hb d e
/-! ### values and data, item by item -/
section
variable {X : Cx} {pins : List (Addr × Obj)} {σ : L2.St} {H : Hp} {s : Shared} {Z : List Addr}
abbrev RR (K : PySem.W.Frag) (H : Hp) (Z : List Addr) : Value → D → Prop := fun v d => ∃ x, RelV x v ∧ RD K H Z d x
theorem each_of : ∀ {xs : List V} {vs : List Value} {ds : List D}, Vals xs vs → RDs X.K H Z ds xs → EachIs (RR X.K H Z) vs ds
  | _, _, [], r, h => by
    cases (show _ = [] from h)
    cases r
    exact .nil
  | _, _, d :: ds, r, ⟨x, xs, e, h1, h2⟩ => by
    subst e
    cases r with
    | cons r1 r2 => exact .cons ⟨x, r1, h1⟩ (each_of r2 h2)
theorem of_each : ∀ {vs : List Value} {ds : List D}, EachIs (RR X.K H Z) vs ds → ∃ zs, Vals zs vs ∧ RDs X.K H Z ds zs
  | _, _, .nil => ⟨[], .nil, rfl⟩
  | _, _, .cons ⟨x, r, h⟩ t => by
    obtain ⟨zs, a, b⟩ := of_each t
    exact ⟨x :: zs, .cons r a, x, zs, rfl, h, b⟩
theorem ints_reads {h : Heap} : ∀ {ns : List Int} {us : List Value}, Vals (ns.map V.int) us → ReadsAll h us (ns.map .int) []
  | [], _, r => by
    cases r
    exact .nil
  | n :: ns, _, r => by
    cases r with
    | cons r1 r2 =>
      obtain ⟨t, rfl⟩ := r1
      exact .cons (.int n t) (ints_reads r2)
theorem ints_back : ∀ {xs : List D} {ns : List Int}, intsOf xs = some ns → xs = ns.map .int
  | [], ns, h => by cases h; rfl
  | .int i :: xs, ns, h => by
    obtain ⟨r, hr, rfl⟩ := mapE (show (intsOf xs).map (i :: ·) = some ns from h)
    rw [ints_back hr]
    rfl
  | .none :: _, _, h | .bool _ :: _, _, h | .str _ :: _, _, h | .list _ :: _, _, h | .tuple _ :: _, _, h | .dict _ :: _, _, h => nomatch h
theorem row_reads (I : Inv X pins σ H s) {d : D} {r : List Int} {v : Value} (h : rowOf d = some r) (rr : RR X.K H Z v d) : Reads s.heap v d [] := by
  obtain ⟨x, rx, rd⟩ := rr
  cases d with
  | int i =>
    obtain rfl : x = .int i := rd
    obtain ⟨t, rfl⟩ := rx
    exact .int i t
  | tuple ds =>
    obtain ⟨a, xs, rfl, ta, rs⟩ := rd
    obtain rfl : v = Value.ref a := rx
    obtain ⟨its, rv, ⟨o, e1, e2, n, e3⟩, _⟩ := I.tuple ta.sq
    have hx := ints_of (X := X) rs h
    have hd := ints_back h
    subst hx
    rw [hd]
    exact .tuple e1 e2 e3 (by simpa using ints_reads rv)
  | _ => cases h
theorem row_depth {d : D} {r : List Int} (h : rowOf d = some r) : d.depth ≤ 1 := by
  cases d with
  | int i => simp [PyData.depth]
  | tuple ds => rw [ints_back h, PyData.depth, depth_ints]; exact Nat.le_refl _
  | _ => cases h
theorem row_alike {d d' : D} {r r' : List Int} (h : rowOf d = some r) (h' : rowOf d' = some r') (hi : (∃ i, d = .int i) ↔ ∃ i, d' = .int i) : alike d d' = true := by
  cases d with
  | int i =>
    obtain ⟨j, rfl⟩ := hi.mp ⟨i, rfl⟩
    simp [alike]
  | tuple ds =>
    cases d' with
    | int j => obtain ⟨i, e⟩ := hi.mpr ⟨j, rfl⟩; cases e
    | tuple es => rw [ints_back h, ints_back h', alike]; exact alike_ints _ _
    | _ => cases h'
  | _ => cases h
theorem allInts_mem : ∀ {xs : List D}, allInts xs = true → ∀ d ∈ xs, ∃ i, d = .int i
  | [], _, _, h => nomatch h
  | .int i :: xs, h, d, hd => by
    rcases List.mem_cons.mp hd with e | e
    · exact ⟨i, e⟩
    · exact allInts_mem (xs := xs) h d e
  | .none :: _, h, _, _ | .bool _ :: _, h, _, _ | .str _ :: _, h, _, _ | .list _ :: _, h, _, _ | .tuple _ :: _, h, _, _ | .dict _ :: _, h, _, _ => nomatch h
theorem neT_mem {d : D} (h : neT d = true) : ∃ x r, d = .tuple (x :: r) := by
  unfold neT at h
  split at h
  · exact ⟨_, _, rfl⟩
  · cases h
theorem short_sort {α : Type} {le : α → α → Bool} {l : List α} (h : l.length ≤ 1) : l.mergeSort le = l := by
  match l, h with
  | [], _ => simp
  | [a], _ => simp
theorem short_perm {α : Type} {l m : List α} (h : l.length ≤ 1) (p : m.Perm l) : m = l := by
  match l, h with
  | [], _ => exact p.eq_nil
  | [a], _ => exact List.perm_singleton.mp p
/-- the new list sorted where it stands -/
theorem sort_body (I1 : Inv X pins σ H s) (hu : X.A.units + 64 < cLine) {vs : List Value} {ds ys : List D} {Q : VK} (each : EachIs (RR X.K H Z) vs ds) (hz : vs.length ≤ sizeLine) (ld : vs.length = ds.length) (hs : sortD ds = some ys)
    (q : ∀ p zs, H p = none → RDs X.K H Z ys zs → Q (.ref p) (upd H p (.lst zs))) {E' : Value → Shared → Prop} :
    wpAny (model X.prog X.w) X.A.in1 (call (.builtin "list.sort") [.ref s.heap.objs.size]) (fun _ s' => EP X pins σ Q (.ref s.heap.objs.size) s') E' { s with heap := s.heap.push (seqObj "list" vs.toArray 0) } := by
  have ho : (s.heap.push (seqObj "list" vs.toArray 0)).get? s.heap.objs.size = some (seqObj "list" vs.toArray 0) := Heap.get?_push_size _ rfl
  have I2 : Inv X pins σ H { s with heap := s.heap.push (seqObj "list" vs.toArray 0) } := I1.kept (t' := s.toks) fun b o e => Heap.get?_push_of_some _ e
  have fin : ∀ out : List Value, out.length = vs.length → EachIs (RR X.K H Z) out ys → EP X pins σ Q (.ref s.heap.objs.size) { s with heap := sortedHeap (s.heap.push (seqObj "list" vs.toArray 0)) s.heap.objs.size vs out.toArray } := fun out hl he => by
    obtain ⟨zs, rz, rds⟩ := of_each (X := X) he
    have hzl := rz.length
    obtain ⟨ep, he'⟩ := sortedHeap_at (out := out.toArray) ho
    refine ⟨.ref s.heap.objs.size, upd H s.heap.objs.size (.lst zs), I1.laid (t' := s.toks) (fun b u e => ?_) (Nat.le_refl _) ⟨by omega, out, ep, rz, he'⟩, rfl, q _ _ (I1.hok.fresh (Nat.le_refl _)) rds⟩
    have hb : b ≠ s.heap.objs.size := Nat.ne_of_lt (Heap.lt_size e)
    rw [sortedHeap_old hb (by rw [Heap.size_push]; exact Nat.lt_succ_of_lt (Heap.lt_size e))]
    exact Heap.get?_push_of_some _ e
  unfold sortD at hs
  split at hs
  · rename_i hc
    cases hs
    simp only [Bool.and_eq_true, Bool.or_eq_true, decide_eq_true_eq] at hc
    obtain ⟨hc, hrow⟩ := hc
    obtain ⟨rows, hrows⟩ := Option.isSome_iff_exists.mp hrow
    have hm := rows_mem hrows
    by_cases h1 : ds.length ≤ 1
    · refine wpAny_call_entry slot_list_sort ⟨_, ho, rfl⟩ entry_list_sort (Srt.list_sort_any (vs := vs) ho (by omega) (fun h2 => by omega) fun out hp => ⟨.none, rfl, ?_⟩) (args_list_sort _)
      have eo : out = vs := short_perm (by omega) hp
      subst eo
      rw [short_sort h1] at fin
      exact fin _ rfl each
    · have hk : (∀ d ∈ ds, ∃ i, d = .int i) ∨ ∀ d ∈ ds, ∃ x r, d = .tuple (x :: r) := by
        rcases hc with (z | z) | z
        · exact .inl (allInts_mem z)
        · exact .inr fun d hd => neT_mem (List.all_eq_true.mp z d hd)
        · exact absurd z h1
      have sk : ∀ d ∈ ds, ∀ d' ∈ ds, samek d d' = true := fun d hd d' hd' => by
        rcases hk with z | z
        · obtain ⟨i, rfl⟩ := z d hd
          obtain ⟨j, rfl⟩ := z d' hd'
          rfl
        · obtain ⟨x, r, rfl⟩ := z d hd
          obtain ⟨x', r', rfl⟩ := z d' hd'
          rfl
      have e2 : ds.mergeSort (dataLe (β := D) false id) = ds.mergeSort leD := sort_congr fun a ha b hb => by
        obtain ⟨ra, ea⟩ := hm a ha
        obtain ⟨rb, eb⟩ := hm b hb
        exact le_rows ea eb (sk a ha b hb)
      have er : EachIs (fun v b => ∃ as, Reads (s.heap.push (seqObj "list" vs.toArray 0)) v (id b) as ∧ s.heap.objs.size ∉ as) vs ds := (each_mem each).mono fun u d ⟨rr, hd⟩ => by
        obtain ⟨r, er⟩ := hm d hd
        exact ⟨[], row_reads I2 er rr, by simp⟩
      have hal : AllAlike (ds.map id) := by
        rw [List.map_id]
        intro d hd d' hd'
        obtain ⟨r, er⟩ := hm d hd
        obtain ⟨r', er'⟩ := hm d' hd'
        refine row_alike er er' ⟨fun hi => ?_, fun hi => ?_⟩
        · obtain ⟨i, rfl⟩ := hi
          have := sk _ hd _ hd'
          cases d' with
          | int j => exact ⟨j, rfl⟩
          | _ => cases this
        · obtain ⟨i, rfl⟩ := hi
          have := sk _ hd _ hd'
          cases d with
          | int j => exact ⟨j, rfl⟩
          | _ => cases this
      have hso : Sortable (ds.map id) := by
        rw [List.map_id]
        rcases hk with z | z
        · refine .inr fun d hd => ?_
          obtain ⟨i, rfl⟩ := z d hd
          exact ⟨nofun, nofun⟩
        · exact .inl z
      refine list_sort_data (enc := id) (R := RR X.K H Z) (bs := ds) ho each er hal hso (by omega) (fun d hd => ?_) fun out hl he => fin out (by rw [hl]; omega) (by rw [← e2]; exact he)
      obtain ⟨r, er⟩ := hm d hd
      have := row_depth er
      show X.A.units + 1 + 1 + d.depth < cLine
      omega
  · cases hs
/-- the sorted list, laid -/
theorem sort_run (I : Inv X pins σ H s) (hu : X.A.units + 64 < cLine) {v : Value} {xs : List V} {vs : List Value} {ds ys : List D} {Q : VK} (rv : Vals xs vs) (rd : RDs X.K H Z ds xs) (hz : xs.length ≤ sizeLine) (hs : sortD ds = some ys)
    (hcol : ∀ (A' : Around) (E' : Value → Shared → Prop) (Q' : List Value → Shared → Prop), (∀ h' : Heap, (∀ b o, s.heap.get? b = some o → h'.get? b = some o) → Q' vs { s with heap := h' }) → wpAny (model X.prog X.w) A' (collect v) Q' E' s)
    (q : ∀ p zs, H p = none → RDs X.K H Z ys zs → Q (.ref p) (upd H p (.lst zs))) : wpAny (model X.prog X.w) X.A (call (.builtin "sorted") [v]) (EP X pins σ Q) X.xe s := by
  have lv : vs.length = xs.length := rv.length.symm
  have ld := rd.length
  refine sorted_from (vs := vs) (by omega) (args_sorted1 _) hcol fun h' hk E' => ?_
  have I1 : Inv X pins σ H { s with heap := h' } := I.kept (t' := s.toks) hk
  exact sort_body I1 hu (each_of (X := X) (Z := Z) rv rd) (by omega) (by omega) hs q
end
end Mi
set_option maxHeartbeats 4000000
/-! M13: sorted with a key that tells how many, then which. -/
namespace Mi
open PySem PySem.Spec PySem.Calls PyProof.Rows PySem.W L2
section
variable {prog : Program} {w : World} {A : Around} {E : Value → Shared → Prop} {s : Shared}
theorem sz_body {x : Str} {e : Expr} (h : szBody x e = true) : ∃ p1 p2 p3 p4 k p5, e = .Tuple [.Call (.Name "len" p1) [.Name x p2] [] p3, .Name x p4] k p5 := by
  unfold szBody at h
  split at h
  · simp only [Bool.and_eq_true, decide_eq_true_eq] at h
    obtain ⟨⟨rfl, rfl⟩, rfl⟩ := h
    exact ⟨_, _, _, _, _, _, rfl⟩
  · cases h
theorem key_body {env : PySem.Env} {x : Str} {e : Expr} {a : Addr} {its : Array Value} {m mg mb : Str → Option Value} {Q : Value → Shared → Prop} (he : szBody x e = true) (ox : okN x = true) (hk : env.scope.kind = .function) (kx : env.scope.names.lookup x = some .local)
    (hn : s.heap.Ns env.locals m) (hm : m x = some (.ref a)) (kl : env.scope.names.lookup ("len" : Str) = some .globalImplicit) (hg : s.heap.Ns env.globals mg) (gl : mg "len" = none) (hb : s.heap.Ns env.builtins mb) (bl : mb "len" = some (.builtin "len"))
    (ht : IsTup s.heap a its) (hz : its.size ≤ sizeLine)
    (h : ∀ t tk, Q (.ref s.heap.objs.size) { s with heap := s.heap.push { cls := .type "tuple", data := .seq #[.int its.size t, .ref a] }, toks := tk }) : wpAny (model prog w) A (eval e env) Q E s := by
  obtain ⟨p1, p2, p3, p4, k, p5, rfl⟩ := sz_body he
  obtain ⟨o1, o2, o3⟩ := not_dbg ox
  have ev : ∀ (p : Pos) (toks : Nat) (Q' : Value → Shared → Prop) (E' : Value → Shared → Prop), Q' (.ref a) { s with toks := toks } → wpAny (model prog w) A (eval (.Name x p) env) Q' E' { s with toks := toks } := fun p toks Q' E' hq =>
    wpAny_Name (wpAny_loadName_local hk kx hn hm hq) o1
  refine wpAny_Tuple_spliced ?_
  show wpAny _ _ (spliced ((false, eval (.Call (.Name "len" p1) [.Name x p2] [] p3) env) :: (false, eval (.Name x p4) env) :: [])) _ _ _
  have h63 := line63
  refine Calls.spliced_cons (wpAny_Call_Name_kw (Calls.Name_function_global hk kl (Calls.loadGlobal_builtin hg gl hb bl ?_)))
  refine PyProof.Rows.callWith_builtin1 ?_ rfl rfl
  refine Calls.spliced_cons (ev p2 s.toks _ _ (Calls.spliced_nil ?_))
  refine len_tuple ht (by omega) ?_
  exact Calls.spliced_cons (ev p4 (s.toks + 1 + 1) _ _ (Calls.spliced_nil ⟨by rw [sizeLine_eq]; exact (by decide : 2 ≤ 16777216), h _ _⟩))

/-- what a key does -/
def KeyFn (prog : Program) (w : World) (A : Around) (f : Value) (s : Shared) : Prop := ∀ (h : Heap) (tk : Nat), (∀ b o, s.heap.get? b = some o → h.get? b = some o) → ∀ (a : Addr) (its : Array Value), IsTup h a its → its.size ≤ sizeLine →
  ∀ (Q E : Value → Shared → Prop), (∀ (h' : Heap) (tk' : Nat) (t : Tok) (p : Addr), (∀ b o, h.get? b = some o → h'.get? b = some o) → h'.get? p = some { cls := .type "tuple", data := .seq #[.int its.size t, .ref a] } → Q (.ref p) { s with heap := h', toks := tk' }) →
    wpAny (model prog w) A (call f [.ref a]) Q E { s with heap := h, toks := tk }
theorem bind_one {x : Str} {args : Arguments} (h : szArgs args = some x) (fd : FuncData) (hp : fd.params = args) (hd : fd.defaults = .none) (v : Value) : bindArgs fd ⟨[v], []⟩ = pure [(x, v)] := by
  unfold szArgs at h
  split at h
  · cases h
    have e : (x == x) = true := beq_self_eq_true x
    unfold bindArgs
    rw [hp, hd]
    have e2 : seqItems? Value.none = pure none := rfl
    simp [List.lookup, e, e2]
  · cases h
theorem sz_scope {x : Str} {sc : Scope} (h : szScope x sc = true) : okN x = true ∧ sc.kind = .function ∧ sc.isCoroutine = false ∧ sc.isGenerator = false ∧ (∀ y ∈ sc.names, y.2 ≠ .cell ∧ y.2 ≠ .free) ∧ sc.names.lookup x = some .local ∧ sc.names.lookup ("len" : Str) = some .globalImplicit := by
  unfold szScope at h
  simp only [Bool.and_eq_true, decide_eq_true_eq, Bool.not_eq_true', List.all_eq_true] at h
  obtain ⟨⟨⟨⟨⟨⟨h1, h2⟩, h3⟩, h4⟩, h5⟩, h6⟩, h7⟩ := h
  exact ⟨h1, h2, h3, h4, h5, h6, h7⟩
theorem key_env {sc : Scope} {x : Str} {e : Expr} {cl : List (Str × Addr)} {qual : Str} {fn : Option Addr} {cd : Value} {a : Addr} {its : Array Value} {mg mb : Str → Option Value} {A' : Around} {h h₁ : Heap} {tk1 : Nat} {Q E' : Value → Shared → Prop} (hb : szBody x e = true) (hs : szScope x sc = true)
    (hns : h₁.Ns h.objs.size fun y => [(x, Value.ref a)].reverse.lookup y) (hk1 : ∀ b o, h.get? b = some o → h₁.get? b = some o) (hg : h.Ns mainGlobals mg) (gl : mg "len" = none) (hbt : h.Ns builtinsNs mb) (bl : mb "len" = some (.builtin "len"))
    (ht : IsTup h a its) (hz : its.size ≤ sizeLine)
    (hQ : ∀ (h' : Heap) (tk' : Nat) (t : Tok) (p : Addr), (∀ b o, h.get? b = some o → h'.get? b = some o) → h'.get? p = some { cls := .type "tuple", data := .seq #[.int its.size t, .ref a] } → Q (.ref p) { s with heap := h', toks := tk' }) :
    wpAny (model prog w) A' (eval e (newEnv sc h.objs.size mainGlobals cl qual fn cd none builtinsNs)) Q E' { s with heap := h₁, toks := tk1 } := by
  obtain ⟨h1, h2, h3, h4, h5, h6, h7⟩ := sz_scope hs
  have keepNs : ∀ {b : Addr} {m : Str → Option Value}, h.Ns b m → h₁.Ns b m := fun ⟨o, es, ep, ho, r⟩ => ⟨o, es, ep, hk1 _ _ ho, r⟩
  obtain ⟨ot, eo, ec, n, ed⟩ := ht
  refine key_body (s := { s with heap := h₁, toks := tk1 }) (env := newEnv sc h.objs.size mainGlobals cl qual fn cd none builtinsNs) (m := fun y => [(x, Value.ref a)].reverse.lookup y) hb h1 h2 h6 hns ?_ h7 (keepNs hg) gl (keepNs hbt) bl ⟨ot, hk1 _ _ eo, ec, n, ed⟩ hz fun t tk => ?_
  · show List.lookup x [(x, Value.ref a)] = _
    rw [List.lookup_cons_self]
  · exact hQ _ _ t _ (fun b o q => Heap.get?_push_of_some _ (hk1 b o q)) (Heap.get?_push_size _ rfl)
theorem key_def {fa : Addr} {oc : Value} {od : Option Addr} {name : Str} {args : Arguments} {x : Str} {e : Expr} {pos : Pos} {sc : Scope} {kV doc pm cdv ct : Value} {an : Option Addr} {osl : Array (Option Value)} {mg mb : Str → Option Value}
    (ho : s.heap.get? fa = some ⟨oc, od, .func (fnOf name name args [.Return (some e) pos] sc .none kV doc pm an cdv ct), osl⟩) (hcd : s.heap.CodeRec cdv name) (hA : A.depth < recursionLimit) (ha : szArgs args = some x) (hb : szBody x e = true) (hs : szScope x sc = true)
    (hg : s.heap.Ns mainGlobals mg) (gl : mg "len" = none) (hbt : s.heap.Ns builtinsNs mb) (bl : mb "len" = some (.builtin "len")) (lim : s.heap.NoLimit) : KeyFn prog w A (.ref fa) s := by
  intro h tk hk a its ht hz Q E hQ
  obtain ⟨h1, h2, h3, h4, h5, h6, h7⟩ := sz_scope hs
  have keepNs : ∀ {b : Addr} {m : Str → Option Value}, s.heap.Ns b m → h.Ns b m := fun ⟨o, es, ep, ho, r⟩ => ⟨o, es, ep, hk _ _ ho, r⟩
  have lim' : h.NoLimit := lim.keeps hk
  refine wpAny_call (codeAny_call_function (s := { s with heap := h, toks := tk }) (body := [.Return (some e) pos]) hA (hk _ _ ho) rfl h3 h4 rfl (hcd.keeps hk) ?_)
  rw [bind_one ha _ rfl rfl]
  refine wpAny_pure (wpAny_newFunctionEnv (fun y hy => (h5 y hy).1) (fun y hy => ?_) (fun h₁ hns hsb => ⟨lim'.fresh _ hsb, codeAny_func ?_⟩) h2)
  · rw [List.mem_singleton.mp hy]; exact h6
  · have hk1 : ∀ b o, h.get? b = some o → h₁.get? b = some o := fun b o q => hsb.extBut b o (Nat.ne_of_lt (Heap.lt_size q)) (Heap.get?_push_of_some _ q)
    refine wpAny_execs_cons (wpAny_Return_some (key_env (s := { s with heap := h, toks := tk }) hb hs hns hk1 (keepNs hg) gl (keepNs hbt) bl ht hz fun h' tk' t p hk' hp => ?_))
    exact hQ h' tk' t p hk' hp
theorem key_lam {fa c' : Addr} {q : Str} {args : Arguments} {x : Str} {e : Expr} {sc : Scope} {cl : List (Str × Addr)} {pm ct : Value} {mg mb : Str → Option Value}
    (ho : s.heap.get? fa = some (kla_obj "<lambda>" q args e sc cl pm c' ct)) (hcd : s.heap.CodeRec (.ref c') q) (hA : A.depth < recursionLimit) (ha : szArgs args = some x) (hb : szBody x e = true) (hs : szScope x sc = true)
    (hg : s.heap.Ns mainGlobals mg) (gl : mg "len" = none) (hbt : s.heap.Ns builtinsNs mb) (bl : mb "len" = some (.builtin "len")) (lim : s.heap.NoLimit) : KeyFn prog w A (.ref fa) s := by
  intro h tk hk a its ht hz Q E hQ
  obtain ⟨h1, h2, h3, h4, h5, h6, h7⟩ := sz_scope hs
  have keepNs : ∀ {b : Addr} {m : Str → Option Value}, s.heap.Ns b m → h.Ns b m := fun ⟨o, es, ep, ho, r⟩ => ⟨o, es, ep, hk _ _ ho, r⟩
  have lim' : h.NoLimit := lim.keeps hk
  refine wpAny_call (kla_callFunE (s := { s with heap := h, toks := tk }) (body := e) hA (hk _ _ ho) rfl h3 h4 rfl (hcd.keeps hk) ?_)
  rw [bind_one ha _ rfl rfl]
  refine wpAny_pure (wpAny_newFunctionEnv (fun y hy => (h5 y hy).1) (fun y hy => ?_) (fun h₁ hns hsb => ⟨lim'.fresh _ hsb, kla_codeExpr ?_⟩) h2)
  · rw [List.mem_singleton.mp hy]; exact h6
  · have hk1 : ∀ b o, h.get? b = some o → h₁.get? b = some o := fun b o q => hsb.extBut b o (Nat.ne_of_lt (Heap.lt_size q)) (Heap.get?_push_of_some _ q)
    refine key_env (s := { s with heap := h, toks := tk }) hb hs hns hk1 (keepNs hg) gl (keepNs hbt) bl ht hz fun h' tk' t p hk' hp => ?_
    exact hQ h' tk' t p hk' hp
end

/-! ### the order by such keys -/
theorem lex_suf (u : List (Int ⊕ List Nat)) : ∀ a b : List Int, lexLt itemOrd (tk a ++ u) (tk b ++ u) = ltL a b
  | [], [] => lex_irrefl _
  | [], _ :: _ => by
    show lexLt itemOrd (.inl 0 :: u) (.inl 1 :: _) = true
    rw [lex_diff (O := itemOrd) (by simp)]
    rfl
  | _ :: _, [] => by
    show lexLt itemOrd (.inl 1 :: _) (.inl 0 :: u) = false
    rw [lex_diff (O := itemOrd) (by simp)]
    rfl
  | x :: a, y :: b => by
    show lexLt itemOrd (.inl 1 :: .inl x :: (tk a ++ u)) (.inl 1 :: .inl y :: (tk b ++ u)) = ltL (x :: a) (y :: b)
    rw [lex_self (O := itemOrd), ltL]
    by_cases h : x = y
    · subst h
      rw [lex_self (O := itemOrd), if_pos rfl]
      exact lex_suf u a b
    · rw [lex_diff (O := itemOrd) (by simpa using h), if_neg h]
      rfl
def keyD (d : D) : D := .tuple [.int ((rowD d).length : Nat), d]
theorem key_toks {xs : List D} {r : List Int} (h : intsOf xs = some r) : keyToks (keyD (.tuple xs)) = .inl 1 :: .inl (r.length : Int) :: .inl 1 :: (tk r ++ [.inl 0]) := by
  have hr : rowOf (.tuple xs) = some r := h
  unfold keyD
  rw [row_D hr, keyToks, keyToksAll, keyToks, keyToksAll, keyToks, toks_ints h, keyToksAll]
  rfl
theorem le_keys {xs ys : List D} {a b : List Int} (hx : intsOf xs = some a) (hy : intsOf ys = some b) : dataLe (β := D) false keyD (.tuple xs) (.tuple ys) = leN (.tuple xs) (.tuple ys) := by
  have ra : rowOf (.tuple xs) = some a := hx
  have rb : rowOf (.tuple ys) = some b := hy
  rw [dataLe_eq]
  show (!lexLt itemOrd (keyToks (keyD (.tuple ys))) (keyToks (keyD (.tuple xs)))) = _
  unfold leN
  rw [key_toks hx, key_toks hy, row_D ra, row_D rb, lex_self (O := itemOrd)]
  dsimp only
  by_cases h : a.length = b.length
  · rw [if_pos h, h, lex_self (O := itemOrd), lex_self (O := itemOrd), lex_suf]
  · rw [if_neg h, lex_diff (O := itemOrd) (by intro z; have := Sum.inl.inj z; omega)]
    show (!decide ((b.length : Int) < (a.length : Int))) = decide (a.length ≤ b.length)
    by_cases hl : a.length ≤ b.length
    · rw [decide_eq_true hl, decide_eq_false (by omega)]; rfl
    · rw [decide_eq_false hl, decide_eq_true (by omega)]; rfl
theorem allTups_mem : ∀ {xs : List D}, allTups xs = true → ∀ d ∈ xs, ∃ ds, d = .tuple ds
  | [], _, _, h => nomatch h
  | .tuple i :: xs, h, d, hd => by
    rcases List.mem_cons.mp hd with e | e
    · exact ⟨i, e⟩
    · exact allTups_mem (xs := xs) h d e
  | .none :: _, h, _, _ | .bool _ :: _, h, _, _ | .str _ :: _, h, _, _ | .list _ :: _, h, _, _ | .int _ :: _, h, _, _ | .dict _ :: _, h, _, _ => nomatch h
section
variable {X : Cx} {pins : List (Addr × Obj)} {σ : L2.St} {H : Hp} {s : Shared} {Z : List Addr}
theorem sort_key_run (I : Inv X pins σ H s) (hu : X.A.units + 64 < cLine) {v : Value} {fk : Addr} {xs : List V} {vs : List Value} {ds ys : List D} {Q : VK} (rv : Vals xs vs) (rd : RDs X.K H Z ds xs) (hz : xs.length ≤ sizeLine) (hs : sortN ds = some ys) (hf : KeyFn X.prog X.w X.A.in1.in1 (.ref fk) s)
    (hcol : ∀ (A' : Around) (E' : Value → Shared → Prop) (Q' : List Value → Shared → Prop), (∀ h' : Heap, (∀ b o, s.heap.get? b = some o → h'.get? b = some o) → Q' vs { s with heap := h' }) → wpAny (model X.prog X.w) A' (collect v) Q' E' s)
    (q : ∀ p zs, H p = none → RDs X.K H Z ys zs → Q (.ref p) (upd H p (.lst zs))) : wpAny (model X.prog X.w) X.A (call (.builtin "sorted") [v] [(Str.ofString "key", .ref fk)]) (EP X pins σ Q) X.xe s := by
  have lv : vs.length = xs.length := rv.length.symm
  have ld := rd.length
  unfold sortN at hs
  by_cases hc : (allTups ds && (rowsOf ds).isSome) = true
  case neg =>
    rw [if_neg hc] at hs
    cases hs
  rw [if_pos hc] at hs
  cases hs
  simp only [Bool.and_eq_true] at hc
  obtain ⟨ht, hrow⟩ := hc
  obtain ⟨rows, hrows⟩ := Option.isSome_iff_exists.mp hrow
  have hm := rows_mem hrows
  have tup := allTups_mem ht
  refine sorted_from (vs := vs) (by omega) (PyProof.Rows.ksk_s1 _ _) hcol fun h' hk E' => ?_
  have I1 : Inv X pins σ H { s with heap := h' } := I.kept (t' := s.toks) hk
  have ho : (h'.push (seqObj "list" vs.toArray 0)).get? h'.objs.size = some (seqObj "list" vs.toArray 0) := Heap.get?_push_size _ rfl
  have each := each_of (X := X) (Z := Z) rv rd
  have hal : AllAlike (ds.map keyD) := by
    intro d hd d' hd'
    obtain ⟨e, he, rfl⟩ := List.mem_map.mp hd
    obtain ⟨e', he', rfl⟩ := List.mem_map.mp hd'
    obtain ⟨r, er⟩ := hm e he
    obtain ⟨r', er'⟩ := hm e' he'
    obtain ⟨t, rfl⟩ := tup e he
    obtain ⟨t', rfl⟩ := tup e' he'
    unfold keyD
    rw [alike, alikeAll, alikeAll, row_alike er er' ⟨fun ⟨i, z⟩ => (nomatch z), fun ⟨i, z⟩ => (nomatch z)⟩]
    simp [alike, alikeAll]
  have e2 : ds.mergeSort (dataLe (β := D) false keyD) = ds.mergeSort leN := sort_congr fun a ha b hb => by
    obtain ⟨ra, ea⟩ := hm a ha
    obtain ⟨rb, eb⟩ := hm b hb
    obtain ⟨t, rfl⟩ := tup a ha
    obtain ⟨t', rfl⟩ := tup b hb
    exact le_keys ea eb
  refine list_sort_key_data (b := false) (R := RR X.K H Z) (bs := ds) keyD ho each hal (.inl fun d hd => ?_) (by omega) (fun d hd => ?_) (PyProof.Rows.ksk_l1 _ _) (PyProof.Rows.ksk_t1 _ _) (fun u d rr hd h tk kp => ?_) fun out c h2 tk kp ha hl he => ?_
  · obtain ⟨e, _, rfl⟩ := List.mem_map.mp hd
    exact ⟨_, _, rfl⟩
  · obtain ⟨r, er⟩ := hm d hd
    have h1 := row_depth er
    show X.A.units + 1 + 1 + (keyD d).depth < cLine
    have h2 : (keyD d).depth ≤ 2 := by
      unfold keyD
      simp only [PyData.depth, PyData.depthAll]
      omega
    omega
  · obtain ⟨x, rx, rdx⟩ := rr
    obtain ⟨r, er⟩ := hm d hd
    obtain ⟨t, rfl⟩ := tup d hd
    obtain ⟨a, xs', rfl, ta, rs⟩ := rdx
    obtain rfl : u = Value.ref a := rx
    obtain ⟨its, rits, ⟨o, g1, g2, n, g3⟩, hzi⟩ := I.tuple ta.sq
    have keep : ∀ b o, s.heap.get? b = some o → h.get? b = some o := fun b o e => by
      have e1 := hk b o e
      exact kp b o (Nat.ne_of_lt (Heap.lt_size e1)) (Heap.get?_push_of_some _ e1)
    have hlen : its.toArray.size = r.length := by
      rw [List.size_toArray, ← rits.length, rs.length, ints_back er, List.length_map]
    have I3 : Inv X pins σ H { s with heap := h } := I.kept (t' := s.toks) keep
    refine hf h tk keep a its.toArray ⟨o, keep _ _ g1, g2, n, g3⟩ (by rw [List.size_toArray, ← rits.length]; exact hzi) _ _ fun h3 tk3 tt p hk3 hp => ?_
    refine ⟨h3, tk3, rfl, hk3, ?_⟩
    have rd0 : Reads h3 (.ref a) (.tuple t) [] := PyProof.Rows.Reads.keeps (h := h) hk3 (row_reads (s := { s with heap := h }) I3 er ⟨.ref a, rfl, a, xs', rfl, ta, rs⟩)
    have hr : rowOf (.tuple t) = some r := er
    unfold keyD
    rw [row_D hr, ← hlen]
    exact .tuple hp rfl rfl (.cons (as := []) (bs := []) (.int _ _) (.cons (as := []) (bs := []) rd0 .nil))
  · rw [e2] at he
    obtain ⟨zs, rz, rds⟩ := of_each (X := X) he
    have hzl := rz.length
    refine ⟨.ref h'.objs.size, upd H h'.objs.size (.lst zs), I1.laid (t' := tk) (fun b u e => ?_) (Nat.le_refl _) ⟨by omega, out, c, rz, ha⟩, rfl, q _ _ (I1.hok.fresh (Nat.le_refl _)) rds⟩
    exact kp b u (Nat.ne_of_lt (Heap.lt_size e)) (Heap.get?_push_of_some _ e)
end
end Mi
set_option maxHeartbeats 4000000
/-! M14: sorted(..) in the text. -/
namespace Mi
open PySem PySem.Spec PySem.Calls PyProof.Rows PySem.W L2
section
variable {X : Cx} {T : List (Addr × Str)} {C : Ctx} {N : List Str} {lam : Bool} {sc : Scope} {e1 k : Expr} {m1 : E} {fp pos kp : Pos} {pins : List (Addr × Obj)} {σ : L2.St} {H : Hp} {s : Shared} {Z : List Addr}
/-- a list's, a tuple's items collected -/
theorem coll_seq (I : Inv X pins σ H s) {a : Addr} {xs : List V} (h : SqL X.K H a xs ∨ SqT X.K H a xs) : ∃ vs, Vals xs vs ∧ xs.length ≤ sizeLine ∧
    ∀ (A' : Around) (E' : Value → Shared → Prop) (Q' : List Value → Shared → Prop), (∀ h' : Heap, (∀ b o, s.heap.get? b = some o → h'.get? b = some o) → Q' vs { s with heap := h' }) → wpAny (model X.prog X.w) A' (collect (.ref a)) Q' E' s := by
  rcases h with h | h
  · obtain ⟨its, rv, pl, hz⟩ := I.list h
    obtain ⟨o, ho, hc, n, hd⟩ := pl.isList
    have hl := rv.length
    exact ⟨its, rv, hz, fun A' E' Q' hq => wpAny_collect_seq a (.inl rfl) ho hc hd (fun h' hk => by simpa using hq h' hk) (by simp only [List.size_toArray]; omega)⟩
  · obtain ⟨its, rv, ⟨o, ho, hc, n, hd⟩, hz⟩ := I.tuple h
    have hl := rv.length
    exact ⟨its, rv, hz, fun A' E' Q' hq => wpAny_collect_seq a (.inr rfl) ho hc hd (fun h' hk => by simpa using hq h' hk) (by simp only [List.size_toArray]; omega)⟩
def rSorted (K : PySem.W.Frag) : List V → Hp → VK → Prop := fun xs H Q => ∃ Z a x ds ys, xs = [x] ∧ RT K H Z a x ∧ items a = some ds ∧ sortD ds = some ys ∧ ∀ p zs, H p = none → RDs K H Z ys zs → Q (.ref p) (upd H p (.lst zs))
theorem callR_sorted (hu : X.A.units + 64 < cLine) : CallR X (.builtin "sorted") (rSorted X.K) := by
  intro pins s σ H xs us Q I r ⟨Z, a, x, ds, ys, e, ra, hi, hs, q⟩
  subst e
  obtain ⟨p, zs, rfl, h, hz⟩ := ra.items hi
  obtain ⟨u, rfl, ru⟩ := vals1 r
  obtain rfl : u = Value.ref p := ru
  obtain ⟨vs, rv, hzl, hcol⟩ := coll_seq I h
  exact sort_run I hu rv hz hzl hs hcol q
theorem sorted_ok : stBlt "sorted" = some Blt.sorted := by decide
theorem p_plain (g : Good T C N sc X) (hg : isGlb sc "sorted" = true) (h1 : Snd T C X e1 m1) (hn : NoStar e1) (hm : ∀ a es, m1 ≠ .set a ∧ m1 ≠ .rng es) :
    PE X (.Call (.Name "sorted" fp) [e1] [] pos) (tE X.K T C (.blt .sorted (.cons m1 .nil))) :=
  (pe_bltA g sorted_ok hg (callR_sorted g.un) hn (nostar0 pos) (pa_cons h1.pe pa_nil (hn _ _))).imp fun σ H Q ⟨B, L, M, ρ, v, M', he, hw, hev, q⟩ => by
    have hev : ((evE C m1 ρ M).bind fun p => (get p.2 p.1).bind fun x => (items x).bind fun xs => (sortD xs).map fun ys => (.d (.list ys), p.2)) = some (v, M') := by
      cases m1 <;> first | exact hev | exact absurd rfl (hm _ .nil).1
    obtain ⟨⟨v1, M1⟩, g1, hev⟩ := bindE hev
    obtain ⟨x, gx, hev⟩ := bindE hev
    obtain ⟨ds, gi, hev⟩ := bindE hev
    obtain ⟨ys, hs, e⟩ := mapE hev
    cases e
    refine ⟨B, L, M, ρ, v1, M1, he, hw, g1, fun L1 H1 y1 e1 w1 r1 _ => ⟨L1 ++ B, x, y1, ds, ys, rfl, get_rt w1 r1 gx, gi, hs, fun p zs hp hz => ?_⟩⟩
    obtain ⟨a, b, c, d⟩ := res_list e1 w1 hp hz
    exact q _ _ _ (e1.trans a) b c fun _ => d
theorem ext_N {L : List Addr} {H1 H2 : Hp} (e : LamX.ExtN H1 H2) : Ext L H1 L H2 := ⟨fun a o h _ hn => e a o h hn, fun a h o q => by
  rcases Classical.em (∃ ps, o = HO.tbl ps) with z | z
  · exact z
  · exact h o (e a o q fun ps w => z ⟨ps, w⟩), [], by simp, fun _ h => nomatch h⟩
theorem wd_N {K : PySem.W.Frag} {B L : List Addr} {M : MH} {H1 H2 : Hp} (w : Wd K T B L M H1) (e : LamX.ExtN H1 H2) (t : LamX.Tabs T H2) : Wd K T B L M H2 := by
  refine ⟨t, w.len, w.nd, fun i a c h1 h2 => ?_, w.blkE (ext_N e), w.dis⟩
  have q := w.cell i a c h1 h2
  cases c with
  | lst ds =>
    obtain ⟨xs, q1, q2⟩ := q
    exact ⟨xs, e a _ q1 (fun _ z => nomatch z), RDs.grow (ext_N e).grow ds xs q2⟩
theorem args_nodef {args : Arguments} {x : Str} (h : szArgs args = some x) (env : PySem.Env) : defaultsOf args env = ([], []) := by
  unfold szArgs at h
  split at h
  · rfl
  · cases h
theorem p_key {gk : Option Str} (g : Good T C N sc X) (hl : lam = true → LamAt T X) (hg : isGlb sc "sorted" = true) (h1 : Snd T C X e1 m1) (hn : NoStar e1) (hk : stKey lam k sc = some gk) :
    PE X (.Call (.Name "sorted" fp) [e1] [⟨some "key", k, kp⟩] pos) (tE X.K T C (.srt gk m1)) := by
  refine ⟨fun pins s σ H Q I ⟨B, L, M, ρ, v, M', he, hw, hev, q⟩ => ?_⟩
  have hev : (if bysO C.bys gk = true then ((evE C m1 ρ M).bind fun p => (get p.2 p.1).bind fun x => (items x).bind fun xs => (sortN xs).map fun ys => (.d (.list ys), p.2)) else none) = some (v, M') := hev
  by_cases hby : bysO C.bys gk = true
  case neg =>
    rw [if_neg hby] at hev
    cases hev
  rw [if_pos hby] at hev
  obtain ⟨⟨v1, M1⟩, g1, hev⟩ := bindE hev
  obtain ⟨x, gx, hev⟩ := bindE hev
  obtain ⟨ds, gi, hev⟩ := bindE hev
  obtain ⟨ys, hs, e⟩ := mapE hev
  cases e
  refine wpAny_Call_Name_kw (ld_blt I (isGlb_ok g hg) (g.bn "sorted" (by decide)) (show bootBuiltins "sorted" = some (.builtin "sorted") from rfl) ?_ (by decide))
  have hst : starEach [e1] X.env = [(false, eval e1 X.env)] := hn _ _
  refine PyProof.Rows.callWith_kw (thn ((pa_cons h1.pe pa_nil (hn _ _)).run pos pins s σ H (fun xs H1 => ∃ y L1, xs = [y] ∧ Ext L H L1 H1 ∧ Wd X.K T B L1 M1 H1 ∧ RV X.K H1 L1 B v1 y) I ⟨B, L, M, ρ, v1, M1, he, hw, g1, fun L1 H1 y e1 w1 r1 _ => ⟨y, L1, rfl, e1, w1, r1⟩⟩) fun us s1 ⟨vs, H1, I1, rv, y, L1, ey, x1, w1, r1⟩ => ?_) (by rw [hst]; rfl) (by rw [hst]; rfl) (by rfl) (by rfl)
  subst ey
  obtain ⟨u, rfl, ru⟩ := vals1 rv
  have kx : ∀ {H2 : Hp} {s2 : Shared} {fa : Addr}, Inv X pins σ H2 s2 → LamX.ExtN H1 H2 → LamX.Tabs T H2 → KeyFn X.prog X.w X.A.in1.in1 (.ref fa) s2 → wpAny (model X.prog X.w) X.A (call (.builtin "sorted") [u] [(Str.ofString "key", .ref fa)]) (EP X pins σ Q) X.xe s2 := fun {H2 s2 fa} I2 eN t2 kf => by
    have x2 : Ext L1 H1 L1 H2 := ext_N eN
    have w2 := wd_N w1 eN t2
    obtain ⟨a, zs, rfl, hsq, hz⟩ := (get_rt w2 (r1.ext x2) gx).items gi
    obtain rfl : u = Value.ref a := ru
    obtain ⟨vs', rv', hzl, hcol⟩ := coll_seq I2 hsq
    refine sort_key_run I2 g.un rv' hz hzl hs kf hcol fun p zs hp hz => ?_
    obtain ⟨a1, a2, a3, a4⟩ := res_list (x1.trans x2) w2 hp hz
    exact q _ _ _ ((x1.trans x2).trans a1) a2 a3 fun _ => a4
  have hA : X.A.in1.in1.depth < recursionLimit := (g.room.in1.in1 : Room 2 X.A.in1.in1).depth
  obtain ⟨mb, hb1, hb2⟩ := I1.mod.blt
  have lenN : mb "len" = some (.builtin "len") := (hb2 "len" (by decide)).trans rfl
  have gl : X.mg "len" = none := g.bn "len" (by decide)
  show wpAny _ _ (evalAll [do let v ← eval k X.env; standAt pos; pure v]) _ _ s1
  unfold stKey at hk
  split at hk
  · split at hk
    · rename_i f _ hc
      cases hk
      simp only [Bool.and_eq_true] at hc
      obtain ⟨fa, oc, od, args, x', e', ps', scf, kV, doc, pm, cdv, ct, an, osl, f1, f2, f3, f4, f5, f6⟩ := g.key f hby
      refine wpAny_evalAll_cons (wpAny_bind (ld_glob I1 (isGlb_ok g hc.1.2) f1 (wpAny_bind (wpAny_standAt (wpAny_pure (wpAny_evalAll_nil ?_)))) (not_dbg hc.1.1).1))
      refine kx I1 (.refl _) w1.tabs ?_
      have KX := I1.kIn
      exact key_def (KX _ _ f2) (PySem.W.codeRec_of KX f3) hA f4 f5 f6 (I1.mod.glob.keeps I1.bk) gl (hb1.keeps I1.bk) lenN I1.nolimit
    · cases hk
  · split at hk
    · rename_i hc
      cases hk
      simp only [Bool.and_eq_true] at hc
      obtain ⟨hlam, hbz⟩ := hc
      obtain ⟨c, P, l1, l2, l3, l4⟩ := hl hlam
      unfold bySz at hbz
      split at hbz
      · rename_i args body scope lp
        split at hbz
        · rename_i x' ha
          simp only [Bool.and_eq_true] at hbz
          obtain ⟨b1, b2⟩ := hbz
          have sc1 := sz_scope b2
          refine wpAny_evalAll_cons (wpAny_bind (LamX.lam_make2 I1 l2 l1 l3 l4 w1.tabs (args_nodef ha _) (fun y hy e => absurd e (sc1.2.2.2.2.1 y hy).2) fun f c' pm ctv H2 s2 I2 eN t2 hf hfn hfr hco => ?_))
          refine wpAny_bind (wpAny_standAt (wpAny_pure (wpAny_evalAll_nil ?_)))
          refine kx I2 eN t2 ?_
          obtain ⟨⟨oc, vs2, t, hoc, hdc, hvc⟩, _, _⟩ := I2.hok c' _ hco
          obtain ⟨mb2, hc1, hc2⟩ := I2.mod.blt
          exact key_lam hf ⟨c', oc, vs2, t, rfl, hoc, hdc, hvc⟩ hA ha b1 b2 (I2.mod.glob.keeps I2.bk) gl (hc1.keeps I2.bk) ((hc2 "len" (by decide)).trans rfl) I2.nolimit
        · cases hbz
      · cases hbz
    · cases hk
end
end Mi
set_option maxHeartbeats 4000000
/-! S1: tables of sets, of any of the sizes that come below 1,200 entries. -/
namespace Bs
open PySem PySem.Spec PyProof.Rows L2

/-! ### the round i -> 5 i + 1 meets all -/
def turn1 (m : Nat) (p : Nat × Nat) : Nat × Nat := (p.1 ||| (1 <<< p.2), (p.2 * 5 + 1) % (m + 1))
def seen (m : Nat) : Nat → Nat × Nat
  | 0 => (0, 0)
  | n + 1 => turn1 m (seen m n)
theorem seen_snd (m : Nat) : ∀ n, (seen m n).2 = lcgN m n
  | 0 => rfl
  | n + 1 => by
    show ((seen m n).2 * 5 + 1) % (m + 1) = (lcgN m n * 5 + 1) % (m + 1)
    rw [seen_snd m n]
theorem seen_bit (m : Nat) : ∀ n j, (seen m n).1.testBit j = true → ∃ k, k < n ∧ lcgN m k = j
  | 0, j, h => by
    have h : (0 : Nat).testBit j = true := h
    simp at h
  | n + 1, j, h => by
    have h : ((seen m n).1 ||| (1 <<< (seen m n).2)).testBit j = true := h
    rw [Nat.testBit_or, Bool.or_eq_true] at h
    rcases h with h | h
    · obtain ⟨k, hk, e⟩ := seen_bit m n j h
      exact ⟨k, by omega, e⟩
    · rw [Nat.testBit_shiftLeft] at h
      simp only [Bool.and_eq_true, decide_eq_true_eq] at h
      have h0 : j - (seen m n).2 = 0 := by
        rcases Nat.eq_zero_or_pos (j - (seen m n).2) with z | z
        · exact z
        · have := h.2
          rw [Nat.testBit_one_eq_true_iff_self_eq_zero] at this
          omega
      refine ⟨n, by omega, ?_⟩
      rw [← seen_snd]
      omega
/-- a mask that serves -/
structure Full (m : Nat) : Prop where
  odd : m % 2 = 1
  low : m ≤ 2047
  all : ∀ j, j ≤ m → ∃ k, k ≤ m ∧ lcgN m k = j
  back : lcgN m (m + 1) = 0
theorem full_of {m : Nat} (h1 : m % 2 = 1) (h2 : m ≤ 2047) (h : seen m (m + 1) = (2 ^ (m + 1) - 1, 0)) : Full m := by
  refine ⟨h1, h2, fun j hj => ?_, ?_⟩
  · obtain ⟨k, hk, e⟩ := seen_bit m (m + 1) j (by rw [h]; show (2 ^ (m + 1) - 1).testBit j = true; rw [Nat.testBit_two_pow_sub_one]; exact decide_eq_true (by omega))
    exact ⟨k, by omega, e⟩
  · rw [← seen_snd, h]
theorem full7 : Full 7 := full_of (by decide) (by decide) (by decide +kernel)
theorem full31 : Full 31 := full_of (by decide) (by decide) (by decide +kernel)
theorem full127 : Full 127 := full_of (by decide) (by decide) (by decide +kernel)
theorem full511 : Full 511 := full_of (by decide) (by decide) (by decide +kernel)
theorem full2047 : Full 2047 := full_of (by decide) (by decide) (by decide +kernel)
theorem Full.period {m : Nat} (F : Full m) : ∀ k, lcgN m (m + 1 + k) = lcgN m k
  | 0 => F.back
  | k + 1 => congrArg (fun i => (i * 5 + 1) % (m + 1)) (F.period k)
/-- from i to j in at most m turns -/
theorem Full.go {m : Nat} (F : Full m) {i j : Nat} (hi : i ≤ m) (hj : j ≤ m) : ∃ k, k ≤ m ∧ lcgI m i k = j := by
  obtain ⟨a, ha, rfl⟩ := F.all i hi
  obtain ⟨b, hb, rfl⟩ := F.all j hj
  by_cases h : a ≤ b
  · exact ⟨b - a, by omega, by rw [lcgN_add]; congr 1; omega⟩
  · refine ⟨m + 1 + b - a, by omega, ?_⟩
    rw [lcgN_add, show a + (m + 1 + b - a) = m + 1 + b by omega]
    exact F.period b
theorem Full.runs {m : Nat} (F : Full m) (h : Int) {j : Nat} (hj : j ≤ m) : ∃ n, n ≤ m + 12 ∧ runI m (SetTable.bits h) n = j := by
  obtain ⟨k, hk, e⟩ := F.go (runI_le m (SetTable.bits h) 12) hj
  refine ⟨12 + k, by omega, ?_⟩
  rw [runI_tail (bits_lt h), e]
/-- every slot comes on the way of every hash, within the bound -/
theorem Full.meets {m : Nat} (F : Full m) (h : Int) {j : Nat} (hj : j ≤ m) : ∃ k, k < 10 * SetTable.turns m ∧ way m h k = j := by
  obtain ⟨n, hn, e⟩ := F.runs h hj
  obtain ⟨k, hk, e2⟩ := run_nth m (SetTable.bits h) n
  exact ⟨k, by simp only [SetTable.turns]; omega, by show (nth m _ k).j = j; rw [e2]; exact e⟩
theorem way_in (m : Nat) (h : Int) (k : Nat) : way m h k ≤ m := by
  have h0 : SetTable.bits h % (m + 1) ≤ m := Nat.le_of_lt_succ (Nat.mod_lt _ (Nat.succ_pos _))
  have hr := (runEnd_bd h0).1
  have hg := (runEnd_bd h0).2.1
  have q := nth_in k (runAt m (SetTable.bits h % (m + 1)) (SetTable.bits h)) (show SetTable.bits h % (m + 1) + (SetTable.runEnd m (SetTable.bits h % (m + 1)) - SetTable.bits h % (m + 1)) ≤ m by omega)
  exact Nat.le_trans (Nat.le_add_right _ _) q

/-! ### tables whose entries are found again -/
structure Tab (t : SetTable) (hs : List Int) : Prop where
  ris : Ris t.place.toList
  dm : t.dummies = #[]
  sz : t.place.size = hs.length
  full : Full t.mask
  bd : ∀ x ∈ t.place.toList, x ≤ t.mask
  reach : ∀ (i : Nat) (h : Int) (j : Nat), hs[i]? = some h → t.place.toList[i]? = some j → ∃ k, way t.mask h k = j ∧ ∀ k', k' < k → way t.mask h k' ∈ t.place.toList
variable {t : SetTable} {hs : List Int}
/-- the first empty slot on the way -/
theorem Tab.first (T : Tab t hs) (hl : hs.length ≤ t.mask) (h : Int) : ∃ K, K < 10 * SetTable.turns t.mask ∧ way t.mask h K ∉ t.place.toList ∧ ∀ k, k < K → way t.mask h k ∈ t.place.toList := by
  obtain ⟨j, hj, hn⟩ := st_missing t.place.toList (t.mask + 1) (by rw [Array.length_toList, T.sz]; omega)
  obtain ⟨k, hk, rfl⟩ := T.full.meets h (show j ≤ t.mask by omega)
  obtain ⟨K, a, b, c⟩ := st_least (p := fun k => way t.mask h k ∉ t.place.toList) k hn
  exact ⟨K, by omega, b, fun q hq => Classical.not_not.mp (c q hq)⟩
theorem Tab.ahead (T : Tab t hs) {h : Int} {K i j : Nat} (hK : way t.mask h K ∉ t.place.toList) (hi : hs[i]? = some h) (hj : t.place.toList[i]? = some j) : ∃ k, k < K ∧ way t.mask h k = j := by
  obtain ⟨k, e, hb⟩ := T.reach i h j hi hj
  have hm := List.mem_of_getElem? hj
  refine ⟨k, ?_, e⟩
  rcases Nat.lt_trichotomy k K with c | c | c
  · exact c
  · exact absurd (by rw [← c, e]; exact hm) hK
  · exact absurd (hb K c) hK
/-- one more, at the first empty slot -/
theorem Tab.put (T : Tab t hs) {h : Int} {K : Nat} (hK : way t.mask h K ∉ t.place.toList) (hb : ∀ k, k < K → way t.mask h k ∈ t.place.toList) {p : Nat} (hp : SetTable.below t.place (way t.mask h K) = p) :
    p ≤ hs.length ∧ Tab (t.put (way t.mask h K)).1 (hs.take p ++ h :: hs.drop p) ∧ (t.put (way t.mask h K)).1.fill = hs.length + 1 := by
  obtain ⟨c1, _, _⟩ := below_cut T.ris (way t.mask h K)
  rw [hp] at c1
  have hl : t.place.toList.length = hs.length := by rw [Array.length_toList, T.sz]
  have pl : p ≤ t.place.toList.length := by rw [Array.length_toList]; exact c1
  have ph : p ≤ hs.length := by omega
  have pp := put_place t (way t.mask h K)
  rw [hp] at pp
  have size1 : (t.put (way t.mask h K)).1.place.size = hs.length + 1 := by
    rw [← Array.length_toList, pp, len_ins _ pl, hl]
  have old : ∀ x, x ∈ t.place.toList → x ∈ (t.put (way t.mask h K)).1.place.toList := fun x hx => by rw [pp]; exact mem_ins.mpr (.inr hx)
  refine ⟨ph, ⟨ris_insert T.ris fun e => hK (List.mem_of_getElem? (by rw [Array.getElem?_toList]; exact e)), put_dm T.dm _, by rw [size1, len_ins _ ph], T.full, ?_, ?_⟩, ?_⟩
  · intro x hx
    rw [pp] at hx
    rcases mem_ins.mp hx with rfl | hx
    · exact way_in _ _ _
    · exact T.bd x hx
  · intro i h' j' h1 h2
    rw [tins_get hs ph] at h1
    rw [pp, tins_get _ pl] at h2
    have lift : ∀ {i0 : Nat}, hs[i0]? = some h' → t.place.toList[i0]? = some j' → ∃ k, way t.mask h' k = j' ∧ ∀ k', k' < k → way t.mask h' k' ∈ (t.put (way t.mask h K)).1.place.toList := fun a b => by
      obtain ⟨k, e, z⟩ := T.reach _ h' j' a b
      exact ⟨k, e, fun q hq => old _ (z q hq)⟩
    split at h1
    · rename_i c
      rw [if_pos c] at h2
      exact lift h1 h2
    · rename_i c
      rw [if_neg c] at h2
      split at h1
      · rename_i d
        rw [if_pos d] at h2
        cases h1
        cases h2
        exact ⟨K, rfl, fun q hq => old _ (hb q hq)⟩
      · rename_i d
        rw [if_neg d] at h2
        exact lift h1 h2
  · simp only [SetTable.fill, size1, put_dm T.dm]
    rfl

/-! ### laid anew -/
theorem Full.find {m : Nat} (F : Full m) (owner : Array (Option Nat)) (h : Int) {j : Nat} (hj : j ≤ m) (hf : oAt owner j = none) :
    ∃ K, SetTable.layClean.free m owner (SetTable.turns m) (SetTable.bits h % (m + 1)) (SetTable.bits h) = some (way m h K) ∧ oAt owner (way m h K) = none ∧ ∀ k, k < K → oAt owner (way m h k) ≠ none := by
  obtain ⟨n, hn, e⟩ := F.runs h hj
  let o := off m (SetTable.bits h % (m + 1)) (SetTable.bits h) n
  have hw : way m h o = j := by
    show (nth m (runAt m (SetTable.bits h % (m + 1)) (SetTable.bits h)) o).j = j
    rw [show nth m (runAt m (SetTable.bits h % (m + 1)) (SetTable.bits h)) o = _ from nth_off m n _ _, itL_run]
    exact e
  obtain ⟨K, k1, k2, k3⟩ := st_least (p := fun k => oAt owner (way m h k) = none) o (by show oAt owner (way m h o) = none; rw [hw]; exact hf)
  have some_of : ∀ {x : Option Nat}, x ≠ none → x.isNone = false := fun {x} hx => by cases x with | none => exact absurd rfl hx | some _ => rfl
  exact ⟨K, free_spec m owner _ n _ _ K (by simp only [SetTable.turns]; omega) k1 (fun k hk => some_of (k3 k hk)) (by show (oAt owner (way m h K)).isNone = true; rw [k2]; rfl), k2, k3⟩
theorem own_step {m : Nat} (F : Full m) {done : List Int} {owner : Array (Option Nat)} (W : Own m done owner) (hl : done.length ≤ m) (h : Int) :
    ∃ j, SetTable.layClean.free m owner (SetTable.turns m) (SetTable.bits h % (m + 1)) (SetTable.bits h) = some j ∧ Own m (done ++ [h]) (owner.setIfInBounds j (some done.length)) := by
  obtain ⟨ps, hps, hin⟩ := W.ps
  obtain ⟨j0, h0, hn0⟩ := st_missing ps (m + 1) (by omega)
  obtain ⟨K, e1, e2, e3⟩ := F.find owner h (show j0 ≤ m by omega) (Classical.not_not.mp fun z => hn0 (hin j0 (by omega) z))
  obtain ⟨j, ej⟩ : ∃ j, way m h K = j := ⟨_, rfl⟩
  have hj : j ≤ m := ej ▸ way_in m h K
  rw [ej] at e1 e2
  have self := oAt_set_self (owner := owner) (some done.length) (show j < owner.size by rw [W.sz]; omega)
  have keep : ∀ {i : Nat}, oAt owner i ≠ none → oAt (owner.setIfInBounds j (some done.length)) i ≠ none := fun {i} hi => by
    by_cases c : i = j
    · rw [c, self]; simp
    · rw [oAt_set_ne _ c]; exact hi
  refine ⟨j, e1, ⟨by rw [Array.size_setIfInBounds]; exact W.sz, ?_, ?_, j :: ps, by simp [hps], ?_⟩⟩
  · intro i k hi e
    by_cases c : i = j
    · subst c
      rw [self] at e
      cases e
      exact ⟨h, K, by simp, ej, fun q hq => keep (e3 q hq)⟩
    · rw [oAt_set_ne _ c] at e
      obtain ⟨h', K', a1, a2, a3⟩ := W.at_ i k hi e
      exact ⟨h', K', by rw [List.getElem?_append_left (List.getElem?_eq_some_iff.mp a1).1]; exact a1, a2, fun q hq => keep (a3 q hq)⟩
  · intro k hk
    by_cases c : k < done.length
    · obtain ⟨i, hi, e⟩ := W.all k c
      exact ⟨i, hi, by rw [oAt_set_ne _ (fun z => by rw [z, e2] at e; cases e)]; exact e⟩
    · rw [List.length_append, List.length_singleton] at hk
      exact ⟨j, hj, by rw [self]; congr 1; omega⟩
  · intro i hi e
    by_cases c : i = j
    · rw [c]; exact List.mem_cons_self
    · rw [oAt_set_ne _ c] at e
      exact List.mem_cons_of_mem _ (hin i hi e)
theorem own_fold {m : Nat} (F : Full m) : ∀ (rest done : List Int) (owner : Array (Option Nat)), Own m done owner → done.length + rest.length ≤ m →
    ∃ o2, rest.foldl (stepF m) (some (owner, done.length)) = some (o2, done.length + rest.length) ∧ Own m (done ++ rest) o2
  | [], done, owner, W, _ => ⟨owner, rfl, by rw [List.append_nil]; exact W⟩
  | h :: rest, done, owner, W, hl => by
    have hl : done.length + (rest.length + 1) ≤ m := hl
    obtain ⟨j, e, W1⟩ := own_step F W (by omega) h
    have l1 : (done ++ [h]).length = done.length + 1 := by simp
    obtain ⟨o2, f, W2⟩ := own_fold F rest _ _ W1 (by omega)
    rw [l1] at f
    refine ⟨o2, ?_, by rw [List.append_assoc] at W2; exact W2⟩
    rw [List.foldl_cons, stepF_some e, f, List.length_cons]
    congr 2
    omega
theorem clean_ok {m : Nat} (F : Full m) {hs : Array Int} (hn : hs.size ≤ m) : ∃ owner, SetTable.layClean m hs = some owner ∧ Own m hs.toList owner := by
  obtain ⟨owner, f, W⟩ := own_fold F hs.toList [] _ (Own.init m) (by simpa using hn)
  have f : hs.toList.foldl (stepF m) (some (Array.replicate (m + 1) none, 0)) = _ := f
  exact ⟨owner, by rw [layClean_eq, f]; rfl, W⟩
theorem relaid_ok {hs : Array Int} {wanted M : Nat} (t : SetTable) (hw : SetTable.sizeAbove wanted - 1 = M) (F : Full M) (hn : hs.size ≤ M) :
    ∃ t' order, t.relaid hs wanted = some (t', order) ∧ order.toList.Perm (List.range hs.size) ∧ Tab t' (order.toList.map fun i => hs.getD i 0) ∧ t'.mask = M ∧ t'.led = t.led ∧ t'.plain = t.plain := by
  obtain ⟨owner, e, W⟩ := clean_ok F hn
  obtain ⟨lv, elv⟩ : ∃ lv, liveOf M owner = lv := ⟨_, rfl⟩
  have mem : ∀ {j k : Nat}, (j, k) ∈ lv ↔ j ≤ M ∧ oAt owner j = some k := fun {j k} => elv ▸ mem_live W.sz
  have ris := ris_live (fun j => owner.getD j none) (List.range (M + 1)) (by unfold Ris; exact List.pairwise_lt_range)
  have r1 : Ris (lv.map (·.1)) := elv ▸ ris.1
  have nd : (lv.map (·.1)).Nodup := r1.imp fun h => Nat.ne_of_lt h
  have full : ∀ k, k < hs.size → k ∈ lv.map (·.2) := fun k hk => by
    obtain ⟨j, b1, b2⟩ := W.all k (by simpa using hk)
    exact List.mem_map.mpr ⟨(j, k), mem.mpr ⟨b1, b2⟩, rfl⟩
  have len : lv.length = hs.size := by
    obtain ⟨ps, p1, p2⟩ := W.ps
    have u := nat_nodup_len (lv.map (·.1)) ps nd fun x hx => by
      obtain ⟨⟨y, k⟩, hq, rfl⟩ := List.mem_map.mp hx
      obtain ⟨b1, b2⟩ := mem.mp hq
      exact p2 y b1 (by rw [b2]; simp)
    have d := nat_nodup_len (List.range hs.size) (lv.map (·.2)) List.nodup_range fun k hk => full k (List.mem_range.mp hk)
    simp only [List.length_map, List.length_range, p1, Array.length_toList] at u d
    omega
  refine ⟨L2.tabOf t M owner, ((liveOf M owner).map (·.2)).toArray, by rw [relaid_eq, hw, e]; rfl, ?_, ?_, rfl, rfl, rfl⟩
  · rw [elv]
    exact perm_range hs.size _ (by simpa using len) full
  · have place : (L2.tabOf t M owner).place = (lv.map (·.1)).toArray := by rw [← elv]; rfl
    refine ⟨by rw [place]; exact r1, rfl, by rw [place, elv]; simp, F, fun x hx => ?_, fun i h j h1 h2 => ?_⟩
    · rw [place] at hx
      obtain ⟨⟨y, k⟩, hq, rfl⟩ := List.mem_map.mp (show x ∈ lv.map (·.1) from hx)
      exact (mem.mp hq).1
    · rw [place] at h2 ⊢
      rw [elv] at h1
      have h1 : ((lv.map (·.2)).map fun i => hs.getD i 0)[i]? = some h := h1
      have h2 : (lv.map (·.1))[i]? = some j := h2
      rw [List.getElem?_map, List.getElem?_map] at h1
      rw [List.getElem?_map] at h2
      cases hq : lv[i]? with
      | none => rw [hq] at h2; cases h2
      | some q =>
        obtain ⟨y, k⟩ := q
        rw [hq] at h1 h2
        cases h2
        have h1 : hs.getD k 0 = h := Option.some.inj h1
        obtain ⟨b1, b2⟩ := mem.mp (List.mem_of_getElem? hq)
        obtain ⟨h0, K, a1, a2, a3⟩ := W.at_ y k b1 b2
        have e0 : hs.getD k 0 = h0 := by
          rw [Array.getElem?_toList] at a1
          rw [Array.getD_eq_getD_getElem?, a1]; rfl
        rw [e0] at h1
        subst h1
        refine ⟨K, a2, fun q hq => ?_⟩
        cases z : oAt owner (way M h0 q) with
        | none => exact absurd z (a3 q hq)
        | some k2 => exact List.mem_map.mpr ⟨(way M h0 q, k2), mem.mpr ⟨way_in _ _ _, z⟩, rfl⟩
end Bs
set_option maxHeartbeats 4000000
/-! S2: a set of tuples of ints: the search, adding. -/
namespace Bs
open PySem PySem.Spec PyProof.Rows L2
abbrev Ks := List (Addr × List Int)
/-- the masks that come -/
def Mk5 (m : Nat) : Prop := m = 7 ∨ m = 31 ∨ m = 127 ∨ m = 511 ∨ m = 2047
theorem Mk5.full {m : Nat} (h : Mk5 m) : Full m := by
  rcases h with rfl | rfl | rfl | rfl | rfl
  · exact full7
  · exact full31
  · exact full127
  · exact full511
  · exact full2047
structure SetX (P : Program) (w : World) (h : Heap) (a : Addr) (L : Ks) (es : Array (Int × Value)) (ep : Nat) (t : SetTable) : Prop where
  ob : ∃ o, h.get? a = some o ∧ o.ExactSet ∧ o.data = .set es ep t
  rows : es.toList = rowsOf P w L
  tab : Tab t (L.map fun p => thash P w p.2)
  nd : (L.map (·.2)).Nodup
  tup : ∀ p ∈ L, IsT P w h p.2 p.1
  plain : t.plain = true
  led : w.params.followText "set-order" = true ∨ t.led = true
  room : L.length * 5 < t.mask * 3
  msk : Mk5 t.mask
  few : L.length ≤ 1000
section
variable {P : Program} {w : World} {A : Around} {E : Value → Shared → Prop} {s : Shared} {a : Addr} {L : Ks} {es : Array (Int × Value)} {ep : Nat} {t : SetTable}
theorem rows_len {es : Array (Int × Value)} {L : Ks} (h : es.toList = rowsOf P w L) : es.size = L.length := by
  have := congrArg List.length h
  simpa [rowsOf] using this
theorem SetX.size (R : SetX P w s.heap a L es ep t) : es.size = L.length := rows_len R.rows
theorem SetX.psize (R : SetX P w s.heap a L es ep t) : t.place.toList.length = L.length := by
  rw [Array.length_toList, R.tab.sz, List.length_map]
theorem fits_of {t : SetTable} {n : Nat} (h1 : t.place.size = n) (h2 : t.dummies = #[]) (h3 : n ≤ t.mask) : t.fits n = true := by
  unfold SetTable.fits SetTable.fill
  rw [h2, h1]
  simpa using h3
theorem SetX.fits (R : SetX P w s.heap a L es ep t) : t.fits es.size = true :=
  fits_of (by rw [R.tab.sz, List.length_map, R.size]) R.tab.dm (by have := R.room; rw [R.size]; omega)
theorem SetX.entry (R : SetX P w s.heap a L es ep t) {i : Nat} {p : Addr × List Int} (h : L[i]? = some p) : es[i]? = some (thash P w p.2, Value.ref p.1) := by
  rw [← Array.getElem?_toList, R.rows, rowsOf, List.getElem?_map, h]
  rfl
theorem SetX.steady (R : SetX P w s.heap a L es ep t) : ¬ t.gaveWay = true := by
  have := R.msk.full.odd
  unfold SetTable.gaveWay
  rw [this]
  decide
theorem way_quiet (m : Nat) : ∀ (n : Nat) (p : SetTable.Probe), p.dummy = none → (nth m p n).dummy = none
  | 0, _, h => h
  | n + 1, p, h => way_quiet m n (adv m p) (by unfold adv; split <;> exact h)
/-- from the c-th step of the way on -/
theorem probe_on (R : SetX P w s.heap a L es ep t) {x : Addr} {k : List Int} (hx : IsT P w s.heap k x) (hu : A.units < cLine) {K : Nat} (hKf : K < 10 * SetTable.turns t.mask) (hK : way t.mask (thash P w k) K ∉ t.place.toList)
    (hKb : ∀ c, c < K → way t.mask (thash P w k) c ∈ t.place.toList) {Q : SetFound → Shared → Prop} (hin : k ∈ L.map (·.2) → Q (.there none) s) (hout : k ∉ L.map (·.2) → Q (.free (way t.mask (thash P w k) K) false) s) (p0 : SetTable.Probe)
    (e0 : p0 = runAt t.mask (SetTable.bits (thash P w k) % (t.mask + 1)) (SetTable.bits (thash P w k))) : ∀ (f c : Nat) (stand : Option SetTable.Probe), stand.getD (t.probeStart (thash P w k)) = nth t.mask p0 c → c ≤ K → K - c < f →
      (∀ (i : Nat) p, L[i]? = some p → p.2 = k → ∃ c', c ≤ c' ∧ c' < K ∧ t.place.toList[i]? = some (way t.mask (thash P w k) c')) → wpAny (model P w) A (setSearchFrom a (.ref x) (thash P w k) true f stand) Q E s
  | 0, _, _, _, _, hf, _ => absurd hf (Nat.not_lt_zero _)
  | f + 1, c, stand, hst, hc, hf, hre => by
    obtain ⟨o, ho, hex, hd⟩ := R.ob
    rw [setSearchFrom_succ]
    refine wpAny_bind (wpAny_setState_of ho hd R.fits ?_)
    dsimp only
    refine wp_if_neg R.steady ?_
    have at_ : ∀ q, (nth t.mask (nth t.mask p0 c) q).j = way t.mask (thash P w k) (c + q) := fun q => by rw [← nth_add, e0]
    have quiet : (nth t.mask p0 c).dummy = none := way_quiet _ _ _ (by rw [e0]; rfl)
    have hash : ∀ (i : Nat) (p : Addr × List Int), L[i]? = some p → (es[i]?.map (·.1)).getD 0 = thash P w p.2 := fun i p hp => by rw [R.entry hp]; rfl
    have spec := go_spec t R.tab.ris R.tab.dm (fun i => (es[i]?.map (·.1)).getD 0) (thash P w k) (10 * SetTable.turns t.mask) (K - c) (nth t.mask p0 c) quiet (by omega) (fun q hq => by rw [at_]; exact hKb _ (by omega))
      (by rw [at_, show c + (K - c) = K by omega]; exact hK)
    have pr : t.probe (fun i => (es[i]?.map (·.1)).getD 0) (thash P w k) (stand.getD (t.probeStart (thash P w k))) = SetTable.probe.go t (fun i => (es[i]?.map (·.1)).getD 0) (thash P w k) (10 * SetTable.turns t.mask) (nth t.mask p0 c) := by rw [hst]; rfl
    -- where the key stands, if it does, is not passed
    have met : ∀ (i : Nat) (p : Addr × List Int) (n : Nat), L[i]? = some p → p.2 = k → (∀ (q i' : Nat), q < n → t.place.toList[i']? = some (nth t.mask (nth t.mask p0 c) q).j → (es[i']?.map (·.1)).getD 0 ≠ thash P w k) → ∃ c', c + n ≤ c' ∧ c' < K ∧ t.place.toList[i]? = some (way t.mask (thash P w k) c') := fun i p n hi hk hno => by
      obtain ⟨c', a1, a2, a3⟩ := hre i p hi hk
      refine ⟨c', ?_, a2, a3⟩
      rcases Nat.lt_or_ge c' (c + n) with z | z
      · exact absurd ((hash i p hi).trans (by rw [hk])) (hno (c' - c) i (by omega) (by rw [at_, show c + (c' - c) = c' by omega]; exact a3))
      · exact z
    rcases spec with ⟨q, i, hq, hi, hh, hno, hpr⟩ | ⟨hno, hpr⟩
    · rw [pr, hpr]
      dsimp only
      rw [at_] at hi ⊢
      have hil : i < L.length := by rw [← R.psize]; exact (List.getElem?_eq_some_iff.mp hi).1
      obtain ⟨p, hp⟩ : ∃ p, L[i]? = some p := ⟨_, List.getElem?_eq_getElem hil⟩
      have hm : p ∈ L := List.mem_of_getElem? hp
      have rest : wpAny (model P w) A (searchRest a (.ref x) (thash P w k) true f es t (way t.mask (thash P w k) (c + q)) i (nth t.mask (nth t.mask p0 c) (q + 1))) Q E s := by
        unfold searchRest
        rw [R.entry hp]
        dsimp only
        refine wpAny_bind (wpAny_holding (wpAny_eqBool_tuple hu (R.tup p hm) hx ?_))
        refine wpAny_bind (wpAny_setState_of ho hd R.fits ?_)
        dsimp only
        by_cases hkk : p.2 = k
        · exact wp_if_pos (by simp [hkk]) (wpAny_pure (hin (List.mem_map.mpr ⟨p, hm, hkk⟩)))
        · refine wp_if_neg (by simp [hkk]) ?_
          have hsl : t.slot (way t.mask (thash P w k) (c + q)) = .live i := slot_live R.tab.ris hi
          rw [sameMem]
          dsimp only
          simp only [if_true, hsl, R.entry hp]
          refine wpAny_bind (wpAny_isSame_ref_self (wpAny_bind (wpAny_pure ?_)))
          simp only [if_true]
          refine wp_if_neg (by simp [hkk]) ?_
          refine probe_on R hx hu hKf hK hKb hin hout p0 e0 f (c + (q + 1)) _ (nth_add _ _ _ _).symm (by omega) (by omega) fun i0 q0 h0 hk0 => ?_
          obtain ⟨c', a1, a2, a3⟩ := met i0 q0 q h0 hk0 hno
          refine ⟨c', ?_, a2, a3⟩
          rcases Nat.eq_or_lt_of_le a1 with z | z
          · rw [← z] at a3
            have s0 := (slot_live R.tab.ris a3).symm.trans hsl
            cases s0
            rw [hp] at h0
            cases h0
            exact absurd hk0 hkk
          · omega
      by_cases hl : t.led = true
      · refine wp_if_neg (by simp [hl]) ?_
        exact rest
      · refine wp_if_pos (by simp [hl]) ?_
        refine wpAny_bind (seen_tup hx (fun y hy => ?_) (wp_if_neg (by decide) rest))
        obtain ⟨e, he, rfl⟩ := List.mem_map.mp hy
        have he : e ∈ es.toList := by
          have : e ∈ es ∧ e.1 = thash P w k := by simpa using he
          simpa using this.1
        rw [R.rows] at he
        obtain ⟨p2, hp2, rfl⟩ := List.mem_map.mp he
        exact ⟨p2.2, p2.1, rfl, R.tup p2 hp2⟩
    · rw [pr, hpr]
      dsimp only
      rw [at_, show c + (K - c) = K by omega]
      refine wpAny_pure (hout fun hm => ?_)
      obtain ⟨p1, h1, hk1⟩ := List.mem_map.mp hm
      obtain ⟨i1, hi1⟩ := List.mem_iff_getElem?.mp h1
      obtain ⟨c', a1, a2, _⟩ := met i1 p1 (K - c) hi1 hk1 hno
      omega
theorem search_add (R : SetX P w s.heap a L es ep t) {x : Addr} {k : List Int} (hx : IsT P w s.heap k x) (hu : A.units < cLine) {Q : SetFound → Shared → Prop} (hin : k ∈ L.map (·.2) → Q (.there none) s)
    (hout : ∀ K, k ∉ L.map (·.2) → way t.mask (thash P w k) K ∉ t.place.toList → (∀ c, c < K → way t.mask (thash P w k) c ∈ t.place.toList) → Q (.free (way t.mask (thash P w k) K) false) s) :
    wpAny (model P w) A (setSearch a (.ref x) (thash P w k) true) Q E s := by
  have hr := R.room
  have hlow := R.msk.full.low
  obtain ⟨K, hKf, hK, hKb⟩ := R.tab.first (by rw [List.length_map]; omega) (thash P w k)
  have hbig : K < 100000 := by
    unfold SetTable.turns at hKf
    omega
  refine probe_on R hx hu hKf hK hKb hin (fun hn => hout K hn hK hKb) _ rfl 100000 0 none rfl (Nat.zero_le _) (by omega) fun i p hp hk => ?_
  have hil : i < t.place.toList.length := by rw [R.psize]; exact (List.getElem?_eq_some_iff.mp hp).1
  have hj := List.getElem?_eq_getElem hil
  obtain ⟨c, hc, e⟩ := R.tab.ahead hK (by rw [List.getElem?_map, hp, ← hk]; rfl) hj
  exact ⟨c, Nat.zero_le _, hc, by rw [hj, e]⟩
/-- laid anew, larger -/
theorem relay_big {o : Obj} (ho : s.heap.get? a = some o) (hex : o.ExactSet) (hd : o.data = .set es ep t) (hrows : es.toList = rowsOf P w L) (hsz : t.place.size = es.size) (hdm : t.dummies = #[]) (hfl : es.size ≤ t.mask) (nd : (L.map (·.2)).Nodup)
    (tup : ∀ p ∈ L, IsT P w s.heap p.2 p.1) (pl : t.plain = true) (ld : w.params.followText "set-order" = true ∨ t.led = true) (few : L.length ≤ 1000) {wanted M : Nat} (hw : SetTable.sizeAbove wanted = M + 1) (hM : Mk5 M) (hn : L.length * 5 < M * 3)
    {Q : Unit → Shared → Prop} (hQ : ∀ h' L' es' ep' t', Heap.SameBut a s.heap h' → SetX P w h' a L' es' ep' t' → L'.Perm L → Q () { s with heap := h' }) : wpAny (model P w) A (setRelay a wanted) Q E s := by
  have hlow := hM.full.low
  have hsl := rows_len hrows
  obtain ⟨t', order, e, hp, T, em, el, ep'⟩ := relaid_ok (hs := es.map (·.1)) t (by rw [hw]; rfl) hM.full (by rw [Array.size_map, hsl]; omega)
  rw [Array.size_map, hsl] at hp
  obtain ⟨L2, r1, r2, r3⟩ := order_rows L es order hrows hp
  rw [← r3] at T
  have hs2 : (order.filterMap (es[·]?)).size = es.size := by rw [rows_len r1, r2.length_eq, hsl]
  rw [setRelay_eq]
  refine wpAny_bind (wpAny_setState_of ho hd (fits_of hsz hdm hfl) ?_)
  dsimp only
  refine wp_if_neg (by rw [hw, sizeLine_eq]; omega) ?_
  rw [e]
  dsimp only
  refine wpAny_bind (wp_if_neg (by rw [hs2]; simp) (wpAny_pure ?_))
  dsimp only
  refine wpAny_storeSet_of ho hd ?_ (by rw [hs2, hsl, sizeLine_eq]; omega)
  have sb : Heap.SameBut a s.heap (s.heap.update a (Obj.putSet (order.filterMap (es[·]?)) t')) := Heap.SameBut.update ..
  refine hQ _ L2 (order.filterMap (es[·]?)) (ep + 1) t' sb ⟨⟨_, store_at ho hd, hex, rfl⟩, r1, T, (r2.map (·.2)).nodup_iff.mpr nd, fun p hpm => isT_same (tup p (r2.mem_iff.mp hpm)) ho hd sb, ep'.trans pl, by rw [el]; exact ld, ?_, by rw [em]; exact hM, ?_⟩ r2
  · rw [r2.length_eq, em]; exact hn
  · rw [r2.length_eq]; exact few
theorem grow_to {m n : Nat} (hm : Mk5 m) (h1 : n * 5 < m * 3) (h2 : (n + 1) * 5 ≥ m * 3) (h3 : n + 1 ≤ 1000) : ∃ M, SetTable.sizeAbove (SetTable.grown (n + 1)) = M + 1 ∧ Mk5 M ∧ (n + 1) * 5 < M * 3 ∧ n + 1 ≤ m := by
  rcases hm with rfl | rfl | rfl | rfl | rfl
  · obtain rfl : n = 4 := by omega
    exact ⟨31, by decide +kernel, .inr (.inl rfl), by omega, by omega⟩
  · obtain rfl : n = 18 := by omega
    exact ⟨127, by decide +kernel, .inr (.inr (.inl rfl)), by omega, by omega⟩
  · obtain rfl : n = 76 := by omega
    exact ⟨511, by decide +kernel, .inr (.inr (.inr (.inl rfl))), by omega, by omega⟩
  · obtain rfl : n = 306 := by omega
    exact ⟨2047, by decide +kernel, .inr (.inr (.inr (.inr rfl))), by omega, by omega⟩
  · omega
/-- one is added -/
theorem add_big (R : SetX P w s.heap a L es ep t) {x : Addr} {k : List Int} (hx : IsT P w s.heap k x) (hu : A.units < cLine) (hfew : L.length + 1 ≤ 1000) {Q : Bool → Shared → Prop}
    (hQ : ∀ b h' L' es' ep' t', Heap.SameBut a s.heap h' → SetX P w h' a L' es' ep' t' → (k ∈ L.map (·.2) → L' = L) → (k ∉ L.map (·.2) → L'.Perm ((x, k) :: L)) → Q b { s with heap := h' }) :
    wpAny (model P w) A (setAddHashed a (.ref x) (thash P w k)) Q E s := by
  obtain ⟨o, ho, hex, hd⟩ := R.ob
  have hsl := R.size
  unfold setAddHashed
  refine wpAny_holding ?_
  rw [show (100000 : Nat) = 99999 + 1 from rfl, setAddHashedIn_succ]
  refine wpAny_bind (wpAny_setState_of ho hd R.fits ?_)
  dsimp only
  refine wp_if_neg (by simp [byScan, Value.scannable]) ?_
  refine wpAny_bind (search_add R hx hu (fun hm => wpAny_pure (hQ false s.heap L es ep t (.refl a s.heap) R (fun _ => rfl) fun z => absurd hm z)) fun K hm hK hb => ?_)
  dsimp only
  refine wpAny_bind (wpAny_setState_of ho hd R.fits ?_)
  dsimp only
  obtain ⟨p, hp⟩ : ∃ p, SetTable.below t.place (way t.mask (thash P w k) K) = p := ⟨_, rfl⟩
  obtain ⟨ph, T1, fl⟩ := R.tab.put hK hb hp
  obtain ⟨t1, et1⟩ : ∃ t1, (t.put (way t.mask (thash P w k) K)).1 = t1 := ⟨_, rfl⟩
  have pe : t.put (way t.mask (thash P w k) K) = (t1, p) := Prod.ext et1 hp
  have pm1 : t1.mask = t.mask := by rw [← et1]; rfl
  have pl1 : t1.led = t.led := by rw [← et1]; rfl
  have pp1 : t1.plain = true := by rw [← et1]; exact R.plain
  rw [et1] at T1 fl
  rw [pe]
  dsimp only
  refine wp_if_pos pp1 (wpAny_bind (hashBy_tup hx ?_))
  simp only [if_true]
  obtain ⟨L1, eL⟩ : ∃ L1, L.take p ++ (x, k) :: L.drop p = L1 := ⟨_, rfl⟩
  have hin : (SetTable.insertAt es p (thash P w k, Value.ref x)).toList = rowsOf P w L1 := by rw [← eL, SetTable.toList_insertAt, rows_put, R.rows]
  have pm : L1.Perm ((x, k) :: L) := eL ▸ put_perm L p (x, k)
  have hlen : L1.length = L.length + 1 := pm.length_eq
  have T2 : Tab t1 (L1.map fun p => thash P w p.2) := by
    rw [← eL, List.map_append, List.map_cons, List.map_take, List.map_drop]
    exact T1
  have nd1 : (L1.map (·.2)).Nodup := (pm.map (·.2)).nodup_iff.mpr (List.nodup_cons.mpr ⟨hm, R.nd⟩)
  obtain ⟨es1, ees⟩ : ∃ es1, SetTable.insertAt es p (thash P w k, Value.ref x) = es1 := ⟨_, rfl⟩
  rw [ees] at hin ⊢
  have hes : es1.size = L.length + 1 := by rw [rows_len hin, hlen]
  refine wpAny_bind (wpAny_storeSet_of ho hd ?_ (by rw [hes, sizeLine_eq]; omega))
  have sb : Heap.SameBut a s.heap (s.heap.update a (Obj.putSet es1 t1)) := Heap.SameBut.update ..
  have ho1 := store_at (es' := es1) (t' := t1) ho hd
  generalize s.heap.update a (Obj.putSet es1 t1) = h1 at sb ho1 ⊢
  have tup1 : ∀ p ∈ L1, IsT P w h1 p.2 p.1 := fun q hq => by
    rcases List.mem_cons.mp (pm.mem_iff.mp hq) with rfl | hq
    · exact isT_same hx ho hd sb
    · exact isT_same (R.tup q hq) ho hd sb
  have ld1 : w.params.followText "set-order" = true ∨ t1.led = true := by rw [pl1]; exact R.led
  have sz1 : t1.place.size = es1.size := by rw [T2.sz, List.length_map, hlen, hes]
  have fullIff : t1.tooFull = decide ((L.length + 1) * 5 ≥ t.mask * 3) := by unfold SetTable.tooFull; rw [fl, List.length_map, pm1]
  by_cases hf : (L.length + 1) * 5 ≥ t.mask * 3
  · refine wp_if_pos (by rw [fullIff, decide_eq_true hf]; rfl) (wpAny_bind ?_)
    rw [hsl]
    obtain ⟨M, m1, m2, m3, m4⟩ := grow_to R.msk R.room hf hfew
    refine relay_big (s := { s with heap := h1 }) ho1 hex rfl hin sz1 T2.dm (by rw [hes, pm1]; exact m4) nd1 tup1 pp1 ld1 (by omega) m1 m2 (by rw [hlen]; exact m3) fun h2 L2 es2 ep2 t2 sb2 R2 pm2 => ?_
    exact wpAny_pure (hQ true h2 L2 es2 ep2 t2 (sb.trans sb2) R2 (fun z => absurd z hm) fun _ => pm2.trans pm)
  · refine wp_if_neg (by rw [fullIff, decide_eq_false hf]; simp) ?_
    refine wpAny_pure (hQ true h1 L1 es1 (ep + 1) t1 sb ⟨⟨_, ho1, hex, rfl⟩, hin, T2, nd1, tup1, pp1, ld1, by rw [hlen, pm1]; omega, by rw [pm1]; exact R.msk, by omega⟩ (fun z => absurd z hm) fun _ => pm)
end
end Bs
set_option maxHeartbeats 8000000
/-! S3: set(xs), xs a list or a tuple of tuples of ints. -/
namespace Bs
open PySem PySem.Spec PyProof.Rows L2
abbrev set0 (w : World) : Obj := { cls := .type "set", dict := none, data := .set #[] 0 (.fresh 0 0 (!w.params.followText "set-order")) }
section
variable {P : Program} {w : World} {A : Around} {E : Value → Shared → Prop} {s : Shared}
theorem SetX.keep {h h' : Heap} {a : Addr} {L : Ks} {es : Array (Int × Value)} {ep : Nat} {t : SetTable} (R : SetX P w h a L es ep t) (ha : ∀ o, h.get? a = some o → h'.get? a = some o) (ht : ∀ p ∈ L, IsT P w h' p.2 p.1) : SetX P w h' a L es ep t := by
  obtain ⟨o, ho, r⟩ := R.ob
  exact ⟨⟨o, ha o ho, r⟩, R.rows, R.tab, R.nd, ht, R.plain, R.led, R.room, R.msk, R.few⟩
theorem setX_new {h : Heap} {a : Addr} (ho : h.get? a = some (set0 w)) : SetX P w h a [] #[] 0 (.fresh 0 0 (!w.params.followText "set-order")) := by
  refine ⟨⟨_, ho, ⟨rfl, rfl, rfl⟩, rfl⟩, rfl, ⟨List.Pairwise.nil, rfl, rfl, full7, nofun, fun i h j hi => by simp at hi⟩, List.nodup_nil, nofun, rfl, ?_, (show 0 * 5 < 7 * 3 by decide), .inl rfl, Nat.zero_le _⟩
  show _ ∨ (!w.params.followText "set-order") = true
  cases w.params.followText "set-order" <;> simp
/-- what is known of the entries behind the items of ks up to i -/
structure Upto (ks : Ks) (i : Nat) (L : Ks) : Prop where
  sub : ∀ p ∈ L, p ∈ ks.take i
  all : ∀ p ∈ ks.take i, p.2 ∈ L.map (·.2)
  len : L.length ≤ i
theorem Upto.step {ks L L' : Ks} {i : Nat} {x : Addr × List Int} (g : Upto ks i L) (h : ks[i]? = some x) (c1 : x.2 ∈ L.map (·.2) → L' = L) (c2 : x.2 ∉ L.map (·.2) → L'.Perm (x :: L)) : Upto ks (i + 1) L' := by
  have e : ks.take (i + 1) = ks.take i ++ [x] := by rw [List.take_add_one, h]; rfl
  have one : ∀ p, p ∈ ks.take i ++ [x] ↔ p ∈ ks.take i ∨ p = x := fun p => by simp
  by_cases c : x.2 ∈ L.map (·.2)
  · rw [c1 c]
    refine ⟨fun p hp => by rw [e, one]; exact .inl (g.sub p hp), fun p hp => ?_, Nat.le_succ_of_le g.len⟩
    rw [e, one] at hp
    rcases hp with hp | rfl
    · exact g.all p hp
    · exact c
  · have pm := c2 c
    refine ⟨fun p hp => ?_, fun p hp => ?_, by rw [pm.length_eq]; exact Nat.succ_le_succ g.len⟩
    · rw [e, one]
      rcases List.mem_cons.mp (pm.mem_iff.mp hp) with rfl | z
      · exact .inr rfl
      · exact .inl (g.sub p z)
    · rw [e, one] at hp
      rw [(pm.map (·.2)).mem_iff, List.map_cons, List.mem_cons]
      rcases hp with hp | rfl
      · exact .inr (g.all p hp)
      · exact .inl rfl
/-- the loop of set.update -/
theorem loop_tups {I : Addr} {fp wr : List Addr} {G : Array GenState → Array GenState → Prop} {n : Nat} {Pv : Nat → Value → Prop} {St : Nat → Shared → Prop} {R : Result → Shared → Prop} (W : WalksS P w A.in1 I fp wr G n Pv St) (S : Addr) (hSf : S ∉ fp) (ks : Ks)
    (hn : n = ks.length) (hfew : ks.length ≤ 1000) (hval : ∀ i v, Pv i v → ∃ p, ks[i]? = some p ∧ v = .ref p.1) (h0 : Heap) (hk : ∀ p ∈ ks, IsT P w h0 p.2 p.1) (hS0 : h0.get? S = none) (hw0 : ∀ b ∈ wr, h0.get? b = none) (hu : A.in1.units < cLine) :
    ∀ (k i : Nat) (s : Shared), n = i + k → St i s → (∀ b o, h0.get? b = some o → s.heap.get? b = some o) → (∃ L es ep t, SetX P w s.heap S L es ep t ∧ Upto ks i L) →
      (∀ s' L es ep t, Moved (S :: wr) G s s' → SetX P w s'.heap S L es ep t → Upto ks n L → (∀ b o, h0.get? b = some o → s'.heap.get? b = some o) → R (.ok (.ret .none)) s') →
      codeAny (model P w) A (.builtin "set.update.loop" ⟨[.ref S, .ref I], []⟩) R s := by
  have hSw : S ∉ wr := fun h => hSf (W.sub _ h)
  have more : ∀ b ∈ wr, b ∈ S :: wr := fun b hb => .tail _ hb
  have still : ∀ {s s' : Shared}, Moved wr G s s' → (∀ b o, h0.get? b = some o → s.heap.get? b = some o) → ∀ b o, h0.get? b = some o → s'.heap.get? b = some o := fun mv kp b o e => mv.heap b o (fun hb => by rw [hw0 b hb] at e; cases e) (kp b o e)
  have there : ∀ {L : Ks} {i : Nat} {s' : Shared}, Upto ks i L → (∀ b o, h0.get? b = some o → s'.heap.get? b = some o) → ∀ p ∈ L, IsT P w s'.heap p.2 p.1 := fun g kp p hp => isT_keep (hk p (List.mem_of_mem_take (g.sub p hp))) kp
  intro k
  induction k with
  | zero =>
    intro i s hik hst hkp ⟨L, es, ep, t, hS, g⟩ hR
    obtain rfl : n = i := hik
    refine codeAny_builtin F.entry_set_update_loop ?_
    rw [Around.under_plainId F.plain_set_update_loop _]
    show wpAny _ A.in1 (pyNext (.ref I) >>= _) _ _ s
    refine wpAny_bind (W.done s _ _ hst fun s' mv => ?_)
    have kp' := still mv hkp
    exact wpAny_pure (hR s' L es ep t (mv.mono more) (hS.keep (fun o e => mv.heap S o hSw e) (there g kp')) g kp')
  | succ k ih =>
    intro i s hik hst hkp ⟨L, es, ep, t, hS, g⟩ hR
    refine codeAny_builtin F.entry_set_update_loop ?_
    rw [Around.under_plainId F.plain_set_update_loop _]
    show wpAny _ A.in1 (pyNext (.ref I) >>= _) _ _ s
    refine wpAny_bind (W.item i s _ _ (by omega) hst fun v s' hP hst' mv => ?_)
    obtain ⟨p, hp, rfl⟩ := hval i v hP
    have kp' := still mv hkp
    have hS' := hS.keep (fun o e => mv.heap S o hSw e) (there g kp')
    have hx : IsT P w s'.heap p.2 p.1 := isT_keep (hk p (List.mem_of_getElem? hp)) kp'
    show wpAny _ A.in1 (holding [Value.ref p.1] (setAdd S (.ref p.1)) >>= _) _ _ s'
    refine wpAny_bind (wpAny_holding ?_)
    unfold setAdd
    refine wpAny_holding (wpAny_bind (wpAny_pyHash_tuple hu hx ?_))
    have hlen := g.len
    refine add_big (s := { s' with toks := s'.toks + (p.2.length + 1) }) hS' hx hu (by omega) fun b h' L' es' ep' t' sb hS2 c1 c2 => ?_
    have kp2 : ∀ b o, h0.get? b = some o → h'.get? b = some o := fun b o e => (sb.2 b (fun z => by rw [z, hS0] at e; cases e)).trans (kp' b o e)
    have off : ∀ {b : Addr}, b ∈ fp → b ≠ S := fun hb z => hSf (z ▸ hb)
    refine wpAny_pure ⟨plainId_quiet F.plain_set_update_loop _, ih (i + 1) _ (by omega) (W.frame _ s' _ _ hst' (Nat.le_add_right _ _) fun b hb o e => (sb.2 b (off hb)).trans e) kp2 ⟨L', es', ep', t', hS2, g.step hp c1 c2⟩ fun s'' L2 es2 ep2 t2 mv2 hS3 g3 kp3 => ?_⟩
    exact hR s'' L2 es2 ep2 t2 (Moved.trans W.gtrans ((mv.mono more).then_heap (Nat.le_add_right _ _) fun b o hb e => (sb.2 b (fun z => hb (z ▸ List.mem_cons_self))).trans e) mv2) hS3 g3 kp3

/-- set(xs): the set, its table, in the heap -/
theorem call_tups {l : Addr} {items : Array Value} (ks : Ks) {Q : Value → Shared → Prop} (hh : A.handled = none) (hl : s.heap.IsList l items ∨ s.heap.IsTuple l items) (hit : items.toList = ks.map fun p => Value.ref p.1) (hk : ∀ p ∈ ks, IsT P w s.heap p.2 p.1)
    (hfew : ks.length ≤ 1000) (hu : A.units + 3 < cLine)
    (h : ∀ (h' : Heap) (tk : Nat) L es ep t, SetX P w h' s.heap.objs.size L es ep t → Upto ks ks.length L → (∀ b o, s.heap.get? b = some o → h'.get? b = some o) → Q (.ref s.heap.objs.size) { s with heap := h', toks := tk }) :
    wpAny (model P w) A (call (.type "set") [.ref l]) Q E s := by
  have hisz : items.size = ks.length := by simpa using congrArg List.length hit
  have nothing : ∀ b, s.heap.objs.size ≤ b → s.heap.get? b = none := fun b hb => Heap.get?_none_of_le hb
  have hval : ∀ (i : Nat) (v : Value), items[i]? = some v → ∃ p, ks[i]? = some p ∧ v = .ref p.1 := fun i v hv => by
    rw [← Array.getElem?_toList, hit, List.getElem?_map] at hv
    obtain ⟨p, hp, e⟩ := Option.map_eq_some_iff.mp hv
    exact ⟨p, hp, e.symm⟩
  have hsz : (s.heap.push (set0 w)).objs.size = s.heap.objs.size + 1 := Heap.size_push ..
  have hS : (s.heap.push (set0 w)).get? s.heap.objs.size = some (set0 w) := Heap.get?_push_size _ rfl
  obtain ⟨c, tl, hmro⟩ := F.called_set.mro
  have hmade := F.called_set.made
  have hsub := F.called_set.sub
  refine wpAny_call (codeAny_of_tree ?_)
  show wpAny _ _ (callAny (.type "set") _) _ _ _
  refine wpAny_pure ⟨Code.quiet_builtin _ (by decide +kernel), codeAny_builtin F.entry_type_call ?_⟩
  rw [Around.under_plain (weight_type_call_type "set" [.ref l] []) rfl]
  have h1 := F.called_set.notType
  have h2 := F.called_set.canCreate
  have hct := F.typeCall_set_1 (.ref l)
  repeat (any_goals (first | assumption | wp_step))
  refine codeAny_mono (code_set_led1 (.ref l) (E := E) (Q₁ := fun obj s₁ => obj = .ref s.heap.objs.size ∧ s₁ = { s with heap := s.heap.push (set0 w) }) ⟨rfl, rfl⟩) fun r s₁ hr => ?_
  match r, hr with
  | .error e, hr => exact hr
  | .ok .next, hr => exact hr.elim
  | .ok .brk, hr => exact hr.elim
  | .ok .cont, hr => exact hr.elim
  | .ok (.ret obj), hr =>
    obtain ⟨rfl, rfl⟩ := hr
    have hT : Shared.TypeIs { s with heap := s.heap.push (set0 w) } (.ref s.heap.objs.size) "set" := ⟨_, hS, rfl⟩
    have hli := F.called_set.init.lookup
    have hbi := F.called_set.init.bind (.ref s.heap.objs.size)
    repeat (any_goals (first | assumption | wp_step))
    refine codeAny_mono (codeAny_call_builtin (R := wants (fun r s₂ => r = .none ∧ ∃ h' tk L es ep t, s₂ = { s with heap := h', toks := tk } ∧ SetX P w h' s.heap.objs.size L es ep t ∧ Upto ks ks.length L ∧ (∀ b o, s.heap.get? b = some o → h'.get? b = some o)) E) F.called_set.init.plain F.entry_set_init
      (check_set_init_1 hT ?_)) fun r₂ s₂ hr₂ => ?_
    · have hh3 : A.in1.in1.in1.handled = none := by simp [hh]
      have start : ∀ {it : Obj}, ((s.heap.push (set0 w)).push it).get? s.heap.objs.size = some (set0 w) := fun {it} => Heap.get?_push_of_some _ hS
      have keeps2 : ∀ {it : Obj} b o, s.heap.get? b = some o → ((s.heap.push (set0 w)).push it).get? b = some o := fun b o e => Heap.get?_push_of_some _ (Heap.get?_push_of_some _ e)
      have endR : ∀ (s0 s' : Shared) (wr : List Addr) L es ep t, s0.gens = s.gens → s0.drawn = s.drawn → s0.os = s.os → Moved wr (fun a b => b = a) s0 s' → SetX P w s'.heap s.heap.objs.size L es ep t → Upto ks ks.length L → (∀ b o, s.heap.get? b = some o → s'.heap.get? b = some o) →
          (fun r s₂ => r = Value.none ∧ ∃ h' tk L es ep t, s₂ = { s with heap := h', toks := tk } ∧ SetX P w h' s.heap.objs.size L es ep t ∧ Upto ks ks.length L ∧ (∀ b o, s.heap.get? b = some o → h'.get? b = some o)) Value.none s' := fun s0 s' wr L es ep t e1 e2 e3 mv R g kp => by
        obtain ⟨h', g2, d', tk', os'⟩ := s'
        have eg : g2 = s.gens := mv.gens.trans e1
        have ed : d' = s.drawn := mv.drawn.trans e2
        have eo : os' = s.os := mv.os.trans e3
        subst eg; subst ed; subst eo
        exact ⟨rfl, h', tk', L, es, ep, t, rfl, R, g, kp⟩
      rcases hl with hl | hl
      · obtain ⟨⟨ocls, odict, odata, oslots⟩, hol, hcl, nl, hdl⟩ := hl
        dsimp only at hcl hdl
        subst hcl; subst hdl
        have hlS : l < s.heap.objs.size := Heap.lt_size hol
        have hol' := Heap.get?_push_of_some (set0 w) hol
        have hsls := F.sub_list_set
        have hslf := F.sub_list_frozenset
        have hne : (Value.type "list" == Value.type "dict") = false := by decide
        have hl1 : (s.heap.push (set0 w)).IsList l items := ⟨_, hol', rfl, nl, rfl⟩
        have hneI : l ≠ (s.heap.push (set0 w)).objs.size := by rw [hsz]; exact Nat.ne_of_lt (Nat.lt_succ_of_lt hlS)
        unfold Builtin.«set.__init__» noKeywords Builtin.Frozenset.updateFrom
        generalize hPI : pyIter = PI
        wp_walk
        subst hPI
        refine wpAny_pyIter_list hl1 (wpAny_bind (wpAny_runValue ?_))
        refine loop_tups ((Walks.list hh3 _ l hneI items).toS) s.heap.objs.size (by rw [hsz]; simp only [List.mem_cons, List.not_mem_nil, or_false, not_or]; exact ⟨Nat.ne_of_lt (Nat.lt_succ_self _), Nat.ne_of_gt hlS⟩) ks hisz hfew hval s.heap hk (nothing _ (Nat.le_refl _)) (fun b hb => nothing b (by rw [List.mem_singleton.mp hb, hsz]; exact Nat.le_succ _)) hu items.size 0 _ (by omega)
          ⟨⟨_, Heap.get?_push_size _ rfl, rfl, rfl⟩, hl1.push _⟩ (fun b o e => keeps2 b o e) ⟨[], #[], 0, _, setX_new start, ⟨nofun, fun p hp => by simp at hp, Nat.le_refl _⟩⟩ fun s' L es ep t mv R g kp => ?_
        rw [hisz] at g
        refine wpAny_pure (wpAny_pure ?_)
        refine endR _ s' _ L es ep t ?_ ?_ ?_ mv R g kp <;> rfl
      · obtain ⟨⟨ocls, odict, odata, oslots⟩, hol, hcl, nl, hdl⟩ := hl
        dsimp only at hcl hdl
        subst hcl; subst hdl
        have hlS : l < s.heap.objs.size := Heap.lt_size hol
        have hol' := Heap.get?_push_of_some (set0 w) hol
        have hsls := F.sub_tuple_set
        have hslf := F.sub_tuple_frozenset
        have hne : (Value.type "tuple" == Value.type "dict") = false := by decide
        have hl1 : (s.heap.push (set0 w)).IsTuple l items := ⟨_, hol', rfl, nl, rfl⟩
        have hneI : l ≠ (s.heap.push (set0 w)).objs.size := by rw [hsz]; exact Nat.ne_of_lt (Nat.lt_succ_of_lt hlS)
        unfold Builtin.«set.__init__» noKeywords Builtin.Frozenset.updateFrom
        generalize hPI : pyIter = PI
        wp_walk
        subst hPI
        refine wpAny_pyIter_tuple hl1 (wpAny_bind (wpAny_runValue ?_))
        refine loop_tups ((Walks.tuple hh3 _ l hneI items).toS) s.heap.objs.size (by rw [hsz]; simp only [List.mem_cons, List.not_mem_nil, or_false, not_or]; exact ⟨Nat.ne_of_lt (Nat.lt_succ_self _), Nat.ne_of_gt hlS⟩) ks hisz hfew hval s.heap hk (nothing _ (Nat.le_refl _)) (fun b hb => nothing b (by rw [List.mem_singleton.mp hb, hsz]; exact Nat.le_succ _)) hu items.size 0 _ (by omega)
          ⟨⟨_, Heap.get?_push_size _ rfl, rfl, rfl⟩, hl1.push _⟩ (fun b o e => keeps2 b o e) ⟨[], #[], 0, _, setX_new start, ⟨nofun, fun p hp => by simp at hp, Nat.le_refl _⟩⟩ fun s' L es ep t mv R g kp => ?_
        rw [hisz] at g
        refine wpAny_pure (wpAny_pure ?_)
        refine endR _ s' _ L es ep t ?_ ?_ ?_ mv R g kp <;> rfl
    · match r₂, hr₂ with
      | .error e, hr₂ => exact hr₂
      | .ok .next, hr₂ => exact hr₂.elim
      | .ok .brk, hr₂ => exact hr₂.elim
      | .ok .cont, hr₂ => exact hr₂.elim
      | .ok (.ret r), hr₂ =>
        obtain ⟨rfl, h', tk, L, es, ep, t, rfl, R, g, kp⟩ := hr₂
        repeat (any_goals (first | assumption | wp_step))
        exact h _ _ _ _ _ _ R g kp
end
end Bs
set_option maxHeartbeats 4000000
/-! P0: the orders, each once: plain. -/
namespace Mi
open PySem

theorem lt_nil (a : List Int) : ltL a [] = false := by cases a <;> rfl
theorem lt_irr : ∀ a : List Int, ltL a a = false
  | [] => rfl
  | x :: a => by rw [ltL, if_pos rfl]; exact lt_irr a
theorem lt_tri : ∀ {a b : List Int}, ltL a b = false → ltL b a = false → a = b
  | [], [], _, _ => rfl
  | [], _ :: _, h, _ => nomatch h
  | _ :: _, [], _, h => nomatch h
  | x :: a, y :: b, h1, h2 => by
    rw [ltL] at h1 h2
    by_cases e : x = y
    · subst e
      rw [if_pos rfl] at h1 h2
      rw [lt_tri h1 h2]
    · rw [if_neg e] at h1
      rw [if_neg (Ne.symm e)] at h2
      simp only [decide_eq_false_iff_not] at h1 h2
      omega
theorem lt_trans : ∀ {a b c : List Int}, ltL a b = true → ltL b c = true → ltL a c = true
  | _, [], _, h, _ => by rw [lt_nil] at h; cases h
  | _, _ :: _, [], _, h => by rw [lt_nil] at h; cases h
  | [], _ :: _, _ :: _, _, _ => rfl
  | x :: a, y :: b, z :: c, h1, h2 => by
    rw [ltL] at h1 h2 ⊢
    by_cases e : x = y
    · subst e
      rw [if_pos rfl] at h1
      by_cases e2 : x = z
      · subst e2
        rw [if_pos rfl] at h2 ⊢
        exact lt_trans h1 h2
      · rw [if_neg e2] at h2 ⊢
        exact h2
    · rw [if_neg e, decide_eq_true_eq] at h1
      by_cases e2 : y = z
      · subst e2
        rw [if_neg e]
        exact decide_eq_true h1
      · rw [if_neg e2, decide_eq_true_eq] at h2
        rw [if_neg (by omega)]
        exact decide_eq_true (by omega)
theorem lt_asym {a b : List Int} (h : ltL a b = true) : ltL b a = false := by
  cases h2 : ltL b a with
  | false => rfl
  | true =>
    have := lt_trans h h2
    rw [lt_irr] at this
    cases this
/-- not above -/
def leL (a b : List Int) : Bool := !ltL b a
theorem leL_total (a b : List Int) : (leL a b || leL b a) = true := by
  unfold leL
  cases h : ltL b a with
  | false => rfl
  | true => rw [lt_asym h]; rfl
theorem leL_trans {a b c : List Int} (h1 : leL a b = true) (h2 : leL b c = true) : leL a c = true := by
  unfold leL at *
  simp only [Bool.not_eq_true'] at *
  cases h : ltL c a with
  | false => rfl
  | true =>
    cases hb : ltL a b with
    | true =>
      have := lt_trans h hb
      rw [this] at h2
      cases h2
    | false =>
      have e := lt_tri hb h1
      subst e
      rw [h] at h2
      cases h2
theorem leL_anti {a b : List Int} (h1 : leL a b = true) (h2 : leL b a = true) : a = b := by
  unfold leL at *
  simp only [Bool.not_eq_true'] at *
  exact lt_tri h2 h1

def isIntD : D → Bool
  | .int _ => true
  | _ => false
theorem allInts_eq : ∀ xs : List D, allInts xs = xs.all isIntD
  | [] => rfl
  | .int _ :: r => by rw [allInts, allInts_eq r]; rfl
  | .none :: _ | .bool _ :: _ | .str _ :: _ | .list _ :: _ | .tuple _ :: _ | .dict _ :: _ => rfl
def isTup' : D → Bool
  | .tuple _ => true
  | _ => false
theorem allTups_eq : ∀ xs : List D, allTups xs = xs.all isTup'
  | [] => rfl
  | .tuple _ :: r => by rw [allTups, allTups_eq r]; rfl
  | .none :: _ | .bool _ :: _ | .str _ :: _ | .list _ :: _ | .int _ :: _ | .dict _ :: _ => rfl
theorem rowsOf_iff : ∀ xs : List D, (rowsOf xs).isSome = xs.all fun d => (rowOf d).isSome
  | [] => rfl
  | x :: r => by
    rw [List.all_cons, ← rowsOf_iff r, rowsOf]
    cases rowOf x <;> cases rowsOf r <;> rfl
theorem perm_all {α : Type} {f : α → Bool} {xs ys : List α} (p : xs.Perm ys) : xs.all f = ys.all f := by
  apply Bool.eq_iff_iff.mpr
  simp only [List.all_eq_true]
  exact ⟨fun h x hx => h x (p.mem_iff.mpr hx), fun h x hx => h x (p.mem_iff.mp hx)⟩
theorem ints_map : ∀ {xs : List D} {ns : List Int}, intsOf xs = some ns → xs = ns.map PyData.int
  | [], ns, h => by cases h; rfl
  | .int i :: xs, ns, h => by
    rw [intsOf] at h
    obtain ⟨r, hr, rfl⟩ := Option.map_eq_some_iff.mp h
    rw [ints_map hr]
    rfl
  | .none :: _, _, h | .bool _ :: _, _, h | .str _ :: _, _, h | .list _ :: _, _, h | .tuple _ :: _, _, h | .dict _ :: _, _, h => nomatch h
/-- a row tells its datum, its kind known -/
theorem row_inj {x y : D} {a : List Int} (hx : rowOf x = some a) (hy : rowOf y = some a) (hk : isIntD x = isIntD y) : x = y := by
  cases x with
  | int i =>
    cases y with
    | int j => cases hx; cases hy; rfl
    | tuple _ => cases hk
    | _ => cases hy
  | tuple xs =>
    cases y with
    | int j => cases hk
    | tuple ys => rw [ints_map hx, ints_map hy]
    | _ => cases hy
  | _ => cases hx
theorem rowD_of {x : D} {a : List Int} (h : rowOf x = some a) : rowD x = a := by unfold rowD; rw [h]; rfl
theorem leD_eq (x y : D) : leD x y = leL (rowD x) (rowD y) := rfl
theorem leD_trans (x y z : D) (h1 : leD x y = true) (h2 : leD y z = true) : leD x z = true := leL_trans h1 h2
theorem leD_total (x y : D) : (leD x y || leD y x) = true := leL_total _ _
/-- sorting does not ask in which sequence -/
theorem sortD_perm {xs zs ys : List D} (p : zs.Perm xs) (h : sortD xs = some ys) : sortD zs = some ys := by
  unfold sortD at h ⊢
  have e1 : allInts zs = allInts xs := by rw [allInts_eq, allInts_eq]; exact perm_all p
  have e2 : zs.all neT = xs.all neT := perm_all p
  have e3 : (rowsOf zs).isSome = (rowsOf xs).isSome := by rw [rowsOf_iff, rowsOf_iff]; exact perm_all p
  rw [e1, e2, e3, p.length_eq]
  split at h
  · rename_i hc
    rw [if_pos hc]
    cases h
    simp only [Bool.and_eq_true, Bool.or_eq_true, decide_eq_true_eq] at hc
    obtain ⟨hc, hr⟩ := hc
    rw [rowsOf_iff, List.all_eq_true] at hr
    congr 1
    refine List.Perm.eq_of_pairwise (le := fun a b => leD a b = true) (fun a b ha hb h1 h2 => ?_) (List.pairwise_mergeSort leD_trans leD_total _) (List.pairwise_mergeSort leD_trans leD_total _) ((List.mergeSort_perm _ _).trans (p.trans (List.mergeSort_perm _ _).symm))
    rw [List.mem_mergeSort] at ha hb
    have ha := p.mem_iff.mp ha
    obtain ⟨ra, ea⟩ := Option.isSome_iff_exists.mp (hr a ha)
    obtain ⟨rb, eb⟩ := Option.isSome_iff_exists.mp (hr b hb)
    have e := leL_anti h1 h2
    rw [rowD_of ea, rowD_of eb] at e
    subst e
    refine row_inj ea eb ?_
    rcases hc with (z | z) | z
    · rw [allInts_eq, List.all_eq_true] at z
      rw [z a ha, z b hb]
    · rw [List.all_eq_true] at z
      have f : ∀ {d : D}, neT d = true → isIntD d = false := fun {d} hd => by
        unfold neT at hd
        split at hd
        · rfl
        · cases hd
      rw [f (z a ha), f (z b hb)]
    · match xs, z, ha, hb with
      | [c], _, ha, hb =>
        rw [List.mem_singleton.mp ha, List.mem_singleton.mp hb]
  · cases h
theorem eqv_rows {x y : D} {a b : List Int} (hx : rowOf x = some a) (hy : rowOf y = some b) : x.eqv y = true ↔ x = y := by
  cases x with
  | int i =>
    cases y with
    | int j => simp [PyData.eqv]
    | tuple ys => simp [PyData.eqv]
    | _ => cases hy
  | tuple xs =>
    cases y with
    | int j => simp [PyData.eqv]
    | tuple ys =>
      have ex := ints_map hx
      have ey := ints_map hy
      have e : PyData.eqv (.tuple xs) (.tuple ys) = PyData.eqvAll xs ys := by simp [PyData.eqv]
      rw [e, ex, ey, PySem.W.ked_eqvAll, decide_eq_true_eq]
      constructor
      · intro h; rw [h]
      · intro h
        have h := PyData.tuple.inj h
        rw [← ex, ← ey] at h
        subst h
        rw [hx] at hy
        exact Option.some.inj hy
    | _ => cases hy
  | _ => cases hx
theorem once_any {r : List D} (hr : ∀ d ∈ r, (rowOf d).isSome = true) {x : D} (hx : (rowOf x).isSome = true) : r.any (fun y => y.eqv x) = true ↔ x ∈ r := by
  rw [List.any_eq_true]
  obtain ⟨a, ea⟩ := Option.isSome_iff_exists.mp hx
  constructor
  · rintro ⟨y, hy, e⟩
    obtain ⟨b, eb⟩ := Option.isSome_iff_exists.mp (hr y hy)
    rw [← (eqv_rows eb ea).mp e]
    exact hy
  · intro h
    exact ⟨x, h, (eqv_rows ea ea).mpr rfl⟩
theorem once_mem : ∀ {xs : List D}, (∀ d ∈ xs, (rowOf d).isSome = true) → ∀ d, d ∈ onceD xs ↔ d ∈ xs
  | [], _, d => Iff.rfl
  | x :: r, h, d => by
    have ih := once_mem (xs := r) fun d hd => h d (List.mem_cons_of_mem _ hd)
    rw [onceD]
    by_cases c : (onceD r).any (fun y => y.eqv x) = true
    · rw [if_pos c, ih, List.mem_cons]
      refine ⟨.inr, fun z => ?_⟩
      rcases z with rfl | z
      · exact (ih d).mp ((once_any (fun y hy => h y (List.mem_cons_of_mem _ ((ih y).mp hy))) (h d List.mem_cons_self)).mp c)
      · exact z
    · rw [if_neg c, List.mem_cons, List.mem_cons, ih]
theorem once_nodup : ∀ {xs : List D}, (∀ d ∈ xs, (rowOf d).isSome = true) → (onceD xs).Nodup
  | [], _ => List.nodup_nil
  | x :: r, h => by
    have h' : ∀ d ∈ r, (rowOf d).isSome = true := fun d hd => h d (List.mem_cons_of_mem _ hd)
    have ih := once_nodup h'
    rw [onceD]
    by_cases c : (onceD r).any (fun y => y.eqv x) = true
    · rw [if_pos c]; exact ih
    · rw [if_neg c]
      refine List.nodup_cons.mpr ⟨fun hm => c ?_, ih⟩
      exact (once_any (fun y hy => h' y ((once_mem h' y).mp hy)) (h x List.mem_cons_self)).mpr hm
/-- the same, each once -/
theorem once_perm {xs zs : List D} (h : ∀ d ∈ xs, (rowOf d).isSome = true) (hn : zs.Nodup) (hm : ∀ d, d ∈ zs ↔ d ∈ xs) : zs.Perm (onceD xs) :=
  (List.perm_ext_iff_of_nodup hn (once_nodup h)).mpr fun d => (hm d).trans (once_mem h d).symm
end Mi
set_option maxHeartbeats 4000000
/-! S4: sorted(set(..)). -/
namespace Mi
open PySem PySem.Spec PySem.Calls PyProof.Rows PySem.W L2 Bs
theorem nodup_inj {α β : Type} {f : α → β} (hf : ∀ a b, f a = f b → a = b) {l : List α} (h : l.Nodup) : (l.map f).Nodup :=
  List.pairwise_map.mpr (h.imp fun n e => n (hf _ _ e))
def dT (p : Addr × List Int) : D := .tuple (p.2.map .int)
theorem rowOf_map (ns : List Int) : rowOf (.tuple (ns.map PyData.int)) = some ns := by
  show intsOf _ = _
  induction ns with
  | nil => rfl
  | cons n ns ih => rw [List.map_cons, intsOf, ih]; rfl
theorem dT_inj {p q : Addr × List Int} (h : dT p = dT q) : p.2 = q.2 := by
  have e := rowOf_map p.2
  rw [show PyData.tuple (p.2.map PyData.int) = PyData.tuple (q.2.map PyData.int) from h, rowOf_map] at e
  exact (Option.some.inj e).symm
section
variable {X : Cx} {pins : List (Addr × Obj)} {σ : L2.St} {H : Hp} {s : Shared} {Z : List Addr} {K : PySem.W.Frag}
/-- the tuples behind the items -/
theorem tups_of : ∀ {us : List Value} {ds : List D}, EachIs (RR K H Z) us ds → allTups ds = true → (rowsOf ds).isSome = true → ∃ ks : Ks, us = ks.map (fun p => Value.ref p.1) ∧ ds = ks.map dT ∧ ∀ p ∈ ks, RR K H Z (.ref p.1) (dT p)
  | _, _, .nil, _, _ => ⟨[], rfl, rfl, nofun⟩
  | u :: us, d :: ds, .cons h t, h1, h2 => by
    rw [allTups_eq, List.all_cons, Bool.and_eq_true, ← allTups_eq] at h1
    rw [rowsOf_iff, List.all_cons, Bool.and_eq_true, ← rowsOf_iff] at h2
    obtain ⟨ks, e1, e2, e3⟩ := tups_of t h1.2 h2.2
    obtain ⟨ns, hns⟩ := Option.isSome_iff_exists.mp h2.1
    cases d with
    | tuple xs =>
      obtain ⟨x, rx, rd⟩ := h
      obtain ⟨a, zs, rfl, ta, rs⟩ := id rd
      obtain rfl : u = Value.ref a := rx
      have ex := ints_map hns
      subst ex
      refine ⟨(a, ns) :: ks, by rw [e1]; rfl, by rw [e2]; rfl, fun p hp => ?_⟩
      rcases List.mem_cons.mp hp with rfl | hp
      · exact ⟨.ref a, rfl, rd⟩
      · exact e3 p hp
    | _ => cases h1.1
theorem isT_of (I : Inv X pins σ H s) {p : Addr × List Int} (h : RR X.K H Z (.ref p.1) (dT p)) : IsT X.prog X.w s.heap p.2 p.1 := by
  obtain ⟨x, rx, a, zs, rfl, ta, rs⟩ := h
  have e : Value.ref p.1 = Value.ref a := rx
  cases e
  have hx := ints_of (X := X) rs (rowOf_map p.2)
  exact I.isT (by rw [← hx]; exact ta.sq)
theorem each_dT {ks : Ks} (h : ∀ p ∈ ks, RR K H Z (.ref p.1) (dT p)) : EachIs (RR K H Z) (ks.map fun p => Value.ref p.1) (ks.map dT) := by
  induction ks with
  | nil => exact .nil
  | cons p ks ih => exact .cons (h p List.mem_cons_self) (ih fun q hq => h q (List.mem_cons_of_mem _ hq))
theorem each_ints : ∀ (ns : List (Int × Tok)), EachIs (RR K H Z) (ns.map fun p => Value.int p.1 p.2) (ns.map fun p => PyData.int p.1)
  | [] => .nil
  | p :: ns => .cons ⟨.int p.1, ⟨p.2, rfl⟩, rfl⟩ (each_ints ns)
theorem ints_pairs : ∀ {vs : List Value}, (∀ v ∈ vs, ∃ k t, v = Value.int k t) → ∃ ns : List (Int × Tok), vs = ns.map fun p => Value.int p.1 p.2
  | [], _ => ⟨[], rfl⟩
  | v :: vs, h => by
    obtain ⟨k, t, rfl⟩ := h v List.mem_cons_self
    obtain ⟨ns, rfl⟩ := ints_pairs fun u hu => h u (List.mem_cons_of_mem _ hu)
    exact ⟨(k, t) :: ns, rfl⟩
/-- sorted(s), s a set: its members laid in a list -/
theorem sorted_of_set (I : Inv X pins σ H s) (hu : X.A.units + 64 < cLine) (hc : X.calm = true) {a : Addr} {es : Array (Int × Value)} {ep : Nat} {t : SetTable} {ds ys : List D} {Q : VK}
    (ha : SetAt s.heap a es ep t) (hf : t.fits es.size = true) (hsz : es.size ≤ 1000) (r : Ris t.place.toList) (hl : X.w.params.followText "set-order" = true ∨ t.led = true)
    (he : ∀ vs, vs.Perm (es.toList.map (·.2)) → ∃ ds', EachIs (RR X.K H Z) vs ds' ∧ ds'.Perm ds) (hs : sortD ds = some ys)
    (q : ∀ p zs, H p = none → RDs X.K H Z ys zs → Q (.ref p) (upd H p (.lst zs))) : wpAny (model X.prog X.w) X.A (call (.builtin "sorted") [.ref a]) (EP X pins σ Q) X.xe s := by
  refine Calls.call_function_entry kind_sorted plain_sorted entry_sorted (args_sorted1 _) ?_
  unfold Builtin.«sorted»
  refine wpAny_bind (m := checkCount "sorted" 1 1 _) (wpAny_pure ?_)
  refine wpAny_bind (collect_set (A := X.A.in1) (I.ok.hd hc) ha hf (by unfold scanBound; omega) r hl fun s1 vs k1 hz g1 o1 pm => ?_)
  obtain ⟨ds', e1, p1⟩ := he vs pm
  have hv : vs.length ≤ sizeLine := by rw [pm.length_eq, List.length_map, Array.length_toList, sizeLine_eq]; omega
  have I1 : Inv X pins σ H s1 := I.call' (ch := []) o1 (Un.kept k1) (I.hok.kept k1) (by rw [g1]; exact I.bare) (fun _ z => nomatch z)
  refine wpAny_bind (wpAny_newList ?_ hv)
  refine wpAny_bind (wpAny_holding (wpAny_mono (sort_body (E' := _) I1 hu e1 hv e1.length (sortD_perm p1 hs) q) (fun _ s' hq => ?_) fun _ _ e => e))
  exact wpAny_pure ⟨_, rfl, hq⟩
end
section
variable {X : Cx} {T : List (Addr × Str)} {C : Ctx} {N : List Str} {lam : Bool} {sc : Scope} {e1 : Expr} {m1 : E} {fp pos : Pos}
theorem p_ofset (g : Good T C N sc X) (hg : isGlb sc "sorted" = true) (h1 : Snd T C X e1 (.set m1)) : PE X (.Call (.Name "sorted" fp) [e1] [] pos) (tE X.K T C (.blt .sorted (.cons (.set m1) .nil))) := by
  obtain ⟨p2, pos2, e2, rfl, gl2, n2, pe2⟩ := h1.set m1 rfl
  refine ⟨fun pins s σ H Q I ⟨B, L, M, ρ, v, M', he, hw, hev, q⟩ => ?_⟩
  have hev : ((evE C m1 ρ M).bind fun p => (get p.2 p.1).bind fun x => (items x).bind fun xs => if setOk x xs = true then (sortD (onceD xs)).map fun ys => (Val.d (.list ys), p.2) else none) = some (v, M') := hev
  obtain ⟨⟨v1, M1⟩, g1, hev⟩ := bindE hev
  obtain ⟨x, gx, hev⟩ := bindE hev
  obtain ⟨ds, gi, hev⟩ := bindE hev
  by_cases hok : setOk x ds = true
  case neg =>
    rw [if_neg hok] at hev
    cases hev
  rw [if_pos hok] at hev
  obtain ⟨ys, hs, e⟩ := mapE hev
  cases e
  refine Call_ (ld_blt I (isGlb_ok g hg) (g.bn "sorted" (by decide)) (show bootBuiltins "sorted" = some (.builtin "sorted") from rfl) ?_)
  refine PyProof.Rows.callWith_builtin1 (PyProof.Rows.args_cons ?_ rfl) rfl rfl
  refine Call_ (ld_blt I gl2 (g.bn "set" (by decide)) PyProof.Rows.boot_set ?_)
  refine PyProof.Rows.callWith_type1 (PyProof.Rows.args_cons (thn (pe2.run pins s σ H (fun y H1 => ∃ L1, Ext L H L1 H1 ∧ Wd X.K T B L1 M1 H1 ∧ RV X.K H1 L1 B v1 y) I ⟨B, L, M, ρ, v1, M1, he, hw, g1, fun L1 H1 y e1 w1 r1 _ => ⟨L1, e1, w1, r1⟩⟩) fun u s1 ⟨y, H1, I1, ru, L1, x1, w1, r1⟩ => PyProof.Rows.args_nil ?_) (n2 _ _)) (n2 _ _) rfl
  have hrt := get_rt w1 r1 gx
  obtain ⟨a, zs, rfl, hsq, hz⟩ := hrt.items gi
  obtain rfl : u = Value.ref a := ru
  have hres : ∀ p zs, H1 p = none → RDs X.K H1 (L1 ++ B) ys zs → Q (.ref p) (upd H1 p (.lst zs)) := fun p zs hp hz => by
    obtain ⟨a1, a2, a3, a4⟩ := res_list x1 w1 hp hz
    exact q _ _ _ (x1.trans a1) a2 a3 fun _ => a4
  unfold setOk at hok
  simp only [Bool.or_eq_true, Bool.and_eq_true, decide_eq_true_eq] at hok
  rcases hok with ⟨⟨k1, k2⟩, k3⟩ | ⟨⟨k2, k4⟩, k3⟩
  · -- a tuple of ints
    cases x with
    | tuple zs' =>
      obtain rfl : zs' = ds := Option.some.inj gi
      obtain ⟨a', xs', e', ta, hz'⟩ := hrt
      cases e'
      obtain ⟨its, rv, pl, hlen⟩ := I1.tuple ta.sq
      have hrow : ∀ d ∈ zs', (rowOf d).isSome = true := fun d hd => by
        obtain ⟨i, rfl⟩ := allInts_mem k2 d hd
        rfl
      obtain ⟨ns, hns⟩ : ∃ ns, intsOf zs' = some ns := by
        have : ∀ {l : List D}, allInts l = true → ∃ ns, intsOf l = some ns := by
          intro l
          induction l with
          | nil => intro _; exact ⟨[], rfl⟩
          | cons d l ih =>
            intro h
            rw [allInts_eq, List.all_cons, Bool.and_eq_true, ← allInts_eq] at h
            obtain ⟨r, hr⟩ := ih h.2
            cases d with
            | int i => exact ⟨i :: r, by rw [intsOf, hr]; rfl⟩
            | _ => cases h.1
        exact this k2
      have exs := ints_of (X := X) hz' hns
      have ezs := ints_map hns
      rw [exs] at rv
      have hlen2 : ns.length ≤ 1000 := by rw [ezs, List.length_map] at k3; exact k3
      refine call_set_tupI ns (I1.ok.hd g.calm) pl (by simpa using rv.ints) (by unfold scanBound; omega) fun h' tk c hS hc hk => ?_
      refine PyProof.Rows.args_nil ?_
      have I2 : Inv X pins σ H1 { s1 with heap := h', toks := tk } := I1.kept hk
      obtain ⟨o, es, ep, t, ho, hex, hd, hg2, hnd, hm, hb, hf, hn, hr, hl⟩ := hS
      refine sorted_of_set I2 g.un g.calm ⟨o, ho, hex.1, hd⟩ hf (by omega) hr hl (fun vs pm => ?_) hs hres
      obtain ⟨nt, ent⟩ := ints_pairs (vs := vs) fun v hv => by
        obtain ⟨e, he, e2⟩ := List.mem_map.mp (pm.mem_iff.mp hv)
        obtain ⟨k, tk, h1, _⟩ := hg2 e he
        exact ⟨k, tk, by rw [← e2, h1]⟩
      subst ent
      refine ⟨_, each_ints nt, ?_⟩
      have pk : (nt.map (·.1)).Perm (es.toList.map L2.keyOf) := by
        have z := pm.map Builtin.Re.reRawOf
        rw [List.map_map, List.map_map] at z
        exact z
      have e3 : nt.map (fun p => PyData.int p.1) = (nt.map (·.1)).map PyData.int := by rw [List.map_map]; rfl
      rw [e3]
      refine once_perm hrow ?_ fun d => ?_
      · refine nodup_inj (fun a b h => by cases h; rfl) ?_
        exact pk.nodup_iff.mpr hnd
      · rw [List.mem_map, ezs, List.mem_map]
        constructor
        · rintro ⟨i, hi, rfl⟩
          exact ⟨i, by simpa using (hm i).mpr (pk.mem_iff.mp hi), rfl⟩
        · rintro ⟨i, hi, rfl⟩
          exact ⟨i, pk.mem_iff.mpr ((hm i).mp (by simpa using hi)), rfl⟩
    | _ => cases k1
  · -- tuples of ints
    obtain ⟨us, rv, hlu⟩ : ∃ us : List Value, Vals zs us ∧ (s1.heap.IsList a us.toArray ∨ s1.heap.IsTuple a us.toArray) := by
      rcases hsq with h | h
      · obtain ⟨its, rv, pl, _⟩ := I1.list h
        exact ⟨its, rv, .inl pl.isList⟩
      · obtain ⟨its, rv, pl, _⟩ := I1.tuple h
        exact ⟨its, rv, .inr pl⟩
    obtain ⟨ks, eu, ed, hks⟩ := tups_of (each_of (X := X) rv hz) k2 k4
    subst eu ed
    rw [List.length_map] at k3
    refine call_tups ks (I1.ok.hd g.calm) hlu (by simp) (fun p hp => isT_of I1 (hks p hp)) k3 (by have := g.un; omega) fun h' tk L es ep t R U hk => ?_
    refine PyProof.Rows.args_nil ?_
    have I2 : Inv X pins σ H1 { s1 with heap := h', toks := tk } := I1.kept hk
    have R' : SetX X.prog X.w ({ s1 with heap := h', toks := tk } : Shared).heap s1.heap.objs.size L es ep t := R
    obtain ⟨o, ho, hex, hd⟩ := R.ob
    have hfew := R.few
    refine sorted_of_set (ds := onceD (ks.map dT)) I2 g.un g.calm ⟨o, ho, hex.1, hd⟩ R'.fits (by rw [R'.size]; exact hfew) R.tab.ris R.led (fun vs pm => ?_) hs hres
    have ees : es.toList.map (·.2) = L.map fun p => Value.ref p.1 := by
      rw [R.rows]
      unfold L2.rowsOf
      rw [List.map_map]
      rfl
    rw [ees] at pm
    obtain ⟨L', pL, eL⟩ := L2.perm_lift (fun p : Addr × List Int => Value.ref p.1) pm L rfl
    have sub : ∀ p ∈ L', p ∈ ks := fun p hp => List.mem_of_mem_take (U.sub p (pL.mem_iff.mp hp))
    refine ⟨L'.map dT, by rw [← eL]; exact each_dT fun p hp => hks p (sub p hp), ?_⟩
    refine once_perm (fun d hd => ?_) ?_ fun d => ?_
    · obtain ⟨p, _, rfl⟩ := List.mem_map.mp hd
      unfold dT
      rw [rowOf_map]; rfl
    · have nd : (L'.map (·.2)).Nodup := (pL.map _).nodup_iff.mpr R.nd
      have e3 : L'.map dT = (L'.map (·.2)).map fun ns => PyData.tuple (ns.map .int) := by rw [List.map_map]; rfl
      rw [e3]
      refine nodup_inj (fun a b h => ?_) nd
      exact dT_inj (p := (0, a)) (q := (0, b)) h
    · rw [List.mem_map, List.mem_map]
      constructor
      · rintro ⟨p, hp, rfl⟩
        exact ⟨p, sub p hp, rfl⟩
      · rintro ⟨p, hp, rfl⟩
        have z := U.all p (by rw [List.take_length]; exact hp)
        obtain ⟨p', hp', e⟩ := List.mem_map.mp z
        exact ⟨p', pL.mem_iff.mpr hp', by unfold dT; rw [e]⟩
end
/-- sorting is as the texts have it -/
theorem sorting_all (T : List (Addr × Str)) (C : Ctx) (lam : Bool) : Sorting T C lam := fun X N sc g hl =>
  ⟨fun hg h1 hn hm => p_plain g hg h1 hn hm, fun hg h1 hn => p_ofset g hg h1, fun hg h1 hn hk => p_key g hl hg h1 hn hk⟩
end Mi
set_option maxHeartbeats 4000000
/-! E1: the law's end. -/
namespace Mi
open PySem PySem.Spec PyProof.Rows L2
theorem end_law {l : PySem.W.OpenLaw} {w : World} {K : PySem.W.Frag} {h : Heap} {mg : Str → Option Value} {fa : Addr} (T : List (Addr × Str)) (cs : List (Addr × Addr)) (rs : List Row) (cst : Str → Option D) (fuel : Nat) (bys : Str → Bool) (n : Nat)
    {oc : Value} {od : Option Addr} {sl : Array (Option Value)} {fd : FuncData}
    (hT : ∀ p ∈ cs, h.get? p.2 = some { cls := .none, data := .fields #[] }) (nT : ∀ p ∈ cs, K.lookup p.2 = none) (C : ∀ p ∈ cs, PySem.W.CodeHd h p.1 p.2) (hb : ∀ (s : Shared) (u : Value), BindsTo s fd ⟨[u], []⟩ [("script", u)])
    (lk : K.lookup fa = some ⟨oc, od, .func fd, sl⟩) (hmg : mg "law" = some (.ref fa)) (TT : ∀ p ∈ T, p.1 ∈ cs.map (·.2)) (hps : ∀ r ∈ rs, r.name = "law" → r.ps = [("script" : Str)])
    (top : ∀ base : Heap, K.In base → base.Ns mainGlobals mg → (∀ p ∈ cs, LamX.TabB base mg p.1 p.2) → TopOk T K mg base rs cst) (hby : ∀ f, bys f = true → ∃ r ∈ rs, r.name = f ∧ bySzD r.st = true)
    (main : ∀ ns : List Int, ns.length ≤ 63 → (∀ z ∈ ns, Builtin.Int.intBits z ≤ 1048576) → callF (tabOf rs) cst fuel bys n "law" [.scr ns] [] = some (.d (.bool true), [])) :
    LamX.LawAtS l w K CX0 (n + 4) 63 "script" mg fa h := by
  refine ⟨fd, cs, spM K T (callF (tabOf rs) cst fuel bys n) 1 "law", hT, nT, C, hb, fun H a ns hl hbits hH hS => ?_, fun base KB GB hB => ?_⟩
  · refine ⟨rfl, [], [], [], [.scr ns], .d (.bool true), [], ?_, ?_, main ns hl hbits, fun L' H' x _ _ r => r⟩
    · refine ⟨.ref a, [], rfl, ⟨a, rfl, ?_⟩, rfl⟩
      rcases hS with z | z
      · exact .inl ⟨z, nofun⟩
      · exact .inr (.inr z)
    · refine ⟨fun p hp => ?_, rfl, List.nodup_nil, nofun, nofun, nofun⟩
      obtain ⟨q, hq, e⟩ := List.mem_map.mp (TT p hp)
      rw [← e]
      exact ⟨#[], hH q hq, trivial, nofun⟩
  · obtain ⟨fa', fd', ps, F, g1, g2, g3, g4, r, hr, e1, e2, FX⟩ := fn_all (P := l.prog) (w := w) (top base KB GB hB) hby (fun n lam => sorting_all _ _ _) n "law" [.scr []] [] _ (main [] (by decide) nofun)
    have e : fa' = fa := by
      rw [hmg] at g1
      cases g1
      rfl
    subst e
    have ep := hps r hr e1
    rw [e2] at ep
    subst ep
    obtain ⟨oc', od', kV, doc, pm, an, cdv, ct, osl, ef, lk', _⟩ := FX.ex
    rw [lk] at lk'
    cases lk'
    exact F
end Mi
set_option maxHeartbeats 4000000
/-! V1: the evaluator, frame by frame (for simp): nothing behind a frame is looked at before its turn. -/
namespace Mi
open PySem
section
variable (C : Ctx) (ρ : Env) (M : MH)
abbrev OV := Option (Val × MH)
def subV (xs : List D) : Val → MH → OV
  | .d (.int k), M => (ixOf xs.length k).bind fun j => (xs[j]?).map fun y => (.d y, M)
  | _, _ => none
theorem subV_int (xs : List D) (k : Int) : subV xs (.d (.int k)) M = (ixOf xs.length k).bind fun j => (xs[j]?).map fun y => (.d y, M) := rfl
def revD : D → Option D
  | .tuple xs => some (.tuple xs.reverse)
  | .list xs => some (.list xs.reverse)
  | _ => none
theorem revD_tup (xs : List D) : revD (.tuple xs) = some (.tuple xs.reverse) := rfl
theorem revD_lst (xs : List D) : revD (.list xs) = some (.list xs.reverse) := rfl
/-- one built-in of one argument -/
def bltW : Blt → D → Option D
  | .sorted, x => (items x).bind fun xs => (sortD xs).map .list
  | b, x => blt1 b x
theorem bltW_sorted (x : D) : bltW .sorted x = (items x).bind fun xs => (sortD xs).map .list := rfl
theorem bltW_len (x : D) : bltW .len x = blt1 .len x := rfl
theorem bltW_all (x : D) : bltW .all x = blt1 .all x := rfl
theorem bltW_any (x : D) : bltW .any x = blt1 .any x := rfl
theorem bltW_sum (x : D) : bltW .sum x = blt1 .sum x := rfl
theorem bltW_max (x : D) : bltW .max x = blt1 .max x := rfl
theorem bltW_min (x : D) : bltW .min x = blt1 .min x := rfl
theorem bltW_tuple (x : D) : bltW .tuple x = blt1 .tuple x := rfl
theorem bltW_list (x : D) : bltW .list x = blt1 .list x := rfl
theorem bltW_int (x : D) : bltW .int x = blt1 .int x := rfl
theorem bltW_abs (x : D) : bltW .abs x = blt1 .abs x := rfl
def isRS : E → Bool
  | .rng _ => true
  | .set _ => true
  | _ => false
theorem isRS_var : ∀ x0, isRS (.var x0) = false := fun _ => rfl
theorem isRS_cst : ∀ x0, isRS (.cst x0) = false := fun _ => rfl
theorem isRS_glob : ∀ x0, isRS (.glob x0) = false := fun _ => rfl
theorem isRS_bin : ∀ x0 x1 x2, isRS (.bin x0 x1 x2) = false := fun _ _ _ => rfl
theorem isRS_cmp : ∀ x0 x1 x2, isRS (.cmp x0 x1 x2) = false := fun _ _ _ => rfl
theorem isRS_chain : ∀ x0 x1 x2 x3 x4, isRS (.chain x0 x1 x2 x3 x4) = false := fun _ _ _ _ _ => rfl
theorem isRS_isN : ∀ x0, isRS (.isN x0) = false := fun _ => rfl
theorem isRS_notN : ∀ x0, isRS (.notN x0) = false := fun _ => rfl
theorem isRS_ite : ∀ x0 x1 x2, isRS (.ite x0 x1 x2) = false := fun _ _ _ => rfl
theorem isRS_tup : ∀ x0, isRS (.tup x0) = false := fun _ => rfl
theorem isRS_lst : ∀ x0, isRS (.lst x0) = false := fun _ => rfl
theorem isRS_sub : ∀ x0 x1, isRS (.sub x0 x1) = false := fun _ _ => rfl
theorem isRS_slc : ∀ x0 x1 x2, isRS (.slc x0 x1 x2) = false := fun _ _ _ => rfl
theorem isRS_rev : ∀ x0, isRS (.rev x0) = false := fun _ => rfl
theorem isRS_call : ∀ x0 x1, isRS (.call x0 x1) = false := fun _ _ => rfl
theorem isRS_blt : ∀ x0 x1, isRS (.blt x0 x1) = false := fun _ _ => rfl
theorem isRS_srt : ∀ x0 x1, isRS (.srt x0 x1) = false := fun _ _ => rfl
theorem isRS_isi : ∀ x0 x1, isRS (.isi x0 x1) = false := fun _ _ => rfl
theorem isRS_neg : ∀ x0, isRS (.neg x0) = false := fun _ => rfl
theorem isRS_new : ∀ x0, isRS (.new x0) = false := fun _ => rfl
theorem isRS_zip : ∀ x0 x1, isRS (.zip x0 x1) = false := fun _ _ => rfl
theorem isRS_comp : ∀ x0 x1 x2 x3 x4, isRS (.comp x0 x1 x2 x3 x4) = false := fun _ _ _ _ _ => rfl
theorem isRS_pop : ∀ x0 x1, isRS (.pop x0 x1) = false := fun _ _ => rfl
theorem isRS_and : ∀ x0 x1, isRS (.and x0 x1) = false := fun _ _ => rfl
theorem isRS_or : ∀ x0 x1, isRS (.or x0 x1) = false := fun _ _ => rfl
theorem isRS_not : ∀ x0, isRS (.not x0) = false := fun _ => rfl
def popV (n : Nat) (k : Int) (M : MH) : OV := match M[n]? with
  | some (.lst xs) => if k.natAbs ≤ lim then (ixOf xs.length k).bind fun j => (xs[j]?).map fun y => (.d y, M.set n (.lst (xs.eraseIdx j))) else none
  | none => none
def popVV : Val → Val → MH → OV
  | .ref n, .d (.int k), M => popV n k M
  | _, _, _ => none
theorem popVV_ok (n : Nat) (k : Int) : popVV (.ref n) (.d (.int k)) M = popV n k M := rfl
def rng2 : Val → Val → MH → Option (List D × MH)
  | .d (.int i), .d (.int k), M => if i.natAbs ≤ lim ∧ k.natAbs ≤ lim then some (rangeL i (k - i).toNat, M) else none
  | _, _, _ => none
theorem rng2_int (i k : Int) : rng2 (.d (.int i)) (.d (.int k)) M = if i.natAbs ≤ lim ∧ k.natAbs ≤ lim then some (rangeL i (k - i).toNat, M) else none := rfl
def setV (n : Nat) (k : Int) (y : D) (M : MH) : Option MH := match M[n]? with
  | some (.lst xs) => (ixOf xs.length k).map fun j => M.set n (.lst (xs.set j y))
  | none => none
def setVV : Val → Val → Val → MH → Option MH
  | .d y, .ref n, .d (.int k), M => setV n k y M
  | _, _, _, _ => none
theorem setVV_ok (n : Nat) (k : Int) (y : D) : setVV (.d y) (.ref n) (.d (.int k)) M = setV n k y M := rfl
def appV (n : Nat) (y : D) (M : MH) : Option MH := match M[n]? with
  | some (.lst xs) => if xs.length < lim then some (M.set n (.lst (xs ++ [y]))) else none
  | none => none
def appVV : Val → Val → MH → Option MH
  | .ref n, .d y, M => appV n y M
  | _, _, _ => none
theorem appVV_ok (n : Nat) (y : D) : appVV (.ref n) (.d y) M = appV n y M := rfl
def extV (n : Nat) (ys : List D) (M : MH) : Option MH := match M[n]? with
  | some (.lst xs) => if xs.length + ys.length ≤ lim then some (M.set n (.lst (xs ++ ys))) else none
  | none => none
def extVV : Val → Val → MH → Option MH
  | .ref n, .d (.list ys), M => extV n ys M
  | _, _, _ => none
theorem extVV_ok (n : Nat) (ys : List D) : extVV (.ref n) (.d (.list ys)) M = extV n ys M := rfl

def kVar (M : MH) : Option (Option Val) → OV
  | some (some v) => some (v, M)
  | _ => none
theorem kVar_s (M : MH) (v : Val) : kVar M (some (some v)) = some (v, M) := rfl
theorem v_var (i : Nat) : evE C (.var i) ρ M = kVar M (ρ[i]?) := by
  rw [evE]
  cases ρ[i]? with
  | none => rfl
  | some v => cases v <;> rfl
theorem v_cst (x : D) : evE C (.cst x) ρ M = some (.d x, M) := rfl
def kGlob (M : MH) : Option D → OV
  | some y => some (.d y, M)
  | _ => none
theorem kGlob_s (M : MH) (y : D) : kGlob M (some y) = some (.d y, M) := rfl
theorem v_glob (x : Str) : evE C (.glob x) ρ M = kGlob M (C.cst x) := by
  rw [evE]
  cases C.cst x <;> rfl
def kBin2 (o : BOp) (v : Val) : Option (Val × MH) → OV
  | some (w, M) => (getT M v).bind fun x => (getT M w).bind fun y => (bop o x y).map fun z => (.d z, M)
  | _ => none
theorem kBin2_s (o : BOp) (v : Val) (w : Val) (M : MH) : kBin2 o v (some (w, M)) = (getT M v).bind fun x => (getT M w).bind fun y => (bop o x y).map fun z => (.d z, M) := rfl
def kBin1 (C : Ctx) (o : BOp) (b : E) (ρ : Env) : Option (Val × MH) → OV
  | some (v, M) => kBin2 o v (evE C b ρ M)
  | _ => none
theorem kBin1_s (C : Ctx) (o : BOp) (b : E) (ρ : Env) (v : Val) (M : MH) : kBin1 C o b ρ (some (v, M)) = kBin2 o v (evE C b ρ M) := rfl
theorem v_bin (o : BOp) (a b : E) : evE C (.bin o a b) ρ M = kBin1 C o b ρ (evE C a ρ M) := by
  rw [evE]
  cases evE C a ρ M with
  | none => rfl
  | some p =>
    obtain ⟨v, M1⟩ := p
    show (evE C b ρ M1).bind _ = kBin2 o v (evE C b ρ M1)
    cases evE C b ρ M1 <;> rfl
def kNeg  : Option (Val × MH) → OV
  | some (.d (.int k), M) => some (.d (.int (-k)), M)
  | _ => none
theorem kNeg_s  (k : Int) (M : MH) : kNeg (some (.d (.int k), M)) = some (.d (.int (-k)), M) := rfl
theorem v_neg (a : E) : evE C (.neg a) ρ M = kNeg (evE C a ρ M) := by
  rw [evE]
  cases h : evE C a ρ M with
  | none => rfl
  | some p =>
    obtain ⟨v, M1⟩ := p
    cases v with
    | d x => cases x <;> first | rfl | (rename_i k; cases k <;> rfl)
    | _ => rfl
def kCmp2 (o : COp) (v : Val) : Option (Val × MH) → OV
  | some (w, M) => (get M v).bind fun x => (get M w).bind fun y => (cop o x y).map fun z => (.d (.bool z), M)
  | _ => none
theorem kCmp2_s (o : COp) (v : Val) (w : Val) (M : MH) : kCmp2 o v (some (w, M)) = (get M v).bind fun x => (get M w).bind fun y => (cop o x y).map fun z => (.d (.bool z), M) := rfl
def kCmp1 (C : Ctx) (o : COp) (b : E) (ρ : Env) : Option (Val × MH) → OV
  | some (v, M) => kCmp2 o v (evE C b ρ M)
  | _ => none
theorem kCmp1_s (C : Ctx) (o : COp) (b : E) (ρ : Env) (v : Val) (M : MH) : kCmp1 C o b ρ (some (v, M)) = kCmp2 o v (evE C b ρ M) := rfl
theorem v_cmp (o : COp) (a b : E) : evE C (.cmp o a b) ρ M = kCmp1 C o b ρ (evE C a ρ M) := by
  rw [evE]
  cases evE C a ρ M with
  | none => rfl
  | some p =>
    obtain ⟨v, M1⟩ := p
    show (evE C b ρ M1).bind _ = kCmp2 o v (evE C b ρ M1)
    cases evE C b ρ M1 <;> rfl
def kCh4 (o : COp) (w : Val) : Option (Val × MH) → OV
  | some (u, M) => (get M w).bind fun x => (get M u).bind fun y => (cop o x y).map fun z => (.d (.bool z), M)
  | _ => none
theorem kCh4_s (o : COp) (w : Val) (u : Val) (M : MH) : kCh4 o w (some (u, M)) = (get M w).bind fun x => (get M u).bind fun y => (cop o x y).map fun z => (.d (.bool z), M) := rfl
def kCh3 (C : Ctx) (o : COp) (c : E) (ρ : Env) (w : Val) (M : MH) : Option Bool → OV
  | some z => if z then kCh4 o w (evE C c ρ M) else some (.d (.bool false), M)
  | none => none
theorem kCh3_s (C : Ctx) (o : COp) (c : E) (ρ : Env) (w : Val) (M : MH) (z : Bool) : kCh3 C o c ρ w M (some z) = if z then kCh4 o w (evE C c ρ M) else some (.d (.bool false), M) := rfl
def kCh2 (C : Ctx) (o o2 : COp) (c : E) (ρ : Env) (v : Val) : Option (Val × MH) → OV
  | some (w, M) => kCh3 C o2 c ρ w M ((get M v).bind fun x => (get M w).bind fun y => cop o x y)
  | _ => none
theorem kCh2_s (C : Ctx) (o o2 : COp) (c : E) (ρ : Env) (v : Val) (w : Val) (M : MH) : kCh2 C o o2 c ρ v (some (w, M)) = kCh3 C o2 c ρ w M ((get M v).bind fun x => (get M w).bind fun y => cop o x y) := rfl
def kCh1 (C : Ctx) (o o2 : COp) (b c : E) (ρ : Env) : Option (Val × MH) → OV
  | some (v, M) => kCh2 C o o2 c ρ v (evE C b ρ M)
  | _ => none
theorem kCh1_s (C : Ctx) (o o2 : COp) (b c : E) (ρ : Env) (v : Val) (M : MH) : kCh1 C o o2 b c ρ (some (v, M)) = kCh2 C o o2 c ρ v (evE C b ρ M) := rfl
theorem v_chain (o o2 : COp) (a b c : E) : evE C (.chain o o2 a b c) ρ M = kCh1 C o o2 b c ρ (evE C a ρ M) := by
  rw [evE]
  cases evE C a ρ M with
  | none => rfl
  | some p =>
    obtain ⟨v, M1⟩ := p
    show (evE C b ρ M1).bind _ = kCh2 C o o2 c ρ v (evE C b ρ M1)
    cases evE C b ρ M1 with
    | none => rfl
    | some q =>
      obtain ⟨w, M2⟩ := q
      show ((get M2 v).bind fun x => (get M2 w).bind fun y => (cop o x y).bind fun z => if z then (evE C c ρ M2).bind fun r => (get r.2 w).bind fun y' => (get r.2 r.1).bind fun w => (cop o2 y' w).map fun k => (Val.d (PyData.bool k), r.2) else some (.d (.bool false), M2)) = kCh3 C o2 c ρ w M2 ((get M2 v).bind fun x => (get M2 w).bind fun y => cop o x y)
      cases get M2 v with
      | none => rfl
      | some x =>
        show ((get M2 w).bind _) = kCh3 C o2 c ρ w M2 ((get M2 w).bind _)
        cases get M2 w with
        | none => rfl
        | some y =>
          show (cop o x y).bind _ = kCh3 C o2 c ρ w M2 (cop o x y)
          cases cop o x y with
          | none => rfl
          | some z =>
            show (if z then _ else _) = (if z then _ else _)
            cases z
            · rfl
            · show (evE C c ρ M2).bind _ = kCh4 o2 w (evE C c ρ M2)
              cases evE C c ρ M2 <;> rfl
def kIsN  : Option (Val × MH) → OV
  | some (v, M) => some (.d (.bool (isNonV v)), M)
  | _ => none
theorem kIsN_s  (v : Val) (M : MH) : kIsN (some (v, M)) = some (.d (.bool (isNonV v)), M) := rfl
theorem v_isN (a : E) : evE C (.isN a) ρ M = kIsN (evE C a ρ M) := by
  rw [evE]
  cases h : evE C a ρ M with
  | none => rfl
  | some p => obtain ⟨v, M1⟩ := p; rfl
def kNotN  : Option (Val × MH) → OV
  | some (v, M) => some (.d (.bool (!isNonV v)), M)
  | _ => none
theorem kNotN_s  (v : Val) (M : MH) : kNotN (some (v, M)) = some (.d (.bool (!isNonV v)), M) := rfl
theorem v_notN (a : E) : evE C (.notN a) ρ M = kNotN (evE C a ρ M) := by
  rw [evE]
  cases h : evE C a ρ M with
  | none => rfl
  | some p => obtain ⟨v, M1⟩ := p; rfl
def kB  : Option (Val × MH) → OV
  | some (.d (.bool k), M) => some (.d (.bool k), M)
  | _ => none
theorem kB_s  (k : Bool) (M : MH) : kB (some (.d (.bool k), M)) = some (.d (.bool k), M) := rfl
def kAnd (C : Ctx) (b : E) (ρ : Env) : Option (Val × MH) → OV
  | some (.d (.bool k), M) => if k then kB (evE C b ρ M) else some (.d (.bool false), M)
  | _ => none
theorem kAnd_s (C : Ctx) (b : E) (ρ : Env) (k : Bool) (M : MH) : kAnd C b ρ (some (.d (.bool k), M)) = if k then kB (evE C b ρ M) else some (.d (.bool false), M) := rfl
theorem v_and (a b : E) : evE C (.and a b) ρ M = kAnd C b ρ (evE C a ρ M) := by
  rw [evE]
  cases evE C a ρ M with
  | none => rfl
  | some p =>
    obtain ⟨v, M1⟩ := p
    cases v with
    | d x =>
      cases x with
      | bool k =>
        cases k with
        | false => rfl
        | true =>
          show (evE C b ρ M1).bind _ = kB (evE C b ρ M1)
          cases evE C b ρ M1 with
          | none => rfl
          | some q =>
            obtain ⟨v, M2⟩ := q
            cases v with
            | d x => cases x <;> rfl
            | _ => rfl
      | _ => rfl
    | _ => rfl
def kOr (C : Ctx) (b : E) (ρ : Env) : Option (Val × MH) → OV
  | some (.d (.bool k), M) => if k then some (.d (.bool true), M) else kB (evE C b ρ M)
  | _ => none
theorem kOr_s (C : Ctx) (b : E) (ρ : Env) (k : Bool) (M : MH) : kOr C b ρ (some (.d (.bool k), M)) = if k then some (.d (.bool true), M) else kB (evE C b ρ M) := rfl
theorem v_or (a b : E) : evE C (.or a b) ρ M = kOr C b ρ (evE C a ρ M) := by
  rw [evE]
  cases evE C a ρ M with
  | none => rfl
  | some p =>
    obtain ⟨v, M1⟩ := p
    cases v with
    | d x =>
      cases x with
      | bool k =>
        cases k with
        | true => rfl
        | false =>
          show (evE C b ρ M1).bind _ = kB (evE C b ρ M1)
          cases evE C b ρ M1 with
          | none => rfl
          | some q =>
            obtain ⟨v, M2⟩ := q
            cases v with
            | d x => cases x <;> rfl
            | _ => rfl
      | _ => rfl
    | _ => rfl
def kNot  : Option (Val × MH) → OV
  | some (.d (.bool k), M) => some (.d (.bool (!k)), M)
  | _ => none
theorem kNot_s  (k : Bool) (M : MH) : kNot (some (.d (.bool k), M)) = some (.d (.bool (!k)), M) := rfl
theorem v_not (a : E) : evE C (.not a) ρ M = kNot (evE C a ρ M) := by
  rw [evE]
  cases h : evE C a ρ M with
  | none => rfl
  | some p =>
    obtain ⟨v, M1⟩ := p
    cases v with
    | d x => cases x <;> first | rfl | (rename_i k; cases k <;> rfl)
    | _ => rfl
def kIte (C : Ctx) (a b : E) (ρ : Env) : Option (Val × MH) → OV
  | some (.d (.bool k), M) => if k then evE C a ρ M else evE C b ρ M
  | _ => none
theorem kIte_s (C : Ctx) (a b : E) (ρ : Env) (k : Bool) (M : MH) : kIte C a b ρ (some (.d (.bool k), M)) = if k then evE C a ρ M else evE C b ρ M := rfl
theorem v_ite (c a b : E) : evE C (.ite c a b) ρ M = kIte C a b ρ (evE C c ρ M) := by
  rw [evE]
  cases h : evE C c ρ M with
  | none => rfl
  | some p =>
    obtain ⟨v, M1⟩ := p
    cases v with
    | d x => cases x <;> first | rfl | (rename_i k; cases k <;> rfl)
    | _ => rfl
def kTup  : Option (List D × MH) → OV
  | some (xs, M) => some (.d (.tuple xs), M)
  | _ => none
theorem kTup_s  (xs : List D) (M : MH) : kTup (some (xs, M)) = some (.d (.tuple xs), M) := rfl
def kLst  : Option (List D × MH) → OV
  | some (xs, M) => some (.d (.list xs), M)
  | _ => none
theorem kLst_s  (xs : List D) (M : MH) : kLst (some (xs, M)) = some (.d (.list xs), M) := rfl
theorem v_tup (es : Es) : evE C (.tup es) ρ M = kTup (evDs C es ρ M) := by
  rw [evE]
  cases h : evDs C es ρ M with
  | none => rfl
  | some p => obtain ⟨v, M1⟩ := p; rfl
theorem v_lst (es : Es) : evE C (.lst es) ρ M = kLst (evDs C es ρ M) := by
  rw [evE]
  cases h : evDs C es ρ M with
  | none => rfl
  | some p => obtain ⟨v, M1⟩ := p; rfl
def kSub2 (v : Val) : Option (Val × MH) → OV
  | some (u, M) => (get M v).bind fun x => (items x).bind fun xs => subV xs u M
  | _ => none
theorem kSub2_s (v : Val) (u : Val) (M : MH) : kSub2 v (some (u, M)) = (get M v).bind fun x => (items x).bind fun xs => subV xs u M := rfl
def kSub1 (C : Ctx) (i : E) (ρ : Env) : Option (Val × MH) → OV
  | some (v, M) => kSub2 v (evE C i ρ M)
  | _ => none
theorem kSub1_s (C : Ctx) (i : E) (ρ : Env) (v : Val) (M : MH) : kSub1 C i ρ (some (v, M)) = kSub2 v (evE C i ρ M) := rfl
theorem v_sub (a i : E) : evE C (.sub a i) ρ M = kSub1 C i ρ (evE C a ρ M) := by
  rw [evE]
  cases evE C a ρ M with
  | none => rfl
  | some p =>
    obtain ⟨v, M1⟩ := p
    show (evE C i ρ M1).bind _ = kSub2 v (evE C i ρ M1)
    cases evE C i ρ M1 with
    | none => rfl
    | some q => obtain ⟨u, M2⟩ := q; (
      dsimp only [kSub2, Option.bind_some]
      congr 1
      funext x
      congr 1
      funext xs
      cases u with
      | d x => cases x <;> rfl
      | _ => rfl)
def kSlc3 (v : Val) (l : Option Int) : Option (Option Int × MH) → OV
  | some (h, M) => (get M v).bind fun x => (cutD x l h).map fun y => (.d y, M)
  | _ => none
theorem kSlc3_s (v : Val) (l : Option Int) (h : Option Int) (M : MH) : kSlc3 v l (some (h, M)) = (get M v).bind fun x => (cutD x l h).map fun y => (.d y, M) := rfl
def kSlc2 (C : Ctx) (hi : Es) (ρ : Env) (v : Val) : Option (Option Int × MH) → OV
  | some (l, M) => kSlc3 v l (evO C hi ρ M)
  | _ => none
theorem kSlc2_s (C : Ctx) (hi : Es) (ρ : Env) (v : Val) (l : Option Int) (M : MH) : kSlc2 C hi ρ v (some (l, M)) = kSlc3 v l (evO C hi ρ M) := rfl
def kSlc1 (C : Ctx) (lo hi : Es) (ρ : Env) : Option (Val × MH) → OV
  | some (v, M) => kSlc2 C hi ρ v (evO C lo ρ M)
  | _ => none
theorem kSlc1_s (C : Ctx) (lo hi : Es) (ρ : Env) (v : Val) (M : MH) : kSlc1 C lo hi ρ (some (v, M)) = kSlc2 C hi ρ v (evO C lo ρ M) := rfl
theorem v_slc (a : E) (lo hi : Es) : evE C (.slc a lo hi) ρ M = kSlc1 C lo hi ρ (evE C a ρ M) := by
  rw [evE]
  cases evE C a ρ M with
  | none => rfl
  | some p =>
    obtain ⟨v, M1⟩ := p
    show (evO C lo ρ M1).bind _ = kSlc2 C hi ρ v (evO C lo ρ M1)
    cases evO C lo ρ M1 with
    | none => rfl
    | some q =>
      obtain ⟨l, M2⟩ := q
      show (evO C hi ρ M2).bind _ = kSlc3 v l (evO C hi ρ M2)
      cases evO C hi ρ M2 <;> rfl
def kRev  : Option (Val × MH) → OV
  | some (v, M) => (get M v).bind fun x => (revD x).map fun y => (.d y, M)
  | _ => none
theorem kRev_s  (v : Val) (M : MH) : kRev (some (v, M)) = (get M v).bind fun x => (revD x).map fun y => (.d y, M) := rfl
theorem v_rev (a : E) : evE C (.rev a) ρ M = kRev (evE C a ρ M) := by
  rw [evE]
  cases evE C a ρ M with
  | none => rfl
  | some q =>
    obtain ⟨v, M1⟩ := q
    show (get M1 v).bind _ = (get M1 v).bind _
    congr 1
    funext x
    cases x <;> rfl
def kCall (C : Ctx) (f : Str) : Option (List Val × MH) → OV
  | some (vs, M) => C.call f vs M
  | _ => none
theorem kCall_s (C : Ctx) (f : Str) (vs : List Val) (M : MH) : kCall C f (some (vs, M)) = C.call f vs M := rfl
theorem v_call (f : Str) (es : Es) : evE C (.call f es) ρ M = kCall C f (evEs C es ρ M) := by
  rw [evE]
  cases h : evEs C es ρ M with
  | none => rfl
  | some p => obtain ⟨v, M1⟩ := p; rfl
def kNew  : Option (Val × MH) → OV
  | some (.d (.list xs), M) => some (.ref M.length, M ++ [.lst xs])
  | _ => none
theorem kNew_s  (xs : List D) (M : MH) : kNew (some (.d (.list xs), M)) = some (.ref M.length, M ++ [.lst xs]) := rfl
theorem v_new (a : E) (h : isL a = true) : evE C (.new a) ρ M = kNew (evE C a ρ M) := by
  rw [evE, if_pos h]
  cases evE C a ρ M with
  | none => rfl
  | some q =>
    obtain ⟨v, M2⟩ := q
    cases v with
    | d x => cases x <;> rfl
    | _ => rfl
theorem v_new_lst (es : Es) : evE C (.new (.lst es)) ρ M = kNew (evE C (.lst es) ρ M) := v_new C ρ M _ rfl
theorem v_new_blt (es : Es) : evE C (.new (.blt .list es)) ρ M = kNew (evE C (.blt .list es) ρ M) := v_new C ρ M _ rfl
theorem v_new_srt (es : Es) : evE C (.new (.blt .sorted es)) ρ M = kNew (evE C (.blt .sorted es) ρ M) := v_new C ρ M _ rfl
theorem v_new_add (a b : E) : evE C (.new (.bin .add a b)) ρ M = kNew (evE C (.bin .add a b) ρ M) := v_new C ρ M _ rfl
theorem v_new_comp (o : List Nat) (e : E) (t : Tg) (i : It) (c : Es) : evE C (.new (.comp o e t i c)) ρ M = kNew (evE C (.comp o e t i c) ρ M) := v_new C ρ M _ rfl
theorem v_new_slc (a : E) (l h : Es) : evE C (.new (.slc a l h)) ρ M = kNew (evE C (.slc a l h) ρ M) := v_new C ρ M _ rfl
theorem v_new_srtk (k : Option Str) (a : E) : evE C (.new (.srt k a)) ρ M = kNew (evE C (.srt k a) ρ M) := v_new C ρ M _ rfl
def kSS  : Option (Val × MH) → OV
  | some (v, M) => (get M v).bind fun x => (items x).bind fun xs => if setOk x xs then (sortD (onceD xs)).map fun ys => (.d (.list ys), M) else none
  | _ => none
theorem kSS_s  (v : Val) (M : MH) : kSS (some (v, M)) = (get M v).bind fun x => (items x).bind fun xs => if setOk x xs then (sortD (onceD xs)).map fun ys => (.d (.list ys), M) else none := rfl
theorem v_sset (a : E) : evE C (.blt .sorted (.cons (.set a) .nil)) ρ M = kSS (evE C a ρ M) := by
  rw [evE]
  cases evE C a ρ M <;> rfl
theorem v_trng (es : Es) : evE C (.blt .tuple (.cons (.rng es) .nil)) ρ M = kTup (evRng C es ρ M) := by
  rw [evE]
  cases evRng C es ρ M <;> rfl
theorem v_lrng (es : Es) : evE C (.blt .list (.cons (.rng es) .nil)) ρ M = kLst (evRng C es ρ M) := by
  rw [evE]
  cases evRng C es ρ M <;> rfl
def kB1 (b : Blt) : Option (Val × MH) → OV
  | some (v, M) => (get M v).bind fun x => (bltW b x).map fun z => (.d z, M)
  | _ => none
theorem kB1_s (b : Blt) (v : Val) (M : MH) : kB1 b (some (v, M)) = (get M v).bind fun x => (bltW b x).map fun z => (.d z, M) := rfl
theorem v_blt1 (b : Blt) (a : E) (h : isRS a = false) : evE C (.blt b (.cons a .nil)) ρ M = kB1 b (evE C a ρ M) := by
  have e : evE C (.blt b (.cons a .nil)) ρ M = (evE C a ρ M).bind fun p => (get p.2 p.1).bind fun x => match b with
      | .sorted => (items x).bind fun xs => (sortD xs).map fun ys => (.d (.list ys), p.2)
      | _ => (blt1 b x).map fun z => (.d z, p.2) := by
    revert h
    cases a <;> intro h <;> first | (cases b <;> rfl) | contradiction
  rw [e]
  cases evE C a ρ M with
  | none => rfl
  | some p =>
    obtain ⟨v, M1⟩ := p
    show (get M1 v).bind _ = (get M1 v).bind _
    congr 1
    funext x
    cases b <;> first | rfl | skip
    show (items x).bind _ = ((items x).bind _).map _
    cases items x with
    | none => rfl
    | some xs =>
      show (sortD xs).map _ = ((sortD xs).map _).map _
      cases sortD xs <;> rfl
def kB2b (b : Blt) (v : Val) : Option (Val × MH) → OV
  | some (u, M) => (get M v).bind fun x => (get M u).bind fun y => (blt2 b x y).map fun z => (.d z, M)
  | _ => none
theorem kB2b_s (b : Blt) (v : Val) (u : Val) (M : MH) : kB2b b v (some (u, M)) = (get M v).bind fun x => (get M u).bind fun y => (blt2 b x y).map fun z => (.d z, M) := rfl
def kB2a (C : Ctx) (b : Blt) (c : E) (ρ : Env) : Option (Val × MH) → OV
  | some (v, M) => kB2b b v (evE C c ρ M)
  | _ => none
theorem kB2a_s (C : Ctx) (b : Blt) (c : E) (ρ : Env) (v : Val) (M : MH) : kB2a C b c ρ (some (v, M)) = kB2b b v (evE C c ρ M) := rfl
theorem v_blt2 (b : Blt) (a c : E) : evE C (.blt b (.cons a (.cons c .nil))) ρ M = kB2a C b c ρ (evE C a ρ M) := by
  have e : evE C (.blt b (.cons a (.cons c .nil))) ρ M = (evE C a ρ M).bind fun p => (evE C c ρ p.2).bind fun q =>
      (get q.2 p.1).bind fun x => (get q.2 q.1).bind fun y => (blt2 b x y).map fun z => (.d z, q.2) := by
    cases b <;> cases a <;> rfl
  rw [e]
  cases evE C a ρ M with
  | none => rfl
  | some p =>
    obtain ⟨v, M1⟩ := p
    show (evE C c ρ M1).bind _ = kB2b b v (evE C c ρ M1)
    cases evE C c ρ M1 <;> rfl
def kSrt  : Option (Val × MH) → OV
  | some (v, M) => (get M v).bind fun x => (items x).bind fun xs => (sortN xs).map fun ys => (.d (.list ys), M)
  | _ => none
theorem kSrt_s  (v : Val) (M : MH) : kSrt (some (v, M)) = (get M v).bind fun x => (items x).bind fun xs => (sortN xs).map fun ys => (.d (.list ys), M) := rfl
theorem v_srt (k : Option Str) (a : E) : evE C (.srt k a) ρ M = if bysO C.bys k then kSrt (evE C a ρ M) else none := by
  rw [evE]
  congr 1
  cases evE C a ρ M <;> rfl
def kIsi (t : Ty) : Option (Val × MH) → OV
  | some (v, M) => (get M v).map fun x => (.d (.bool (isTy t x)), M)
  | _ => none
theorem kIsi_s (t : Ty) (v : Val) (M : MH) : kIsi t (some (v, M)) = (get M v).map fun x => (.d (.bool (isTy t x)), M) := rfl
theorem v_isi (a : E) (t : Ty) : evE C (.isi a t) ρ M = kIsi t (evE C a ρ M) := by
  rw [evE]
  cases h : evE C a ρ M with
  | none => rfl
  | some p => obtain ⟨v, M1⟩ := p; rfl
def kT3  : Option (Val × MH) → Option (Option D × MH)
  | some (.d y, M) => some (some y, M)
  | _ => none
theorem kT3_s  (y : D) (M : MH) : kT3 (some (.d y, M)) = some (some y, M) := rfl
def kT2 (C : Ctx) (elt : E) (ρ : Env) : Option (Bool × MH) → Option (Option D × MH)
  | some (k, M) => if k then kT3 (evE C elt ρ M) else some (none, M)
  | _ => none
theorem kT2_s (C : Ctx) (elt : E) (ρ : Env) (k : Bool) (M : MH) : kT2 C elt ρ (some (k, M)) = if k then kT3 (evE C elt ρ M) else some (none, M) := rfl
def kT1 (C : Ctx) (elt : E) (c : Es) (M : MH) : Option Env → Option (Option D × MH)
  | some ρ => kT2 C elt ρ (evC C c ρ M)
  | _ => none
theorem kT1_s (C : Ctx) (elt : E) (c : Es) (M : MH) (ρ : Env) : kT1 C elt c M (some ρ) = kT2 C elt ρ (evC C c ρ M) := rfl
/-- one turn of a comprehension -/
def turn (own : List Nat) (elt : E) (t : Tg) (c : Es) (x : D) (M1 : MH) : Option (Option D × MH) := kT1 C elt c M1 (bind1 t (.d x) M1 (wipe ρ own))
theorem turn_is (own : List Nat) (elt : E) (t : Tg) (c : Es) (x : D) (M1 : MH) : turn C ρ own elt t c x M1 = kT1 C elt c M1 (bind1 t (.d x) M1 (wipe ρ own)) := rfl
def kComp (C : Ctx) (ρ : Env) (own : List Nat) (elt : E) (t : Tg) (c : Es) : Option (List D × MH) → OV
  | some (xs, M) => if xs.length ≤ lim then kLst (compL (turn C ρ own elt t c) xs M) else none
  | _ => none
theorem kComp_s (C : Ctx) (ρ : Env) (own : List Nat) (elt : E) (t : Tg) (c : Es) (xs : List D) (M : MH) : kComp C ρ own elt t c (some (xs, M)) = if xs.length ≤ lim then kLst (compL (turn C ρ own elt t c) xs M) else none := rfl
theorem v_comp (own : List Nat) (elt : E) (t : Tg) (it : It) (c : Es) : evE C (.comp own elt t it c) ρ M = kComp C ρ own elt t c (evIt C it ρ M) := by
  rw [evE]
  cases evIt C it ρ M with
  | none => rfl
  | some p =>
    obtain ⟨xs, M1⟩ := p
    show (if xs.length ≤ lim then _ else none) = (if xs.length ≤ lim then _ else none)
    congr 1
    have e : (fun (x : D) (M1 : MH) => (bind1 t (.d x) M1 (wipe ρ own)).bind fun ρ1 => (evC C c ρ1 M1).bind fun q => if q.1 then (evE C elt ρ1 q.2).bind fun r => match r.1 with | .d y => some (some y, r.2) | _ => none else some (none, q.2)) = turn C ρ own elt t c := by
      funext x M1
      rw [turn_is]
      cases bind1 t (.d x) M1 (wipe ρ own) with
      | none => rfl
      | some ρ1 =>
        show (evC C c ρ1 M1).bind _ = kT2 C elt ρ1 (evC C c ρ1 M1)
        cases evC C c ρ1 M1 with
        | none => rfl
        | some q =>
          obtain ⟨k, M2⟩ := q
          cases k
          · rfl
          · show (evE C elt ρ1 M2).bind _ = kT3 (evE C elt ρ1 M2)
            cases evE C elt ρ1 M2 with
            | none => rfl
            | some r =>
              obtain ⟨v, M3⟩ := r
              cases v <;> rfl
    show (compL (fun (x : D) (M1 : MH) => (bind1 t (.d x) M1 (wipe ρ own)).bind fun ρ1 => (evC C c ρ1 M1).bind fun q => if q.1 then (evE C elt ρ1 q.2).bind fun r => match r.1 with | .d y => some (some y, r.2) | _ => none else some (none, q.2)) xs M1).map _ = _
    rw [e]
    cases compL (turn C ρ own elt t c) xs M1 <;> rfl
def kPop2 (v : Val) : Option (Val × MH) → OV
  | some (u, M) => popVV v u M
  | _ => none
theorem kPop2_s (v : Val) (u : Val) (M : MH) : kPop2 v (some (u, M)) = popVV v u M := rfl
def kPop1 (C : Ctx) (i : E) (ρ : Env) : Option (Val × MH) → OV
  | some (v, M) => kPop2 v (evE C i ρ M)
  | _ => none
theorem kPop1_s (C : Ctx) (i : E) (ρ : Env) (v : Val) (M : MH) : kPop1 C i ρ (some (v, M)) = kPop2 v (evE C i ρ M) := rfl
theorem v_pop (a i : E) : evE C (.pop a i) ρ M = kPop1 C i ρ (evE C a ρ M) := by
  rw [evE]
  cases evE C a ρ M with
  | none => rfl
  | some p =>
    obtain ⟨v, M1⟩ := p
    show (evE C i ρ M1).bind _ = kPop2 v (evE C i ρ M1)
    cases evE C i ρ M1 with
    | none => rfl
    | some q => obtain ⟨u, M2⟩ := q; (
      show _ = popVV v u M2
      cases v with
      | ref n =>
        cases u with
        | d x =>
          cases x <;> try rfl
          dsimp only [popVV, popV, Option.bind_some]
          cases M2[n]? with
          | none => rfl
          | some c => cases c; rfl
        | _ => rfl
      | _ => cases u <;> rfl)
def kA2 (v : Val) : Option (List Val × MH) → Option (List Val × MH)
  | some (vs, M) => some (v :: vs, M)
  | _ => none
theorem kA2_s (v : Val) (vs : List Val) (M : MH) : kA2 v (some (vs, M)) = some (v :: vs, M) := rfl
def kA1 (C : Ctx) (r : Es) (ρ : Env) : Option (Val × MH) → Option (List Val × MH)
  | some (v, M) => kA2 v (evEs C r ρ M)
  | _ => none
theorem kA1_s (C : Ctx) (r : Es) (ρ : Env) (v : Val) (M : MH) : kA1 C r ρ (some (v, M)) = kA2 v (evEs C r ρ M) := rfl
theorem vs_nil  : evEs C .nil ρ M = some ([], M) := rfl
theorem vs_cons (a : E) (r : Es) : evEs C (.cons a r) ρ M = kA1 C r ρ (evE C a ρ M) := by
  rw [evEs]
  cases evE C a ρ M with
  | none => rfl
  | some p =>
    obtain ⟨v, M1⟩ := p
    show (evEs C r ρ M1).map _ = kA2 v (evEs C r ρ M1)
    cases evEs C r ρ M1 <;> rfl
def kD2 (x : D) : Option (List D × MH) → Option (List D × MH)
  | some (xs, M) => if xs.length < lim then some (x :: xs, M) else none
  | _ => none
theorem kD2_s (x : D) (xs : List D) (M : MH) : kD2 x (some (xs, M)) = if xs.length < lim then some (x :: xs, M) else none := rfl
def kD1 (C : Ctx) (r : Es) (ρ : Env) : Option (Val × MH) → Option (List D × MH)
  | some (.d x, M) => kD2 x (evDs C r ρ M)
  | _ => none
theorem kD1_s (C : Ctx) (r : Es) (ρ : Env) (x : D) (M : MH) : kD1 C r ρ (some (.d x, M)) = kD2 x (evDs C r ρ M) := rfl
theorem vd_nil  : evDs C .nil ρ M = some ([], M) := rfl
theorem vd_cons (a : E) (r : Es) : evDs C (.cons a r) ρ M = kD1 C r ρ (evE C a ρ M) := by
  rw [evDs]
  cases evE C a ρ M with
  | none => rfl
  | some p =>
    obtain ⟨v, M1⟩ := p
    cases v with
    | d x =>
      show (evDs C r ρ M1).bind _ = kD2 x (evDs C r ρ M1)
      cases evDs C r ρ M1 <;> rfl
    | _ => rfl
def kSt2 (xs : List D) : Option (List D × MH) → Option (List D × MH)
  | some (ys, M) => if xs.length + ys.length ≤ lim then some (xs ++ ys, M) else none
  | _ => none
theorem kSt2_s (xs : List D) (ys : List D) (M : MH) : kSt2 xs (some (ys, M)) = if xs.length + ys.length ≤ lim then some (xs ++ ys, M) else none := rfl
def kSt1' (C : Ctx) (r : Es) (ρ : Env) (M : MH) : Option D → Option (List D × MH)
  | some x => (items x).bind fun xs => kSt2 xs (evDs C r ρ M)
  | none => none
theorem kSt1'_s (C : Ctx) (r : Es) (ρ : Env) (M : MH) (x : D) : kSt1' C r ρ M (some x) = (items x).bind fun xs => kSt2 xs (evDs C r ρ M) := rfl
def kSt1 (C : Ctx) (r : Es) (ρ : Env) : Option (Val × MH) → Option (List D × MH)
  | some (v, M) => kSt1' C r ρ M (get M v)
  | _ => none
theorem kSt1_s (C : Ctx) (r : Es) (ρ : Env) (v : Val) (M : MH) : kSt1 C r ρ (some (v, M)) = kSt1' C r ρ M (get M v) := rfl
theorem vd_star (a : E) (r : Es) : evDs C (.star a r) ρ M = kSt1 C r ρ (evE C a ρ M) := by
  rw [evDs]
  cases evE C a ρ M with
  | none => rfl
  | some p =>
    obtain ⟨v, M1⟩ := p
    show (get M1 v).bind _ = kSt1' C r ρ M1 (get M1 v)
    cases get M1 v with
    | none => rfl
    | some x =>
      show (items x).bind _ = (items x).bind _
      congr 1
      funext xs
      cases evDs C r ρ M1 <;> rfl
def kO  : Option (Val × MH) → Option (Option Int × MH)
  | some (.d (.int k), M) => some (some k, M)
  | _ => none
theorem kO_s  (k : Int) (M : MH) : kO (some (.d (.int k), M)) = some (some k, M) := rfl
theorem vo_nil  : evO C .nil ρ M = some (none, M) := rfl
theorem vo_cons (a : E) (r : Es) : evO C (.cons a r) ρ M = kO (evE C a ρ M) := by
  rw [evO]
  cases h : evE C a ρ M with
  | none => rfl
  | some p =>
    obtain ⟨v, M1⟩ := p
    cases v with
    | d x => cases x <;> first | rfl | (rename_i k; cases k <;> rfl)
    | _ => rfl
def kC  : Option (Val × MH) → Option (Bool × MH)
  | some (.d (.bool k), M) => some (k, M)
  | _ => none
theorem kC_s  (k : Bool) (M : MH) : kC (some (.d (.bool k), M)) = some (k, M) := rfl
theorem vc_nil  : evC C .nil ρ M = some (true, M) := rfl
theorem vc_cons (a : E) (r : Es) : evC C (.cons a r) ρ M = kC (evE C a ρ M) := by
  rw [evC]
  cases h : evE C a ρ M with
  | none => rfl
  | some p =>
    obtain ⟨v, M1⟩ := p
    cases v with
    | d x => cases x <;> first | rfl | (rename_i k; cases k <;> rfl)
    | _ => rfl
def kR1  : Option (Val × MH) → Option (List D × MH)
  | some (.d (.int k), M) => if k.natAbs ≤ lim then some (rangeL 0 k.toNat, M) else none
  | _ => none
theorem kR1_s  (k : Int) (M : MH) : kR1 (some (.d (.int k), M)) = if k.natAbs ≤ lim then some (rangeL 0 k.toNat, M) else none := rfl
theorem vr_one (a : E) : evRng C (.cons a .nil) ρ M = kR1 (evE C a ρ M) := by
  rw [evRng]
  cases h : evE C a ρ M with
  | none => rfl
  | some p =>
    obtain ⟨v, M1⟩ := p
    cases v with
    | d x => cases x <;> first | rfl | (rename_i k; cases k <;> rfl)
    | _ => rfl
def kR2b (v : Val) : Option (Val × MH) → Option (List D × MH)
  | some (u, M) => rng2 v u M
  | _ => none
theorem kR2b_s (v : Val) (u : Val) (M : MH) : kR2b v (some (u, M)) = rng2 v u M := rfl
def kR2a (C : Ctx) (b : E) (ρ : Env) : Option (Val × MH) → Option (List D × MH)
  | some (v, M) => kR2b v (evE C b ρ M)
  | _ => none
theorem kR2a_s (C : Ctx) (b : E) (ρ : Env) (v : Val) (M : MH) : kR2a C b ρ (some (v, M)) = kR2b v (evE C b ρ M) := rfl
theorem vr_two (a b : E) : evRng C (.cons a (.cons b .nil)) ρ M = kR2a C b ρ (evE C a ρ M) := by
  rw [evRng]
  cases evE C a ρ M with
  | none => rfl
  | some p =>
    obtain ⟨v, M1⟩ := p
    show (evE C b ρ M1).bind _ = kR2b v (evE C b ρ M1)
    cases evE C b ρ M1 with
    | none => rfl
    | some q => obtain ⟨u, M2⟩ := q; (
      show _ = rng2 v u M2
      cases v with
      | d x => cases x <;> cases u <;> first | rfl | (rename_i x; cases x <;> rfl)
      | _ => cases u <;> rfl)
def kI  : Option (Val × MH) → Option (List D × MH)
  | some (v, M) => itemsV v M
  | _ => none
theorem kI_s  (v : Val) (M : MH) : kI (some (v, M)) = itemsV v M := rfl
theorem vi_val (a : E) : evIt C (.val a) ρ M = kI (evE C a ρ M) := by
  rw [evIt]
  cases evE C a ρ M <;> rfl
def kZ2 (v : Val) : Option (Val × MH) → Option (List D × MH)
  | some (u, M) => zipV v u M
  | _ => none
theorem kZ2_s (v : Val) (u : Val) (M : MH) : kZ2 v (some (u, M)) = zipV v u M := rfl
def kZ1 (C : Ctx) (b : E) (ρ : Env) : Option (Val × MH) → Option (List D × MH)
  | some (v, M) => kZ2 v (evE C b ρ M)
  | _ => none
theorem kZ1_s (C : Ctx) (b : E) (ρ : Env) (v : Val) (M : MH) : kZ1 C b ρ (some (v, M)) = kZ2 v (evE C b ρ M) := rfl
theorem vi_zip (a b : E) : evIt C (.zip a b) ρ M = kZ1 C b ρ (evE C a ρ M) := by
  rw [evIt]
  cases evE C a ρ M with
  | none => rfl
  | some p =>
    obtain ⟨v, M1⟩ := p
    show (evE C b ρ M1).bind _ = kZ2 v (evE C b ρ M1)
    cases evE C b ρ M1 with
    | none => rfl
    | some q => obtain ⟨u, M2⟩ := q; rfl
theorem vi_rng (es : Es) : evIt C (.rng es) ρ M = evRng C es ρ M := rfl

/-! ### statements -/
def kTst  : Option (Val × MH) → Option (Bool × MH)
  | some (.d (.bool k), M) => some (k, M)
  | _ => none
theorem kTst_s  (k : Bool) (M : MH) : kTst (some (.d (.bool k), M)) = some (k, M) := rfl
theorem vT (a : E) : evT C a ρ M = kTst (evE C a ρ M) := by
  unfold evT
  cases h : evE C a ρ M with
  | none => rfl
  | some p =>
    obtain ⟨v, M1⟩ := p
    cases v with
    | d x => cases x <;> first | rfl | (rename_i k; cases k <;> rfl)
    | _ => rfl
def kAsg (t : Tg) (ρ : Env) : Option (Val × MH) → Option Out
  | some (v, M) => (bind1 t v M ρ).map fun ρ1 => .nx ρ1 M
  | _ => none
theorem kAsg_s (t : Tg) (ρ : Env) (v : Val) (M : MH) : kAsg t ρ (some (v, M)) = (bind1 t v M ρ).map fun ρ1 => .nx ρ1 M := rfl
theorem w_asg (t : Tg) (a : E) : evS C (.asg t a) ρ M = kAsg t ρ (evE C a ρ M) := by
  rw [evS]
  cases h : evE C a ρ M with
  | none => rfl
  | some p => obtain ⟨v, M1⟩ := p; rfl
def kPar (ts : List Nat) (ρ : Env) : Option (List Val × MH) → Option Out
  | some (vs, M) => (store ρ ts vs).map fun ρ1 => .nx ρ1 M
  | _ => none
theorem kPar_s (ts : List Nat) (ρ : Env) (vs : List Val) (M : MH) : kPar ts ρ (some (vs, M)) = (store ρ ts vs).map fun ρ1 => .nx ρ1 M := rfl
theorem w_par (ts : List Nat) (es : Es) : evS C (.par ts es) ρ M = kPar ts ρ (evEs C es ρ M) := by
  rw [evS]
  cases h : evEs C es ρ M with
  | none => rfl
  | some p => obtain ⟨v, M1⟩ := p; rfl
def kSet3 (ρ : Env) (y a : Val) : Option (Val × MH) → Option Out
  | some (i, M) => (setVV y a i M).map fun M1 => .nx ρ M1
  | _ => none
theorem kSet3_s (ρ : Env) (y a : Val) (i : Val) (M : MH) : kSet3 ρ y a (some (i, M)) = (setVV y a i M).map fun M1 => .nx ρ M1 := rfl
def kSet2 (C : Ctx) (i : E) (ρ : Env) (y : Val) : Option (Val × MH) → Option Out
  | some (a, M) => kSet3 ρ y a (evE C i ρ M)
  | _ => none
theorem kSet2_s (C : Ctx) (i : E) (ρ : Env) (y : Val) (a : Val) (M : MH) : kSet2 C i ρ y (some (a, M)) = kSet3 ρ y a (evE C i ρ M) := rfl
def kSet1 (C : Ctx) (a i : E) (ρ : Env) : Option (Val × MH) → Option Out
  | some (y, M) => kSet2 C i ρ y (evE C a ρ M)
  | _ => none
theorem kSet1_s (C : Ctx) (a i : E) (ρ : Env) (y : Val) (M : MH) : kSet1 C a i ρ (some (y, M)) = kSet2 C i ρ y (evE C a ρ M) := rfl
theorem w_setI (a i b : E) : evS C (.setI a i b) ρ M = kSet1 C a i ρ (evE C b ρ M) := by
  rw [evS]
  cases evE C b ρ M with
  | none => rfl
  | some p =>
    obtain ⟨v, M1⟩ := p
    show (evE C a ρ M1).bind _ = kSet2 C i ρ v (evE C a ρ M1)
    cases evE C a ρ M1 with
    | none => rfl
    | some q =>
      obtain ⟨u, M2⟩ := q
      show (evE C i ρ M2).bind _ = kSet3 ρ v u (evE C i ρ M2)
      cases evE C i ρ M2 with
      | none => rfl
      | some r =>
        obtain ⟨z, M3⟩ := r
        show _ = (setVV v u z M3).map _
        cases v with
        | d y =>
          cases u with
          | ref n =>
            cases z with
            | d x =>
              cases x <;> try rfl
              dsimp only [setVV, setV, Option.bind_some]
              cases M3[n]? with
              | none => rfl
              | some c =>
                cases c with
                | lst xs =>
                  dsimp only
                  rw [Option.map_map]
                  rfl
            | _ => rfl
          | _ => cases z <;> rfl
        | _ => cases u <;> rfl
def kApp2 (ρ : Env) (v : Val) : Option (Val × MH) → Option Out
  | some (u, M) => (appVV v u M).map fun M1 => .nx ρ M1
  | _ => none
theorem kApp2_s (ρ : Env) (v : Val) (u : Val) (M : MH) : kApp2 ρ v (some (u, M)) = (appVV v u M).map fun M1 => .nx ρ M1 := rfl
def kApp1 (C : Ctx) (b : E) (ρ : Env) : Option (Val × MH) → Option Out
  | some (v, M) => kApp2 ρ v (evE C b ρ M)
  | _ => none
theorem kApp1_s (C : Ctx) (b : E) (ρ : Env) (v : Val) (M : MH) : kApp1 C b ρ (some (v, M)) = kApp2 ρ v (evE C b ρ M) := rfl
theorem w_app (a b : E) : evS C (.app a b) ρ M = kApp1 C b ρ (evE C a ρ M) := by
  rw [evS]
  cases evE C a ρ M with
  | none => rfl
  | some p =>
    obtain ⟨v, M1⟩ := p
    show (evE C b ρ M1).bind _ = kApp2 ρ v (evE C b ρ M1)
    cases evE C b ρ M1 with
    | none => rfl
    | some q => obtain ⟨u, M2⟩ := q; (
      show _ = (appVV v u M2).map _
      cases v with
      | ref n =>
        cases u with
        | d y =>
          dsimp only [appVV, appV, Option.bind_some]
          cases M2[n]? with
          | none => rfl
          | some c =>
            cases c with
            | lst xs =>
              dsimp only
              split <;> rfl
        | _ => rfl
      | _ => cases u <;> rfl)
def kExt2 (ρ : Env) (v : Val) : Option (Val × MH) → Option Out
  | some (u, M) => (extVV v u M).map fun M1 => .nx ρ M1
  | _ => none
theorem kExt2_s (ρ : Env) (v : Val) (u : Val) (M : MH) : kExt2 ρ v (some (u, M)) = (extVV v u M).map fun M1 => .nx ρ M1 := rfl
def kExt1 (C : Ctx) (b : E) (ρ : Env) : Option (Val × MH) → Option Out
  | some (v, M) => kExt2 ρ v (evE C b ρ M)
  | _ => none
theorem kExt1_s (C : Ctx) (b : E) (ρ : Env) (v : Val) (M : MH) : kExt1 C b ρ (some (v, M)) = kExt2 ρ v (evE C b ρ M) := rfl
theorem w_ext (a b : E) : evS C (.ext a b) ρ M = kExt1 C b ρ (evE C a ρ M) := by
  rw [evS]
  cases evE C a ρ M with
  | none => rfl
  | some p =>
    obtain ⟨v, M1⟩ := p
    show (evE C b ρ M1).bind _ = kExt2 ρ v (evE C b ρ M1)
    cases evE C b ρ M1 with
    | none => rfl
    | some q => obtain ⟨u, M2⟩ := q; (
      show _ = (extVV v u M2).map _
      cases v with
      | ref n =>
        cases u with
        | d y =>
          cases y <;> try rfl
          dsimp only [extVV, extV, Option.bind_some]
          cases M2[n]? with
          | none => rfl
          | some c =>
            cases c with
            | lst xs =>
              dsimp only
              split <;> rfl
        | _ => rfl
      | _ => cases u <;> rfl)
def kExp (ρ : Env) : Option (Val × MH) → Option Out
  | some (v, M) => some (.nx ρ M)
  | _ => none
theorem kExp_s (ρ : Env) (v : Val) (M : MH) : kExp ρ (some (v, M)) = some (.nx ρ M) := rfl
theorem w_exp (a : E) : evS C (.exp a) ρ M = kExp ρ (evE C a ρ M) := by
  rw [evS]
  cases h : evE C a ρ M with
  | none => rfl
  | some p => obtain ⟨v, M1⟩ := p; rfl
def kRet  : Option (Val × MH) → Option Out
  | some (v, M) => some (.rt v M)
  | _ => none
theorem kRet_s  (v : Val) (M : MH) : kRet (some (v, M)) = some (.rt v M) := rfl
theorem w_ret (a : E) : evS C (.ret a) ρ M = kRet (evE C a ρ M) := by
  rw [evS]
  cases h : evE C a ρ M with
  | none => rfl
  | some p => obtain ⟨v, M1⟩ := p; rfl
def kIf (C : Ctx) (a b : Ss) (ρ : Env) : Option (Val × MH) → Option Out
  | some (.d (.bool k), M) => if k then evSs C a ρ M else evSs C b ρ M
  | _ => none
theorem kIf_s (C : Ctx) (a b : Ss) (ρ : Env) (k : Bool) (M : MH) : kIf C a b ρ (some (.d (.bool k), M)) = if k then evSs C a ρ M else evSs C b ρ M := rfl
theorem w_ifs (c : E) (a b : Ss) : evS C (.ifs c a b) ρ M = kIf C a b ρ (evE C c ρ M) := by
  rw [evS, vT]
  cases h : evE C c ρ M with
  | none => rfl
  | some p =>
    obtain ⟨v, M1⟩ := p
    cases v with
    | d x => cases x <;> first | rfl | (rename_i k; cases k <;> rfl)
    | _ => rfl
def kLap (C : Ctx) (b : Ss) (M : MH) : Option Env → Option Out
  | some ρ => evSs C b ρ M
  | _ => none
theorem kLap_s (C : Ctx) (b : Ss) (M : MH) (ρ : Env) : kLap C b M (some ρ) = evSs C b ρ M := rfl
def lap (t : Tg) (b : Ss) (x : D) (ρ1 : Env) (M1 : MH) : Option Out := kLap C b M1 (bind1 t (.d x) M1 ρ1)
theorem lap_is (t : Tg) (b : Ss) (x : D) (ρ1 : Env) (M1 : MH) : lap C t b x ρ1 M1 = kLap C b M1 (bind1 t (.d x) M1 ρ1) := rfl
def kFor (C : Ctx) (t : Tg) (b : Ss) (ρ : Env) : Option (List D × MH) → Option Out
  | some (xs, M) => forL (lap C t b) xs ρ M
  | _ => none
theorem kFor_s (C : Ctx) (t : Tg) (b : Ss) (ρ : Env) (xs : List D) (M : MH) : kFor C t b ρ (some (xs, M)) = forL (lap C t b) xs ρ M := rfl
theorem w_for (t : Tg) (it : It) (b : Ss) : evS C (.for t it b) ρ M = kFor C t b ρ (evIt C it ρ M) := by
  rw [evS]
  cases evIt C it ρ M with
  | none => rfl
  | some p =>
    obtain ⟨xs, M1⟩ := p
    show forL _ xs ρ M1 = forL _ xs ρ M1
    congr 1
    funext x ρ1 M1
    show _ = lap C t b x ρ1 M1
    unfold lap
    cases bind1 t (.d x) M1 ρ1 <;> rfl
theorem w_while (c : E) (b : Ss) : evS C (.while c b) ρ M = whileL (evT C c) (evSs C b) C.fuel ρ M := rfl
theorem w_pass : evS C .pass ρ M = some (.nx ρ M) := rfl
theorem ws_nil : evSs C .nil ρ M = some (.nx ρ M) := rfl
/-- what follows, where the block went on -/
def sq (C : Ctx) (r : Ss) : Option Out → Option Out
  | some (.nx ρ M) => evSs C r ρ M
  | some (.rt v M) => some (.rt v M)
  | none => none
theorem sq_nx (r : Ss) : sq C r (some (.nx ρ M)) = evSs C r ρ M := rfl
theorem sq_rt (r : Ss) (v : Val) : sq C r (some (.rt v M)) = some (.rt v M) := rfl
theorem ws_cons (s : S) (r : Ss) : evSs C (.cons s r) ρ M = sq C r (evS C s ρ M) := by
  rw [evSs]
  cases evS C s ρ M with
  | none => rfl
  | some o => cases o <;> rfl
end

/-! ### a call -/
def kEnd (keep : Bool) (n : Nat) : Option Out → OV
  | some (.rt v M1) => handOn keep n v M1
  | some (.nx _ M1) => some (.d .none, M1.take n)
  | none => none
theorem kEnd_rt (keep : Bool) (n : Nat) (v : Val) (M1 : MH) : kEnd keep n (some (.rt v M1)) = handOn keep n v M1 := rfl
theorem kEnd_nx (keep : Bool) (n : Nat) (ρ : Env) (M1 : MH) : kEnd keep n (some (.nx ρ M1)) = some (.d .none, M1.take n) := rfl
theorem call_of {T : Str → Option FDef} {cst : Str → Option D} {fuel : Nat} {bys : Str → Bool} {n : Nat} {f : Str} {vs : List Val} {M : MH} {np nl : Nat} {body : Ss} {cell : Bool} (h : T f = some ⟨np, nl, body, cell⟩) (hl : vs.length = np) :
    callF T cst fuel bys (n + 1) f vs M = kEnd cell M.length (evSs ⟨cst, callF T cst fuel bys n, fuel, bys⟩ body (startE nl vs) M) := by
  show ((T f).bind fun fd => if vs.length = fd.np then (evSs ⟨cst, callF T cst fuel bys n, fuel, bys⟩ fd.body (startE fd.nl vs) M).bind fun o => match o with
        | .rt v M1 => handOn fd.cell M.length v M1
        | .nx _ M1 => some (.d .none, M1.take M.length) else none) = _
  rw [h]
  show (if vs.length = np then _ else none) = _
  rw [if_pos hl]
  show (evSs ⟨cst, callF T cst fuel bys n, fuel, bys⟩ body (startE nl vs) M).bind _ = _
  cases evSs ⟨cst, callF T cst fuel bys n, fuel, bys⟩ body (startE nl vs) M with
  | none => rfl
  | some o => cases o <;> rfl
theorem hand_d (keep : Bool) (n : Nat) (x : D) (M : MH) : handOn keep n (.d x) M = some (.d x, M.take n) := rfl
theorem hand_ref (n m : Nat) (M : MH) (xs : List D) (h : M[m]? = some (.lst xs)) (hm : n ≤ m) : handOn false n (.ref m) M = some (.d (.list xs), M.take n) := by
  show (if m < n then _ else if false = true then _ else _) = _
  rw [if_neg (by omega), if_neg (by decide), h]
theorem hand_new (M : MH) (xs : List D) (R : MH) : handOn false M.length (.ref M.length) (M ++ .lst xs :: R) = some (.d (.list xs), M) := by
  rw [hand_ref M.length M.length (M ++ .lst xs :: R) xs (by simp) (Nat.le_refl _)]
  simp
theorem get_d (M : MH) (x : D) : get M (.d x) = some x := rfl
theorem get_scr (M : MH) (ns : List Int) : get M (.scr ns) = some (.list (ns.map .int)) := rfl
theorem getT_d (M : MH) (x : D) : getT M (.d x) = some x := rfl
theorem get_ref (M : MH) (n : Nat) (xs : List D) (h : M[n]? = some (.lst xs)) : get M (.ref n) = some (.list xs) := by
  show (match M[n]? with | some (.lst xs) => some (PyData.list xs) | none => none) = _
  rw [h]
theorem getT_ref (M : MH) (n : Nat) (xs : List D) (h : M[n]? = some (.lst xs)) : getT M (.ref n) = some (.list xs) := get_ref M n xs h
theorem get_new (M : MH) (xs : List D) (R : MH) : get (M ++ .lst xs :: R) (.ref M.length) = some (.list xs) := get_ref _ _ _ (by simp)
theorem getT_new (M : MH) (xs : List D) (R : MH) : getT (M ++ .lst xs :: R) (.ref M.length) = some (.list xs) := getT_ref _ _ _ (by simp)
theorem app_new (M : MH) (xs : List D) (R : MH) (y : D) : appV M.length y (M ++ .lst xs :: R) = if xs.length < lim then some (M ++ .lst (xs ++ [y]) :: R) else none := by
  unfold appV
  simp
theorem ext_new (M : MH) (xs ys : List D) (R : MH) : extV M.length ys (M ++ .lst xs :: R) = if xs.length + ys.length ≤ lim then some (M ++ .lst (xs ++ ys) :: R) else none := by
  unfold extV
  simp
theorem items_tup (xs : List D) : items (.tuple xs) = some xs := rfl
theorem items_lst (xs : List D) : items (.list xs) = some xs := rfl
theorem itemsV_d (x : D) (M : MH) : itemsV (.d x) M = (items x).map fun xs => (xs, M) := rfl
theorem bind1_one (i : Nat) (v : Val) (M : MH) (ρ : Env) : bind1 (.one i) v M ρ = some (ρ.set i (some v)) := rfl
theorem bind1_many (is : List Nat) (xs : List D) (M : MH) (ρ : Env) : bind1 (.many is) (.d (.tuple xs)) M ρ = if xs.length = is.length then some (is.zip xs |>.foldl (fun ρ p => ρ.set p.1 (some (.d p.2))) ρ) else none := rfl
theorem wipe_nil (ρ : Env) : wipe ρ [] = ρ := rfl
theorem wipe_cons (ρ : Env) (i : Nat) (r : List Nat) : wipe ρ (i :: r) = (wipe ρ r).set i none := rfl
theorem store_nil (ρ : Env) : store ρ [] [] = some ρ := rfl
theorem store_cons (ρ : Env) (i : Nat) (ts : List Nat) (v : Val) (vs : List Val) : store ρ (i :: ts) (v :: vs) = store (ρ.set i (some v)) ts vs := rfl
theorem zipV_tup (xs ys : List D) (M : MH) : zipV (.d (.tuple xs)) (.d (.tuple ys)) M = some ((xs.zip ys).map fun r => .tuple [r.1, r.2], M) := rfl
theorem zipV_lst (xs ys : List D) (M : MH) : zipV (.d (.list xs)) (.d (.list ys)) M = some ((xs.zip ys).map fun r => .tuple [r.1, r.2], M) := rfl
end Mi
set_option maxHeartbeats 4000000
/-! A1: least lots that cross; Berge's step. Plain. -/
namespace Mi
open PySem
abbrev Lot := List Int
def Asc (l : Lot) : Prop := l.Pairwise (· < ·)
def meetB (a b : Lot) : Bool := a.any fun p => decide (p ∈ b)
def inB (a b : Lot) : Bool := a.all fun p => decide (p ∈ b)
theorem meetB_iff {a b : Lot} : meetB a b = true ↔ ∃ p ∈ a, p ∈ b := by simp [meetB]
theorem inB_iff {a b : Lot} : inB a b = true ↔ ∀ p ∈ a, p ∈ b := by simp [inB]
theorem Asc.nodup {l : Lot} (h : Asc l) : l.Nodup := h.imp fun q => Int.ne_of_lt q
theorem asc_ext {a b : Lot} (ha : Asc a) (hb : Asc b) (h : ∀ p, p ∈ a ↔ p ∈ b) : a = b :=
  List.Perm.eq_of_pairwise (le := fun x y => x < y) (fun x y _ _ h1 h2 => absurd h1 (by omega)) ha hb ((List.perm_ext_iff_of_nodup ha.nodup hb.nodup).mpr h)
/-- ascending -/
def srt (l : Lot) : Lot := l.mergeSort fun a b => decide (a ≤ b)
theorem srt_mem {l : Lot} {p : Int} : p ∈ srt l ↔ p ∈ l := by unfold srt; rw [List.mem_mergeSort]
theorem srt_asc {l : Lot} (h : l.Nodup) : Asc (srt l) := by
  have h1 : (srt l).Pairwise fun a b => decide (a ≤ b) = true := List.pairwise_mergeSort (fun a b c h1 h2 => by simp at *; omega) (fun a b => by simp; omega) l
  have h2 : (srt l).Nodup := (List.mergeSort_perm l _).symm.nodup h
  exact (h1.and h2).imp fun ⟨q, n⟩ => by
    have q := of_decide_eq_true q
    omega

def Hits (t : Lot) (L : List Lot) : Prop := ∀ l ∈ L, ∃ p ∈ t, p ∈ l
/-- t crosses all of L, each of its parts is needed -/
structure MinT (L : List Lot) (t : Lot) : Prop where
  asc : Asc t
  hit : Hits t L
  own : ∀ p ∈ t, ∃ l ∈ L, p ∈ l ∧ ∀ q ∈ t, q ∈ l → q = p
theorem MinT.of_mem {L L' : List Lot} {t : Lot} (h : ∀ l, l ∈ L ↔ l ∈ L') (m : MinT L t) : MinT L' t :=
  ⟨m.asc, fun l hl => m.hit l ((h l).mpr hl), fun p hp => by
    obtain ⟨l, hl, r⟩ := m.own p hp
    exact ⟨l, (h l).mp hl, r⟩⟩
theorem MinT.sub {L : List Lot} {s t : Lot} (m : MinT L t) (hs : Hits s L) (h : ∀ p ∈ s, p ∈ t) : ∀ p ∈ t, p ∈ s := fun p hp => by
  obtain ⟨l, hl, h1, h2⟩ := m.own p hp
  obtain ⟨q, hq, hql⟩ := hs l hl
  rw [← h2 q (h q hq) hql]
  exact hq
theorem MinT.eq {L : List Lot} {s t : Lot} (m : MinT L t) (as : Asc s) (hs : Hits s L) (h : ∀ p ∈ s, p ∈ t) : s = t := asc_ext as m.asc fun p => ⟨h p, m.sub hs h p⟩
/-- below whatever crosses -/
theorem reduce : ∀ (n : Nat) {L : List Lot} {t : Lot}, t.length ≤ n → Asc t → Hits t L → ∃ s, MinT L s ∧ ∀ p ∈ s, p ∈ t
  | n, L, t, hn, ha, hh => by
    by_cases c : ∀ p ∈ t, ∃ l ∈ L, p ∈ l ∧ ∀ q ∈ t, q ∈ l → q = p
    · exact ⟨t, ⟨ha, hh, c⟩, fun _ h => h⟩
    · simp only [Classical.not_forall] at c
      obtain ⟨p, hp, hc⟩ := c
      cases n with
      | zero =>
        cases t with
        | nil => cases hp
        | cons x r => simp at hn
      | succ n =>
        have hlen : (t.filter fun q => decide (q ≠ p)).length ≤ n := by
          have : (t.filter fun q => decide (q ≠ p)).length < t.length := List.length_filter_lt_length_iff_exists.mpr ⟨p, hp, by simp⟩
          omega
        obtain ⟨s, m, hs⟩ := reduce n (L := L) hlen (ha.sublist List.filter_sublist) fun l hl => by
          obtain ⟨q, hq, hql⟩ := hh l hl
          by_cases e : q = p
          · subst e
            apply Classical.byContradiction
            intro no
            refine hc ⟨l, hl, hql, fun r hr hrl => ?_⟩
            apply Classical.byContradiction
            intro ne
            exact no ⟨r, by simpa using ⟨hr, ne⟩, hrl⟩
          · exact ⟨q, by simpa using ⟨hq, e⟩, hql⟩
        exact ⟨s, m, fun p hp => (List.mem_filter.mp (hs p hp)).1⟩

/-! ### one lot more -/
def putIn (p : Int) (t : Lot) : Lot := srt (t ++ [p])
theorem put_mem {p q : Int} {t : Lot} : q ∈ putIn p t ↔ q ∈ t ∨ q = p := by unfold putIn; rw [srt_mem]; simp
theorem put_asc {p : Int} {t : Lot} (h : Asc t) (n : p ∉ t) : Asc (putIn p t) := srt_asc (by
  rw [List.nodup_append]
  exact ⟨h.nodup, by simp, fun a ha b hb e => by simp at hb; subst hb; subst e; exact n ha⟩)
def keptOf (F : List Lot) (lot : Lot) : List Lot := F.filter fun t => meetB t lot
def newOf (kept : List Lot) (lot t : Lot) : List Lot := (lot.map fun p => putIn p t).filter fun n => !kept.any fun k => inB k n
def moreOf (F : List Lot) (lot : Lot) : List Lot := F.flatMap fun t => if meetB t lot then [] else newOf (keptOf F lot) lot t
def crossStep (F : List Lot) (lot : Lot) : List Lot := keptOf F lot ++ moreOf F lot
structure Fam (L F : List Lot) : Prop where
  nd : F.Nodup
  mem : ∀ t, t ∈ F ↔ MinT L t
theorem more_mem {F : List Lot} {lot n : Lot} : n ∈ moreOf F lot ↔ ∃ t ∈ F, meetB t lot = false ∧ ∃ p ∈ lot, n = putIn p t ∧ ∀ k ∈ keptOf F lot, inB k n = false := by
  unfold moreOf newOf
  rw [List.mem_flatMap]
  constructor
  · rintro ⟨t, ht, h⟩
    by_cases c : meetB t lot = true
    · rw [if_pos c] at h; cases h
    · rw [if_neg c, List.mem_filter, List.mem_map] at h
      obtain ⟨⟨p, hp, e⟩, h2⟩ := h
      refine ⟨t, ht, by simpa using c, p, hp, e.symm, fun k hk => ?_⟩
      simp only [Bool.not_eq_true', List.any_eq_false] at h2
      simpa using h2 k hk
  · rintro ⟨t, ht, c, p, hp, e, h⟩
    refine ⟨t, ht, ?_⟩
    rw [if_neg (by simp [c]), List.mem_filter, List.mem_map]
    refine ⟨⟨p, hp, e.symm⟩, ?_⟩
    simp only [Bool.not_eq_true', List.any_eq_false]
    intro k hk
    simp [h k hk]
theorem hits_snoc {t lot : Lot} {L : List Lot} : Hits t (L ++ [lot]) ↔ Hits t L ∧ ∃ p ∈ t, p ∈ lot := by
  unfold Hits
  constructor
  · intro h
    exact ⟨fun l hl => h l (List.mem_append_left _ hl), h lot (by simp)⟩
  · rintro ⟨h1, h2⟩ l hl
    rcases List.mem_append.mp hl with z | z
    · exact h1 l z
    · rw [List.mem_singleton.mp z]; exact h2
theorem hits_mono {s t : Lot} {L : List Lot} (h : ∀ p ∈ s, p ∈ t) (hs : Hits s L) : Hits t L := fun l hl => by
  obtain ⟨p, hp, q⟩ := hs l hl
  exact ⟨p, h p hp, q⟩
theorem put_sub {p : Int} {t : Lot} : ∀ q ∈ t, q ∈ putIn p t := fun q hq => put_mem.mpr (.inl hq)
theorem nodup_flat {α β : Type} {f : α → List β} : ∀ {l : List α}, l.Nodup → (∀ a ∈ l, (f a).Nodup) → (∀ a ∈ l, ∀ b ∈ l, a ≠ b → ∀ x ∈ f a, x ∉ f b) → (l.flatMap f).Nodup
  | [], _, _, _ => List.nodup_nil
  | a :: l, h, h1, h2 => by
    rw [List.flatMap_cons, List.nodup_append]
    obtain ⟨n1, n2⟩ := List.nodup_cons.mp h
    refine ⟨h1 a List.mem_cons_self, nodup_flat n2 (fun b hb => h1 b (List.mem_cons_of_mem _ hb)) fun b hb c hc => h2 b (List.mem_cons_of_mem _ hb) c (List.mem_cons_of_mem _ hc), fun x hx y hy e => ?_⟩
    subst e
    obtain ⟨b, hb, hxb⟩ := List.mem_flatMap.mp hy
    exact h2 a List.mem_cons_self b (List.mem_cons_of_mem _ hb) (fun e => n1 (e ▸ hb)) x hx hxb
theorem berge {L F : List Lot} {lot : Lot} (fam : Fam L F) (hl : lot.Nodup) : Fam (L ++ [lot]) (crossStep F lot) := by
  have kept_mem : ∀ {t}, t ∈ keptOf F lot ↔ MinT L t ∧ ∃ p ∈ t, p ∈ lot := fun {t} => by
    unfold keptOf
    rw [List.mem_filter, fam.mem, meetB_iff]
  have keep_min : ∀ {t}, MinT L t → (∃ p ∈ t, p ∈ lot) → MinT (L ++ [lot]) t := fun {t} m h => ⟨m.asc, hits_snoc.mpr ⟨m.hit, h⟩, fun p hp => by
    obtain ⟨l, hl, r⟩ := m.own p hp
    exact ⟨l, List.mem_append_left _ hl, r⟩⟩
  have no_meet : ∀ {t p}, meetB t lot = false → p ∈ lot → p ∉ t := fun {t p} c hp ht => by
    have : meetB t lot = true := meetB_iff.mpr ⟨p, ht, hp⟩
    rw [c] at this
    cases this
  refine ⟨?_, fun n => ?_⟩
  · unfold crossStep
    rw [List.nodup_append]
    refine ⟨fam.nd.sublist List.filter_sublist, ?_, fun a ha b hb e => ?_⟩
    · refine nodup_flat fam.nd (fun t ht => ?_) fun t ht t' ht' ne x hx hx' => ?_
      · by_cases c : meetB t lot = true
        · rw [if_pos c]; exact List.nodup_nil
        · rw [if_neg c]
          have c' : meetB t lot = false := by simpa using c
          refine List.Nodup.sublist List.filter_sublist (List.pairwise_map.mpr (List.Pairwise.imp_of_mem (fun {p q} hp hq n e => n ?_) hl))
          have : p ∈ putIn q t := by rw [← e]; exact put_mem.mpr (.inr rfl)
          rcases put_mem.mp this with z | z
          · exact absurd z (no_meet c' hp)
          · exact z
      · by_cases c : meetB t lot = true
        · rw [if_pos c] at hx; cases hx
        · by_cases c2 : meetB t' lot = true
          · rw [if_pos c2] at hx'; cases hx'
          · rw [if_neg c] at hx
            rw [if_neg c2] at hx'
            have c' : meetB t lot = false := by simpa using c
            have c2' : meetB t' lot = false := by simpa using c2
            obtain ⟨p, hp, e⟩ := List.mem_map.mp (List.mem_filter.mp hx).1
            obtain ⟨q, hq, e'⟩ := List.mem_map.mp (List.mem_filter.mp hx').1
            have e2 : putIn p t = putIn q t' := e.trans e'.symm
            have hpq : p = q := by
              have : p ∈ putIn q t' := by rw [← e2]; exact put_mem.mpr (.inr rfl)
              rcases put_mem.mp this with z | z
              · exact absurd z (no_meet c2' hp)
              · exact z
            subst hpq
            refine ne (asc_ext ((fam.mem t).mp ht).asc ((fam.mem t').mp ht').asc fun r => ⟨fun hr => ?_, fun hr => ?_⟩)
            · have : r ∈ putIn p t' := by rw [← e2]; exact put_sub r hr
              rcases put_mem.mp this with z | z
              · exact z
              · subst z; exact absurd hr (no_meet c' hp)
            · have : r ∈ putIn p t := by rw [e2]; exact put_sub r hr
              rcases put_mem.mp this with z | z
              · exact z
              · subst z; exact absurd hr (no_meet c2' hp)
    · subst e
      obtain ⟨t, ht, c, p, hp, e, h⟩ := more_mem.mp hb
      have := h a ha
      have z : inB a a = true := inB_iff.mpr fun _ h => h
      rw [z] at this
      cases this
  · unfold crossStep
    rw [List.mem_append, kept_mem, more_mem]
    constructor
    · rintro (⟨m, h⟩ | ⟨t, ht, c, p, hp, rfl, h⟩)
      · exact keep_min m h
      · have mt := (fam.mem t).mp ht
        have npt := no_meet c hp
        have hn : Hits (putIn p t) (L ++ [lot]) := hits_snoc.mpr ⟨hits_mono put_sub mt.hit, p, put_mem.mpr (.inr rfl), hp⟩
        obtain ⟨s, ms, hs⟩ := reduce _ (Nat.le_refl _) (put_asc mt.asc npt) hn
        obtain ⟨s1, q, hq, hql⟩ := hits_snoc.mp ms.hit
        have ps : p ∈ s := by
          rcases put_mem.mp (hs q hq) with z | z
          · exact absurd z (no_meet c hql)
          · rw [← z]; exact hq
        obtain ⟨t', mt', ht'⟩ := reduce _ (Nat.le_refl _) ms.asc s1
        by_cases cp : p ∈ t'
        · have z := h t' (kept_mem.mpr ⟨mt', p, cp, hp⟩)
          have z2 : inB t' (putIn p t) = true := inB_iff.mpr fun r hr => hs r (ht' r hr)
          rw [z2] at z
          cases z
        · have sub : ∀ r ∈ t', r ∈ t := fun r hr => by
            rcases put_mem.mp (hs r (ht' r hr)) with z | z
            · exact z
            · subst z; exact absurd hr cp
          have ts := mt.sub mt'.hit sub
          have e : s = putIn p t := asc_ext ms.asc (put_asc mt.asc npt) fun r => ⟨hs r, fun hr => by
            rcases put_mem.mp hr with z | z
            · exact ht' r (ts r z)
            · rw [z]; exact ps⟩
          rw [← e]
          exact ms
    · intro ms
      obtain ⟨s1, p, hp, hpl⟩ := hits_snoc.mp ms.hit
      obtain ⟨t, mt, ht⟩ := reduce _ (Nat.le_refl _) ms.asc s1
      by_cases c : meetB t lot = true
      · have e : t = n := ms.eq mt.asc (hits_snoc.mpr ⟨mt.hit, meetB_iff.mp c⟩) ht
        rw [← e]
        exact .inl ⟨mt, meetB_iff.mp c⟩
      · have c' : meetB t lot = false := by simpa using c
        have npt := no_meet c' hpl
        have e : putIn p t = n := ms.eq (put_asc mt.asc npt) (hits_snoc.mpr ⟨hits_mono put_sub mt.hit, p, put_mem.mpr (.inr rfl), hpl⟩) fun r hr => by
          rcases put_mem.mp hr with z | z
          · exact ht r z
          · rw [z]; exact hp
        refine .inr ⟨t, (fam.mem t).mpr mt, c', p, hpl, e.symm, fun k hk => ?_⟩
        obtain ⟨mk, hk2⟩ := kept_mem.mp hk
        cases z : inB k n with
        | false => rfl
        | true =>
          have z := inB_iff.mp z
          have sk := ms.sub (hits_snoc.mpr ⟨mk.hit, hk2⟩) z
          have tk : ∀ r ∈ t, r ∈ k := fun r hr => sk r (ht r hr)
          exact absurd (mk.sub mt.hit tk p (sk p hp)) npt
theorem fam_nil : Fam [] [[]] := ⟨by simp, fun t => by
  rw [List.mem_singleton]
  constructor
  · rintro rfl
    exact ⟨List.Pairwise.nil, nofun, nofun⟩
  · intro m
    cases t with
    | nil => rfl
    | cons p r =>
      obtain ⟨l, hl, _⟩ := m.own p List.mem_cons_self
      cases hl⟩
end Mi
set_option maxHeartbeats 4000000
/-! A2: the sequence by size; the least lots. Plain. -/
namespace Mi
open PySem
/-! ### counting -/
theorem nd_len {α : Type} [DecidableEq α] : ∀ {a b : List α}, a.Nodup → (∀ x ∈ a, x ∈ b) → a.length ≤ b.length
  | [], _, _, _ => Nat.zero_le _
  | x :: a, b, h, hs => by
    obtain ⟨n1, n2⟩ := List.nodup_cons.mp h
    have hx := hs x List.mem_cons_self
    have ih := nd_len (b := b.erase x) n2 fun y hy => (List.mem_erase_of_ne (fun e : y = x => n1 (e ▸ hy))).mpr (hs y (List.mem_cons_of_mem _ hy))
    rw [List.length_erase_of_mem hx] at ih
    have : 0 < b.length := List.length_pos_of_mem hx
    rw [List.length_cons]
    omega
theorem nd_full {α : Type} [DecidableEq α] {a b : List α} (ha : a.Nodup) (hs : ∀ x ∈ a, x ∈ b) (hl : b.length ≤ a.length) : ∀ x ∈ b, x ∈ a := fun x hx => by
  apply Classical.byContradiction
  intro no
  have := nd_len (a := x :: a) (b := b) (List.nodup_cons.mpr ⟨no, ha⟩) fun y hy => by
    rcases List.mem_cons.mp hy with rfl | z
    · exact hx
    · exact hs y z
  rw [List.length_cons] at this
  omega
/-- one for each -/
theorem inj_len {α β : Type} [DecidableEq β] {a : List α} {b : List β} {R : α → β → Prop} (ha : a.Nodup) (h : ∀ x ∈ a, ∃ y ∈ b, R x y) (inj : ∀ x ∈ a, ∀ x' ∈ a, ∀ y, R x y → R x' y → x = x') : a.length ≤ b.length := by
  induction a generalizing b with
  | nil => exact Nat.zero_le _
  | cons x a ih =>
    obtain ⟨n1, n2⟩ := List.nodup_cons.mp ha
    obtain ⟨y, hy, r⟩ := h x List.mem_cons_self
    have ih := ih (b := b.erase y) n2 (fun x' hx' => by
      obtain ⟨y', hy', r'⟩ := h x' (List.mem_cons_of_mem _ hx')
      refine ⟨y', (List.mem_erase_of_ne fun e => ?_).mpr hy', r'⟩
      subst e
      have := inj x List.mem_cons_self x' (List.mem_cons_of_mem _ hx') y' r r'
      subst this
      exact n1 hx') fun x1 h1 x2 h2 y => inj x1 (List.mem_cons_of_mem _ h1) x2 (List.mem_cons_of_mem _ h2) y
    rw [List.length_erase_of_mem hy] at ih
    have : 0 < b.length := List.length_pos_of_mem hy
    rw [List.length_cons]
    omega
theorem in_len {a b : Lot} (ha : Asc a) (h : inB a b = true) : a.length ≤ b.length := nd_len ha.nodup (inB_iff.mp h)
theorem in_eq {a b : Lot} (ha : Asc a) (hb : Asc b) (h : inB a b = true) (hl : b.length ≤ a.length) : a = b :=
  asc_ext ha hb fun p => ⟨inB_iff.mp h p, nd_full ha.nodup (inB_iff.mp h) hl p⟩
theorem in_refl (a : Lot) : inB a a = true := inB_iff.mpr fun _ h => h
theorem in_trans {a b c : Lot} (h : inB a b = true) (h2 : inB b c = true) : inB a c = true := inB_iff.mpr fun p hp => inB_iff.mp h2 p (inB_iff.mp h p hp)
theorem in_anti {a b : Lot} (ha : Asc a) (hb : Asc b) (h : inB a b = true) (h2 : inB b a = true) : a = b := asc_ext ha hb fun p => ⟨inB_iff.mp h p, inB_iff.mp h2 p⟩

/-! ### by size, then in sequence -/
def ltN (a b : Lot) : Bool := if a.length = b.length then ltL a b else decide (a.length < b.length)
theorem ltN_irr (a : Lot) : ltN a a = false := by unfold ltN; rw [if_pos rfl]; exact lt_irr a
theorem ltN_tri {a b : Lot} (h1 : ltN a b = false) (h2 : ltN b a = false) : a = b := by
  unfold ltN at h1 h2
  by_cases e : a.length = b.length
  · rw [if_pos e] at h1
    rw [if_pos e.symm] at h2
    exact lt_tri h1 h2
  · rw [if_neg e] at h1
    rw [if_neg (Ne.symm e)] at h2
    simp at h1 h2
    omega
theorem ltN_trans {a b c : Lot} (h1 : ltN a b = true) (h2 : ltN b c = true) : ltN a c = true := by
  unfold ltN at *
  by_cases e : a.length = b.length
  · rw [if_pos e] at h1
    by_cases e2 : b.length = c.length
    · rw [if_pos e2] at h2
      rw [if_pos (e.trans e2)]
      exact lt_trans h1 h2
    · rw [if_neg e2, decide_eq_true_eq] at h2
      rw [if_neg (by omega)]
      exact decide_eq_true (by omega)
  · rw [if_neg e, decide_eq_true_eq] at h1
    by_cases e2 : b.length = c.length
    · rw [if_neg (by omega)]
      exact decide_eq_true (by omega)
    · rw [if_neg e2, decide_eq_true_eq] at h2
      rw [if_neg (by omega)]
      exact decide_eq_true (by omega)
theorem ltN_asym {a b : Lot} (h : ltN a b = true) : ltN b a = false := by
  cases h2 : ltN b a with
  | false => rfl
  | true =>
    have := ltN_trans h h2
    rw [ltN_irr] at this
    cases this
theorem ltN_len {a b : Lot} (h : ltN a b = true) : a.length ≤ b.length := by
  unfold ltN at h
  split at h
  · omega
  · exact Nat.le_of_lt (of_decide_eq_true h)
def SrtN (L : List Lot) : Prop := L.Pairwise fun a b => ltN a b = true
theorem SrtN.nodup {L : List Lot} (h : SrtN L) : L.Nodup := h.imp fun {a b} q e => by
  subst e
  rw [ltN_irr] at q
  cases q
theorem srtN_ext {A B : List Lot} (ha : SrtN A) (hb : SrtN B) (h : ∀ t, t ∈ A ↔ t ∈ B) : A = B :=
  List.Perm.eq_of_pairwise (le := fun a b => ltN a b = true) (fun a b _ _ h1 h2 => by rw [ltN_asym h1] at h2; cases h2) ha hb ((List.perm_ext_iff_of_nodup ha.nodup hb.nodup).mpr h)
def nsort (L : List Lot) : List Lot := L.mergeSort fun a b => !ltN b a
theorem nsort_mem {L : List Lot} {t : Lot} : t ∈ nsort L ↔ t ∈ L := by unfold nsort; rw [List.mem_mergeSort]
theorem leN_trans' {a b c : Lot} (h1 : (!ltN b a) = true) (h2 : (!ltN c b) = true) : (!ltN c a) = true := by
  simp only [Bool.not_eq_true'] at *
  cases h : ltN c a with
  | false => rfl
  | true =>
    cases hb : ltN a b with
    | true =>
      have := ltN_trans h hb
      rw [this] at h2
      cases h2
    | false =>
      have e := ltN_tri hb h1
      subst e
      rw [h] at h2
      cases h2
theorem leN_total' (a b : Lot) : ((!ltN b a) || (!ltN a b)) = true := by
  cases h : ltN b a with
  | false => rfl
  | true => rw [ltN_asym h]; rfl
theorem nsort_srt {L : List Lot} (h : L.Nodup) : SrtN (nsort L) := by
  have h1 : (nsort L).Pairwise fun a b => (!ltN b a) = true := List.pairwise_mergeSort (le := fun a b => !ltN b a) (fun a b c => leN_trans') leN_total' L
  have h2 : (nsort L).Nodup := (List.mergeSort_perm L _).symm.nodup h
  exact (h1.and h2).imp fun {a b} ⟨q, n⟩ => by
    cases z : ltN a b with
    | true => rfl
    | false => exact absurd (ltN_tri z (by simpa using q)) n

/-! ### the least lots -/
def leastGo : List Lot → List Lot → List Lot → List Lot
  | [], found, _ => found
  | lot :: r, found, lesser =>
    let ls := if (match found.getLast? with | some f => decide (f.length < lot.length) | none => false) then found else lesser
    if ls.any (fun one => inB one lot) then leastGo r found ls else leastGo r (found ++ [lot]) ls
structure Least (L M : List Lot) : Prop where
  sub : ∀ m ∈ M, m ∈ L
  min : ∀ m ∈ M, ∀ l ∈ L, inB l m = true → l = m
  cov : ∀ l ∈ L, ∃ m ∈ M, inB m l = true
theorem least_go : ∀ (r P found lesser : List Lot) (n : Nat), SrtN (P ++ r) → (∀ l ∈ P ++ r, Asc l) → Least P found → SrtN found → (∀ l ∈ P, l.length ≤ n) → (∀ l ∈ r, n ≤ l.length) → (∀ f, f ∈ lesser ↔ f ∈ found ∧ f.length < n) →
    Least (P ++ r) (leastGo r found lesser) ∧ SrtN (leastGo r found lesser)
  | [], P, found, lesser, n, _, _, hL, hf, _, _, _ => by rw [List.append_nil]; exact ⟨hL, hf⟩
  | lot :: r, P, found, lesser, n, hs, ha, hL, hf, hp, hr, hl => by
    have hn := hr lot List.mem_cons_self
    have aL : Asc lot := ha lot (by simp)
    have eP : P ++ lot :: r = (P ++ [lot]) ++ r := by simp
    have hsplit := List.pairwise_append.mp hs
    have hltP : ∀ l ∈ P, ltN l lot = true := fun l hl => hsplit.2.2 l hl lot List.mem_cons_self
    have hltr : ∀ l ∈ r, ltN lot l = true := (List.pairwise_cons.mp hsplit.2.1).1
    have hls : ∀ f, f ∈ (if (match found.getLast? with | some f => decide (f.length < lot.length) | none => false) then found else lesser) ↔ f ∈ found ∧ f.length < lot.length := by
      cases e : found.getLast? with
      | none =>
        rw [List.getLast?_eq_none_iff] at e
        subst e
        intro f
        rw [if_neg (by simp), hl]
        simp
      | some g =>
        have hg : g ∈ found := List.mem_of_getLast? e
        have hmax : ∀ f ∈ found, f.length ≤ g.length := fun f hf' => by
          obtain ⟨ini, e2⟩ := List.getLast?_eq_some_iff.mp e
          subst e2
          rcases List.mem_append.mp hf' with z | z
          · exact ltN_len ((List.pairwise_append.mp hf).2.2 f z g (by simp))
          · rw [List.mem_singleton.mp z]; exact Nat.le_refl _
        by_cases c : g.length < lot.length
        · intro f
          rw [if_pos (by simpa using c)]
          exact ⟨fun h => ⟨h, Nat.lt_of_le_of_lt (hmax f h) c⟩, fun h => h.1⟩
        · intro f
          rw [if_neg (by simpa using c), hl]
          have := hp g (hL.sub g hg)
          have e3 : n = lot.length := by omega
          rw [e3]
    show Least _ (if (if (match found.getLast? with | some f => decide (f.length < lot.length) | none => false) then found else lesser).any (fun one => inB one lot) then _ else _) ∧ SrtN (if _ then _ else _)
    generalize hlsd : (if (match found.getLast? with | some f => decide (f.length < lot.length) | none => false) then found else lesser) = ls at hls ⊢
    have hp' : ∀ l ∈ P ++ [lot], l.length ≤ lot.length := fun l hl => by
      rcases List.mem_append.mp hl with z | z
      · exact Nat.le_trans (hp l z) hn
      · rw [List.mem_singleton.mp z]; exact Nat.le_refl _
    have hr' : ∀ l ∈ r, lot.length ≤ l.length := fun l hl => ltN_len (hltr l hl)
    rw [eP] at hs ha ⊢
    by_cases c : ls.any (fun one => inB one lot) = true
    · rw [if_pos c]
      refine least_go r (P ++ [lot]) found ls lot.length hs ha ⟨fun m hm => List.mem_append_left _ (hL.sub m hm), fun m hm l hl hi => ?_, fun l hl => ?_⟩ hf hp' hr' hls
      · rcases List.mem_append.mp hl with z | z
        · exact hL.min m hm l z hi
        · rw [List.mem_singleton.mp z] at hi ⊢
          exact in_eq aL (ha m (by simp [hL.sub m hm])) hi (ltN_len (hltP m (hL.sub m hm)))
      · rcases List.mem_append.mp hl with z | z
        · exact hL.cov l z
        · rw [List.mem_singleton.mp z]
          obtain ⟨f, hf', hi⟩ := List.any_eq_true.mp c
          exact ⟨f, ((hls f).mp hf').1, hi⟩
    · rw [if_neg c]
      have no : ∀ f ∈ found, inB f lot = true → False := fun f hff hi => by
        by_cases c2 : f.length < lot.length
        · exact c (List.any_eq_true.mpr ⟨f, (hls f).mpr ⟨hff, c2⟩, hi⟩)
        · have := in_eq (ha f (by simp [hL.sub f hff])) aL hi (by omega)
          subst this
          have := hltP f (hL.sub f hff)
          rw [ltN_irr] at this
          cases this
      refine least_go r (P ++ [lot]) (found ++ [lot]) ls lot.length hs ha ⟨fun m hm => ?_, fun m hm l hl hi => ?_, fun l hl => ?_⟩ ?_ hp' hr' fun f => ?_
      · rcases List.mem_append.mp hm with z | z
        · exact List.mem_append_left _ (hL.sub m z)
        · exact List.mem_append_right _ z
      · rcases List.mem_append.mp hm with y | y
        · rcases List.mem_append.mp hl with z | z
          · exact hL.min m y l z hi
          · rw [List.mem_singleton.mp z] at hi ⊢
            exact in_eq aL (ha m (by simp [hL.sub m y])) hi (ltN_len (hltP m (hL.sub m y)))
        · rw [List.mem_singleton.mp y] at hi ⊢
          rcases List.mem_append.mp hl with z | z
          · obtain ⟨f, hff, h2⟩ := hL.cov l z
            exact absurd (in_trans h2 hi) (fun h => no f hff h)
          · exact List.mem_singleton.mp z
      · rcases List.mem_append.mp hl with z | z
        · obtain ⟨f, hff, h2⟩ := hL.cov l z
          exact ⟨f, List.mem_append_left _ hff, h2⟩
        · rw [List.mem_singleton.mp z]
          exact ⟨lot, by simp, in_refl _⟩
      · refine List.pairwise_append.mpr ⟨hf, List.pairwise_singleton _ _, fun f hff b hb => ?_⟩
        rw [List.mem_singleton.mp hb]
        exact hltP f (hL.sub f hff)
      · rw [hls, List.mem_append, List.mem_singleton]
        constructor
        · rintro ⟨h1, h2⟩
          exact ⟨.inl h1, h2⟩
        · rintro ⟨h1 | h1, h2⟩
          · exact ⟨h1, h2⟩
          · subst h1; omega
theorem least_all {S : List Lot} (hs : SrtN S) (ha : ∀ l ∈ S, Asc l) : Least S (leastGo S [] []) ∧ SrtN (leastGo S [] []) :=
  least_go S [] [] [] 0 hs ha ⟨nofun, nofun, nofun⟩ List.Pairwise.nil nofun (fun _ _ => Nat.zero_le _) (fun f => by simp)
/-- what crosses the least crosses all -/
theorem minT_least {L M : List Lot} (hs : ∀ m ∈ M, m ∈ L) (hc : ∀ l ∈ L, ∃ m ∈ M, inB m l = true) {t : Lot} : MinT L t ↔ MinT M t := by
  constructor
  · intro h
    refine ⟨h.asc, fun m hm => h.hit m (hs m hm), fun p hp => ?_⟩
    obtain ⟨l, hl, h1, h2⟩ := h.own p hp
    obtain ⟨m, hm, hi⟩ := hc l hl
    have hi := inB_iff.mp hi
    obtain ⟨q, hq, hqm⟩ := h.hit m (hs m hm)
    have e := h2 q hq (hi q hqm)
    subst e
    exact ⟨m, hm, hqm, fun r hr hrm => h2 r hr (hi r hrm)⟩
  · intro h
    refine ⟨h.asc, fun l hl => ?_, fun p hp => ?_⟩
    · obtain ⟨m, hm, hi⟩ := hc l hl
      obtain ⟨q, hq, hqm⟩ := h.hit m hm
      exact ⟨q, hq, inB_iff.mp hi q hqm⟩
    · obtain ⟨m, hm, r⟩ := h.own p hp
      exact ⟨m, hs m hm, r⟩
end Mi
set_option maxHeartbeats 4000000
/-! A3: what holds of the lots that cross. Plain. -/
namespace Mi
open PySem
def onceI : Lot → Lot
  | [] => []
  | x :: r => if x ∈ onceI r then onceI r else x :: onceI r
theorem onceI_mem : ∀ {l : Lot} {p : Int}, p ∈ onceI l ↔ p ∈ l
  | [], p => Iff.rfl
  | x :: r, p => by
    rw [onceI]
    split
    · rename_i h
      rw [onceI_mem, List.mem_cons]
      refine ⟨.inr, fun z => ?_⟩
      rcases z with rfl | z
      · exact onceI_mem.mp h
      · exact z
    · rw [List.mem_cons, List.mem_cons, onceI_mem]
theorem onceI_nodup : ∀ (l : Lot), (onceI l).Nodup
  | [] => List.nodup_nil
  | x :: r => by
    rw [onceI]
    split
    · exact onceI_nodup r
    · exact List.nodup_cons.mpr ⟨‹_›, onceI_nodup r⟩
/-- ascending, each once -/
def asc (l : Lot) : Lot := srt (onceI l)
theorem asc_mem {l : Lot} {p : Int} : p ∈ asc l ↔ p ∈ l := by unfold asc; rw [srt_mem, onceI_mem]
theorem asc_asc (l : Lot) : Asc (asc l) := srt_asc (onceI_nodup l)

structure Cro (L F : List Lot) : Prop where
  srt : SrtN F
  mem : ∀ t, t ∈ F ↔ MinT L t
theorem Cro.uniq {L L' F F' : List Lot} (h : Cro L F) (h' : Cro L' F') (e : ∀ t, MinT L t ↔ MinT L' t) : F = F' :=
  srtN_ext h.srt h'.srt fun t => (h.mem t).trans ((e t).trans (h'.mem t).symm)
/-- something crosses, where each lot has a part -/
theorem crosses {L : List Lot} (h : ∀ l ∈ L, l ≠ []) : ∃ t, MinT L t := by
  obtain ⟨t, m, _⟩ := reduce _ (Nat.le_refl _) (asc_asc L.flatten) (L := L) fun l hl => by
    cases e : l with
    | nil => exact absurd e (h l hl)
    | cons p r =>
      subst e
      exact ⟨p, asc_mem.mpr (List.mem_flatten.mpr ⟨_, hl, List.mem_cons_self⟩), List.mem_cons_self⟩
  exact ⟨t, m⟩
def IsMin (L : List Lot) (m : Lot) : Prop := m ∈ L ∧ ∀ l ∈ L, inB l m = true → l = m
/-- twice is back -/
theorem twice {L F : List Lot} (ha : ∀ l ∈ L, Asc l) (c : ∀ t, t ∈ F ↔ MinT L t) (s : Lot) : MinT F s ↔ IsMin L s := by
  -- s, that crosses F, has a lot of L within
  have has : ∀ s : Lot, Hits s F → ∃ l ∈ L, inB l s = true := fun s hs => by
    apply Classical.byContradiction
    intro no
    have h0 : Hits (asc (L.flatten.filter fun p => !decide (p ∈ s))) L := fun l hl => by
      have : ¬ ∀ p ∈ l, p ∈ s := fun z => no ⟨l, hl, inB_iff.mpr z⟩
      simp only [Classical.not_forall] at this
      obtain ⟨p, hp, n⟩ := this
      exact ⟨p, asc_mem.mpr (List.mem_filter.mpr ⟨List.mem_flatten.mpr ⟨l, hl, hp⟩, by simpa using n⟩), hp⟩
    obtain ⟨t, m, ht⟩ := reduce _ (Nat.le_refl _) (asc_asc _) h0
    obtain ⟨p, hp, hpt⟩ := hs t ((c t).mpr m)
    have z := (List.mem_filter.mp (asc_mem.mp (ht p hpt))).2
    simp [hp] at z
  -- a least lot of L crosses F, each part needed
  have lst : ∀ m, IsMin L m → MinT F m := fun m ⟨hm, hmin⟩ => by
    refine ⟨ha m hm, fun t ht => ?_, fun p hp => ?_⟩
    · obtain ⟨p, h1, h2⟩ := ((c t).mp ht).hit m hm
      exact ⟨p, h2, h1⟩
    · have h0 : Hits (asc (p :: L.flatten.filter fun q => !decide (q ∈ m))) L := fun l hl => by
        by_cases z : ∀ q ∈ l, q ∈ m
        · have e := hmin l hl (inB_iff.mpr z)
          subst e
          exact ⟨p, asc_mem.mpr List.mem_cons_self, hp⟩
        · simp only [Classical.not_forall] at z
          obtain ⟨q, hq, n⟩ := z
          exact ⟨q, asc_mem.mpr (List.mem_cons_of_mem _ (List.mem_filter.mpr ⟨List.mem_flatten.mpr ⟨l, hl, hq⟩, by simpa using n⟩)), hq⟩
      obtain ⟨t, mt, ht⟩ := reduce _ (Nat.le_refl _) (asc_asc _) h0
      have only : ∀ q ∈ m, q ∈ t → q = p := fun q hq hqt => by
        rcases List.mem_cons.mp (asc_mem.mp (ht q hqt)) with z | z
        · exact z
        · have := (List.mem_filter.mp z).2
          simp [hq] at this
      obtain ⟨q, hqt, hqm⟩ := mt.hit m hm
      have e := only q hqm hqt
      subst e
      exact ⟨t, (c t).mpr mt, hqt, fun r hr hrt => only r hr hrt⟩
  constructor
  · intro ms
    -- the least within s
    obtain ⟨l, hl, hi⟩ := has s ms.hit
    have low : ∀ (n : Nat) (l : Lot), l.length ≤ n → l ∈ L → inB l s = true → ∃ m, IsMin L m ∧ inB m s = true := by
      intro n
      induction n with
      | zero =>
        intro l hn hl hi
        refine ⟨l, ⟨hl, fun l' hl' h => in_eq (ha l' hl') (ha l hl) h (by omega)⟩, hi⟩
      | succ n ih =>
        intro l hn hl hi
        by_cases z : ∀ l' ∈ L, inB l' l = true → l' = l
        · exact ⟨l, ⟨hl, z⟩, hi⟩
        · simp only [Classical.not_forall] at z
          obtain ⟨l', hl', h1, h2⟩ := z
          refine ih l' ?_ hl' (in_trans h1 hi)
          apply Classical.byContradiction
          intro c
          exact h2 (in_eq (ha l' hl') (ha l hl) h1 (by omega))
    obtain ⟨m, hm, him⟩ := low _ l (Nat.le_refl _) hl hi
    have := ms.eq (ha m hm.1) (lst m hm).hit (inB_iff.mp him)
    rw [← this]
    exact hm
  · exact lst s
/-- no more parts than lots -/
theorem few_parts {M : List Lot} {t : Lot} (m : MinT M t) : t.length ≤ M.length :=
  inj_len (R := fun p l => p ∈ l ∧ ∀ q ∈ t, q ∈ l → q = p) m.asc.nodup m.own fun p hp p' hp' l h h' => h'.2 p hp h.1
def Apart (G : List Lot) : Prop := G.Pairwise fun a b => meetB a b = false
/-- lots apart: each asks for a part of its own -/
theorem apart_few {G : List Lot} {t : Lot} (hG : Apart G) (h : Hits t G) : G.length ≤ t.length := by
  have hd : ∀ l ∈ G, ∀ l' ∈ G, l ≠ l' → meetB l l' = false := fun l hl l' hl' ne => by
    induction hG with
    | nil => cases hl
    | cons a b ih =>
      rename_i x G'
      rcases List.mem_cons.mp hl with e | e
      · rcases List.mem_cons.mp hl' with e' | e'
        · exact absurd (e.trans e'.symm) ne
        · subst e; exact a _ e'
      · rcases List.mem_cons.mp hl' with e' | e'
        · subst e'
          have := a _ e
          cases z : meetB l l' with
          | false => rfl
          | true =>
            obtain ⟨p, h1, h2⟩ := meetB_iff.mp z
            rw [meetB_iff.mpr ⟨p, h2, h1⟩] at this
            cases this
        · exact ih (fun l hl => h l (List.mem_cons_of_mem _ hl)) e e'
  refine inj_len (R := fun l p => p ∈ l) (List.Pairwise.imp_of_mem (fun {a b} ha hb n e => ?_) hG) (fun l hl => h l hl) fun l hl l' hl' p h1 h2 => ?_
  · subst e
    obtain ⟨p, _, hp⟩ := h a ha
    rw [meetB_iff.mpr ⟨p, hp, hp⟩] at n
    cases n
  · apply Classical.byContradiction
    intro ne
    have := hd l hl l' hl' ne
    rw [meetB_iff.mpr ⟨p, h1, h2⟩] at this
    cases this

/-! ### of both, over the same parts -/
def union (a b : Lot) : Lot := asc (a ++ b)
theorem union_mem {a b : Lot} {p : Int} : p ∈ union a b ↔ p ∈ a ∨ p ∈ b := by unfold union; rw [asc_mem, List.mem_append]
theorem hits_app {t : Lot} {A B : List Lot} : Hits t (A ++ B) ↔ Hits t A ∧ Hits t B :=
  ⟨fun h => ⟨fun l hl => h l (List.mem_append_left _ hl), fun l hl => h l (List.mem_append_right _ hl)⟩, fun h l hl => (List.mem_append.mp hl).elim (h.1 l) (h.2 l)⟩
theorem both {A B FA FB U : List Lot} (ca : ∀ t, t ∈ FA ↔ MinT A t) (cb : ∀ t, t ∈ FB ↔ MinT B t) (hU : ∀ u, u ∈ U ↔ ∃ a ∈ FA, ∃ b ∈ FB, u = union a b) (t : Lot) : MinT (A ++ B) t ↔ IsMin U t := by
  have hit : ∀ u ∈ U, Hits u (A ++ B) := fun u hu => by
    obtain ⟨a, ha, b, hb, rfl⟩ := (hU u).mp hu
    exact hits_app.mpr ⟨hits_mono (fun p hp => union_mem.mpr (.inl hp)) ((ca a).mp ha).hit, hits_mono (fun p hp => union_mem.mpr (.inr hp)) ((cb b).mp hb).hit⟩
  have ascU : ∀ u ∈ U, Asc u := fun u hu => by
    obtain ⟨a, ha, b, hb, rfl⟩ := (hU u).mp hu
    exact asc_asc _
  have fwd : ∀ t, MinT (A ++ B) t → IsMin U t := fun t m => by
    obtain ⟨h1, h2⟩ := hits_app.mp m.hit
    obtain ⟨a, ma, sa⟩ := reduce _ (Nat.le_refl _) m.asc h1
    obtain ⟨b, mb, sb⟩ := reduce _ (Nat.le_refl _) m.asc h2
    have hu : union a b ∈ U := (hU _).mpr ⟨a, (ca a).mpr ma, b, (cb b).mpr mb, rfl⟩
    have e := m.eq (asc_asc _) (hit _ hu) fun p hp => (union_mem.mp hp).elim (sa p) (sb p)
    have e : union a b = t := e
    refine ⟨e ▸ hu, fun u hu' hi => m.eq (ascU u hu') (hit u hu') (inB_iff.mp hi)⟩
  refine ⟨fwd t, fun ⟨ht, hm⟩ => ?_⟩
  obtain ⟨s, ms, hs⟩ := reduce _ (Nat.le_refl _) (ascU t ht) (hit t ht)
  have e := hm s (fwd s ms).1 (inB_iff.mpr hs)
  rw [← e]
  exact ms

/-! ### beside one another -/
/-- parts told apart by a number -/
theorem beside {A B FA FB : List Lot} {m : Int} (hA : ∀ l ∈ A, ∀ p ∈ l, p < m) (hB : ∀ l ∈ B, ∀ p ∈ l, m ≤ p) (ca : ∀ t, t ∈ FA ↔ MinT A t) (cb : ∀ t, t ∈ FB ↔ MinT B t) (t : Lot) :
    MinT (A ++ B) t ↔ ∃ a ∈ FA, ∃ b ∈ FB, t = a ++ b := by
  have loA : ∀ a, MinT A a → ∀ p ∈ a, p < m := fun a ma p hp => by
    obtain ⟨l, hl, h1, _⟩ := ma.own p hp
    exact hA l hl p h1
  have hiB : ∀ b, MinT B b → ∀ p ∈ b, m ≤ p := fun b mb p hp => by
    obtain ⟨l, hl, h1, _⟩ := mb.own p hp
    exact hB l hl p h1
  have mk : ∀ a b, MinT A a → MinT B b → MinT (A ++ B) (a ++ b) := fun a b ma mb => by
    refine ⟨List.pairwise_append.mpr ⟨ma.asc, mb.asc, fun x hx y hy => by have := loA a ma x hx; have := hiB b mb y hy; omega⟩, hits_app.mpr ⟨hits_mono (fun p hp => List.mem_append_left _ hp) ma.hit, hits_mono (fun p hp => List.mem_append_right _ hp) mb.hit⟩, fun p hp => ?_⟩
    rcases List.mem_append.mp hp with z | z
    · obtain ⟨l, hl, h1, h2⟩ := ma.own p z
      refine ⟨l, List.mem_append_left _ hl, h1, fun q hq hql => ?_⟩
      rcases List.mem_append.mp hq with y | y
      · exact h2 q y hql
      · have := hiB b mb q y
        have := hA l hl q hql
        omega
    · obtain ⟨l, hl, h1, h2⟩ := mb.own p z
      refine ⟨l, List.mem_append_right _ hl, h1, fun q hq hql => ?_⟩
      rcases List.mem_append.mp hq with y | y
      · have := loA a ma q y
        have := hB l hl q hql
        omega
      · exact h2 q y hql
  constructor
  · intro h
    obtain ⟨h1, h2⟩ := hits_app.mp h.hit
    obtain ⟨a, ma, sa⟩ := reduce _ (Nat.le_refl _) h.asc h1
    obtain ⟨b, mb, sb⟩ := reduce _ (Nat.le_refl _) h.asc h2
    have k := mk a b ma mb
    exact ⟨a, (ca a).mpr ma, b, (cb b).mpr mb, (h.eq k.asc k.hit fun p hp => (List.mem_append.mp hp).elim (sa p) (sb p)).symm⟩
  · rintro ⟨a, ha, b, hb, rfl⟩
    exact mk a b ((ca a).mp ha) ((cb b).mp hb)
end Mi
set_option maxHeartbeats 4000000
/-! A4: never more than 400. Plain. -/
namespace Mi
open PySem
/-- twenty chains of all lots of six parts -/
def chains : List (List Lot) := [[[], [0], [0, 1], [0, 1, 2], [0, 1, 2, 3], [0, 1, 2, 3, 4], [0, 1, 2, 3, 4, 5]], [[1], [1, 2], [1, 2, 3], [1, 2, 3, 4], [1, 2, 3, 4, 5]], [[2], [0, 2], [0, 2, 3], [0, 2, 3, 4], [0, 2, 3, 4, 5]], [[3], [0, 3], [0, 1, 3], [0, 1, 3, 4], [0, 1, 3, 4, 5]], [[1, 3], [1, 3, 4], [1, 3, 4, 5]], [[2, 3], [2, 3, 4], [2, 3, 4, 5]], [[4], [0, 4], [0, 1, 4], [0, 1, 2, 4], [0, 1, 2, 4, 5]], [[1, 4], [1, 2, 4], [1, 2, 4, 5]], [[2, 4], [0, 2, 4], [0, 2, 4, 5]], [[3, 4], [0, 3, 4], [0, 3, 4, 5]], [[5], [0, 5], [0, 1, 5], [0, 1, 2, 5], [0, 1, 2, 3, 5]], [[1, 5], [1, 2, 5], [1, 2, 3, 5]], [[2, 5], [0, 2, 5], [0, 2, 3, 5]], [[3, 5], [0, 3, 5], [0, 1, 3, 5]], [[1, 3, 5]], [[2, 3, 5]], [[4, 5], [0, 4, 5], [0, 1, 4, 5]], [[1, 4, 5]], [[2, 4, 5]], [[3, 4, 5]]]
def chainOf (a : Lot) : Nat := chains.findIdx fun c => decide (a ∈ c)
def subs : Lot → List Lot
  | [] => [[]]
  | x :: r => subs r ++ (subs r).map (x :: ·)
theorem subs_nil : ∀ l : Lot, [] ∈ subs l
  | [] => by simp [subs]
  | x :: r => by rw [subs]; exact List.mem_append_left _ (subs_nil r)
theorem asc_subs : ∀ (l a : Lot), Asc l → Asc a → (∀ p ∈ a, p ∈ l) → a ∈ subs l
  | [], a, _, _, h => by
    cases a with
    | nil => simp [subs]
    | cons p r => exact absurd (h p List.mem_cons_self) (by simp)
  | x :: r, [], _, _, _ => subs_nil _
  | x :: r, p :: a, hl, ha, h => by
    obtain ⟨l1, l2⟩ := List.pairwise_cons.mp hl
    obtain ⟨a1, a2⟩ := List.pairwise_cons.mp ha
    rw [subs]
    rcases List.mem_cons.mp (h p List.mem_cons_self) with e | e
    · subst e
      refine List.mem_append_right _ (List.mem_map.mpr ⟨a, asc_subs r a l2 a2 fun q hq => ?_, rfl⟩)
      rcases List.mem_cons.mp (h q (List.mem_cons_of_mem _ hq)) with z | z
      · have := a1 q hq; omega
      · exact z
    · refine List.mem_append_left _ (asc_subs r (p :: a) l2 ha fun q hq => ?_)
      rcases List.mem_cons.mp (h q hq) with z | z
      · have := l1 p e
        rcases List.mem_cons.mp hq with y | y
        · omega
        · have := a1 q y; omega
      · exact z
def six : Lot := [0, 1, 2, 3, 4, 5]
theorem chain_lt : ∀ a ∈ subs six, chainOf a < 20 := by decide +kernel
theorem chain_cmp : ∀ a ∈ subs six, ∀ b ∈ subs six, chainOf a = chainOf b → inB a b = true ∨ inB b a = true := by decide +kernel
theorem in_six {a : Lot} (ha : Asc a) (h : ∀ p ∈ a, 0 ≤ p ∧ p < 6) : a ∈ subs six := asc_subs _ _ (by unfold Asc six; decide) ha fun p hp => by
  have := h p hp
  unfold six
  simp
  omega
theorem minT_anti {L : List Lot} {a b : Lot} (ma : MinT L a) (mb : MinT L b) (h : inB a b = true) : a = b := mb.eq ma.asc ma.hit (inB_iff.mp h)
theorem minT_part {L : List Lot} {t : Lot} (m : MinT L t) {p : Int} (hp : p ∈ t) : ∃ l ∈ L, p ∈ l := by
  obtain ⟨l, hl, h, _⟩ := m.own p hp
  exact ⟨l, hl, h⟩
theorem fam_app : ∀ (R : List Lot) {L F : List Lot}, (∀ l ∈ R, l.Nodup) → Fam L F → Fam (L ++ R) (R.foldl crossStep F)
  | [], L, F, _, h => by rw [List.append_nil]; exact h
  | l :: R, L, F, hn, h => by
    have := fam_app R (fun l hl => hn l (List.mem_cons_of_mem _ hl)) (berge h (hn l List.mem_cons_self))
    rw [List.append_assoc] at this
    exact this
theorem fam_all {L : List Lot} (h : ∀ l ∈ L, l.Nodup) : Fam L (L.foldl crossStep [[]]) := by
  have := fam_app L h fam_nil
  exact this
theorem few400 {m : Int} (hm : m ≤ 6) {L F : List Lot} (hn : ∀ l ∈ L, l.Nodup) (hL : ∀ l ∈ L, (∀ p ∈ l, 0 ≤ p ∧ p < m) ∨ ∀ p ∈ l, m ≤ p ∧ p < 2 * m) (fam : Fam L F) : F.length ≤ 400 := by
  let A := L.filter fun l => l.all fun p => decide (0 ≤ p ∧ p < m)
  let B := L.filter fun l => l.all fun p => decide (m ≤ p ∧ p < 2 * m)
  have memA : ∀ l, l ∈ A ↔ l ∈ L ∧ ∀ p ∈ l, 0 ≤ p ∧ p < m := fun l => by simp [A]
  have memB : ∀ l, l ∈ B ↔ l ∈ L ∧ ∀ p ∈ l, m ≤ p ∧ p < 2 * m := fun l => by simp [B]
  have fa := fam_all (L := A) fun l hl => hn l ((memA l).mp hl).1
  have fb := fam_all (L := B) fun l hl => hn l ((memB l).mp hl).1
  have eqv : ∀ t, MinT L t ↔ MinT (A ++ B) t := fun t => by
    have e : ∀ l, l ∈ L ↔ l ∈ A ++ B := fun l => by
      rw [List.mem_append, memA, memB]
      constructor
      · intro h
        exact (hL l h).imp (fun z => ⟨h, z⟩) fun z => ⟨h, z⟩
      · rintro (h | h) <;> exact h.1
    exact ⟨MinT.of_mem e, MinT.of_mem fun l => (e l).symm⟩
  have split : ∀ t ∈ F, ∃ a b, t = a ++ b ∧ MinT A a ∧ MinT B b := fun t ht => by
    obtain ⟨a, ha, b, hb, e⟩ := (beside (m := m) (fun l hl p hp => (((memA l).mp hl).2 p hp).2) (fun l hl p hp => (((memB l).mp hl).2 p hp).1) fa.mem fb.mem t).mp ((eqv t).mp ((fam.mem t).mp ht))
    exact ⟨a, b, e, (fa.mem a).mp ha, (fb.mem b).mp hb⟩
  have sixA : ∀ a, MinT A a → a ∈ subs six := fun a ma => in_six ma.asc fun p hp => by
    obtain ⟨l, hl, hpl⟩ := minT_part ma hp
    have := ((memA l).mp hl).2 p hpl
    omega
  have sixB : ∀ b, MinT B b → b.map (· - m) ∈ subs six := fun b mb => in_six (List.pairwise_map.mpr (mb.asc.imp fun {x y} h => by omega)) fun p hp => by
    obtain ⟨q, hq, rfl⟩ := List.mem_map.mp hp
    obtain ⟨l, hl, hpl⟩ := minT_part mb hq
    have := ((memB l).mp hl).2 q hpl
    omega
  have low : ∀ b b' : Lot, inB (b.map (· - m)) (b'.map (· - m)) = true → inB b b' = true := fun b b' h => inB_iff.mpr fun p hp => by
    obtain ⟨q, hq, e⟩ := List.mem_map.mp (inB_iff.mp h (p - m) (List.mem_map.mpr ⟨p, hp, rfl⟩))
    have : q = p := by omega
    rw [← this]; exact hq
  have key := inj_len (a := F) (b := List.range 400) (R := fun t k => ∃ a b, t = a ++ b ∧ MinT A a ∧ MinT B b ∧ k = 20 * chainOf a + chainOf (b.map (· - m))) fam.nd (fun t ht => by
      obtain ⟨a, b, e, ma, mb⟩ := split t ht
      have h1 := chain_lt _ (sixA a ma)
      have h2 := chain_lt _ (sixB b mb)
      exact ⟨_, List.mem_range.mpr (by omega), a, b, e, ma, mb, rfl⟩) (by
      rintro t ht t' ht' k ⟨a, b, rfl, ma, mb, e⟩ ⟨a', b', rfl, ma', mb', e'⟩
      have h1 := chain_lt _ (sixA a ma)
      have h2 := chain_lt _ (sixB b mb)
      have h1' := chain_lt _ (sixA a' ma')
      have h2' := chain_lt _ (sixB b' mb')
      have c1 : chainOf a = chainOf a' := by omega
      have c2 : chainOf (b.map (· - m)) = chainOf (b'.map (· - m)) := by omega
      have ea : a = a' := by
        rcases chain_cmp _ (sixA a ma) _ (sixA a' ma') c1 with z | z
        · exact minT_anti ma ma' z
        · exact (minT_anti ma' ma z).symm
      have eb : b = b' := by
        rcases chain_cmp _ (sixB b mb) _ (sixB b' mb') c2 with z | z
        · exact minT_anti mb mb' (low _ _ z)
        · exact (minT_anti mb' mb (low _ _ z)).symm
      rw [ea, eb])
  rw [List.length_range] at key
  exact key
end Mi
set_option maxHeartbeats 4000000
/-! A5: crossing_of, least_of, apart_lots as functions. Plain. -/
namespace Mi
open PySem
def onceL : List Lot → List Lot
  | [] => []
  | x :: r => if x ∈ onceL r then onceL r else x :: onceL r
theorem onceL_mem : ∀ {l : List Lot} {p : Lot}, p ∈ onceL l ↔ p ∈ l
  | [], p => Iff.rfl
  | x :: r, p => by
    rw [onceL]
    split
    · rename_i h
      rw [onceL_mem, List.mem_cons]
      refine ⟨.inr, fun z => ?_⟩
      rcases z with rfl | z
      · exact onceL_mem.mp h
      · exact z
    · rw [List.mem_cons, List.mem_cons, onceL_mem]
theorem onceL_nodup : ∀ (l : List Lot), (onceL l).Nodup
  | [] => List.nodup_nil
  | x :: r => by
    rw [onceL]
    split
    · exact onceL_nodup r
    · exact List.nodup_cons.mpr ⟨‹_›, onceL_nodup r⟩
def byN (L : List Lot) : List Lot := nsort (onceL L)
theorem byN_mem {L : List Lot} {t : Lot} : t ∈ byN L ↔ t ∈ L := by unfold byN; rw [nsort_mem, onceL_mem]
theorem byN_srt (L : List Lot) : SrtN (byN L) := nsort_srt (onceL_nodup L)
def leastF (L : List Lot) : List Lot := leastGo (byN L) [] []
theorem Least.iff {L M : List Lot} (h : Least L M) (m : Lot) : m ∈ M ↔ IsMin L m := by
  constructor
  · intro hm
    exact ⟨h.sub m hm, h.min m hm⟩
  · rintro ⟨h1, h2⟩
    obtain ⟨m', hm', hi⟩ := h.cov m h1
    rw [← h2 m' (h.sub m' hm') hi]
    exact hm'
theorem Least.of_mem {L L' M : List Lot} (e : ∀ l, l ∈ L ↔ l ∈ L') (h : Least L M) : Least L' M := ⟨fun m hm => (e m).mp (h.sub m hm), fun m hm l hl => h.min m hm l ((e l).mpr hl), fun l hl => h.cov l ((e l).mpr hl)⟩
theorem leastF_ok {L : List Lot} (ha : ∀ l ∈ L, Asc l) : Least L (leastF L) ∧ SrtN (leastF L) := by
  obtain ⟨h1, h2⟩ := least_all (byN_srt L) fun l hl => ha l (byN_mem.mp hl)
  exact ⟨h1.of_mem fun l => byN_mem, h2⟩
theorem isMin_congr {L L' : List Lot} (e : ∀ l, l ∈ L ↔ l ∈ L') (m : Lot) : IsMin L m ↔ IsMin L' m :=
  ⟨fun h => ⟨(e m).mp h.1, fun l hl => h.2 l ((e l).mpr hl)⟩, fun h => ⟨(e m).mpr h.1, fun l hl => h.2 l ((e l).mp hl)⟩⟩
def crossF (L : List Lot) : List Lot := nsort ((leastF L).foldl crossStep [[]])
theorem cross_fam {L : List Lot} (ha : ∀ l ∈ L, Asc l) : Fam (leastF L) ((leastF L).foldl crossStep [[]]) := fam_all fun l hl => (ha l ((leastF_ok ha).1.sub l hl)).nodup
theorem cross_ok {L : List Lot} (ha : ∀ l ∈ L, Asc l) : Cro L (crossF L) := by
  have f := cross_fam ha
  have h := (leastF_ok ha).1
  refine ⟨nsort_srt f.nd, fun t => ?_⟩
  unfold crossF
  rw [nsort_mem, f.mem, minT_least h.sub h.cov]
theorem cross_eq {L L' : List Lot} (ha : ∀ l ∈ L, Asc l) (ha' : ∀ l ∈ L', Asc l) (e : ∀ t, MinT L t ↔ MinT L' t) : crossF L = crossF L' := (cross_ok ha).uniq (cross_ok ha') e
theorem cross_is {L F : List Lot} (ha : ∀ l ∈ L, Asc l) (hs : SrtN F) (e : ∀ t, t ∈ F ↔ MinT L t) : crossF L = F := srtN_ext (cross_ok ha).srt hs fun t => ((cross_ok ha).mem t).trans (e t).symm

/-! ### lots apart -/
def apartStep (F : List (List Lot)) (lot : Lot) : List (List Lot) := F ++ (F.filter fun one => !one.any fun its => meetB lot its).map fun one => one ++ [lot]
theorem meet_comm (a b : Lot) : meetB a b = meetB b a := by
  apply Bool.eq_iff_iff.mpr
  rw [meetB_iff, meetB_iff]
  exact ⟨fun ⟨p, h1, h2⟩ => ⟨p, h2, h1⟩, fun ⟨p, h1, h2⟩ => ⟨p, h2, h1⟩⟩
theorem sub_snoc {G M : List Lot} {l : Lot} : G.Sublist (M ++ [l]) ↔ G.Sublist M ∨ ∃ G', G'.Sublist M ∧ G = G' ++ [l] := by
  rw [List.sublist_append_iff]
  constructor
  · rintro ⟨a, b, rfl, h1, h2⟩
    cases h2 with
    | cons _ h => cases h; exact .inl (by simpa using h1)
    | cons_cons _ h => cases h; exact .inr ⟨a, h1, rfl⟩
  · rintro (h | ⟨G', h, rfl⟩)
    · exact ⟨G, [], by simp, h, List.nil_sublist _⟩
    · exact ⟨G', [l], rfl, h, List.Sublist.refl _⟩
theorem apart_go : ∀ (r M : List Lot) (F : List (List Lot)), (∀ G, G ∈ F ↔ G.Sublist M ∧ Apart G) → ∀ G, G ∈ r.foldl apartStep F ↔ G.Sublist (M ++ r) ∧ Apart G
  | [], M, F, h, G => by rw [List.append_nil]; exact h G
  | l :: r, M, F, h, G => by
    have e : M ++ l :: r = (M ++ [l]) ++ r := by simp
    rw [e]
    refine apart_go r (M ++ [l]) (apartStep F l) (fun G => ?_) G
    unfold apartStep
    rw [List.mem_append, h, sub_snoc, List.mem_map]
    constructor
    · rintro (⟨h1, h2⟩ | ⟨G', hG, rfl⟩)
      · exact ⟨.inl h1, h2⟩
      · rw [List.mem_filter, h] at hG
        obtain ⟨⟨h1, h2⟩, h3⟩ := hG
        refine ⟨.inr ⟨G', h1, rfl⟩, List.pairwise_append.mpr ⟨h2, List.pairwise_singleton _ _, fun a ha b hb => ?_⟩⟩
        rw [List.mem_singleton.mp hb, meet_comm]
        simp only [Bool.not_eq_true', List.any_eq_false] at h3
        simpa using h3 a ha
    · rintro ⟨h1 | ⟨G', h1, rfl⟩, h2⟩
      · exact .inl ⟨h1, h2⟩
      · obtain ⟨g1, _, g3⟩ := List.pairwise_append.mp h2
        refine .inr ⟨G', List.mem_filter.mpr ⟨(h G').mpr ⟨h1, g1⟩, ?_⟩, rfl⟩
        simp only [Bool.not_eq_true', List.any_eq_false]
        intro a ha
        have := g3 a ha l (by simp)
        rw [meet_comm, this]
        simp
def apartAll (M : List Lot) : List (List Lot) := M.foldl apartStep [[]]
theorem apart_mem {M G : List Lot} : G ∈ apartAll M ↔ G.Sublist M ∧ Apart G := by
  have := apart_go M [] [[]] (fun G => by
    rw [List.mem_singleton, List.sublist_nil]
    exact ⟨fun h => ⟨h, by subst h; exact List.Pairwise.nil⟩, fun h => h.1⟩) G
  exact this
theorem apart_len : ∀ (r : List Lot) (F : List (List Lot)), (r.foldl apartStep F).length ≤ F.length * 2 ^ r.length
  | [], F => by simp
  | l :: r, F => by
    have h := apart_len r (apartStep F l)
    have h2 : (apartStep F l).length ≤ F.length * 2 := by
      unfold apartStep
      rw [List.length_append, List.length_map]
      have := List.length_filter_le (fun one : List Lot => !one.any fun its => meetB l its) F
      omega
    rw [List.foldl_cons, List.length_cons, Nat.pow_succ]
    refine Nat.le_trans h ?_
    rw [Nat.mul_comm (2 ^ r.length) 2, ← Nat.mul_assoc]
    exact Nat.mul_le_mul_right _ h2
/-- n lots at most stand apart -/
structure Nu (M : List Lot) (n : Nat) : Prop where
  ex : ∃ G, (∀ g ∈ G, g ∈ M) ∧ G.Nodup ∧ Apart G ∧ G.length = n
  top : ∀ G, (∀ g ∈ G, g ∈ M) → G.Nodup → Apart G → G.length ≤ n
theorem Nu.uniq {M : List Lot} {n k : Nat} (h : Nu M n) (h2 : Nu M k) : n = k := by
  obtain ⟨G, g1, g2, g3, rfl⟩ := h.ex
  obtain ⟨G', g1', g2', g3', rfl⟩ := h2.ex
  exact Nat.le_antisymm (h2.top G g1 g2 g3) (h.top G' g1' g2' g3')
theorem Nu.congr {M M' : List Lot} {n : Nat} (e : ∀ m, m ∈ M ↔ m ∈ M') (h : Nu M n) : Nu M' n := by
  obtain ⟨G, g1, g2, g3, g4⟩ := h.ex
  exact ⟨⟨G, fun g hg => (e g).mp (g1 g hg), g2, g3, g4⟩, fun G h1 => h.top G fun g hg => (e g).mpr (h1 g hg)⟩
theorem apart_of {G : List Lot} (hG : Apart G) : ∀ a ∈ G, ∀ b ∈ G, a ≠ b → meetB a b = false := by
  induction hG with
  | nil => intro a ha; cases ha
  | cons h _ ih =>
    intro a ha b hb ne
    rcases List.mem_cons.mp ha with e | e
    · rcases List.mem_cons.mp hb with e' | e'
      · exact absurd (e.trans e'.symm) ne
      · rw [e]; exact h b e'
    · rcases List.mem_cons.mp hb with e' | e'
      · rw [e', meet_comm]; exact h a e
      · exact ih a e b e' ne
theorem apart_mk {G : List Lot} (n : G.Nodup) (h : ∀ a ∈ G, ∀ b ∈ G, a ≠ b → meetB a b = false) : Apart G := List.Pairwise.imp_of_mem (fun {a b} ha hb ne => h a ha b hb ne) n
theorem nu_max {M : List Lot} (hM : M.Nodup) {n : Nat} (h1 : ∃ G ∈ apartAll M, G.length = n) (h2 : ∀ G ∈ apartAll M, G.length ≤ n) : Nu M n := by
  obtain ⟨G, hG, e⟩ := h1
  obtain ⟨g1, g2⟩ := apart_mem.mp hG
  refine ⟨⟨G, fun g hg => g1.subset hg, hM.sublist g1, g2, e⟩, fun G' k1 k2 k3 => ?_⟩
  have s : (M.filter fun m => decide (m ∈ G')).Sublist M := List.filter_sublist
  have nd : (M.filter fun m => decide (m ∈ G')).Nodup := hM.sublist s
  have mem : ∀ m, m ∈ (M.filter fun m => decide (m ∈ G')) ↔ m ∈ G' := fun m => by
    rw [List.mem_filter, decide_eq_true_eq]
    exact ⟨fun h => h.2, fun h => ⟨k1 m h, h⟩⟩
  have := h2 _ (apart_mem.mpr ⟨s, apart_mk nd fun a ha b hb ne => apart_of k3 a ((mem a).mp ha) b ((mem b).mp hb) ne⟩)
  exact Nat.le_trans (nd_len k2 fun x hx => (mem x).mpr hx) this
theorem len_parts {α : Type} (f : α → Bool) : ∀ l : List α, l.length = (l.filter f).length + (l.filter fun x => !f x).length
  | [] => rfl
  | x :: l => by
    have := len_parts f l
    cases h : f x <;> simp [h] <;> omega
/-- of lots beside lots: both numbers together -/
theorem nu_beside {M MA MB : List Lot} {m : Int} {a b : Nat} (hA : ∀ l ∈ MA, (∀ p ∈ l, p < m) ∧ l ≠ []) (hB : ∀ l ∈ MB, (∀ p ∈ l, m ≤ p) ∧ l ≠ []) (e : ∀ l, l ∈ M ↔ l ∈ MA ∨ l ∈ MB) (na : Nu MA a) (nb : Nu MB b) : Nu M (a + b) := by
  have cross : ∀ x ∈ MA, ∀ y ∈ MB, meetB x y = false := fun x hx y hy => by
    cases z : meetB x y with
    | false => rfl
    | true =>
      obtain ⟨p, h1, h2⟩ := meetB_iff.mp z
      have := (hA x hx).1 p h1
      have := (hB y hy).1 p h2
      omega
  have dis : ∀ x ∈ MA, x ∉ MB := fun x hx hy => by
    have := cross x hx x hy
    obtain ⟨_, ne⟩ := hA x hx
    cases x with
    | nil => exact ne rfl
    | cons p r => rw [meetB_iff.mpr ⟨p, List.mem_cons_self, List.mem_cons_self⟩] at this; cases this
  obtain ⟨G, g1, g2, g3, rfl⟩ := na.ex
  obtain ⟨G', k1, k2, k3, rfl⟩ := nb.ex
  refine ⟨⟨G ++ G', fun g hg => (e g).mpr ((List.mem_append.mp hg).imp (g1 g) (k1 g)), List.nodup_append.mpr ⟨g2, k2, fun x hx y hy q => dis x (g1 x hx) (q ▸ k1 y hy)⟩, List.pairwise_append.mpr ⟨g3, k3, fun x hx y hy => cross x (g1 x hx) y (k1 y hy)⟩, List.length_append⟩, fun H h1 h2 h3 => ?_⟩
  have l1 := na.top (H.filter fun h => decide (h ∈ MA)) (fun g hg => of_decide_eq_true (List.mem_filter.mp hg).2) (h2.sublist List.filter_sublist) (h3.sublist List.filter_sublist)
  have l2 := nb.top (H.filter fun h => !decide (h ∈ MA)) (fun g hg => by
    obtain ⟨z1, z2⟩ := List.mem_filter.mp hg
    rcases (e g).mp (h1 g z1) with y | y
    · simp [y] at z2
    · exact y) (h2.sublist List.filter_sublist) (h3.sublist List.filter_sublist)
  have := len_parts (fun h => decide (h ∈ MA)) H
  omega
end Mi
set_option maxHeartbeats 4000000
/-! A6: what the law of crossing lots asks. Plain. -/
namespace Mi
open PySem
/-- lots of parts 0 .. m - 1 -/
def In (m : Int) (L : List Lot) : Prop := ∀ l ∈ L, Asc l ∧ l ≠ [] ∧ ∀ p ∈ l, 0 ≤ p ∧ p ≤ m - 1
theorem In.asc {m : Int} {L : List Lot} (h : In m L) : ∀ l ∈ L, Asc l := fun l hl => (h l hl).1
theorem In.app {m : Int} {A B : List Lot} (h : In m A) (h2 : In m B) : In m (A ++ B) := fun l hl => (List.mem_append.mp hl).elim (h l) (h2 l)
theorem cross_mem {L : List Lot} (h : ∀ l ∈ L, Asc l) (t : Lot) : t ∈ crossF L ↔ MinT L t := (cross_ok h).mem t
theorem cross_congr {A B : List Lot} (ha : ∀ l ∈ A, Asc l) (e : ∀ l, l ∈ A ↔ l ∈ B) : crossF A = crossF B :=
  cross_eq ha (fun l hl => ha l ((e l).mpr hl)) fun t => ⟨MinT.of_mem e, MinT.of_mem fun l => (e l).symm⟩
theorem cross_wide {A W : List Lot} (ha : ∀ l ∈ A, Asc l) (hw : ∀ l ∈ W, Asc l) (h : ∀ w ∈ W, ∃ a ∈ A, inB a w = true) : crossF (A ++ W) = crossF A :=
  cross_eq (fun l hl => (List.mem_append.mp hl).elim (ha l) (hw l)) ha fun t => minT_least (fun m hm => List.mem_append_left _ hm) fun l hl => (List.mem_append.mp hl).elim (fun z => ⟨l, z, in_refl l⟩) (h l)
theorem minT_nonempty {L : List Lot} {t : Lot} (m : MinT L t) (h : L ≠ []) : t ≠ [] := fun e => by
  cases L with
  | nil => exact h rfl
  | cons l r =>
    obtain ⟨p, hp, _⟩ := m.hit l List.mem_cons_self
    rw [e] at hp
    cases hp
theorem minT_nil {t : Lot} : MinT [] t ↔ t = [] := by
  have := fam_nil.mem t
  rw [List.mem_singleton] at this
  exact this.symm
theorem cross_nil : crossF [] = [[]] := cross_is nofun (List.pairwise_singleton _ _) fun t => by rw [List.mem_singleton, minT_nil]
theorem cross_head {L : List Lot} (ha : ∀ l ∈ L, Asc l ∧ l ≠ []) : ∃ t, (crossF L).head? = some t ∧ MinT L t ∧ ∀ s, MinT L s → t.length ≤ s.length := by
  have c := cross_ok fun l hl => (ha l hl).1
  obtain ⟨s, ms⟩ := crosses fun l hl => (ha l hl).2
  cases h : crossF L with
  | nil =>
    have := (c.mem s).mpr ms
    rw [h] at this
    cases this
  | cons t r =>
    refine ⟨t, rfl, (c.mem t).mp (by rw [h]; exact List.mem_cons_self), fun s hs => ?_⟩
    have hm := (c.mem s).mpr hs
    have hsrt := c.srt
    rw [h] at hm hsrt
    rcases List.mem_cons.mp hm with e | e
    · rw [e]; exact Nat.le_refl _
    · exact ltN_len ((List.pairwise_cons.mp hsrt).1 s e)
/-- a, which no other one is within -/
def minB (L : List Lot) (lot : Lot) : Bool := !L.any fun o => !decide (o = lot) && inB o lot
theorem minB_iff {L : List Lot} {lot : Lot} : minB L lot = true ↔ ∀ o ∈ L, inB o lot = true → o = lot := by
  unfold minB
  rw [Bool.not_eq_true', List.any_eq_false]
  refine ⟨fun h o ho hi => ?_, fun h o ho z => ?_⟩
  · have := h o ho
    rw [hi] at this
    simpa using this
  · rw [Bool.and_eq_true] at z
    have := h o ho z.2
    simp [this] at z
theorem least_filter {L : List Lot} {t : Lot} : t ∈ (byN L).filter (minB (byN L)) ↔ IsMin L t := by
  rw [List.mem_filter, minB_iff, byN_mem]
  unfold IsMin
  refine ⟨fun ⟨h1, h2⟩ => ⟨h1, fun l hl hi => h2 l (byN_mem.mpr hl) hi⟩, fun ⟨h1, h2⟩ => ⟨h1, fun l hl hi => h2 l (byN_mem.mp hl) hi⟩⟩
theorem filter_srt {L : List Lot} {f : Lot → Bool} (h : SrtN L) : SrtN (L.filter f) := h.sublist List.filter_sublist
theorem core_least {L : List Lot} (ha : ∀ l ∈ L, Asc l) : (byN L).filter (minB (byN L)) = leastF L :=
  srtN_ext (filter_srt (byN_srt L)) (leastF_ok ha).2 fun t => by rw [least_filter, (leastF_ok ha).1.iff]
theorem twice_core {L : List Lot} (ha : ∀ l ∈ L, Asc l) : crossF (crossF L) = leastF L :=
  cross_is (fun t ht => ((cross_mem ha t).mp ht).asc) (leastF_ok ha).2 fun t => by
    rw [(leastF_ok ha).1.iff, twice ha (cross_mem ha)]
theorem due_short {L : List Lot} (ha : ∀ l ∈ L, Asc l) {t : Lot} (h : MinT L t) : t.length ≤ (leastF L).length :=
  few_parts ((minT_least (leastF_ok ha).1.sub (leastF_ok ha).1.cov).mp h)
theorem due_apart {L : List Lot} (ha : ∀ l ∈ L, Asc l) {t : Lot} (h : MinT L t) {k : Nat} (nu : Nu (leastF L) k) : k ≤ t.length := by
  obtain ⟨G, g1, _, g3, rfl⟩ := nu.ex
  exact apart_few g3 fun l hl => h.hit l ((leastF_ok ha).1.sub l (g1 l hl))

/-! ### moved on -/
def shift (m : Int) (l : Lot) : Lot := l.map (· + m)
theorem shift_mem {m p : Int} {l : Lot} : p ∈ shift m l ↔ p - m ∈ l := by
  unfold shift
  rw [List.mem_map]
  constructor
  · rintro ⟨q, hq, rfl⟩
    rw [show q + m - m = q by omega]
    exact hq
  · intro h
    exact ⟨p - m, h, by omega⟩
theorem shift_asc {m : Int} {l : Lot} (h : Asc l) : Asc (shift m l) := List.pairwise_map.mpr (h.imp fun {a b} q => by omega)
theorem shift_inj {m : Int} {a b : Lot} (h : shift m a = shift m b) : a = b := by
  refine List.map_inj_right (f := (· + m)) (fun x y e => ?_) |>.mp h
  omega
theorem shift_back (m : Int) (l : Lot) : shift m (shift (-m) l) = l := by
  unfold shift
  rw [List.map_map]
  conv => rhs; rw [← List.map_id l]
  exact List.map_congr_left fun x _ => by simp; omega
theorem shift_minT {m : Int} {L : List Lot} {t : Lot} (h : MinT L t) : MinT (L.map (shift m)) (shift m t) := by
  refine ⟨shift_asc h.asc, fun l hl => ?_, fun p hp => ?_⟩
  · obtain ⟨l0, h0, rfl⟩ := List.mem_map.mp hl
    obtain ⟨p, hp, hq⟩ := h.hit l0 h0
    exact ⟨p + m, shift_mem.mpr (by rw [show p + m - m = p by omega]; exact hp), shift_mem.mpr (by rw [show p + m - m = p by omega]; exact hq)⟩
  · obtain ⟨l, hl, h1, h2⟩ := h.own _ (shift_mem.mp hp)
    refine ⟨shift m l, List.mem_map.mpr ⟨l, hl, rfl⟩, shift_mem.mpr h1, fun q hq hq2 => ?_⟩
    have := h2 _ (shift_mem.mp hq) (shift_mem.mp hq2)
    omega
theorem shift_map_back (m : Int) (L : List Lot) : (L.map (shift m)).map (shift (-m)) = L := by
  rw [List.map_map]
  conv => rhs; rw [← List.map_id L]
  exact List.map_congr_left fun l _ => by have := shift_back (-m) l; rw [Int.neg_neg] at this; exact this
theorem shift_minT_iff {m : Int} {L : List Lot} {t : Lot} : MinT (L.map (shift m)) t ↔ ∃ b, MinT L b ∧ t = shift m b := by
  constructor
  · intro h
    have := shift_minT (m := -m) h
    rw [shift_map_back] at this
    exact ⟨_, this, (shift_back m t).symm⟩
  · rintro ⟨b, h, rfl⟩
    exact shift_minT h
theorem shift_in {m : Int} {a b : Lot} : inB (shift m a) (shift m b) = inB a b := by
  rw [Bool.eq_iff_iff, inB_iff, inB_iff]
  refine ⟨fun h p hp => ?_, fun h p hp => shift_mem.mpr (h _ (shift_mem.mp hp))⟩
  have := shift_mem.mp (h (p + m) (shift_mem.mpr (by rw [show p + m - m = p by omega]; exact hp)))
  rw [show p + m - m = p by omega] at this
  exact this
theorem shift_meet {m : Int} {a b : Lot} : meetB (shift m a) (shift m b) = meetB a b := by
  rw [Bool.eq_iff_iff, meetB_iff, meetB_iff]
  constructor
  · rintro ⟨p, h1, h2⟩
    exact ⟨p - m, shift_mem.mp h1, shift_mem.mp h2⟩
  · rintro ⟨p, h1, h2⟩
    exact ⟨p + m, shift_mem.mpr (by rw [show p + m - m = p by omega]; exact h1), shift_mem.mpr (by rw [show p + m - m = p by omega]; exact h2)⟩
theorem shift_isMin {m : Int} {L : List Lot} {t : Lot} : IsMin (L.map (shift m)) (shift m t) ↔ IsMin L t := by
  unfold IsMin
  constructor
  · rintro ⟨h1, h2⟩
    obtain ⟨l, hl, e⟩ := List.mem_map.mp h1
    have := shift_inj e
    subst this
    exact ⟨hl, fun o ho hi => shift_inj (h2 _ (List.mem_map.mpr ⟨o, ho, rfl⟩) (by rw [shift_in]; exact hi))⟩
  · rintro ⟨h1, h2⟩
    refine ⟨List.mem_map.mpr ⟨t, h1, rfl⟩, fun o ho hi => ?_⟩
    obtain ⟨l, hl, rfl⟩ := List.mem_map.mp ho
    rw [shift_in] at hi
    rw [h2 l hl hi]
theorem map_nodup {α β : Type} {f : α → β} (hf : ∀ a b, f a = f b → a = b) {l : List α} (h : l.Nodup) : (l.map f).Nodup := List.pairwise_map.mpr (h.imp fun n e => n (hf _ _ e))
theorem nu_shift {m : Int} {L : List Lot} {k : Nat} (h : Nu L k) : Nu (L.map (shift m)) k := by
  obtain ⟨G, g1, g2, g3, g4⟩ := h.ex
  refine ⟨⟨G.map (shift m), fun g hg => ?_, map_nodup (fun _ _ => shift_inj) g2, List.pairwise_map.mpr (g3.imp fun q => by rw [shift_meet]; exact q), by simpa using g4⟩, fun H h1 h2 h3 => ?_⟩
  · obtain ⟨g0, h0, rfl⟩ := List.mem_map.mp hg
    exact List.mem_map.mpr ⟨g0, g1 g0 h0, rfl⟩
  · have := h.top (H.map (shift (-m))) (fun g hg => by
      obtain ⟨g0, h0, rfl⟩ := List.mem_map.mp hg
      obtain ⟨l, hl, rfl⟩ := List.mem_map.mp (h1 g0 h0)
      have e := shift_back (-m) l
      rw [Int.neg_neg] at e
      rw [e]
      exact hl) (map_nodup (fun _ _ => shift_inj) h2) (List.pairwise_map.mpr (h3.imp fun q => by rw [shift_meet]; exact q))
    rwa [List.length_map] at this
theorem far_lo {m : Int} {B : List Lot} (h : In m B) : ∀ l ∈ B.map (shift m), Asc l ∧ l ≠ [] ∧ ∀ p ∈ l, m ≤ p ∧ p < 2 * m := fun l hl => by
  obtain ⟨b, hb, rfl⟩ := List.mem_map.mp hl
  obtain ⟨h1, h2, h3⟩ := h b hb
  refine ⟨shift_asc h1, fun e => h2 (List.map_eq_nil_iff.mp e), fun p hp => ?_⟩
  have := h3 _ (shift_mem.mp hp)
  omega
def endsOf (m : Int) (A B : List Lot) : List Lot := A.flatMap fun one => B.map fun other => one ++ shift m other
theorem ends_mem {m : Int} {A B : List Lot} {t : Lot} : t ∈ endsOf m A B ↔ ∃ a ∈ A, ∃ b ∈ B, t = a ++ shift m b := by
  unfold endsOf
  simp only [List.mem_flatMap, List.mem_map]
  exact ⟨fun ⟨a, ha, b, hb, e⟩ => ⟨a, ha, b, hb, e.symm⟩, fun ⟨a, ha, b, hb, e⟩ => ⟨a, ha, b, hb, e.symm⟩⟩
theorem beside_iff {m : Int} {A B : List Lot} (ha : In m A) (hb : In m B) (t : Lot) : MinT (A ++ B.map (shift m)) t ↔ ∃ a, MinT A a ∧ ∃ b, MinT B b ∧ t = a ++ shift m b := by
  have hf := far_lo hb
  rw [beside (m := m) (FA := crossF A) (FB := crossF (B.map (shift m))) (fun l hl p hp => by have := (ha l hl).2.2 p hp; omega) (fun l hl p hp => ((hf l hl).2.2 p hp).1) (cross_mem ha.asc) (cross_mem fun l hl => (hf l hl).1)]
  constructor
  · rintro ⟨a, h1, b, h2, rfl⟩
    rw [cross_mem fun l hl => (hf l hl).1, shift_minT_iff] at h2
    obtain ⟨b0, h3, rfl⟩ := h2
    exact ⟨a, (cross_mem ha.asc a).mp h1, b0, h3, rfl⟩
  · rintro ⟨a, h1, b, h2, rfl⟩
    exact ⟨a, (cross_mem ha.asc a).mpr h1, _, (cross_mem (fun l hl => (hf l hl).1) _).mpr (shift_minT h2), rfl⟩
theorem beside_asc {m : Int} {A B : List Lot} (ha : In m A) (hb : In m B) : ∀ l ∈ A ++ B.map (shift m), Asc l := fun l hl => (List.mem_append.mp hl).elim (ha.asc l) fun h => (far_lo hb l h).1
theorem cross_beside {m : Int} {A B : List Lot} (ha : In m A) (hb : In m B) : crossF (A ++ B.map (shift m)) = byN (endsOf m (crossF A) (crossF B)) :=
  cross_is (beside_asc ha hb) (byN_srt _) fun t => by
    rw [byN_mem, ends_mem, beside_iff ha hb]
    constructor
    · rintro ⟨a, h1, b, h2, e⟩
      exact ⟨a, (cross_mem ha.asc a).mp h1, b, (cross_mem hb.asc b).mp h2, e⟩
    · rintro ⟨a, h1, b, h2, e⟩
      exact ⟨a, (cross_mem ha.asc a).mpr h1, b, (cross_mem hb.asc b).mpr h2, e⟩
theorem nu_all {m : Int} {A B : List Lot} (ha : In m A) (hb : In m B) {a b : Nat} (na : Nu (leastF A) a) (nb : Nu (leastF B) b) : Nu (leastF (A ++ B.map (shift m))) (a + b) := by
  have hf := far_lo hb
  have la := leastF_ok ha.asc
  have lb := leastF_ok hb.asc
  have lc := leastF_ok (beside_asc ha hb)
  refine nu_beside (m := m) (MA := leastF A) (MB := (leastF B).map (shift m)) (fun l hl => ?_) (fun l hl => ?_) (fun l => ?_) na (nu_shift nb)
  · have := ha l (la.1.sub l hl)
    exact ⟨fun p hp => by have := this.2.2 p hp; omega, this.2.1⟩
  · obtain ⟨l0, h0, rfl⟩ := List.mem_map.mp hl
    have := hf _ (List.mem_map.mpr ⟨l0, lb.1.sub l0 h0, rfl⟩)
    exact ⟨fun p hp => (this.2.2 p hp).1, this.2.1⟩
  · have no1 : ∀ x ∈ A, ∀ y ∈ B.map (shift m), inB x y = true → False := fun x hx y hy h => by
      obtain ⟨_, n, q⟩ := ha x hx
      cases x with
      | nil => exact n rfl
      | cons p r =>
        have h1 := q p List.mem_cons_self
        have h2 := (hf y hy).2.2 p (inB_iff.mp h p List.mem_cons_self)
        omega
    have no2 : ∀ x ∈ A, ∀ y ∈ B.map (shift m), inB y x = true → False := fun x hx y hy h => by
      obtain ⟨_, n, q⟩ := hf y hy
      cases y with
      | nil => exact n rfl
      | cons p r =>
        have h1 := q p List.mem_cons_self
        have h2 := (ha x hx).2.2 p (inB_iff.mp h p List.mem_cons_self)
        omega
    rw [lc.1.iff, la.1.iff]
    have e : l ∈ (leastF B).map (shift m) ↔ IsMin (B.map (shift m)) l := by
      rw [List.mem_map]
      constructor
      · rintro ⟨b, h, rfl⟩
        exact shift_isMin.mpr ((lb.1.iff b).mp h)
      · intro h
        obtain ⟨b, _, rfl⟩ := List.mem_map.mp h.1
        exact ⟨b, (lb.1.iff b).mpr (shift_isMin.mp h), rfl⟩
    rw [e]
    constructor
    · rintro ⟨h1, h2⟩
      exact (List.mem_append.mp h1).imp (fun z => ⟨z, fun o ho => h2 o (List.mem_append_left _ ho)⟩) fun z => ⟨z, fun o ho => h2 o (List.mem_append_right _ ho)⟩
    · rintro (⟨h1, h2⟩ | ⟨h1, h2⟩)
      · exact ⟨List.mem_append_left _ h1, fun o ho hi => (List.mem_append.mp ho).elim (fun z => h2 o z hi) fun z => (no2 l h1 o z hi).elim⟩
      · exact ⟨List.mem_append_right _ h1, fun o ho hi => (List.mem_append.mp ho).elim (fun z => (no1 o z l h1 hi).elim) fun z => h2 o z hi⟩
/-! ### over the same parts -/
def mineOf (A B : List Lot) : List Lot := A.flatMap fun one => B.map fun other => asc (one ++ other)
theorem mine_mem {A B : List Lot} {t : Lot} : t ∈ mineOf A B ↔ ∃ a ∈ A, ∃ b ∈ B, t = union a b := by
  unfold mineOf union
  simp only [List.mem_flatMap, List.mem_map]
  exact ⟨fun ⟨a, ha, b, hb, e⟩ => ⟨a, ha, b, hb, e.symm⟩, fun ⟨a, ha, b, hb, e⟩ => ⟨a, ha, b, hb, e.symm⟩⟩
theorem cross_both {A B : List Lot} (ha : ∀ l ∈ A, Asc l) (hb : ∀ l ∈ B, Asc l) : crossF (A ++ B) = (byN (mineOf (crossF A) (crossF B))).filter (minB (byN (mineOf (crossF A) (crossF B)))) :=
  cross_is (fun l hl => (List.mem_append.mp hl).elim (ha l) (hb l)) (filter_srt (byN_srt _)) fun t => by
    rw [least_filter, both (cross_mem ha) (cross_mem hb) (fun u => mine_mem)]
/-! ### few -/
theorem few20 {m : Int} (hm : m ≤ 6) {L : List Lot} (h : In m L) : (crossF L).length ≤ 20 := by
  have c := cross_ok h.asc
  have sixA : ∀ a, MinT L a → a ∈ subs six := fun a ma => in_six ma.asc fun p hp => by
    obtain ⟨l, hl, hpl⟩ := minT_part ma hp
    have := (h l hl).2.2 p hpl
    omega
  have key := inj_len (a := crossF L) (b := List.range 20) (R := fun t k => k = chainOf t) c.srt.nodup (fun t ht => ⟨_, List.mem_range.mpr (chain_lt _ (sixA t ((c.mem t).mp ht))), rfl⟩) (by
    rintro t ht t' ht' k e e'
    have mt := (c.mem t).mp ht
    have mt' := (c.mem t').mp ht'
    rcases chain_cmp _ (sixA t mt) _ (sixA t' mt') (e.symm.trans e') with z | z
    · exact minT_anti mt mt' z
    · exact (minT_anti mt' mt z).symm)
  rwa [List.length_range] at key
theorem flat_len {α β : Type} {f : α → List β} {k : Nat} : ∀ {l : List α}, (∀ x ∈ l, (f x).length ≤ k) → (l.flatMap f).length ≤ l.length * k
  | [], _ => by simp
  | x :: l, h => by
    have h1 := h x List.mem_cons_self
    have h2 := flat_len (l := l) fun y hy => h y (List.mem_cons_of_mem _ hy)
    rw [List.flatMap_cons, List.length_append, List.length_cons, Nat.succ_mul]
    omega
end Mi
set_option maxHeartbeats 4000000
/-! V2: lots as data; loops. -/
namespace Mi
open PySem
def lotD (l : Lot) : D := .tuple (l.map .int)
/-- lots, as a tuple of data -/
@[reducible] def lotsT (L : List Lot) : D := .tuple (L.map lotD)
class EqD {α : Type} (f : α → D) : Prop where
  iff : ∀ x y, (f x).eqv (f y) = true ↔ x = y
class DepD {α : Type} (f : α → D) (n : outParam Nat) : Prop where
  dep : ∀ x, (f x).depth ≤ n
theorem EqD.eqv {α : Type} {f : α → D} [h : EqD f] (x y : α) [Decidable (x = y)] : (f x).eqv (f y) = decide (x = y) := by
  rw [Bool.eq_iff_iff, h.iff, decide_eq_true_iff]
theorem eqvAll_iff {α : Type} {f : α → D} [h : EqD f] : ∀ xs ys : List α, PyData.eqvAll (xs.map f) (ys.map f) = true ↔ xs = ys
  | [], [] => by simp [PyData.eqvAll]
  | x :: xs, y :: ys => by simp [PyData.eqvAll, h.iff, eqvAll_iff xs ys]
  | [], _ :: _ => by simp [PyData.eqvAll]
  | _ :: _, [] => by simp [PyData.eqvAll]
theorem eqvAll_map {α : Type} {f : α → D} [h : EqD f] (xs ys : List α) [Decidable (xs = ys)] : PyData.eqvAll (xs.map f) (ys.map f) = decide (xs = ys) := by
  rw [Bool.eq_iff_iff, eqvAll_iff, decide_eq_true_iff]
theorem depthAll_le {n : Nat} : ∀ {xs : List D}, (∀ x ∈ xs, x.depth ≤ n) → PyData.depthAll xs ≤ n
  | [], _ => by simp [PyData.depthAll]
  | x :: xs, h => by
    have := depthAll_le (xs := xs) fun y hy => h y (List.mem_cons_of_mem _ hy)
    have := h x List.mem_cons_self
    simp only [PyData.depthAll]
    omega
instance : EqD PyData.int := ⟨fun x y => by simp [PyData.eqv]⟩
instance : DepD PyData.int 1 := ⟨fun x => by simp [PyData.depth]⟩
theorem dep_tup {n : Nat} {xs : List D} (h : ∀ x ∈ xs, x.depth ≤ n) : (PyData.tuple xs).depth ≤ n + 1 := by
  have := depthAll_le h
  simp only [PyData.depth]
  omega
theorem dep_lst {n : Nat} {xs : List D} (h : ∀ x ∈ xs, x.depth ≤ n) : (PyData.list xs).depth ≤ n + 1 := by
  have := depthAll_le h
  simp only [PyData.depth]
  omega
theorem dep_map {α : Type} {f : α → D} {n : Nat} [h : DepD f n] (xs : List α) : ∀ x ∈ xs.map f, x.depth ≤ n := fun x hx => by
  obtain ⟨a, _, rfl⟩ := List.mem_map.mp hx
  exact h.dep a
instance : EqD lotD := ⟨fun x y => by simp only [PyData.eqv, lotD]; exact eqvAll_iff x y⟩
instance : DepD lotD 2 := ⟨fun x => dep_tup (dep_map x)⟩
instance : EqD lotsT := ⟨fun x y => by simp only [PyData.eqv]; exact eqvAll_iff x y⟩
instance : DepD lotsT 3 := ⟨fun x => dep_tup (dep_map x)⟩
@[simp] theorem eqv_tup_map {α : Type} {f : α → D} [h : EqD f] (xs ys : List α) [Decidable (xs = ys)] : PyData.eqv (.tuple (xs.map f)) (.tuple (ys.map f)) = decide (xs = ys) := by
  simp [PyData.eqv, eqvAll_map]
@[simp] theorem eqv_lot (x y : Lot) : PyData.eqv (lotD x) (lotD y) = decide (x = y) := EqD.eqv x y
@[simp] theorem eqv_int (x y : Int) : PyData.eqv (.int x) (.int y) = decide (x = y) := EqD.eqv x y
theorem any_eqv {α : Type} {f : α → D} [h : EqD f] (xs : List α) (x : α) [Decidable (x ∈ xs)] : ((xs.map f).any fun y => y.eqv (f x)) = decide (x ∈ xs) := by
  rw [Bool.eq_iff_iff, decide_eq_true_iff, List.any_eq_true]
  constructor
  · rintro ⟨y, hy, e⟩
    obtain ⟨a, ha, rfl⟩ := List.mem_map.mp hy
    rw [← (h.iff _ _).mp e]
    exact ha
  · intro hx
    exact ⟨f x, List.mem_map.mpr ⟨x, hx, rfl⟩, (h.iff _ _).mpr rfl⟩
@[simp] theorem items_lot (l : Lot) : items (lotD l) = some (l.map .int) := rfl
@[simp] theorem cop_lt (i j : Int) : cop .lt (.int i) (.int j) = some (decide (i < j)) := rfl
@[simp] theorem cop_le (i j : Int) : cop .le (.int i) (.int j) = some (decide (i ≤ j)) := rfl
@[simp] theorem cop_gt (i j : Int) : cop .gt (.int i) (.int j) = some (decide (j < i)) := rfl
@[simp] theorem cop_ge (i j : Int) : cop .ge (.int i) (.int j) = some (decide (j ≤ i)) := rfl
theorem cop_eq {x y : D} (h : x.depth ≤ 60 ∨ y.depth ≤ 60) : cop .eq x y = some (x.eqv y) := by
  show (if shallow x y then _ else none) = _
  rw [if_pos]
  unfold shallow
  exact decide_eq_true (by omega)
theorem cop_ne {x y : D} (h : x.depth ≤ 60 ∨ y.depth ≤ 60) : cop .ne x y = some (!x.eqv y) := by
  show (if shallow x y then _ else none) = _
  rw [if_pos]
  unfold shallow
  exact decide_eq_true (by omega)
@[simp] theorem cop_eqf {α : Type} {f : α → D} {n : Nat} [h : EqD f] [d : DepD f n] (x y : α) (hn : n ≤ 60) [Decidable (x = y)] : cop .eq (f x) (f y) = some (decide (x = y)) := by
  rw [cop_eq (.inl (Nat.le_trans (d.dep x) hn)), h.eqv]
@[simp] theorem cop_eq_int (x y : Int) : cop .eq (.int x) (.int y) = some (decide (x = y)) := cop_eqf x y (by decide)
@[simp] theorem cop_ne_int (x y : Int) : cop .ne (.int x) (.int y) = some (!decide (x = y)) := by rw [cop_ne (.inl (by simp [PyData.depth])), eqv_int]
@[simp] theorem cop_eq_lot (x y : Lot) : cop .eq (lotD x) (lotD y) = some (decide (x = y)) := cop_eqf x y (by decide)
@[simp] theorem cop_ne_lot (x y : Lot) : cop .ne (lotD x) (lotD y) = some (!decide (x = y)) := by rw [cop_ne (.inl (Nat.le_trans (DepD.dep x) (by decide))), eqv_lot]
@[simp] theorem cop_eq_tup {α : Type} {f : α → D} {n : Nat} [h : EqD f] [d : DepD f n] (x y : List α) (hn : n ≤ 59) [Decidable (x = y)] : cop .eq (.tuple (x.map f)) (.tuple (y.map f)) = some (decide (x = y)) := by
  rw [cop_eq (.inl (Nat.le_trans (dep_tup (dep_map x)) (by omega))), eqv_tup_map]
@[simp] theorem cop_ne_tup {α : Type} {f : α → D} {n : Nat} [h : EqD f] [d : DepD f n] (x y : List α) (hn : n ≤ 59) [Decidable (x = y)] : cop .ne (.tuple (x.map f)) (.tuple (y.map f)) = some (!decide (x = y)) := by
  rw [cop_ne (.inl (Nat.le_trans (dep_tup (dep_map x)) (by omega))), eqv_tup_map]
@[simp] theorem cop_ne_nilL (xs : List D) : cop .ne (.list xs) (.list []) = some (!decide (xs = [])) := by
  rw [cop_ne (.inr (by simp [PyData.depth, PyData.depthAll]))]
  cases xs <;> simp [PyData.eqv, PyData.eqvAll]
@[simp] theorem cop_eq_nilL (xs : List D) : cop .eq (.list xs) (.list []) = some (decide (xs = [])) := by
  rw [cop_eq (.inr (by simp [PyData.depth, PyData.depthAll]))]
  cases xs <;> simp [PyData.eqv, PyData.eqvAll]
@[simp] theorem cop_ne_nilT (xs : List D) : cop .ne (.tuple xs) (.tuple []) = some (!decide (xs = [])) := by
  rw [cop_ne (.inr (by simp [PyData.depth, PyData.depthAll]))]
  cases xs <;> simp [PyData.eqv, PyData.eqvAll]
@[simp] theorem cop_eq_nilT (xs : List D) : cop .eq (.tuple xs) (.tuple []) = some (decide (xs = [])) := by
  rw [cop_eq (.inr (by simp [PyData.depth, PyData.depthAll]))]
  cases xs <;> simp [PyData.eqv, PyData.eqvAll]
@[simp] theorem cop_in {α : Type} {f : α → D} {n : Nat} [h : EqD f] [d : DepD f n] (x : α) (xs : List α) (hn : n ≤ 60) [Decidable (x ∈ xs)] : cop .isin (f x) (.tuple (xs.map f)) = some (decide (x ∈ xs)) := by
  show (if (f x).depth ≤ 60 then _ else none) = _
  rw [if_pos (Nat.le_trans (d.dep x) hn), any_eqv]
@[simp] theorem cop_inL {α : Type} {f : α → D} {n : Nat} [h : EqD f] [d : DepD f n] (x : α) (xs : List α) (hn : n ≤ 60) [Decidable (x ∈ xs)] : cop .isin (f x) (.list (xs.map f)) = some (decide (x ∈ xs)) := by
  show (if (f x).depth ≤ 60 then _ else none) = _
  rw [if_pos (Nat.le_trans (d.dep x) hn), any_eqv]
@[simp] theorem cop_in_lot (x : Int) (l : Lot) : cop .isin (.int x) (lotD l) = some (decide (x ∈ l)) := cop_in x l (by decide)
@[simp] theorem cop_in_intT (x : Int) (l : List Int) : cop .isin (.int x) (.tuple (l.map .int)) = some (decide (x ∈ l)) := cop_in x l (by decide)
@[simp] theorem cop_in_intL (x : Int) (l : List Int) : cop .isin (.int x) (.list (l.map .int)) = some (decide (x ∈ l)) := cop_inL x l (by decide)
@[simp] theorem cop_in_lotT (x : Lot) (l : List Lot) : cop .isin (lotD x) (.tuple (l.map lotD)) = some (decide (x ∈ l)) := cop_in (f := lotD) x l (by decide)
@[simp] theorem cop_in_lotL (x : Lot) (l : List Lot) : cop .isin (lotD x) (.list (l.map lotD)) = some (decide (x ∈ l)) := cop_inL (f := lotD) x l (by decide)
theorem cop_ne_lotsT (x y : List Lot) : cop .ne (.tuple (x.map lotD)) (.tuple (y.map lotD)) = some (!decide (x = y)) := cop_ne_tup (f := lotD) x y (by decide)
theorem cop_eq_lotsT (x y : List Lot) : cop .eq (.tuple (x.map lotD)) (.tuple (y.map lotD)) = some (decide (x = y)) := cop_eq_tup (f := lotD) x y (by decide)
@[simp] theorem bop_add (i j : Int) : bop .add (.int i) (.int j) = some (.int (i + j)) := rfl
@[simp] theorem bop_sub (i j : Int) : bop .sub (.int i) (.int j) = some (.int (i - j)) := rfl
theorem bop_mul (i j : Int) (h : mulOk i j = true) : bop .mul (.int i) (.int j) = some (.int (i * j)) := by
  show (if mulOk i j then _ else none) = _
  rw [if_pos h]
theorem bop_mod (i j : Int) (h : 0 < j) : bop .mod (.int i) (.int j) = some (.int (i % j)) := by
  show (if 0 < j then _ else none) = _
  rw [if_pos h]
theorem bop_fdiv (i j : Int) (h : 0 < j) (h2 : j < 1073741824) : bop .fdiv (.int i) (.int j) = some (.int (i / j)) := by
  show (if 0 < j ∧ j < 1073741824 then _ else none) = _
  rw [if_pos ⟨h, h2⟩]
theorem bop_pow (i j : Int) (h : powOk i j = true) : bop .pow (.int i) (.int j) = some (.int (i ^ j.toNat)) := by
  show (if powOk i j then _ else none) = _
  rw [if_pos h]
theorem bop_addT (xs ys : List D) (h : xs.length + ys.length ≤ lim) : bop .add (.tuple xs) (.tuple ys) = some (.tuple (xs ++ ys)) := by
  show (if _ then _ else none) = _
  rw [if_pos h]
theorem bop_addL (xs ys : List D) (h : xs.length + ys.length ≤ lim) : bop .add (.list xs) (.list ys) = some (.list (xs ++ ys)) := by
  show (if _ then _ else none) = _
  rw [if_pos h]
/-! ### built-ins -/
@[simp] theorem b_lenT (xs : List D) : blt1 .len (.tuple xs) = some (.int xs.length) := rfl
@[simp] theorem b_lenL (xs : List D) : blt1 .len (.list xs) = some (.int xs.length) := rfl
@[simp] theorem b_len_lot (l : Lot) : blt1 .len (lotD l) = some (.int l.length) := by simp [lotD]
@[simp] theorem b_tupL (xs : List D) : blt1 .tuple (.list xs) = some (.tuple xs) := rfl
@[simp] theorem b_tupT (xs : List D) : blt1 .tuple (.tuple xs) = some (.tuple xs) := rfl
@[simp] theorem b_lstL (xs : List D) : blt1 .list (.list xs) = some (.list xs) := rfl
@[simp] theorem b_lstT (xs : List D) : blt1 .list (.tuple xs) = some (.list xs) := rfl
@[simp] theorem b_lst_lot (l : Lot) : blt1 .list (lotD l) = some (.list (l.map .int)) := rfl
@[simp] theorem b_tup_lot (l : Lot) : blt1 .tuple (lotD l) = some (lotD l) := rfl
@[simp] theorem b_int (i : Int) : blt1 .int (.int i) = some (.int i) := rfl
@[simp] theorem b_intb (b : Bool) : blt1 .int (.bool b) = some (.int (if b then 1 else 0)) := by cases b <;> rfl
@[simp] theorem b_abs (i : Int) : blt1 .abs (.int i) = some (.int (if i < 0 then -i else i)) := rfl
theorem boolsOf_map : ∀ bs : List Bool, boolsOf (bs.map PyData.bool) = some bs
  | [] => rfl
  | b :: bs => by simp [boolsOf, boolsOf_map bs]
theorem intsOf_map : ∀ bs : List Int, intsOf (bs.map PyData.int) = some bs
  | [] => rfl
  | b :: bs => by simp [intsOf, intsOf_map bs]
@[simp] theorem b_all (bs : List Bool) : blt1 .all (.list (bs.map .bool)) = some (.bool (bs.all id)) := by
  show (boolsOf (bs.map .bool)).map _ = _
  rw [boolsOf_map]
  rfl
@[simp] theorem b_any (bs : List Bool) : blt1 .any (.list (bs.map .bool)) = some (.bool (bs.any id)) := by
  show (boolsOf (bs.map .bool)).map _ = _
  rw [boolsOf_map]
  rfl
@[simp] theorem b_allm {α : Type} (f : α → Bool) (xs : List α) : blt1 .all (.list (xs.map fun x => .bool (f x))) = some (.bool (xs.all f)) := by
  have := b_all (xs.map f)
  rw [List.map_map] at this
  rw [show xs.map (fun x => PyData.bool (f x)) = xs.map (PyData.bool ∘ f) from rfl, this]
  simp [List.all_map, Function.comp_def]
@[simp] theorem b_anym {α : Type} (f : α → Bool) (xs : List α) : blt1 .any (.list (xs.map fun x => .bool (f x))) = some (.bool (xs.any f)) := by
  have := b_any (xs.map f)
  rw [List.map_map] at this
  rw [show xs.map (fun x => PyData.bool (f x)) = xs.map (PyData.bool ∘ f) from rfl, this]
  simp [List.any_map, Function.comp_def]
@[simp] theorem b_sum (bs : List Int) : blt1 .sum (.list (bs.map .int)) = some (.int bs.sum) := by
  show (intsOf (bs.map .int)).map _ = _
  rw [intsOf_map]
  rfl
@[simp] theorem b_max2 (i j : Int) : blt2 .max (.int i) (.int j) = some (.int (if j > i then j else i)) := rfl
@[simp] theorem b_min2 (i j : Int) : blt2 .min (.int i) (.int j) = some (.int (if j < i then j else i)) := rfl
@[simp] theorem isTy_int (i : Int) : isTy .int (.int i) = true := rfl
@[simp] theorem isTy_bool (i : Int) : isTy .bool (.int i) = false := rfl
@[simp] theorem isTy_tup (xs : List D) : isTy .tuple (.tuple xs) = true := rfl
@[simp] theorem isTy_lot (l : Lot) : isTy .tuple (lotD l) = true := rfl

@[simp] theorem ite_andB (c : Prop) [Decidable c] (x : Bool) (M : MH) : (if c then some (Val.d (.bool x), M) else some (Val.d (.bool false), M)) = some (Val.d (.bool (decide c && x)), M) := by
  by_cases h : c <;> simp [h]
@[simp] theorem ite_orB (c : Prop) [Decidable c] (x : Bool) (M : MH) : (if c then some (Val.d (.bool true), M) else some (Val.d (.bool x), M)) = some (Val.d (.bool (decide c || x)), M) := by
  by_cases h : c <;> simp [h]
theorem zero_lim : (0 < lim) = True := by simp [lim]
theorem one_lim : (1 < lim) = True := by simp [lim]
theorem two_lim : (2 < lim) = True := by simp [lim]
theorem three_lim : (3 < lim) = True := by simp [lim]
/-! ### loops -/
theorem compL_filterMap {α : Type} (f : D → MH → Option (Option D × MH)) (e : α → D) (g : α → Option D) (M : MH) : ∀ xs : List α, (∀ x ∈ xs, f (e x) M = some (g x, M)) → compL f (xs.map e) M = some (xs.filterMap g, M)
  | [], _ => rfl
  | x :: xs, h => by
    have h1 := h x List.mem_cons_self
    have h2 := compL_filterMap f e g M xs fun y hy => h y (List.mem_cons_of_mem _ hy)
    rw [List.map_cons]
    show (f (e x) M).bind _ = _
    rw [h1]
    show (compL f (xs.map e) M).map _ = _
    rw [h2, List.filterMap_cons]
    cases g x <;> rfl
theorem compL_map {α : Type} (f : D → MH → Option (Option D × MH)) (e : α → D) (g : α → D) (M : MH) (xs : List α) (h : ∀ x ∈ xs, f (e x) M = some (some (g x), M)) : compL f (xs.map e) M = some (xs.map g, M) := by
  rw [compL_filterMap f e (fun x => some (g x)) M xs h]
  simp
theorem compL_filter {α : Type} (f : D → MH → Option (Option D × MH)) (e : α → D) (c : α → Bool) (g : α → D) (M : MH) (xs : List α) (h : ∀ x ∈ xs, f (e x) M = if c x then some (some (g x), M) else some (none, M)) : compL f (xs.map e) M = some ((xs.filter c).map g, M) := by
  rw [compL_filterMap f e (fun x => if c x then some (g x) else none) M xs fun x hx => by rw [h x hx]; split <;> rfl]
  congr 1
  congr 1
  clear h
  induction xs with
  | nil => rfl
  | cons x xs ih =>
    rw [List.filterMap_cons, List.filter_cons]
    cases c x <;> simp [ih]
/-- by an invariant -/
theorem forL_inv {α σ : Type} (f : D → Env → MH → Option Out) (e : α → D) (I : σ → Env → MH → Prop) (step : σ → α → σ) : ∀ (xs : List α) (s : σ) (ρ : Env) (M : MH), I s ρ M →
    (∀ x ∈ xs, ∀ s ρ M, I s ρ M → ∃ ρ1 M1, f (e x) ρ M = some (.nx ρ1 M1) ∧ I (step s x) ρ1 M1) → ∃ ρ1 M1, forL f (xs.map e) ρ M = some (.nx ρ1 M1) ∧ I (xs.foldl step s) ρ1 M1
  | [], s, ρ, M, h0, _ => ⟨ρ, M, rfl, h0⟩
  | x :: xs, s, ρ, M, h0, h => by
    obtain ⟨ρ1, M1, h1, h2⟩ := h x List.mem_cons_self s ρ M h0
    obtain ⟨ρ2, M2, h3, h4⟩ := forL_inv f e I step xs (step s x) ρ1 M1 h2 fun y hy => h y (List.mem_cons_of_mem _ hy)
    refine ⟨ρ2, M2, ?_, h4⟩
    rw [List.map_cons]
    show (f (e x) ρ M).bind _ = _
    rw [h1]
    exact h3
end Mi
set_option maxHeartbeats 4000000
/-! V3: sorting lots and numbers; loops by what was walked. -/
namespace Mi
open PySem
theorem allInts_map : ∀ l : List Int, allInts (l.map PyData.int) = true
  | [] => rfl
  | x :: l => by simp [allInts, allInts_map l]
theorem allTups_map : ∀ L : List Lot, allTups (L.map lotD) = true
  | [] => rfl
  | x :: l => by simp [allTups, lotD, allTups_map l]
theorem rowOf_lot (l : Lot) : rowOf (lotD l) = some l := intsOf_map l
theorem rowD_lot (l : Lot) : rowD (lotD l) = l := rowD_of (rowOf_lot l)
theorem rowD_int (i : Int) : rowD (.int i) = [i] := rfl
theorem rows_ints (l : List Int) : (rowsOf (l.map PyData.int)).isSome = true := by
  rw [rowsOf_iff, List.all_eq_true]
  intro x hx
  obtain ⟨i, _, rfl⟩ := List.mem_map.mp hx
  rfl
theorem rows_lots (L : List Lot) : (rowsOf (L.map lotD)).isSome = true := by
  rw [rowsOf_iff, List.all_eq_true]
  intro x hx
  obtain ⟨i, _, rfl⟩ := List.mem_map.mp hx
  rw [rowOf_lot]
  rfl
theorem sortD_ints (l : List Int) : sortD (l.map PyData.int) = some ((srt l).map PyData.int) := by
  unfold sortD
  rw [if_pos (by rw [allInts_map, rows_ints]; rfl)]
  unfold srt
  rw [List.map_mergeSort]
  intro a _ b _
  show decide (a ≤ b) = !(if b = a then false else decide (b < a))
  by_cases h : b = a
  · subst h; simp
  · rw [if_neg h, Bool.eq_iff_iff]
    simp
/-- lots in the order of Python -/
def lsort (L : List Lot) : List Lot := L.mergeSort leL
theorem lsort_perm (L : List Lot) : (lsort L).Perm L := List.mergeSort_perm _ _
theorem sortD_lots (L : List Lot) (h : (∀ l ∈ L, l ≠ []) ∨ L.length ≤ 1) : sortD (L.map lotD) = some ((lsort L).map lotD) := by
  unfold sortD
  rw [if_pos]
  · unfold lsort
    rw [List.map_mergeSort]
    intro a _ b _
    rw [leD_eq, rowD_lot, rowD_lot]
  · rw [rows_lots, Bool.and_true]
    rcases h with h | h
    · have : (L.map lotD).all neT = true := by
        rw [List.all_eq_true]
        intro x hx
        obtain ⟨l, hl, rfl⟩ := List.mem_map.mp hx
        cases l with
        | nil => exact absurd rfl (h [] hl)
        | cons p r => rfl
      rw [this]
      simp
    · have : decide ((L.map lotD).length ≤ 1) = true := by simpa using h
      rw [this]
      simp
theorem leN_lot (a b : Lot) : leN (lotD a) (lotD b) = !ltN b a := by
  show (if (rowD (lotD a)).length = (rowD (lotD b)).length then !ltL (rowD (lotD b)) (rowD (lotD a)) else decide ((rowD (lotD a)).length ≤ (rowD (lotD b)).length)) = _
  rw [rowD_lot, rowD_lot]
  unfold ltN
  by_cases e : a.length = b.length
  · rw [if_pos e, if_pos e.symm]
  · rw [if_neg e, if_neg (Ne.symm e), Bool.eq_iff_iff]
    simp
theorem sortN_lots (L : List Lot) : sortN (L.map lotD) = some ((nsort L).map lotD) := by
  unfold sortN
  rw [if_pos (by rw [allTups_map, rows_lots]; rfl)]
  unfold nsort
  rw [List.map_mergeSort]
  intro a _ b _
  rw [leN_lot]
theorem onceD_lots : ∀ L : List Lot, onceD (L.map lotD) = (onceL L).map lotD
  | [] => rfl
  | x :: r => by
    rw [List.map_cons, onceD, onceL, onceD_lots r, any_eqv (f := lotD) (onceL r) x]
    by_cases h : x ∈ onceL r
    · rw [if_pos h, if_pos (decide_eq_true h)]
    · rw [if_neg h, if_neg (by simpa using h), List.map_cons]
theorem onceD_ints : ∀ L : List Int, onceD (L.map .int) = (onceI L).map .int
  | [] => rfl
  | x :: r => by
    rw [List.map_cons, onceD, onceI, onceD_ints r, any_eqv (f := PyData.int) (onceI r) x]
    by_cases h : x ∈ onceI r
    · rw [if_pos h, if_pos (decide_eq_true h)]
    · rw [if_neg h, if_neg (by simpa using h), List.map_cons]
theorem nsort_perm {A B : List Lot} (p : A.Perm B) (h : A.Nodup) : nsort A = nsort B := srtN_ext (nsort_srt h) (nsort_srt (p.nodup h)) fun t => by rw [nsort_mem, nsort_mem, p.mem_iff]
theorem byN_sorted (L : List Lot) : nsort (lsort (onceL L)) = byN L := nsort_perm (lsort_perm _) ((lsort_perm _).symm.nodup (onceL_nodup L))
theorem onceL_len : ∀ L : List Lot, (onceL L).length ≤ L.length
  | [] => Nat.le_refl _
  | x :: r => by
    have := onceL_len r
    rw [onceL]
    split <;> simp only [List.length_cons] <;> omega
theorem once_cond {L : List Lot} (h : (∀ l ∈ L, l ≠ []) ∨ L.length ≤ 1) : (∀ l ∈ onceL L, l ≠ []) ∨ (onceL L).length ≤ 1 :=
  h.imp (fun h l hl => h l (onceL_mem.mp hl)) fun h => Nat.le_trans (onceL_len L) h
theorem setOk_lots (x : D) (L : List Lot) (h : L.length ≤ 1000) : setOk x (L.map lotD) = true := by
  unfold setOk
  rw [allTups_map, rows_lots, List.length_map, decide_eq_true h]
  simp
theorem setOk_ints (xs : List D) (l : List Int) (h : l.length ≤ 1000) : setOk (.tuple xs) (l.map .int) = true := by
  unfold setOk
  rw [allInts_map, List.length_map, decide_eq_true h]
  rfl
/-- sorted(set(lots)) -/
theorem sset_lots (x : D) (L : List Lot) (h : L.length ≤ 1000) (h2 : (∀ l ∈ L, l ≠ []) ∨ L.length ≤ 1) (M : MH) : (if setOk x (L.map lotD) = true then (sortD (onceD (L.map lotD))).map fun ys => (Val.d (.list ys), M) else none) = some (.d (.list ((lsort (onceL L)).map lotD)), M) := by
  rw [if_pos (setOk_lots x L h), onceD_lots, sortD_lots _ (once_cond h2)]
  rfl
/-- sorted(set(ints)) of a tuple -/
theorem sset_ints (xs : List D) (l : List Int) (h : l.length ≤ 1000) (M : MH) : (if setOk (.tuple xs) (l.map .int) = true then (sortD (onceD (l.map .int))).map fun ys => (Val.d (.list ys), M) else none) = some (.d (.list ((asc l).map .int)), M) := by
  rw [if_pos (setOk_ints xs l h), onceD_ints, sortD_ints]
  rfl
theorem sortN_if (L : List Lot) (M : MH) : (sortN (L.map lotD)).map (fun ys => (Val.d (.list ys), M)) = some (.d (.list ((nsort L).map lotD)), M) := by
  rw [sortN_lots]
  rfl

/-! ### loops -/
theorem forL_pre {α : Type} (f : D → Env → MH → Option Out) (e : α → D) (I : List α → Env → MH → Prop) : ∀ (post pre : List α) (ρ : Env) (M : MH), I pre ρ M →
    (∀ a x b, pre ++ post = a ++ x :: b → ∀ ρ M, I a ρ M → ∃ ρ1 M1, f (e x) ρ M = some (.nx ρ1 M1) ∧ I (a ++ [x]) ρ1 M1) → ∃ ρ1 M1, forL f (post.map e) ρ M = some (.nx ρ1 M1) ∧ I (pre ++ post) ρ1 M1
  | [], pre, ρ, M, h0, _ => ⟨ρ, M, rfl, by rw [List.append_nil]; exact h0⟩
  | x :: post, pre, ρ, M, h0, h => by
    obtain ⟨ρ1, M1, h1, h2⟩ := h pre x post rfl ρ M h0
    obtain ⟨ρ2, M2, h3, h4⟩ := forL_pre f e I post (pre ++ [x]) ρ1 M1 h2 fun a y b e' => h a y b (by rw [← e']; simp)
    refine ⟨ρ2, M2, ?_, by simpa using h4⟩
    rw [List.map_cons]
    show (f (e x) ρ M).bind _ = _
    rw [h1]
    exact h3
theorem forL_walk {α : Type} {f : D → Env → MH → Option Out} {e : α → D} (I : List α → Env → MH → Prop) {xs : List α} {ρ : Env} {M : MH} (h0 : I [] ρ M)
    (h : ∀ a x b, xs = a ++ x :: b → ∀ ρ M, I a ρ M → ∃ ρ1 M1, f (e x) ρ M = some (.nx ρ1 M1) ∧ I (a ++ [x]) ρ1 M1) : ∃ ρ1 M1, forL f (xs.map e) ρ M = some (.nx ρ1 M1) ∧ I xs ρ1 M1 :=
  forL_pre f e I xs [] ρ M h0 h
/-- it comes to a value, of which P holds -/
def Ok {α : Type} (o : Option α) (P : α → Prop) : Prop := ∃ a, o = some a ∧ P a
theorem ok_some {α : Type} {a : α} {P : α → Prop} : Ok (some a) P = P a := propext ⟨fun ⟨_, h, p⟩ => by cases h; exact p, fun p => ⟨a, rfl, p⟩⟩
theorem ok_is {α : Type} {o : Option α} {a : α} (h : Ok o fun x => x = a) : o = some a := by
  obtain ⟨_, h, rfl⟩ := h
  exact h
theorem ok_of {α : Type} {o : Option α} {a : α} (h : o = some a) : Ok o fun x => x = a := ⟨a, h, rfl⟩
theorem ok_mono {α : Type} {o : Option α} {P Q : α → Prop} (h : Ok o P) (k : ∀ a, P a → Q a) : Ok o Q := by
  obtain ⟨a, e, p⟩ := h
  exact ⟨a, e, k a p⟩
theorem ok_bind {α β : Type} {o : Option α} {G : α → Option β} {Q : α → Prop} {P : β → Prop} (h : Ok o Q) (k : ∀ a, Q a → Ok (G a) P) : Ok (o.bind G) P := by
  obtain ⟨a, rfl, q⟩ := h
  exact k a q
theorem ok_map {α β : Type} {o : Option α} {G : α → β} {Q : α → Prop} {P : β → Prop} (h : Ok o Q) (k : ∀ a, Q a → P (G a)) : Ok (o.map G) P := by
  obtain ⟨a, rfl, q⟩ := h
  exact ⟨_, rfl, k a q⟩
def Nx (Q : Env → MH → Prop) (R : Val → MH → Prop) : Out → Prop
  | .nx ρ M => Q ρ M
  | .rt v M => R v M
theorem nx_nx (Q : Env → MH → Prop) (R : Val → MH → Prop) (ρ : Env) (M : MH) : Nx Q R (.nx ρ M) = Q ρ M := rfl
theorem nx_rt (Q : Env → MH → Prop) (R : Val → MH → Prop) (v : Val) (M : MH) : Nx Q R (.rt v M) = R v M := rfl
/-- then the rest of the block -/
def Then (C : Ctx) (r : Ss) (P : Out → Prop) : Out → Prop
  | .nx ρ M => Ok (evSs C r ρ M) P
  | .rt v M => P (.rt v M)
theorem then_nx (C : Ctx) (r : Ss) (P : Out → Prop) (ρ : Env) (M : MH) : Then C r P (.nx ρ M) = Ok (evSs C r ρ M) P := rfl
theorem then_rt (C : Ctx) (r : Ss) (P : Out → Prop) (v : Val) (M : MH) : Then C r P (.rt v M) = P (.rt v M) := rfl
theorem ok_none {α : Type} {P : α → Prop} : Ok (none : Option α) P = False := propext ⟨fun h => (by obtain ⟨_, h, _⟩ := h; cases h), False.elim⟩
theorem ok_sq (C : Ctx) (r : Ss) (o : Option Out) (P : Out → Prop) : Ok (sq C r o) P = Ok o (Then C r P) := by
  cases o with
  | none => rw [ok_none]; exact ok_none
  | some o =>
    rw [ok_some]
    cases o with
    | nx ρ M => rfl
    | rt v M => exact ok_some
def Fin (k : Bool) (n : Nat) (P : Val × MH → Prop) : Out → Prop
  | .rt v M => Ok (handOn k n v M) P
  | .nx _ M => P (.d .none, M.take n)
theorem fin_rt (k : Bool) (n : Nat) (P : Val × MH → Prop) (v : Val) (M : MH) : Fin k n P (.rt v M) = Ok (handOn k n v M) P := rfl
theorem fin_nx (k : Bool) (n : Nat) (P : Val × MH → Prop) (ρ : Env) (M : MH) : Fin k n P (.nx ρ M) = P (.d .none, M.take n) := rfl
theorem ok_end (k : Bool) (n : Nat) (o : Option Out) (P : Val × MH → Prop) : Ok (kEnd k n o) P = Ok o (Fin k n P) := by
  cases o with
  | none => rw [ok_none]; exact ok_none
  | some o =>
    rw [ok_some]
    cases o with
    | nx ρ M => exact ok_some
    | rt v M => rfl
theorem for_ok {α : Type} {f : D → Env → MH → Option Out} {e : α → D} {P : Out → Prop} {xs : List α} {ρ : Env} {M : MH} (I : List α → Env → MH → Prop) (h0 : I [] ρ M)
    (h : ∀ a x b, xs = a ++ x :: b → ∀ ρ M, I a ρ M → Ok (f (e x) ρ M) (Nx (I (a ++ [x])) fun v M => P (.rt v M))) (k : ∀ ρ1 M1, I xs ρ1 M1 → P (.nx ρ1 M1)) : Ok (forL f (xs.map e) ρ M) P := by
  have main : ∀ (post pre : List α) (ρ : Env) (M : MH), I pre ρ M → (∀ a x b, pre ++ post = a ++ x :: b → ∀ ρ M, I a ρ M → Ok (f (e x) ρ M) (Nx (I (a ++ [x])) fun v M => P (.rt v M))) → (∀ ρ1 M1, I (pre ++ post) ρ1 M1 → P (.nx ρ1 M1)) → Ok (forL f (post.map e) ρ M) P := by
    intro post
    induction post with
    | nil =>
      intro pre ρ M h0 _ k
      exact ⟨_, rfl, k ρ M (by rw [List.append_nil]; exact h0)⟩
    | cons x post ih =>
      intro pre ρ M h0 h k
      obtain ⟨o, e1, q⟩ := h pre x post rfl ρ M h0
      rw [List.map_cons]
      show Ok ((f (e x) ρ M).bind _) P
      rw [e1]
      cases o with
      | nx ρ1 M1 => exact ih (pre ++ [x]) ρ1 M1 q (fun a y b e' => h a y b (by rw [← e']; simp)) fun ρ2 M2 z => k ρ2 M2 (by simpa using z)
      | rt v M1 => exact ⟨_, rfl, q⟩
  exact main xs [] ρ M h0 (fun a x b e' => h a x b (by simpa using e')) fun ρ1 M1 z => k ρ1 M1 (by simpa using z)
theorem ok_k {α β : Type} {k : Option α → Option β} (hk : k none = none) {o : Option α} {P : β → Prop} (h : Ok o fun r => Ok (k (some r)) P) : Ok (k o) P := by
  obtain ⟨r, rfl, h⟩ := h
  exact h
theorem comp_walk {α : Type} (f : D → MH → Option (Option D × MH)) (e : α → D) (xs : List α) (M : MH) (I : List α → List D → MH → Prop) (h0 : I [] [] M)
    (h : ∀ a x b, xs = a ++ x :: b → ∀ ys M, I a ys M → Ok (f (e x) M) fun r => I (a ++ [x]) (ys ++ r.1.toList) r.2) : ∃ ys M1, compL f (xs.map e) M = some (ys, M1) ∧ I xs ys M1 := by
  have main : ∀ (post pre : List α) (ys : List D) (M : MH), I pre ys M → (∀ a x b, pre ++ post = a ++ x :: b → ∀ ys M, I a ys M → Ok (f (e x) M) fun r => I (a ++ [x]) (ys ++ r.1.toList) r.2) →
      Ok (compL f (post.map e) M) fun r => I (pre ++ post) (ys ++ r.1) r.2 := by
    intro post
    induction post with
    | nil =>
      intro pre ys M h0 _
      exact ⟨([], M), rfl, by simpa using h0⟩
    | cons x post ih =>
      intro pre ys M h0 h
      obtain ⟨r, e1, q⟩ := h pre x post rfl ys M h0
      obtain ⟨r2, e2, q2⟩ := ih (pre ++ [x]) _ r.2 q fun a y b e' => h a y b (by rw [← e']; simp)
      refine ⟨((match r.1 with | some y => y :: r2.1 | none => r2.1), r2.2), ?_, ?_⟩
      · rw [List.map_cons]
        show ((f (e x) M).bind fun p => (compL f (post.map e) p.2).map fun q => ((match p.1 with | some y => y :: q.1 | none => q.1), q.2)) = _
        rw [e1]
        show (compL f (post.map e) r.2).map _ = _
        rw [e2]
        rfl
      · rw [List.append_assoc] at q2
        obtain ⟨r1, r1'⟩ := r
        cases r1 with
        | none => simpa using q2
        | some y => simpa using q2
  obtain ⟨r, e1, q⟩ := main xs [] [] M h0 fun a x b e' => h a x b (by simpa using e')
  exact ⟨r.1, r.2, e1, by simpa using q⟩
theorem comp_ok {α : Type} {f : D → MH → Option (Option D × MH)} {e : α → D} {xs : List α} {M : MH} {P : List D × MH → Prop} (I : List α → List D → MH → Prop) (h0 : I [] [] M)
    (h : ∀ a x b, xs = a ++ x :: b → ∀ ys M, I a ys M → Ok (f (e x) M) fun r => I (a ++ [x]) (ys ++ r.1.toList) r.2) (k : ∀ ys M1, I xs ys M1 → P (ys, M1)) : Ok (compL f (xs.map e) M) P := by
  obtain ⟨ys, M1, e1, hI⟩ := comp_walk f e xs M I h0 h
  exact ⟨_, e1, k ys M1 hI⟩
theorem flatMap_le {α β : Type} {g : α → List β} {k : Nat} : ∀ {l : List α}, (∀ x ∈ l, (g x).length ≤ k) → (l.flatMap g).length ≤ l.length * k
  | [], _ => by simp
  | x :: l, h => by
    have h1 := h x List.mem_cons_self
    have h2 := flatMap_le (l := l) fun y hy => h y (List.mem_cons_of_mem _ hy)
    rw [List.flatMap_cons, List.length_append, List.length_cons, Nat.succ_mul]
    omega
end Mi
set_option maxHeartbeats 4000000
/-! V4: cells, places. -/
namespace Mi
open PySem
theorem ix_last {n : Nat} (h : 0 < n) : ixOf n (-1) = some (n - 1) := by
  unfold ixOf L2.ixN
  rw [if_neg (by omega), if_pos (by omega)]
  congr 1
  omega
theorem ix_nat {n k : Nat} (h : k < n) : ixOf n (k : Int) = some k := by
  unfold ixOf L2.ixN
  rw [if_pos (by omega), if_pos (by omega)]
  rfl
theorem ix_of {n : Nat} {i : Int} (h0 : 0 ≤ i) (h : i < n) : ixOf n i = some i.toNat := by
  unfold ixOf L2.ixN
  rw [if_pos h0, if_pos h]
theorem sub_last {α : Type} (f : α → D) (xs : List α) (x : α) (M : MH) (h : xs.getLast? = some x) : subV (xs.map f) (.d (.int (-1))) M = some (.d (f x), M) := by
  obtain ⟨ini, rfl⟩ := List.getLast?_eq_some_iff.mp h
  rw [subV_int, List.length_map, ix_last (by simp)]
  simp
theorem sub_at {α : Type} (f : α → D) (xs : List α) (x : α) (i : Int) (M : MH) (h0 : 0 ≤ i) (h : xs[i.toNat]? = some x) : subV (xs.map f) (.d (.int i)) M = some (.d (f x), M) := by
  have hl : i.toNat < xs.length := (List.getElem?_eq_some_iff.mp h).1
  rw [subV_int, List.length_map, ix_of h0 (by omega)]
  simp [h]
theorem sub_zero {α : Type} (f : α → D) (xs : List α) (x : α) (M : MH) (h : xs.head? = some x) : subV (xs.map f) (.d (.int 0)) M = some (.d (f x), M) := by
  refine sub_at f xs x 0 M (by decide) ?_
  cases xs with
  | nil => cases h
  | cons y r => exact h
/-! the caller's cells -/
theorem get_old (M R : MH) (n : Nat) (h : n < M.length) : (M ++ R)[n]? = M[n]? := List.getElem?_append_left h
theorem set_old (M R : MH) (n : Nat) (c : Cell) (h : n < M.length) : (M ++ R).set n c = M.set n c ++ R := List.set_append_left _ _ h
theorem get_c (M : MH) (n : Nat) (xs : List D) (h : M[n]? = some (.lst xs)) : get M (.ref n) = some (.list xs) := get_ref M n xs h
/-! two cells of one's own -/
theorem get_new2 (M : MH) (c : Cell) (xs : List D) (R : MH) : get (M ++ c :: .lst xs :: R) (.ref (M.length + 1)) = some (.list xs) := get_ref _ _ _ (by simp)
theorem getT_new2 (M : MH) (c : Cell) (xs : List D) (R : MH) : getT (M ++ c :: .lst xs :: R) (.ref (M.length + 1)) = some (.list xs) := getT_ref _ _ _ (by simp)
theorem app_new2 (M : MH) (c : Cell) (xs : List D) (R : MH) (y : D) : appV (M.length + 1) y (M ++ c :: .lst xs :: R) = if xs.length < lim then some (M ++ c :: .lst (xs ++ [y]) :: R) else none := by
  unfold appV
  simp
theorem hand_new2 (M : MH) (c : Cell) (xs : List D) (R : MH) : handOn false M.length (.ref (M.length + 1)) (M ++ c :: .lst xs :: R) = some (.d (.list xs), M) := by
  rw [hand_ref M.length (M.length + 1) (M ++ c :: .lst xs :: R) xs (by simp) (by omega)]
  simp
theorem app_new2' (M : MH) (c : Cell) (xs : List D) (R : MH) (y : D) (k : Nat) (hk : k = M.length) : appV (k + 1) y (M ++ c :: .lst xs :: R) = if xs.length < lim then some (M ++ c :: .lst (xs ++ [y]) :: R) else none := by
  subst hk
  exact app_new2 M c xs R y
theorem app_new' (M : MH) (xs : List D) (R : MH) (y : D) (k : Nat) (hk : k = M.length) : appV k y (M ++ .lst xs :: R) = if xs.length < lim then some (M ++ .lst (xs ++ [y]) :: R) else none := by
  subst hk
  exact app_new M xs R y
theorem pop_new' (M : MH) (xs : List D) (R : MH) (i : Int) (k : Nat) (hk : k = M.length) : popV k i (M ++ .lst xs :: R) = if i.natAbs ≤ lim then (ixOf xs.length i).bind fun j => (xs[j]?).map fun y => (.d y, M ++ .lst (xs.eraseIdx j) :: R) else none := by
  subst hk
  unfold popV
  simp
theorem take_set (M : MH) (i : Nat) (x : Cell) : List.take M.length (M.set i x) = M.set i x := List.take_of_length_le (by simp)
theorem take_set_app (M R : MH) (i : Nat) (x : Cell) : List.take M.length (M.set i x ++ R) = M.set i x := by
  rw [List.take_append_of_le_length (by simp), take_set]
theorem lim_4 : (4 < lim) = True := by simp [lim]
theorem lim_5 : (5 < lim) = True := by simp [lim]
theorem lim_6 : (6 < lim) = True := by simp [lim]
theorem lim_7 : (7 < lim) = True := by simp [lim]
theorem lim_8 : (8 < lim) = True := by simp [lim]
theorem lim_9 : (9 < lim) = True := by simp [lim]
theorem lim_10 : (10 < lim) = True := by simp [lim]
theorem lim_11 : (11 < lim) = True := by simp [lim]
theorem lim_12 : (12 < lim) = True := by simp [lim]
theorem lim_13 : (13 < lim) = True := by simp [lim]
theorem lim_14 : (14 < lim) = True := by simp [lim]
theorem lim_15 : (15 < lim) = True := by simp [lim]
theorem lim_16 : (16 < lim) = True := by simp [lim]
theorem ext_new' (M : MH) (xs ys : List D) (R : MH) (k : Nat) (hk : k = M.length) : extV k ys (M ++ .lst xs :: R) = if xs.length + ys.length ≤ lim then some (M ++ .lst (xs ++ ys) :: R) else none := by
  subst hk
  exact ext_new M xs ys R
theorem ext_new2' (M : MH) (c : Cell) (xs ys : List D) (R : MH) (k : Nat) (hk : k = M.length) : extV (k + 1) ys (M ++ c :: .lst xs :: R) = if xs.length + ys.length ≤ lim then some (M ++ c :: .lst (xs ++ ys) :: R) else none := by
  subst hk
  unfold extV
  simp
theorem get_new' (M : MH) (xs : List D) (R : MH) (k : Nat) (hk : k = M.length) : get (M ++ .lst xs :: R) (.ref k) = some (.list xs) := by
  subst hk
  exact get_new M xs R
theorem get_new2' (M : MH) (c : Cell) (xs : List D) (R : MH) (k : Nat) (hk : k = M.length) : get (M ++ c :: .lst xs :: R) (.ref (k + 1)) = some (.list xs) := by
  subst hk
  exact get_new2 M c xs R
theorem cut_hi1 (xs : List D) : cutL xs none (some 1) = xs.take 1 := by
  unfold cutL
  have h : HT.sIx xs.length xs.length (some 1) = min 1 xs.length := HT.sIx_nat _ _ 1
  rw [h, HT.sIx_none]
  simp [List.take_eq_take_min]
theorem cut_lo1 (xs : List D) : cutL xs (some 1) none = xs.drop 1 := by
  unfold cutL
  have h : HT.sIx xs.length 0 (some 1) = min 1 xs.length := HT.sIx_nat _ _ 1
  rw [h, HT.sIx_none, List.take_of_length_le (by rw [List.length_drop]; omega)]
  cases xs with
  | nil => rfl
  | cons x r =>
    rw [show min 1 (x :: r).length = 1 by rw [List.length_cons]; omega]
theorem rangeL_eq : ∀ (n : Nat) (lo : Int), rangeL lo n = (List.range n).map fun i => .int (lo + (i : Int))
  | 0, _ => rfl
  | n + 1, lo => by
    rw [rangeL, rangeL_eq n, List.range_succ_eq_map, List.map_cons, List.map_map]
    congr 1
    · simp
    · refine List.map_congr_left fun i _ => ?_
      show PyData.int _ = PyData.int _
      congr 1
      show lo + 1 + (i : Int) = lo + ((i + 1 : Nat) : Int)
      omega
/-- numbers from lo on -/
def nums (lo : Int) (n : Nat) : List Int := (List.range n).map fun (i : Nat) => lo + (i : Int)
theorem rangeL_nums (lo : Int) (n : Nat) : rangeL lo n = (nums lo n).map .int := by
  rw [rangeL_eq, nums, List.map_map]
  rfl
theorem nums_len (lo : Int) (n : Nat) : (nums lo n).length = n := by simp [nums]
theorem nums_mem {lo : Int} {n : Nat} {x : Int} : x ∈ nums lo n ↔ lo ≤ x ∧ x < lo + n := by
  unfold nums
  rw [List.mem_map]
  constructor
  · rintro ⟨i, hi, rfl⟩
    have := List.mem_range.mp hi
    omega
  · rintro ⟨h1, h2⟩
    exact ⟨(x - lo).toNat, List.mem_range.mpr (by omega), by omega⟩
theorem nums_nodup (lo : Int) (n : Nat) : (nums lo n).Nodup := List.pairwise_map.mpr (List.nodup_range.imp fun h => by omega)
end Mi
set_option maxHeartbeats 4000000
/-! R52: the rows of k52. -/
namespace Mi
open PySem PySem.Spec PyProof.Rows L2
structure RowS (r : Row) : Prop where
  binds : ∀ (kV doc pm : Value) (an : Option Addr) (cdv ct : Value) (us : List Value), us.length = r.ps.length → bindArgs (PySem.W.fnOf r.name r.name (defArgs r.st) (defBody r.st) (defScope r.st) .none kV doc pm an cdv ct) ⟨us, []⟩ = pure (r.ps.zip us)
  scope : FnScope r.N r.ps (defScope r.st)
namespace K52
abbrev topS (i : Nat) : Stmt := PySem.Challenge.pw_leastthatfails_k52_crossing_of_many_lots.main.body.getD i (.Pass ⟨0, 0, 0, 0⟩)
abbrev r_is_integer : Row := ⟨"is_integer", topS 1, ["value"], ["value"], [], false, false⟩
abbrev r_is_between : Row := ⟨"is_between", topS 2, ["value", "low", "high"], ["value", "low", "high"], [], false, false⟩
abbrev r_is_tuple : Row := ⟨"is_tuple", topS 3, ["value", "low", "high"], ["value", "low", "high"], [], false, false⟩
abbrev r_is_ascending : Row := ⟨"is_ascending", topS 4, ["some", "one", "other"], ["some"], [], false, false⟩
abbrev r_is_lot : Row := ⟨"is_lot", topS 5, ["value", "many", "one"], ["value", "many"], [], false, false⟩
abbrev r_meets : Row := ⟨"meets", topS 6, ["one", "other", "part"], ["one", "other"], [], false, false⟩
abbrev r_is_within : Row := ⟨"is_within", topS 7, ["one", "other", "part"], ["one", "other"], [], false, false⟩
abbrev r_least_of : Row := ⟨"least_of", topS 8, ["lots", "found", "lesser", "lot", "one"], ["lots"], ["found"], false, false⟩
abbrev r_by_size : Row := ⟨"by_size", topS 9, ["lot"], ["lot"], [], false, false⟩
abbrev r_is_many : Row := ⟨"is_many", topS 19, ["value"], ["value"], [], false, false⟩
abbrev r_check_many : Row := ⟨"check_many", topS 20, ["many"], ["many"], [], false, false⟩
abbrev r_are_lots : Row := ⟨"are_lots", topS 23, ["value", "many", "lot"], ["value", "many"], [], false, false⟩
abbrev r_check_lots : Row := ⟨"check_lots", topS 24, ["lots", "many"], ["lots", "many"], [], false, false⟩
abbrev r_crossed_by : Row := ⟨"crossed_by", topS 25, ["found", "lot", "kept", "more", "one", "part", "new", "its"], ["found", "lot"], ["more"], false, false⟩
abbrev r_crossing_of : Row := ⟨"crossing_of", topS 26, ["lots", "found", "lot"], ["lots"], [], true, false⟩
abbrev r_is_alone_in : Row := ⟨"is_alone_in", topS 27, ["lot", "part", "lots", "one", "other"], ["lot", "part", "lots"], [], false, false⟩
abbrev r_crossing : Row := ⟨"crossing", topS 28, ["lots", "many"], ["lots", "many"], [], false, false⟩
abbrev r_does_cross : Row := ⟨"does_cross", topS 29, ["lots", "many", "lot", "one"], ["lots", "many", "lot"], [], false, false⟩
abbrev r_is_least_crossing : Row := ⟨"is_least_crossing", topS 30, ["lots", "many", "lot", "part"], ["lots", "many", "lot"], [], false, false⟩
abbrev r_fewest_crossing : Row := ⟨"fewest_crossing", topS 31, ["lots", "many", "found"], ["lots", "many"], [], false, false⟩
abbrev r_apart_lots : Row := ⟨"apart_lots", topS 32, ["lots", "many", "some", "found", "lot", "one", "its"], ["lots", "many"], [], false, false⟩
abbrev r_cut_short : Row := ⟨"cut_short", topS 33, ["lots", "many", "number", "one"], ["lots", "many", "number"], [], false, false⟩
abbrev r__law_pot : Row := ⟨"_law_pot", topS 35, ["script", "place", "cell", "own", "small"], ["script", "place"], ["return"], false, true⟩
abbrev r__law_take : Row := ⟨"_law_take", topS 36, ["pot", "upto", "digit", "prime", "blend"], ["pot", "upto"], [], false, false⟩
abbrev r__law_places : Row := ⟨"_law_places", topS 37, ["script", "most"], ["script", "most"], [], false, false⟩
abbrev r__law_some : Row := ⟨"_law_some", topS 38, ["pot", "pool", "many", "rests", "found", "lap"], ["pot", "pool", "many"], ["found", "rests"], false, false⟩
abbrev r__law_in : Row := ⟨"_law_in", topS 39, ["one", "other", "part"], ["one", "other"], [], false, false⟩
abbrev r__law_least : Row := ⟨"_law_least", topS 40, ["lots", "lot", "other"], ["lots"], [], false, false⟩
abbrev r__law_by_size : Row := ⟨"_law_by_size", topS 41, ["lots"], ["lots"], [], true, false⟩
abbrev r__law_lots_of : Row := ⟨"_law_lots_of", topS 42, ["pot", "many", "found", "lap"], ["pot", "many"], ["found"], false, false⟩
abbrev r__law_right : Row := ⟨"_law_right", topS 43, ["pot", "many", "lots", "others", "due", "wide", "core", "far", "ends", "theirs", "one", "mine", "number", "lot", "part", "other"], ["pot"], ["ends", "mine"], false, false⟩
abbrev r_law : Row := ⟨"law", topS 44, ["script", "pairs", "place", "pot", "at", "lap"], ["script"], [], false, false⟩
def rows : List Row := [r_is_integer, r_is_between, r_is_tuple, r_is_ascending, r_is_lot, r_meets, r_is_within, r_least_of, r_by_size, r_is_many, r_check_many, r_are_lots, r_check_lots, r_crossed_by, r_crossing_of, r_is_alone_in, r_crossing, r_does_cross, r_is_least_crossing, r_fewest_crossing, r_apart_lots, r_cut_short, r__law_pot, r__law_take, r__law_places, r__law_some, r__law_in, r__law_least, r__law_by_size, r__law_lots_of, r__law_right, r_law]
def cst (x : Str) : Option D := if x = "MOST_PARTS" then some (.int 40) else if x = "MOST_LOTS" then some (.int 400) else none
def bys (x : Str) : Bool := decide (x = "by_size")
abbrev call (n : Nat) (f : Str) (vs : List Val) (M : MH) : Option (Val × MH) := callF (tabOf rows) cst 100 bys n f vs M
theorem s_is_integer : RowS r_is_integer := ⟨fun _ _ _ _ _ _ us hl => match us, hl with | [_], _ => rfl, ⟨rfl, rfl, rfl, by decide +kernel, rfl, by decide +kernel, by decide +kernel⟩⟩
theorem s_is_between : RowS r_is_between := ⟨fun _ _ _ _ _ _ us hl => match us, hl with | [_, _, _], _ => rfl, ⟨rfl, rfl, rfl, by decide +kernel, rfl, by decide +kernel, by decide +kernel⟩⟩
theorem s_is_tuple : RowS r_is_tuple := ⟨fun _ _ _ _ _ _ us hl => match us, hl with | [_, _, _], _ => rfl, ⟨rfl, rfl, rfl, by decide +kernel, rfl, by decide +kernel, by decide +kernel⟩⟩
theorem s_is_ascending : RowS r_is_ascending := ⟨fun _ _ _ _ _ _ us hl => match us, hl with | [_], _ => rfl, ⟨rfl, rfl, rfl, by decide +kernel, rfl, by decide +kernel, by decide +kernel⟩⟩
theorem s_is_lot : RowS r_is_lot := ⟨fun _ _ _ _ _ _ us hl => match us, hl with | [_, _], _ => rfl, ⟨rfl, rfl, rfl, by decide +kernel, rfl, by decide +kernel, by decide +kernel⟩⟩
theorem s_meets : RowS r_meets := ⟨fun _ _ _ _ _ _ us hl => match us, hl with | [_, _], _ => rfl, ⟨rfl, rfl, rfl, by decide +kernel, rfl, by decide +kernel, by decide +kernel⟩⟩
theorem s_is_within : RowS r_is_within := ⟨fun _ _ _ _ _ _ us hl => match us, hl with | [_, _], _ => rfl, ⟨rfl, rfl, rfl, by decide +kernel, rfl, by decide +kernel, by decide +kernel⟩⟩
theorem s_least_of : RowS r_least_of := ⟨fun _ _ _ _ _ _ us hl => match us, hl with | [_], _ => rfl, ⟨rfl, rfl, rfl, by decide +kernel, rfl, by decide +kernel, by decide +kernel⟩⟩
theorem s_by_size : RowS r_by_size := ⟨fun _ _ _ _ _ _ us hl => match us, hl with | [_], _ => rfl, ⟨rfl, rfl, rfl, by decide +kernel, rfl, by decide +kernel, by decide +kernel⟩⟩
theorem s_is_many : RowS r_is_many := ⟨fun _ _ _ _ _ _ us hl => match us, hl with | [_], _ => rfl, ⟨rfl, rfl, rfl, by decide +kernel, rfl, by decide +kernel, by decide +kernel⟩⟩
theorem s_check_many : RowS r_check_many := ⟨fun _ _ _ _ _ _ us hl => match us, hl with | [_], _ => rfl, ⟨rfl, rfl, rfl, by decide +kernel, rfl, by decide +kernel, by decide +kernel⟩⟩
theorem s_are_lots : RowS r_are_lots := ⟨fun _ _ _ _ _ _ us hl => match us, hl with | [_, _], _ => rfl, ⟨rfl, rfl, rfl, by decide +kernel, rfl, by decide +kernel, by decide +kernel⟩⟩
theorem s_check_lots : RowS r_check_lots := ⟨fun _ _ _ _ _ _ us hl => match us, hl with | [_, _], _ => rfl, ⟨rfl, rfl, rfl, by decide +kernel, rfl, by decide +kernel, by decide +kernel⟩⟩
theorem s_crossed_by : RowS r_crossed_by := ⟨fun _ _ _ _ _ _ us hl => match us, hl with | [_, _], _ => rfl, ⟨rfl, rfl, rfl, by decide +kernel, rfl, by decide +kernel, by decide +kernel⟩⟩
theorem s_crossing_of : RowS r_crossing_of := ⟨fun _ _ _ _ _ _ us hl => match us, hl with | [_], _ => rfl, ⟨rfl, rfl, rfl, by decide +kernel, rfl, by decide +kernel, by decide +kernel⟩⟩
theorem s_is_alone_in : RowS r_is_alone_in := ⟨fun _ _ _ _ _ _ us hl => match us, hl with | [_, _, _], _ => rfl, ⟨rfl, rfl, rfl, by decide +kernel, rfl, by decide +kernel, by decide +kernel⟩⟩
theorem s_crossing : RowS r_crossing := ⟨fun _ _ _ _ _ _ us hl => match us, hl with | [_, _], _ => rfl, ⟨rfl, rfl, rfl, by decide +kernel, rfl, by decide +kernel, by decide +kernel⟩⟩
theorem s_does_cross : RowS r_does_cross := ⟨fun _ _ _ _ _ _ us hl => match us, hl with | [_, _, _], _ => rfl, ⟨rfl, rfl, rfl, by decide +kernel, rfl, by decide +kernel, by decide +kernel⟩⟩
theorem s_is_least_crossing : RowS r_is_least_crossing := ⟨fun _ _ _ _ _ _ us hl => match us, hl with | [_, _, _], _ => rfl, ⟨rfl, rfl, rfl, by decide +kernel, rfl, by decide +kernel, by decide +kernel⟩⟩
theorem s_fewest_crossing : RowS r_fewest_crossing := ⟨fun _ _ _ _ _ _ us hl => match us, hl with | [_, _], _ => rfl, ⟨rfl, rfl, rfl, by decide +kernel, rfl, by decide +kernel, by decide +kernel⟩⟩
theorem s_apart_lots : RowS r_apart_lots := ⟨fun _ _ _ _ _ _ us hl => match us, hl with | [_, _], _ => rfl, ⟨rfl, rfl, rfl, by decide +kernel, rfl, by decide +kernel, by decide +kernel⟩⟩
theorem s_cut_short : RowS r_cut_short := ⟨fun _ _ _ _ _ _ us hl => match us, hl with | [_, _, _], _ => rfl, ⟨rfl, rfl, rfl, by decide +kernel, rfl, by decide +kernel, by decide +kernel⟩⟩
theorem s__law_pot : RowS r__law_pot := ⟨fun _ _ _ _ _ _ us hl => match us, hl with | [_, _], _ => rfl, ⟨rfl, rfl, rfl, by decide +kernel, rfl, by decide +kernel, by decide +kernel⟩⟩
theorem s__law_take : RowS r__law_take := ⟨fun _ _ _ _ _ _ us hl => match us, hl with | [_, _], _ => rfl, ⟨rfl, rfl, rfl, by decide +kernel, rfl, by decide +kernel, by decide +kernel⟩⟩
theorem s__law_places : RowS r__law_places := ⟨fun _ _ _ _ _ _ us hl => match us, hl with | [_, _], _ => rfl, ⟨rfl, rfl, rfl, by decide +kernel, rfl, by decide +kernel, by decide +kernel⟩⟩
theorem s__law_some : RowS r__law_some := ⟨fun _ _ _ _ _ _ us hl => match us, hl with | [_, _, _], _ => rfl, ⟨rfl, rfl, rfl, by decide +kernel, rfl, by decide +kernel, by decide +kernel⟩⟩
theorem s__law_in : RowS r__law_in := ⟨fun _ _ _ _ _ _ us hl => match us, hl with | [_, _], _ => rfl, ⟨rfl, rfl, rfl, by decide +kernel, rfl, by decide +kernel, by decide +kernel⟩⟩
theorem s__law_least : RowS r__law_least := ⟨fun _ _ _ _ _ _ us hl => match us, hl with | [_], _ => rfl, ⟨rfl, rfl, rfl, by decide +kernel, rfl, by decide +kernel, by decide +kernel⟩⟩
theorem s__law_by_size : RowS r__law_by_size := ⟨fun _ _ _ _ _ _ us hl => match us, hl with | [_], _ => rfl, ⟨rfl, rfl, rfl, by decide +kernel, rfl, by decide +kernel, by decide +kernel⟩⟩
theorem s__law_lots_of : RowS r__law_lots_of := ⟨fun _ _ _ _ _ _ us hl => match us, hl with | [_, _], _ => rfl, ⟨rfl, rfl, rfl, by decide +kernel, rfl, by decide +kernel, by decide +kernel⟩⟩
theorem s__law_right : RowS r__law_right := ⟨fun _ _ _ _ _ _ us hl => match us, hl with | [_], _ => rfl, ⟨rfl, rfl, rfl, by decide +kernel, rfl, by decide +kernel, by decide +kernel⟩⟩
theorem s_law : RowS r_law := ⟨fun _ _ _ _ _ _ us hl => match us, hl with | [_], _ => rfl, ⟨rfl, rfl, rfl, by decide +kernel, rfl, by decide +kernel, by decide +kernel⟩⟩
end K52
end Mi
set_option maxHeartbeats 4000000
/-! B52: the bodies of k52. -/
namespace Mi.K52
open PySem
def b_is_integer : Ss := (.cons (.ret (.and (.isi (.var 0) .int) (.not (.isi (.var 0) .bool)))) .nil)
theorem t_is_integer : tabOf rows "is_integer" = some ⟨1, 1, b_is_integer, false⟩ := by kernel_rfl
def b_is_between : Ss := (.cons (.ret (.and (.call "is_integer" (.cons (.var 0) .nil)) (.chain .le .le (.var 1) (.var 0) (.var 2)))) .nil)
theorem t_is_between : tabOf rows "is_between" = some ⟨3, 3, b_is_between, false⟩ := by kernel_rfl
def b_is_tuple : Ss := (.cons (.ret (.and (.isi (.var 0) .tuple) (.chain .le .le (.var 1) (.blt .len (.cons (.var 0) .nil)) (.var 2)))) .nil)
theorem t_is_tuple : tabOf rows "is_tuple" = some ⟨3, 3, b_is_tuple, false⟩ := by kernel_rfl
def b_is_ascending : Ss := (.cons (.ret (.blt .all (.cons (.comp [1, 2] (.cmp .lt (.var 1) (.var 2)) (.many [1, 2]) (.zip (.var 0) (.slc (.var 0) (.cons (.cst (.int 1)) .nil) .nil)) .nil) .nil))) .nil)
theorem t_is_ascending : tabOf rows "is_ascending" = some ⟨1, 3, b_is_ascending, false⟩ := by kernel_rfl
def b_is_lot : Ss := (.cons (.ifs (.or (.not (.isi (.var 0) .tuple)) (.not (.blt .all (.cons (.comp [2] (.call "is_between" (.cons (.var 2) (.cons (.cst (.int 0)) (.cons (.bin .sub (.var 1) (.cst (.int 1))) .nil)))) (.one 2) (.val (.var 0)) .nil) .nil)))) (.cons (.ret (.cst (.bool false))) .nil) .nil) (.cons (.ret (.call "is_ascending" (.cons (.var 0) .nil))) .nil))
theorem t_is_lot : tabOf rows "is_lot" = some ⟨2, 3, b_is_lot, false⟩ := by kernel_rfl
def b_meets : Ss := (.cons (.ret (.blt .any (.cons (.comp [2] (.cmp .isin (.var 2) (.var 1)) (.one 2) (.val (.var 0)) .nil) .nil))) .nil)
theorem t_meets : tabOf rows "meets" = some ⟨2, 3, b_meets, false⟩ := by kernel_rfl
def b_is_within : Ss := (.cons (.ret (.blt .all (.cons (.comp [2] (.cmp .isin (.var 2) (.var 1)) (.one 2) (.val (.var 0)) .nil) .nil))) .nil)
theorem t_is_within : tabOf rows "is_within" = some ⟨2, 3, b_is_within, false⟩ := by kernel_rfl
def b_least_of : Ss := (.cons (.par [1, 2] (.cons (.new (.lst .nil)) (.cons (.lst .nil) .nil))) (.cons (.for (.one 3) (.val (.srt (some "by_size") (.blt .sorted (.cons (.set (.var 0)) .nil)))) (.cons (.ifs (.and (.cmp .ne (.var 1) (.lst .nil)) (.cmp .lt (.blt .len (.cons (.sub (.var 1) (.neg (.cst (.int 1)))) .nil)) (.blt .len (.cons (.var 3) .nil)))) (.cons (.asg (.one 2) (.blt .list (.cons (.var 1) .nil))) .nil) .nil) (.cons (.ifs (.not (.blt .any (.cons (.comp [4] (.call "is_within" (.cons (.var 4) (.cons (.var 3) .nil))) (.one 4) (.val (.var 2)) .nil) .nil))) (.cons (.app (.var 1) (.var 3)) .nil) .nil) .nil))) (.cons (.ret (.var 1)) .nil)))
theorem t_least_of : tabOf rows "least_of" = some ⟨1, 5, b_least_of, false⟩ := by kernel_rfl
def b_by_size : Ss := (.cons (.ret (.tup (.cons (.blt .len (.cons (.var 0) .nil)) (.cons (.var 0) .nil)))) .nil)
theorem t_by_size : tabOf rows "by_size" = some ⟨1, 1, b_by_size, false⟩ := by kernel_rfl
def b_is_many : Ss := (.cons (.ret (.call "is_between" (.cons (.var 0) (.cons (.cst (.int 0)) (.cons (.glob "MOST_PARTS") .nil))))) .nil)
theorem t_is_many : tabOf rows "is_many" = some ⟨1, 1, b_is_many, false⟩ := by kernel_rfl
def b_check_many : Ss := (.cons (.ifs (.not (.call "is_many" (.cons (.var 0) .nil))) (.cons .bad .nil) .nil) .nil)
theorem t_check_many : tabOf rows "check_many" = some ⟨1, 1, b_check_many, false⟩ := by kernel_rfl
def b_are_lots : Ss := (.cons (.ret (.and (.call "is_tuple" (.cons (.var 0) (.cons (.cst (.int 0)) (.cons (.glob "MOST_LOTS") .nil)))) (.blt .all (.cons (.comp [2] (.call "is_lot" (.cons (.var 2) (.cons (.var 1) .nil))) (.one 2) (.val (.var 0)) .nil) .nil)))) .nil)
theorem t_are_lots : tabOf rows "are_lots" = some ⟨2, 3, b_are_lots, false⟩ := by kernel_rfl
def b_check_lots : Ss := (.cons (.exp (.call "check_many" (.cons (.var 1) .nil))) (.cons (.ifs (.not (.call "are_lots" (.cons (.var 0) (.cons (.var 1) .nil)))) (.cons .bad .nil) .nil) .nil))
theorem t_check_lots : tabOf rows "check_lots" = some ⟨2, 2, b_check_lots, false⟩ := by kernel_rfl
def b_crossed_by : Ss := (.cons (.asg (.one 2) (.comp [4] (.var 4) (.one 4) (.val (.var 0)) (.cons (.call "meets" (.cons (.var 4) (.cons (.var 1) .nil))) .nil))) (.cons (.asg (.one 3) (.new (.lst .nil))) (.cons (.for (.one 4) (.val (.var 0)) (.cons (.ifs (.not (.call "meets" (.cons (.var 4) (.cons (.var 1) .nil)))) (.cons (.for (.one 5) (.val (.var 1)) (.cons (.asg (.one 6) (.blt .tuple (.cons (.blt .sorted (.cons (.tup (.star (.var 4) (.cons (.var 5) .nil))) .nil)) .nil))) (.cons (.ifs (.not (.blt .any (.cons (.comp [7] (.call "is_within" (.cons (.var 7) (.cons (.var 6) .nil))) (.one 7) (.val (.var 2)) .nil) .nil))) (.cons (.app (.var 3) (.var 6)) .nil) .nil) .nil))) .nil) .nil) .nil)) (.cons (.ret (.lst (.star (.var 2) (.star (.var 3) .nil)))) .nil))))
theorem t_crossed_by : tabOf rows "crossed_by" = some ⟨2, 8, b_crossed_by, false⟩ := by kernel_rfl
def b_crossing_of : Ss := (.cons (.asg (.one 1) (.lst (.cons (.tup .nil) .nil))) (.cons (.for (.one 2) (.val (.call "least_of" (.cons (.var 0) .nil))) (.cons (.asg (.one 1) (.call "crossed_by" (.cons (.var 1) (.cons (.var 2) .nil)))) (.cons (.ifs (.cmp .gt (.blt .len (.cons (.var 1) .nil)) (.glob "MOST_LOTS")) (.cons .bad .nil) .nil) .nil))) (.cons (.ret (.srt none (.var 1))) .nil)))
theorem t_crossing_of : tabOf rows "crossing_of" = some ⟨1, 3, b_crossing_of, false⟩ := by kernel_rfl
def b_is_alone_in : Ss := (.cons (.ret (.blt .any (.cons (.comp [3] (.and (.cmp .isin (.var 1) (.var 3)) (.not (.blt .any (.cons (.comp [4] (.cmp .isin (.var 4) (.var 3)) (.one 4) (.val (.var 0)) (.cons (.cmp .ne (.var 4) (.var 1)) .nil)) .nil)))) (.one 3) (.val (.var 2)) .nil) .nil))) .nil)
theorem t_is_alone_in : tabOf rows "is_alone_in" = some ⟨3, 5, b_is_alone_in, false⟩ := by kernel_rfl
def b_crossing : Ss := (.cons (.exp (.call "check_lots" (.cons (.var 0) (.cons (.var 1) .nil)))) (.cons (.ret (.blt .tuple (.cons (.call "crossing_of" (.cons (.blt .list (.cons (.var 0) .nil)) .nil)) .nil))) .nil))
theorem t_crossing : tabOf rows "crossing" = some ⟨2, 2, b_crossing, false⟩ := by kernel_rfl
def b_does_cross : Ss := (.cons (.exp (.call "check_lots" (.cons (.var 0) (.cons (.var 1) .nil)))) (.cons (.ifs (.not (.call "is_lot" (.cons (.var 2) (.cons (.var 1) .nil)))) (.cons .bad .nil) .nil) (.cons (.ret (.blt .all (.cons (.comp [3] (.call "meets" (.cons (.var 2) (.cons (.var 3) .nil))) (.one 3) (.val (.var 0)) .nil) .nil))) .nil)))
theorem t_does_cross : tabOf rows "does_cross" = some ⟨3, 4, b_does_cross, false⟩ := by kernel_rfl
def b_is_least_crossing : Ss := (.cons (.ret (.and (.call "does_cross" (.cons (.var 0) (.cons (.var 1) (.cons (.var 2) .nil)))) (.blt .all (.cons (.comp [3] (.call "is_alone_in" (.cons (.var 2) (.cons (.var 3) (.cons (.var 0) .nil)))) (.one 3) (.val (.var 2)) .nil) .nil)))) .nil)
theorem t_is_least_crossing : tabOf rows "is_least_crossing" = some ⟨3, 4, b_is_least_crossing, false⟩ := by kernel_rfl
def b_fewest_crossing : Ss := (.cons (.asg (.one 2) (.call "crossing" (.cons (.var 0) (.cons (.var 1) .nil)))) (.cons (.ret (.ite (.cmp .ne (.var 2) (.tup .nil)) (.blt .len (.cons (.sub (.var 2) (.cst (.int 0))) .nil)) (.cst .none))) .nil))
theorem t_fewest_crossing : tabOf rows "fewest_crossing" = some ⟨2, 3, b_fewest_crossing, false⟩ := by kernel_rfl
def b_apart_lots : Ss := (.cons (.exp (.call "check_lots" (.cons (.var 0) (.cons (.var 1) .nil)))) (.cons (.asg (.one 2) (.call "least_of" (.cons (.blt .list (.cons (.var 0) .nil)) .nil))) (.cons (.ifs (.cmp .gt (.blt .len (.cons (.var 2) .nil)) (.cst (.int 16))) (.cons .bad .nil) .nil) (.cons (.asg (.one 3) (.lst (.cons (.lst .nil) .nil))) (.cons (.for (.one 4) (.val (.var 2)) (.cons (.asg (.one 3) (.bin .add (.var 3) (.comp [5] (.lst (.star (.var 5) (.cons (.var 4) .nil))) (.one 5) (.val (.var 3)) (.cons (.not (.blt .any (.cons (.comp [6] (.call "meets" (.cons (.var 4) (.cons (.var 6) .nil))) (.one 6) (.val (.var 5)) .nil) .nil))) .nil)))) .nil)) (.cons (.ret (.blt .max (.cons (.comp [5] (.blt .len (.cons (.var 5) .nil)) (.one 5) (.val (.var 3)) .nil) .nil))) .nil))))))
theorem t_apart_lots : tabOf rows "apart_lots" = some ⟨2, 7, b_apart_lots, false⟩ := by kernel_rfl
def b_cut_short : Ss := (.cons (.exp (.call "check_lots" (.cons (.var 0) (.cons (.var 1) .nil)))) (.cons (.ifs (.not (.call "is_between" (.cons (.var 2) (.cons (.cst (.int 0)) (.cons (.var 1) .nil))))) (.cons .bad .nil) .nil) (.cons (.ret (.blt .tuple (.cons (.comp [3] (.var 3) (.one 3) (.val (.call "crossing_of" (.cons (.blt .list (.cons (.var 0) .nil)) .nil))) (.cons (.cmp .le (.blt .len (.cons (.var 3) .nil)) (.var 2)) .nil)) .nil))) .nil)))
theorem t_cut_short : tabOf rows "cut_short" = some ⟨3, 4, b_cut_short, false⟩ := by kernel_rfl
def b__law_pot : Ss := (.cons (.asg (.one 2) (.ite (.cmp .lt (.var 1) (.blt .len (.cons (.var 0) .nil))) (.sub (.var 0) (.var 1)) (.bin .add (.bin .add (.bin .mod (.blt .sum (.cons (.slc (.var 0) .nil (.cons (.cst (.int 1)) .nil)) .nil)) (.cst (.int 1000003))) (.bin .mul (.cst (.int 8925)) (.var 1))) (.cst (.int 28999))))) (.cons (.asg (.one 3) (.bin .mul (.bin .mod (.blt .int (.cons (.blt .abs (.cons (.var 2) .nil)) .nil)) (.bin .pow (.bin .pow (.cst (.int 10)) (.cst (.int 60))) (.cst (.int 5)))) (.blt .int (.cons (.cmp .ge (.blt .abs (.cons (.var 2) .nil)) (.bin .pow (.cst (.int 10)) (.cst (.int 18)))) .nil)))) (.cons (.asg (.one 4) (.bin .mod (.blt .int (.cons (.var 2) .nil)) (.cst (.int 2305843009213693951)))) (.cons (.ret (.new (.lst (.cons (.var 3) (.cons (.bin .mod (.blt .int (.cons (.bin .add (.bin .add (.bin .mul (.var 4) (.cst (.int 124112))) (.bin .mul (.bin .mul (.cst (.int 9213)) (.var 1)) (.var 1))) (.cst (.int 465))) .nil)) (.cst (.int 2305843009213693921))) (.cons (.cst (.int 0)) .nil)))))) .nil))))
theorem t__law_pot : tabOf rows "_law_pot" = some ⟨2, 5, b__law_pot, true⟩ := by kernel_rfl
def b__law_take : Ss := (.cons (.ifs (.cmp .gt (.sub (.var 0) (.cst (.int 0))) (.cst (.int 0))) (.cons (.asg (.one 2) (.bin .mod (.blt .int (.cons (.sub (.var 0) (.cst (.int 0))) .nil)) (.var 1))) (.cons (.setI (.var 0) (.cst (.int 0)) (.bin .fdiv (.sub (.var 0) (.cst (.int 0))) (.var 1))) (.cons (.ret (.var 2)) .nil))) .nil) (.cons (.setI (.var 0) (.cst (.int 2)) (.bin .add (.sub (.var 0) (.cst (.int 2))) (.cst (.int 1)))) (.cons (.asg (.one 3) (.sub (.lst (.cons (.cst (.int 2147483647)) (.cons (.cst (.int 2147483629)) (.cons (.cst (.int 2147483587)) (.cons (.cst (.int 2147483579)) (.cons (.cst (.int 2147483563)) .nil)))))) (.bin .mod (.blt .int (.cons (.sub (.var 0) (.cst (.int 2))) .nil)) (.cst (.int 5))))) (.cons (.asg (.one 4) (.bin .mod (.blt .int (.cons (.bin .pow (.blt .int (.cons (.bin .add (.bin .add (.sub (.var 0) (.cst (.int 1))) (.bin .mul (.bin .mul (.cst (.int 99825)) (.sub (.var 0) (.cst (.int 2)))) (.sub (.var 0) (.cst (.int 2))))) (.cst (.int 203))) .nil)) (.cst (.int 3))) .nil)) (.var 3))) (.cons (.asg (.one 4) (.bin .mod (.blt .int (.cons (.bin .mul (.var 4) (.bin .add (.bin .mod (.blt .int (.cons (.var 4) .nil)) (.cst (.int 10111))) (.bin .mul (.cst (.int 155)) (.sub (.var 0) (.cst (.int 2)))))) .nil)) (.cst (.int 2305843009213693907)))) (.cons (.ret (.bin .mod (.blt .int (.cons (.bin .fdiv (.var 4) (.cst (.int 231))) .nil)) (.var 1))) .nil))))))
theorem t__law_take : tabOf rows "_law_take" = some ⟨2, 5, b__law_take, false⟩ := by kernel_rfl
def b__law_places : Ss := (.cons (.ret (.blt .list (.cons (.rng (.cons (.blt .max (.cons (.cst (.int 1)) (.cons (.blt .min (.cons (.var 1) (.cons (.blt .len (.cons (.var 0) .nil)) .nil))) .nil))) .nil)) .nil))) .nil)
theorem t__law_places : tabOf rows "_law_places" = some ⟨2, 2, b__law_places, false⟩ := by kernel_rfl
def b__law_some : Ss := (.cons (.par [3, 4] (.cons (.new (.blt .list (.cons (.var 1) .nil))) (.cons (.new (.lst .nil)) .nil))) (.cons (.for (.one 5) (.rng (.cons (.var 2) .nil)) (.cons (.app (.var 4) (.pop (.var 3) (.call "_law_take" (.cons (.var 0) (.cons (.blt .len (.cons (.var 3) .nil)) .nil))))) .nil)) (.cons (.ret (.var 4)) .nil)))
theorem t__law_some : tabOf rows "_law_some" = some ⟨3, 6, b__law_some, false⟩ := by kernel_rfl
def b__law_in : Ss := (.cons (.ret (.blt .all (.cons (.comp [2] (.cmp .isin (.var 2) (.var 1)) (.one 2) (.val (.var 0)) .nil) .nil))) .nil)
theorem t__law_in : tabOf rows "_law_in" = some ⟨2, 3, b__law_in, false⟩ := by kernel_rfl
def b__law_least : Ss := (.cons (.ret (.comp [1] (.var 1) (.one 1) (.val (.var 0)) (.cons (.not (.blt .any (.cons (.comp [2] (.and (.cmp .ne (.var 2) (.var 1)) (.call "_law_in" (.cons (.var 2) (.cons (.var 1) .nil)))) (.one 2) (.val (.var 0)) .nil) .nil))) .nil))) .nil)
theorem t__law_least : tabOf rows "_law_least" = some ⟨1, 3, b__law_least, false⟩ := by kernel_rfl
def b__law_by_size : Ss := (.cons (.ret (.blt .tuple (.cons (.srt none (.blt .sorted (.cons (.set (.var 0)) .nil))) .nil))) .nil)
theorem t__law_by_size : tabOf rows "_law_by_size" = some ⟨1, 1, b__law_by_size, false⟩ := by kernel_rfl
def b__law_lots_of : Ss := (.cons (.asg (.one 2) (.new (.lst .nil))) (.cons (.for (.one 3) (.rng (.cons (.call "_law_take" (.cons (.var 0) (.cons (.cst (.int 7)) .nil))) .nil)) (.cons (.app (.var 2) (.blt .tuple (.cons (.blt .sorted (.cons (.call "_law_some" (.cons (.var 0) (.cons (.blt .list (.cons (.rng (.cons (.var 1) .nil)) .nil)) (.cons (.bin .add (.cst (.int 1)) (.blt .int (.cons (.call "_law_take" (.cons (.var 0) (.cons (.blt .min (.cons (.cst (.int 4)) (.cons (.var 1) .nil))) .nil))) .nil))) .nil)))) .nil)) .nil))) .nil)) (.cons (.ret (.blt .tuple (.cons (.var 2) .nil))) .nil)))
theorem t__law_lots_of : tabOf rows "_law_lots_of" = some ⟨2, 4, b__law_lots_of, false⟩ := by kernel_rfl
def b__law_right : Ss := (.cons (.asg (.one 1) (.bin .add (.cst (.int 1)) (.blt .int (.cons (.call "_law_take" (.cons (.var 0) (.cons (.cst (.int 6)) .nil))) .nil)))) (.cons (.par [2, 3] (.cons (.call "_law_lots_of" (.cons (.var 0) (.cons (.var 1) .nil))) (.cons (.call "_law_lots_of" (.cons (.var 0) (.cons (.var 1) .nil))) .nil))) (.cons (.asg (.one 4) (.call "crossing" (.cons (.var 2) (.cons (.var 1) .nil)))) (.cons (.ifs (.cmp .ne (.call "crossing" (.cons (.blt .tuple (.cons (.call "_law_some" (.cons (.var 0) (.cons (.blt .list (.cons (.bin .add (.var 2) (.var 2)) .nil)) (.cons (.bin .mul (.cst (.int 2)) (.blt .len (.cons (.var 2) .nil))) .nil)))) .nil)) (.cons (.var 1) .nil))) (.var 4)) (.cons (.ret (.cst (.bool false))) .nil) .nil) (.cons (.asg (.one 5) (.blt .tuple (.cons (.comp [13] (.blt .tuple (.cons (.blt .sorted (.cons (.set (.bin .add (.var 13) (.tup (.cons (.blt .int (.cons (.call "_law_take" (.cons (.var 0) (.cons (.var 1) .nil))) .nil)) .nil)))) .nil)) .nil)) (.one 13) (.val (.var 2)) .nil) .nil))) (.cons (.ifs (.or (.cmp .ne (.call "crossing" (.cons (.bin .add (.var 2) (.var 5)) (.cons (.var 1) .nil))) (.var 4)) (.cmp .ne (.call "crossing" (.cons (.var 2) (.cons (.bin .add (.var 1) (.cst (.int 3))) .nil))) (.var 4))) (.cons (.ret (.cst (.bool false))) .nil) .nil) (.cons (.ifs (.not (.blt .all (.cons (.comp [13] (.and (.call "is_least_crossing" (.cons (.var 2) (.cons (.var 1) (.cons (.var 13) .nil)))) (.call "does_cross" (.cons (.var 2) (.cons (.var 1) (.cons (.var 13) .nil))))) (.one 13) (.val (.var 4)) .nil) .nil))) (.cons (.ret (.cst (.bool false))) .nil) .nil) (.cons (.asg (.one 6) (.blt .tuple (.cons (.call "_law_least" (.cons (.blt .list (.cons (.call "_law_by_size" (.cons (.var 2) .nil)) .nil)) .nil)) .nil))) (.cons (.ifs (.or (.cmp .ne (.call "crossing" (.cons (.var 4) (.cons (.var 1) .nil))) (.var 6)) (.cmp .ne (.call "fewest_crossing" (.cons (.var 2) (.cons (.var 1) .nil))) (.blt .len (.cons (.sub (.var 4) (.cst (.int 0))) .nil)))) (.cons (.ret (.cst (.bool false))) .nil) .nil) (.cons (.ifs (.or (.cmp .lt (.blt .len (.cons (.sub (.var 4) (.cst (.int 0))) .nil)) (.call "apart_lots" (.cons (.var 2) (.cons (.var 1) .nil)))) (.blt .any (.cons (.comp [13] (.cmp .gt (.blt .len (.cons (.var 13) .nil)) (.blt .len (.cons (.var 6) .nil))) (.one 13) (.val (.var 4)) .nil) .nil))) (.cons (.ret (.cst (.bool false))) .nil) .nil) (.cons (.asg (.one 7) (.blt .tuple (.cons (.comp [13] (.blt .tuple (.cons (.comp [14] (.bin .add (.var 14) (.var 1)) (.one 14) (.val (.var 13)) .nil) .nil)) (.one 13) (.val (.var 3)) .nil) .nil))) (.cons (.par [8, 9] (.cons (.new (.lst .nil)) (.cons (.call "crossing" (.cons (.var 3) (.cons (.var 1) .nil))) .nil))) (.cons (.for (.one 10) (.val (.var 4)) (.cons (.ext (.var 8) (.comp [15] (.bin .add (.var 10) (.blt .tuple (.cons (.comp [14] (.bin .add (.var 14) (.var 1)) (.one 14) (.val (.var 15)) .nil) .nil))) (.one 15) (.val (.var 9)) .nil)) .nil)) (.cons (.ifs (.cmp .ne (.call "crossing" (.cons (.bin .add (.var 2) (.var 7)) (.cons (.bin .mul (.cst (.int 2)) (.var 1)) .nil))) (.call "_law_by_size" (.cons (.var 8) .nil))) (.cons (.ret (.cst (.bool false))) .nil) .nil) (.cons (.ifs (.cmp .ne (.call "fewest_crossing" (.cons (.bin .add (.var 2) (.var 7)) (.cons (.bin .mul (.cst (.int 2)) (.var 1)) .nil))) (.bin .add (.blt .len (.cons (.sub (.var 4) (.cst (.int 0))) .nil)) (.blt .len (.cons (.sub (.var 9) (.cst (.int 0))) .nil)))) (.cons (.ret (.cst (.bool false))) .nil) .nil) (.cons (.ifs (.cmp .ne (.call "apart_lots" (.cons (.bin .add (.var 2) (.var 7)) (.cons (.bin .mul (.cst (.int 2)) (.var 1)) .nil))) (.bin .add (.call "apart_lots" (.cons (.var 2) (.cons (.var 1) .nil))) (.call "apart_lots" (.cons (.var 3) (.cons (.var 1) .nil))))) (.cons (.ret (.cst (.bool false))) .nil) .nil) (.cons (.asg (.one 11) (.new (.lst .nil))) (.cons (.for (.one 10) (.val (.var 4)) (.cons (.ext (.var 11) (.comp [15] (.blt .tuple (.cons (.blt .sorted (.cons (.set (.bin .add (.var 10) (.var 15))) .nil)) .nil)) (.one 15) (.val (.var 9)) .nil)) .nil)) (.cons (.ifs (.cmp .ne (.call "crossing" (.cons (.bin .add (.var 2) (.var 3)) (.cons (.var 1) .nil))) (.blt .tuple (.cons (.call "_law_least" (.cons (.blt .list (.cons (.call "_law_by_size" (.cons (.var 11) .nil)) .nil)) .nil)) .nil))) (.cons (.ret (.cst (.bool false))) .nil) .nil) (.cons (.asg (.one 12) (.blt .int (.cons (.call "_law_take" (.cons (.var 0) (.cons (.bin .add (.var 1) (.cst (.int 1))) .nil))) .nil))) (.cons (.ret (.cmp .eq (.call "cut_short" (.cons (.var 2) (.cons (.var 1) (.cons (.var 12) .nil)))) (.blt .tuple (.cons (.comp [13] (.var 13) (.one 13) (.val (.var 4)) (.cons (.cmp .le (.blt .len (.cons (.var 13) .nil)) (.var 12)) .nil)) .nil)))) .nil)))))))))))))))))))))
theorem t__law_right : tabOf rows "_law_right" = some ⟨1, 16, b__law_right, false⟩ := by kernel_rfl
def b_law : Ss := (.cons (.asg (.one 1) (.blt .tuple (.cons (.comp [4] (.tup (.cons (.var 4) (.cons (.bin .add (.var 4) (.cst (.int 8))) .nil))) (.one 4) (.rng (.cons (.cst (.int 8)) .nil)) .nil) .nil))) (.cons (.ifs (.or (.cmp .ne (.blt .len (.cons (.call "crossing" (.cons (.var 1) (.cons (.cst (.int 16)) .nil))) .nil)) (.cst (.int 256))) (.or (.cmp .ne (.call "fewest_crossing" (.cons (.var 1) (.cons (.cst (.int 16)) .nil))) (.cst (.int 8))) (.cmp .ne (.call "apart_lots" (.cons (.var 1) (.cons (.cst (.int 16)) .nil))) (.cst (.int 8))))) (.cons (.ret (.cst (.bool false))) .nil) .nil) (.cons (.for (.one 2) (.val (.call "_law_places" (.cons (.var 0) (.cons (.cst (.int 4)) .nil)))) (.cons (.asg (.one 3) (.call "_law_pot" (.cons (.var 0) (.cons (.var 2) .nil)))) (.cons (.ifs (.not (.blt .all (.cons (.comp [5] (.call "_law_right" (.cons (.var 3) .nil)) (.one 5) (.rng (.cons (.cst (.int 3)) .nil)) .nil) .nil))) (.cons (.ret (.cst (.bool false))) .nil) .nil) .nil))) (.cons (.ret (.cst (.bool true))) .nil))))
theorem t_law : tabOf rows "law" = some ⟨1, 6, b_law, false⟩ := by kernel_rfl
end Mi.K52
set_option maxHeartbeats 4000000
/-! W1: what the defs of k52 tell. -/
namespace Mi.K52
open PySem
local macro_rules | `(tactic| simp_arith [$as,*] $[$l:location]?) => `(tactic| simp only [startE, List.map_cons, List.map_nil, List.cons_append, List.nil_append, List.length_cons, List.length_nil, List.length_map, List.replicate_succ, List.replicate_zero, Nat.reduceSub, Nat.reduceAdd, Nat.zero_add, Nat.reduceLT, Nat.reduceLeDiff, Nat.reduceEqDiff, List.getElem?_cons_zero, List.getElem?_cons_succ, List.set_cons_zero, List.set_cons_succ, List.zip_cons_cons, List.zip_nil_left, List.zip_nil_right, List.foldl_cons, List.foldl_nil, List.take_length, List.take_left', Option.bind_some, Option.map_some, Option.bind_none, Option.map_none, reduceIte, Bool.false_eq_true, if_true, if_false, Bool.not_true, Bool.not_false, decide_eq_true_eq, decide_true, decide_false, eq_self, and_self, and_true, true_and, Bool.and_true, Bool.true_and, Bool.and_false, Bool.false_and, Bool.or_true, Bool.true_or, Bool.or_false, Bool.false_or, not_true_eq_false, not_false_eq_true, ite_andB, ite_orB, Bool.decide_eq_true, zero_lim, one_lim, two_lim, three_lim, lim_4, lim_5, lim_6, lim_7, lim_8, lim_9, lim_10, lim_11, lim_12, lim_13, lim_14, lim_15, lim_16, take_set, take_set_app, List.append_nil, Option.bind_assoc, Option.bind_map, Option.map_bind, Option.map_map, Function.comp_def,
  kVar_s, v_var, v_cst, kGlob_s, v_glob, kBin2_s, kBin1_s, v_bin, kNeg_s, v_neg, kCmp2_s, kCmp1_s, v_cmp, kCh4_s, kCh3_s, kCh2_s, kCh1_s, v_chain, kIsN_s, v_isN, kNotN_s, v_notN, kB_s, kAnd_s, v_and, kOr_s, v_or, kNot_s, v_not, kIte_s, v_ite, kTup_s, kLst_s, v_tup, v_lst, kSub2_s, kSub1_s, v_sub, kSlc3_s, kSlc2_s, kSlc1_s, v_slc, kRev_s, v_rev, kCall_s, v_call, kNew_s, v_new_lst, v_new_blt, v_new_srt, v_new_add, v_new_comp, v_new_slc, v_new_srtk, kSS_s, v_sset, v_trng, v_lrng, kB1_s, v_blt1, kB2b_s, kB2a_s, v_blt2, kSrt_s, v_srt, kIsi_s, v_isi, kT3_s, kT2_s, kT1_s, turn_is, kComp_s, v_comp, kPop2_s, kPop1_s, v_pop, kA2_s, kA1_s, vs_nil, vs_cons, kD2_s, kD1_s, vd_nil, vd_cons, kSt2_s, kSt1'_s, kSt1_s, vd_star, kO_s, vo_nil, vo_cons, kC_s, vc_nil, vc_cons, kR1_s, vr_one, kR2b_s, kR2a_s, vr_two, kI_s, vi_val, kZ2_s, kZ1_s, vi_zip, vi_rng, kTst_s, vT, kAsg_s, w_asg, kPar_s, w_par, kSet3_s, kSet2_s, kSet1_s, w_setI, kApp2_s, kApp1_s, w_app, kExt2_s, kExt1_s, w_ext, kExp_s, w_exp, kRet_s, w_ret, kIf_s, w_ifs, kLap_s, lap_is, kFor_s, w_for, w_while, w_pass, ws_nil, sq_nx, sq_rt, ws_cons, kEnd_rt, kEnd_nx,
  revD_tup, revD_lst, bltW_sorted, bltW_len, bltW_all, bltW_any, bltW_sum, bltW_max, bltW_min, bltW_tuple, bltW_list, bltW_int, bltW_abs, isRS_var, isRS_cst, isRS_glob, isRS_bin, isRS_cmp, isRS_chain, isRS_isN, isRS_notN, isRS_and, isRS_or, isRS_not, isRS_ite, isRS_tup, isRS_lst, isRS_sub, isRS_slc, isRS_rev, isRS_call, isRS_blt, isRS_srt, isRS_isi, isRS_neg, isRS_new, isRS_zip, isRS_comp, isRS_pop, popVV_ok, rng2_int, setVV_ok, appVV_ok, extVV_ok, hand_d, hand_new, get_d, get_scr, getT_d, get_new, getT_new, app_new, ext_new, items_tup, items_lst, itemsV_d, bind1_one, bind1_many, wipe_nil, wipe_cons, store_nil, store_cons, zipV_tup, zipV_lst, ok_some, ok_sq, then_nx, then_rt, ok_end, fin_rt, fin_nx, nx_nx, nx_rt,
  items_lot, cop_lt, cop_le, cop_gt, cop_ge, cop_eq_int, cop_ne_int, cop_eq_lot, cop_ne_lot, cop_ne_nilL, cop_eq_nilL, cop_ne_nilT, cop_eq_nilT, cop_in_lot, cop_in_intT, cop_in_intL, cop_in_lotT, cop_in_lotL, cop_ne_lotsT, cop_eq_lotsT, bop_add, bop_sub, b_lenT, b_lenL, b_len_lot, b_tupL, b_tupT, b_lstL, b_lstT, b_lst_lot, b_tup_lot, b_int, b_intb, b_abs, b_all, b_any, b_allm, b_anym, b_sum, b_max2, b_min2, isTy_int, isTy_bool, isTy_tup, isTy_lot, $as,*] $[$l:location]?)
variable (n : Nat) (M : MH)
theorem f_is_integer (i : Int) : call (n + 1) "is_integer" [.d (.int i)] M = some (.d (.bool true), M) := by
  unfold call
  rw [call_of t_is_integer rfl]
  simp_arith [b_is_integer]
theorem f_is_between (i a b : Int) : call (n + 2) "is_between" [.d (.int i), .d (.int a), .d (.int b)] M = some (.d (.bool (decide (a ≤ i) && decide (i ≤ b))), M) := by
  unfold call
  rw [call_of t_is_between rfl]
  simp_arith [b_is_between, f_is_integer]
theorem f_is_tuple (xs : List D) (a b : Int) : call (n + 1) "is_tuple" [.d (.tuple xs), .d (.int a), .d (.int b)] M = some (.d (.bool (decide (a ≤ xs.length) && decide (xs.length ≤ b))), M) := by
  unfold call
  rw [call_of t_is_tuple rfl]
  simp_arith [b_is_tuple]
theorem f_meets (a b : Lot) (h : a.length ≤ lim) : call (n + 1) "meets" [.d (lotD a), .d (lotD b)] M = some (.d (.bool (meetB a b)), M) := by
  unfold call
  rw [call_of t_meets rfl]
  simp_arith [b_meets, h]
  rw [compL_map (g := fun p => .bool (decide (p ∈ b))) (h := by intro p _; simp_arith [])]
  simp_arith []
  rfl
theorem f_is_within (a b : Lot) (h : a.length ≤ lim) : call (n + 1) "is_within" [.d (lotD a), .d (lotD b)] M = some (.d (.bool (inB a b)), M) := by
  unfold call
  rw [call_of t_is_within rfl]
  simp_arith [b_is_within, h]
  rw [compL_map (g := fun p => .bool (decide (p ∈ b))) (h := by intro p _; simp_arith [])]
  simp_arith []
  rfl
theorem cut_one (xs : List D) : cutL xs (some 1) none = xs.drop 1 := by
  unfold cutL
  have h : HT.sIx xs.length 0 (some 1) = min 1 xs.length := HT.sIx_nat _ _ 1
  rw [h, HT.sIx_none, List.take_of_length_le (by rw [List.length_drop]; omega)]
  cases xs with
  | nil => rfl
  | cons x r =>
    rw [show min 1 (x :: r).length = 1 by rw [List.length_cons]; omega]
instance (l : Lot) : Decidable (Asc l) := inferInstanceAs (Decidable (List.Pairwise _ l))
theorem asc_zip : ∀ l : Lot, ((l.zip (l.drop 1)).all fun p => decide (p.1 < p.2)) = decide (Asc l)
  | [] => by simp [Asc]
  | [x] => by simp [Asc]
  | x :: y :: r => by
    have ih := asc_zip (y :: r)
    simp only [List.drop_succ_cons, List.drop_zero, List.zip_cons_cons, List.all_cons] at ih ⊢
    rw [ih, Bool.eq_iff_iff]
    simp only [Bool.and_eq_true, decide_eq_true_eq]
    unfold Asc
    constructor
    · rintro ⟨h1, h2⟩
      refine List.pairwise_cons.mpr ⟨fun z hz => ?_, h2⟩
      rcases List.mem_cons.mp hz with e | e
      · omega
      · have := (List.pairwise_cons.mp h2).1 z e
        omega
    · intro h
      obtain ⟨h1, h2⟩ := List.pairwise_cons.mp h
      exact ⟨h1 y List.mem_cons_self, h2⟩
theorem zip_pairs (l : Lot) : ((l.map PyData.int).zip ((l.map PyData.int).tail)).map (fun r => PyData.tuple [r.1, r.2]) = (l.zip (l.drop 1)).map fun p => .tuple [.int p.1, .int p.2] := by
  rw [← List.map_tail, List.zip_map, List.map_map, List.drop_one]
  rfl

theorem f_is_ascending (l : Lot) (h : l.length ≤ lim) : call (n + 1) "is_ascending" [.d (lotD l)] M = some (.d (.bool (decide (Asc l))), M) := by
  unfold call
  rw [call_of t_is_ascending rfl]
  simp_arith [b_is_ascending, cutD, cut_one, lotD]
  rw [List.drop_one, zip_pairs, if_pos (by simp; omega), compL_map (g := fun p => .bool (decide (p.1 < p.2))) (h := by intro p _; simp_arith [])]
  simp_arith [asc_zip]
theorem f_is_lot (l : Lot) (m : Int) (h : l.length ≤ lim) : call (n + 3) "is_lot" [.d (lotD l), .d (.int m)] M = some (.d (.bool ((l.all fun p => decide (0 ≤ p) && decide (p ≤ m - 1)) && decide (Asc l))), M) := by
  unfold call
  rw [call_of t_is_lot rfl]
  simp_arith [b_is_lot, h]
  rw [compL_map (g := fun p => .bool (decide (0 ≤ p) && decide (p ≤ m - 1))) (h := by intro p _; simp_arith [f_is_between])]
  simp_arith []
  cases (l.all fun p => decide (0 ≤ p) && decide (p ≤ m - 1)) <;> simp_arith [f_is_ascending, h]

theorem crossed_len {F : List Lot} {lot : Lot} : (moreOf F lot).length ≤ F.length * lot.length := by
  unfold moreOf
  refine flatMap_le fun t _ => ?_
  split
  · exact Nat.zero_le _
  · unfold newOf
    refine Nat.le_trans (List.length_filter_le _ _) ?_
    rw [List.length_map]
    exact Nat.le_refl _
theorem f_crossed_by (F : List Lot) (lot : Lot) (h : F.length ≤ 500) (h2 : ∀ t ∈ F, t.length ≤ 500) (h3 : lot.length ≤ 500) : call (n + 2) "crossed_by" [.d (.list (F.map lotD)), .d (lotD lot)] M = some (.d (.list ((crossStep F lot).map lotD)), M) := by
  unfold call
  rw [call_of t_crossed_by rfl]
  have l0 : lim = 1000000 := rfl
  have h1 : F.length ≤ lim := by omega
  have h1' : lot.length ≤ lim := by omega
  have h2' : ∀ t ∈ F, t.length ≤ lim := fun t ht => by have := h2 t ht; omega
  apply ok_is
  simp_arith [b_crossed_by, h1]
  rw [compL_filter (c := fun t => meetB t lot) (g := lotD) (h := by intro t ht; simp_arith [f_meets, h2' t ht])]
  simp_arith []
  refine for_ok (fun pre ρ M' => ∃ u4 u5 u6, ρ = [some (.d (.list (F.map lotD))), some (.d (lotD lot)), some (.d (.list ((keptOf F lot).map lotD))), some (.ref M.length), u4, u5, u6, none] ∧ M' = M ++ [.lst ((pre.flatMap fun t => if meetB t lot then [] else newOf (keptOf F lot) lot t).map lotD)]) ⟨_, _, _, rfl, rfl⟩ ?_ ?_
  · rintro a t b eF _ _ ⟨u4, u5, u6, rfl, rfl⟩
    have ht : t ∈ F := by rw [eF]; simp
    have la : (a.flatMap fun t => if meetB t lot then [] else newOf (keptOf F lot) lot t).length ≤ 250000 := by
      refine Nat.le_trans (flatMap_le (k := 500) fun t _ => ?_) ?_
      · split
        · exact Nat.zero_le _
        · unfold newOf
          refine Nat.le_trans (List.length_filter_le _ _) ?_
          rw [List.length_map]
          exact h3
      · have : a.length ≤ F.length := by rw [eF]; simp
        omega
    simp_arith [f_meets, h2' t ht]
    cases hm : meetB t lot
    · simp_arith []
      refine for_ok (fun pre ρ M' => ∃ u5 u6, ρ = [some (.d (.list (F.map lotD))), some (.d (lotD lot)), some (.d (.list ((keptOf F lot).map lotD))), some (.ref M.length), some (.d (lotD t)), u5, u6, none] ∧
        M' = M ++ [.lst ((((a.flatMap fun t => if meetB t lot then [] else newOf (keptOf F lot) lot t)) ++ ((pre.map fun p => putIn p t).filter fun n => !(keptOf F lot).any fun k => inB k n)).map lotD)]) ⟨_, _, rfl, by simp⟩ ?_ ?_
      · rintro c p d eL _ _ ⟨u5, u6, rfl, rfl⟩
        have lc : ((c.map fun p => putIn p t).filter fun n => !(keptOf F lot).any fun k => inB k n).length ≤ 500 := by
          refine Nat.le_trans (List.length_filter_le _ _) ?_
          have : c.length ≤ lot.length := by rw [eL]; simp
          rw [List.length_map]
          omega
        have lt : t.length + 1 ≤ lim := by have := h2 t ht; omega
        have lk : (keptOf F lot).length ≤ lim := Nat.le_trans (List.length_filter_le _ _) h1
        have ek : t.map PyData.int ++ [.int p] = (t ++ [p]).map .int := by simp
        simp_arith [lt, ek, sortD_ints]
        show Ok _ _
        have es : PyData.tuple ((srt (t ++ [p])).map .int) = lotD (putIn p t) := rfl
        rw [es, if_pos lk, compL_map (g := fun k => .bool (inB k (putIn p t))) (h := by intro k hk; simp_arith [f_is_within, h2' k (List.mem_filter.mp hk).1])]
        simp_arith []
        cases hk : (keptOf F lot).any fun k => inB k (putIn p t)
        · simp_arith []
          rw [if_pos (by rw [List.length_append]; omega)]
          simp_arith []
          refine ⟨_, _, rfl, ?_⟩
          rw [List.map_append (l₁ := c), List.filter_append, List.map_cons, List.filter_cons, hk]
          simp
        · simp_arith []
          refine ⟨_, _, rfl, ?_⟩
          rw [List.map_append (l₁ := c), List.filter_append, List.map_cons, List.filter_cons, hk]
          simp
      · rintro _ _ ⟨u5, u6, rfl, rfl⟩
        simp_arith []
        refine ⟨_, _, _, rfl, ?_⟩
        rw [List.flatMap_append, List.flatMap_cons, hm]
        simp [newOf]
    · simp_arith []
      refine ⟨_, _, _, rfl, ?_⟩
      rw [List.flatMap_append, List.flatMap_cons, hm]
      simp
  · rintro _ _ ⟨u4, u5, u6, rfl, rfl⟩
    have e1 : (moreOf F lot).length ≤ 250000 := Nat.le_trans crossed_len (Nat.mul_le_mul h h3)
    have e2 : (keptOf F lot).length ≤ 500 := Nat.le_trans (List.length_filter_le _ _) h
    have em : (F.flatMap fun t => if meetB t lot then [] else newOf (keptOf F lot) lot t) = moreOf F lot := rfl
    rw [em]
    simp_arith [Nat.add_zero]
    rw [if_pos (by omega)]
    simp_arith []
    rw [if_pos (by omega)]
    simp_arith [List.take_left]
    rw [← List.map_append]
    rfl
end Mi.K52
set_option maxHeartbeats 4000000
/-! W2: more defs of k52. -/
namespace Mi.K52
open PySem
local macro_rules | `(tactic| simp_arith [$as,*] $[$l:location]?) => `(tactic| simp only [startE, List.map_cons, List.map_nil, List.cons_append, List.nil_append, List.length_cons, List.length_nil, List.length_map, List.replicate_succ, List.replicate_zero, Nat.reduceSub, Nat.reduceAdd, Nat.zero_add, Nat.reduceLT, Nat.reduceLeDiff, Nat.reduceEqDiff, List.getElem?_cons_zero, List.getElem?_cons_succ, List.set_cons_zero, List.set_cons_succ, List.zip_cons_cons, List.zip_nil_left, List.zip_nil_right, List.foldl_cons, List.foldl_nil, List.take_length, List.take_left', Option.bind_some, Option.map_some, Option.bind_none, Option.map_none, reduceIte, Bool.false_eq_true, if_true, if_false, Bool.not_true, Bool.not_false, decide_eq_true_eq, decide_true, decide_false, eq_self, and_self, and_true, true_and, Bool.and_true, Bool.true_and, Bool.and_false, Bool.false_and, Bool.or_true, Bool.true_or, Bool.or_false, Bool.false_or, not_true_eq_false, not_false_eq_true, ite_andB, ite_orB, Bool.decide_eq_true, zero_lim, one_lim, two_lim, three_lim, lim_4, lim_5, lim_6, lim_7, lim_8, lim_9, lim_10, lim_11, lim_12, lim_13, lim_14, lim_15, lim_16, take_set, take_set_app, List.append_nil, Option.bind_assoc, Option.bind_map, Option.map_bind, Option.map_map, Function.comp_def,
  kVar_s, v_var, v_cst, kGlob_s, v_glob, kBin2_s, kBin1_s, v_bin, kNeg_s, v_neg, kCmp2_s, kCmp1_s, v_cmp, kCh4_s, kCh3_s, kCh2_s, kCh1_s, v_chain, kIsN_s, v_isN, kNotN_s, v_notN, kB_s, kAnd_s, v_and, kOr_s, v_or, kNot_s, v_not, kIte_s, v_ite, kTup_s, kLst_s, v_tup, v_lst, kSub2_s, kSub1_s, v_sub, kSlc3_s, kSlc2_s, kSlc1_s, v_slc, kRev_s, v_rev, kCall_s, v_call, kNew_s, v_new_lst, v_new_blt, v_new_srt, v_new_add, v_new_comp, v_new_slc, v_new_srtk, kSS_s, v_sset, v_trng, v_lrng, kB1_s, v_blt1, kB2b_s, kB2a_s, v_blt2, kSrt_s, v_srt, kIsi_s, v_isi, kT3_s, kT2_s, kT1_s, turn_is, kComp_s, v_comp, kPop2_s, kPop1_s, v_pop, kA2_s, kA1_s, vs_nil, vs_cons, kD2_s, kD1_s, vd_nil, vd_cons, kSt2_s, kSt1'_s, kSt1_s, vd_star, kO_s, vo_nil, vo_cons, kC_s, vc_nil, vc_cons, kR1_s, vr_one, kR2b_s, kR2a_s, vr_two, kI_s, vi_val, kZ2_s, kZ1_s, vi_zip, vi_rng, kTst_s, vT, kAsg_s, w_asg, kPar_s, w_par, kSet3_s, kSet2_s, kSet1_s, w_setI, kApp2_s, kApp1_s, w_app, kExt2_s, kExt1_s, w_ext, kExp_s, w_exp, kRet_s, w_ret, kIf_s, w_ifs, kLap_s, lap_is, kFor_s, w_for, w_while, w_pass, ws_nil, sq_nx, sq_rt, ws_cons, kEnd_rt, kEnd_nx,
  revD_tup, revD_lst, bltW_sorted, bltW_len, bltW_all, bltW_any, bltW_sum, bltW_max, bltW_min, bltW_tuple, bltW_list, bltW_int, bltW_abs, isRS_var, isRS_cst, isRS_glob, isRS_bin, isRS_cmp, isRS_chain, isRS_isN, isRS_notN, isRS_and, isRS_or, isRS_not, isRS_ite, isRS_tup, isRS_lst, isRS_sub, isRS_slc, isRS_rev, isRS_call, isRS_blt, isRS_srt, isRS_isi, isRS_neg, isRS_new, isRS_zip, isRS_comp, isRS_pop, popVV_ok, rng2_int, setVV_ok, appVV_ok, extVV_ok, hand_d, hand_new, get_d, get_scr, getT_d, get_new, getT_new, app_new, ext_new, items_tup, items_lst, itemsV_d, bind1_one, bind1_many, wipe_nil, wipe_cons, store_nil, store_cons, zipV_tup, zipV_lst, ok_some, ok_sq, then_nx, then_rt, ok_end, fin_rt, fin_nx, nx_nx, nx_rt,
  items_lot, cop_lt, cop_le, cop_gt, cop_ge, cop_eq_int, cop_ne_int, cop_eq_lot, cop_ne_lot, cop_ne_nilL, cop_eq_nilL, cop_ne_nilT, cop_eq_nilT, cop_in_lot, cop_in_intT, cop_in_intL, cop_in_lotT, cop_in_lotL, cop_ne_lotsT, cop_eq_lotsT, bop_add, bop_sub, b_lenT, b_lenL, b_len_lot, b_tupL, b_tupT, b_lstL, b_lstT, b_lst_lot, b_tup_lot, b_int, b_intb, b_abs, b_all, b_any, b_allm, b_anym, b_sum, b_max2, b_min2, isTy_int, isTy_bool, isTy_tup, isTy_lot, $as,*] $[$l:location]?)
variable (n : Nat) (M : MH)
def lLess (found : List Lot) (lot : Lot) : Bool := match found.getLast? with | some f => decide (f.length < lot.length) | none => false
def lStep (s : List Lot × List Lot) (lot : Lot) : List Lot × List Lot :=
  (if (if lLess s.1 lot then s.1 else s.2).any (fun one => inB one lot) then s.1 else s.1 ++ [lot], if lLess s.1 lot then s.1 else s.2)
theorem least_fold : ∀ (xs f l : List Lot), leastGo xs f l = (xs.foldl lStep (f, l)).1
  | [], _, _ => rfl
  | x :: r, f, l => by
    rw [List.foldl_cons, leastGo]
    show (if (if lLess f x then f else l).any (fun one => inB one x) then leastGo r f (if lLess f x then f else l) else leastGo r (f ++ [x]) (if lLess f x then f else l)) = _
    rw [lStep]
    dsimp only
    generalize (if lLess f x then f else l) = ls
    split
    · exact least_fold r _ _
    · exact least_fold r _ _
theorem lStep_le (s : List Lot × List Lot) (x : Lot) (k : Nat) (h : s.1.length ≤ k ∧ s.2.length ≤ k) : (lStep s x).1.length ≤ k + 1 ∧ (lStep s x).2.length ≤ k + 1 := by
  obtain ⟨h1, h2⟩ := h
  unfold lStep
  constructor
  · dsimp only
    generalize (if lLess s.1 x then s.1 else s.2) = ls
    split
    · omega
    · rw [List.length_append, List.length_singleton]; omega
  · dsimp only
    split <;> omega
theorem lFold_le : ∀ (xs : List Lot) (s : List Lot × List Lot) (k : Nat), s.1.length ≤ k ∧ s.2.length ≤ k → (xs.foldl lStep s).1.length ≤ k + xs.length ∧ (xs.foldl lStep s).2.length ≤ k + xs.length
  | [], s, k, h => h
  | x :: r, s, k, h => by
    have := lFold_le r (lStep s x) (k + 1) (lStep_le s x k h)
    rw [List.foldl_cons, List.length_cons]
    omega
theorem lFold_mem {P : Lot → Prop} : ∀ (xs : List Lot) (s : List Lot × List Lot), (∀ x ∈ xs, P x) → (∀ x ∈ s.1, P x) ∧ (∀ x ∈ s.2, P x) → (∀ x ∈ (xs.foldl lStep s).1, P x) ∧ (∀ x ∈ (xs.foldl lStep s).2, P x)
  | [], s, _, h => h
  | x :: r, s, hx, h => by
    refine lFold_mem r (lStep s x) (fun y hy => hx y (List.mem_cons_of_mem _ hy)) ⟨fun y hy => ?_, fun y hy => ?_⟩
    · unfold lStep at hy
      dsimp only at hy
      generalize (if lLess s.1 x then s.1 else s.2) = ls at hy
      split at hy
      · exact h.1 y hy
      · rcases List.mem_append.mp hy with z | z
        · exact h.1 y z
        · rw [List.mem_singleton.mp z]; exact hx x List.mem_cons_self
    · unfold lStep at hy
      dsimp only at hy
      split at hy
      · exact h.1 y hy
      · exact h.2 y hy
def least_tail : Ss := (.cons (.ifs (.not (.blt .any (.cons (.comp [4] (.call "is_within" (.cons (.var 4) (.cons (.var 3) .nil))) (.one 4) (.val (.var 2)) .nil) .nil))) (.cons (.app (.var 1) (.var 3)) .nil) .nil) .nil)
theorem f_least_of (L : List Lot) (h : L.length ≤ 1000) (h2 : (∀ l ∈ L, l ≠ []) ∨ L.length ≤ 1) (h3 : ∀ l ∈ L, l.length ≤ 1000) : call (n + 2) "least_of" [.d (.list (L.map lotD))] M = some (.d (.list ((leastF L).map lotD)), M) := by
  unfold call
  rw [call_of t_least_of rfl]
  have l0 : lim = 1000000 := rfl
  apply ok_is
  have hb : bysO bys (some "by_size") = true := by decide
  simp_arith [b_least_of, hb, sset_lots _ L h h2]
  rw [sortN_lots, byN_sorted]
  simp_arith []
  have lb : (byN L).length ≤ 1000 := by
    unfold byN nsort
    rw [List.length_mergeSort]
    exact Nat.le_trans (onceL_len L) h
  refine for_ok (fun pre ρ M' => ∃ u3, ρ = [some (.d (.list (L.map lotD))), some (.ref M.length), some (.d (.list ((pre.foldl lStep ([], [])).2.map lotD))), u3, none] ∧ M' = M ++ [.lst ((pre.foldl lStep ([], [])).1.map lotD)]) ⟨_, rfl, rfl⟩ ?_ ?_
  · rintro a x b eF _ _ ⟨u3, rfl, rfl⟩
    have la : a.length ≤ 1000 := by
      have : a.length ≤ (byN L).length := by rw [eF]; simp
      omega
    have hf := lFold_le a ([], []) 0 ⟨Nat.le_refl _, Nat.le_refl _⟩
    have hm := lFold_mem (P := fun l => l.length ≤ lim) a ([], []) (fun y hy => by
      have : y ∈ byN L := by rw [eF]; simp [hy]
      have := h3 y (byN_mem.mp this)
      omega) ⟨nofun, nofun⟩
    rw [List.foldl_append, List.foldl_cons, List.foldl_nil]
    generalize a.foldl lStep ([], []) = s at hf hm ⊢
    obtain ⟨f, l⟩ := s
    dsimp only at hf hm ⊢
    simp_arith []
    have e1 : decide (f.map lotD = []) = f.isEmpty := by cases f <;> simp
    rw [e1]
    have fin : ∀ l' : List Lot, (if lLess f x then f else l) = l' → l'.length ≤ 1000 → (∀ y ∈ l', y.length ≤ lim) → Ok (evSs ⟨cst, callF (tabOf rows) cst 100 bys (n + 1), 100, bys⟩ least_tail [some (.d (.list (L.map lotD))), some (.ref M.length), some (.d (.list (l'.map lotD))), some (.d (lotD x)), none] (M ++ [.lst (f.map lotD)]))
        (Nx (fun ρ M' => ∃ u3, ρ = [some (.d (.list (L.map lotD))), some (.ref M.length), some (.d (.list ((lStep (f, l) x).2.map lotD))), u3, none] ∧ M' = M ++ [.lst ((lStep (f, l) x).1.map lotD)]) fun v M_1 =>
        Ok (handOn false M.length v M_1) fun r => r = (.d (.list ((leastF L).map lotD)), M)) := by
      intro l' e hl hm'
      have hl' : l'.length ≤ lim := by omega
      simp_arith [least_tail, hl']
      rw [compL_map (g := fun k => .bool (inB k x)) (h := by intro k hk; simp_arith [f_is_within, hm' k hk])]
      simp_arith []
      unfold lStep
      dsimp only
      rw [e]
      cases l'.any fun one => inB one x
      · simp_arith []
        rw [if_pos (by omega)]
        simp_arith []
        refine ⟨_, rfl, ?_⟩
        rw [List.map_append]
        rfl
      · simp_arith []
        exact ⟨_, rfl⟩
    cases hg : f.getLast? with
    | none =>
      have hs : lLess f x = false := by unfold lLess; rw [hg]
      rw [List.getLast?_eq_none_iff] at hg
      subst hg
      simp_arith [List.isEmpty_nil]
      have := fin l (by rw [hs]; rfl) (by omega) hm.2
      simp_arith [least_tail] at this
      exact this
    | some g =>
      have he : f.isEmpty = false := by
        cases f with
        | nil => cases hg
        | cons _ _ => rfl
      simp_arith [he, sub_last _ _ _ _ hg]
      by_cases c : (g.length : Int) < x.length
      · have hs : lLess f x = true := by unfold lLess; rw [hg]; simpa using c
        simp_arith [c]
        have := fin f (by rw [hs]; rfl) (by omega) hm.1
        simp_arith [least_tail] at this
        exact this
      · have hs : lLess f x = false := by unfold lLess; rw [hg]; simpa using c
        simp_arith [c]
        have := fin l (by rw [hs]; rfl) (by omega) hm.2
        simp_arith [least_tail] at this
        exact this
  · rintro _ _ ⟨u3, rfl, rfl⟩
    simp_arith []
    rw [leastF, least_fold]
end Mi.K52
set_option maxHeartbeats 4000000
/-! W3: crossing, and what is told of it. -/
namespace Mi.K52
open PySem
local macro_rules | `(tactic| simp_arith [$as,*] $[$l:location]?) => `(tactic| simp only [startE, List.map_cons, List.map_nil, List.cons_append, List.nil_append, List.length_cons, List.length_nil, List.length_map, List.replicate_succ, List.replicate_zero, Nat.reduceSub, Nat.reduceAdd, Nat.zero_add, Nat.reduceLT, Nat.reduceLeDiff, Nat.reduceEqDiff, List.getElem?_cons_zero, List.getElem?_cons_succ, List.set_cons_zero, List.set_cons_succ, List.zip_cons_cons, List.zip_nil_left, List.zip_nil_right, List.foldl_cons, List.foldl_nil, List.take_length, List.take_left', Option.bind_some, Option.map_some, Option.bind_none, Option.map_none, reduceIte, Bool.false_eq_true, if_true, if_false, Bool.not_true, Bool.not_false, decide_eq_true_eq, decide_true, decide_false, eq_self, and_self, and_true, true_and, Bool.and_true, Bool.true_and, Bool.and_false, Bool.false_and, Bool.or_true, Bool.true_or, Bool.or_false, Bool.false_or, not_true_eq_false, not_false_eq_true, ite_andB, ite_orB, Bool.decide_eq_true, zero_lim, one_lim, two_lim, three_lim, lim_4, lim_5, lim_6, lim_7, lim_8, lim_9, lim_10, lim_11, lim_12, lim_13, lim_14, lim_15, lim_16, take_set, take_set_app, List.append_nil, Option.bind_assoc, Option.bind_map, Option.map_bind, Option.map_map, Function.comp_def,
  kVar_s, v_var, v_cst, kGlob_s, v_glob, kBin2_s, kBin1_s, v_bin, kNeg_s, v_neg, kCmp2_s, kCmp1_s, v_cmp, kCh4_s, kCh3_s, kCh2_s, kCh1_s, v_chain, kIsN_s, v_isN, kNotN_s, v_notN, kB_s, kAnd_s, v_and, kOr_s, v_or, kNot_s, v_not, kIte_s, v_ite, kTup_s, kLst_s, v_tup, v_lst, kSub2_s, kSub1_s, v_sub, kSlc3_s, kSlc2_s, kSlc1_s, v_slc, kRev_s, v_rev, kCall_s, v_call, kNew_s, v_new_lst, v_new_blt, v_new_srt, v_new_add, v_new_comp, v_new_slc, v_new_srtk, kSS_s, v_sset, v_trng, v_lrng, kB1_s, v_blt1, kB2b_s, kB2a_s, v_blt2, kSrt_s, v_srt, kIsi_s, v_isi, kT3_s, kT2_s, kT1_s, turn_is, kComp_s, v_comp, kPop2_s, kPop1_s, v_pop, kA2_s, kA1_s, vs_nil, vs_cons, kD2_s, kD1_s, vd_nil, vd_cons, kSt2_s, kSt1'_s, kSt1_s, vd_star, kO_s, vo_nil, vo_cons, kC_s, vc_nil, vc_cons, kR1_s, vr_one, kR2b_s, kR2a_s, vr_two, kI_s, vi_val, kZ2_s, kZ1_s, vi_zip, vi_rng, kTst_s, vT, kAsg_s, w_asg, kPar_s, w_par, kSet3_s, kSet2_s, kSet1_s, w_setI, kApp2_s, kApp1_s, w_app, kExt2_s, kExt1_s, w_ext, kExp_s, w_exp, kRet_s, w_ret, kIf_s, w_ifs, kLap_s, lap_is, kFor_s, w_for, w_while, w_pass, ws_nil, sq_nx, sq_rt, ws_cons, kEnd_rt, kEnd_nx,
  revD_tup, revD_lst, bltW_sorted, bltW_len, bltW_all, bltW_any, bltW_sum, bltW_max, bltW_min, bltW_tuple, bltW_list, bltW_int, bltW_abs, isRS_var, isRS_cst, isRS_glob, isRS_bin, isRS_cmp, isRS_chain, isRS_isN, isRS_notN, isRS_and, isRS_or, isRS_not, isRS_ite, isRS_tup, isRS_lst, isRS_sub, isRS_slc, isRS_rev, isRS_call, isRS_blt, isRS_srt, isRS_isi, isRS_neg, isRS_new, isRS_zip, isRS_comp, isRS_pop, popVV_ok, rng2_int, setVV_ok, appVV_ok, extVV_ok, hand_d, hand_new, get_d, get_scr, getT_d, get_new, getT_new, app_new, ext_new, items_tup, items_lst, itemsV_d, bind1_one, bind1_many, wipe_nil, wipe_cons, store_nil, store_cons, zipV_tup, zipV_lst, ok_some, ok_sq, then_nx, then_rt, ok_end, fin_rt, fin_nx, nx_nx, nx_rt,
  items_lot, cop_lt, cop_le, cop_gt, cop_ge, cop_eq_int, cop_ne_int, cop_eq_lot, cop_ne_lot, cop_ne_nilL, cop_eq_nilL, cop_ne_nilT, cop_eq_nilT, cop_in_lot, cop_in_intT, cop_in_intL, cop_in_lotT, cop_in_lotL, cop_ne_lotsT, cop_eq_lotsT, bop_add, bop_sub, b_lenT, b_lenL, b_len_lot, b_tupL, b_tupT, b_lstL, b_lstT, b_lst_lot, b_tup_lot, b_int, b_intb, b_abs, b_all, b_any, b_allm, b_anym, b_sum, b_max2, b_min2, isTy_int, isTy_bool, isTy_tup, isTy_lot, $as,*] $[$l:location]?)
variable (n : Nat) (M : MH)
structure Good (L : List Lot) (m : Int) : Prop where
  m0 : 0 ≤ m
  m40 : m ≤ 40
  len : L.length ≤ 400
  ok : ∀ l ∈ L, Asc l ∧ ∀ p ∈ l, 0 ≤ p ∧ p ≤ m - 1
  ne : (∀ l ∈ L, l ≠ []) ∨ L.length ≤ 1
  few : ∀ P R, leastF L = P ++ R → (P.foldl crossStep [[]]).length ≤ 400
theorem asc_len {l : Lot} {m : Int} (h : Asc l) (hp : ∀ p ∈ l, 0 ≤ p ∧ p ≤ m - 1) (m40 : m ≤ 40) : l.length ≤ 40 := by
  have := nd_len (b := nums 0 m.toNat) h.nodup fun x hx => nums_mem.mpr (by have := hp x hx; omega)
  rw [nums_len] at this
  omega
theorem Good.short {L : List Lot} {m : Int} (g : Good L m) : ∀ l ∈ L, l.length ≤ 40 := fun l hl => asc_len (g.ok l hl).1 (g.ok l hl).2 g.m40
theorem f_is_many (m : Int) : call (n + 3) "is_many" [.d (.int m)] M = some (.d (.bool (decide (0 ≤ m) && decide (m ≤ 40))), M) := by
  unfold call
  rw [call_of t_is_many rfl]
  have hc : cst "MOST_PARTS" = some (.int 40) := by rfl
  simp_arith [b_is_many, hc, f_is_between]
theorem f_check_many (m : Int) (h0 : 0 ≤ m) (h : m ≤ 40) : call (n + 4) "check_many" [.d (.int m)] M = some (.d .none, M) := by
  unfold call
  rw [call_of t_check_many rfl]
  simp_arith [b_check_many, f_is_many, h0, h]
theorem f_are_lots {L : List Lot} {m : Int} (g : Good L m) : call (n + 4) "are_lots" [.d (lotsT L), .d (.int m)] M = some (.d (.bool true), M) := by
  unfold call
  rw [call_of t_are_lots rfl]
  have hc : cst "MOST_LOTS" = some (.int 400) := by rfl
  have l0 : lim = 1000000 := rfl
  have h1 : L.length ≤ lim := by have := g.len; omega
  have h2 : ((0 : Int) ≤ (L.length : Int)) = True := by simp
  have h3 : ((L.length : Int) ≤ 400) = True := by have := g.len; simp; omega
  simp_arith [b_are_lots, hc, f_is_tuple, h1, h2, h3]
  rw [compL_map (g := fun _ => .bool true) (h := by
    intro l hl
    have e1 : (l.all fun p => decide (0 ≤ p) && decide (p ≤ m - 1)) = true := by simpa using (g.ok l hl).2
    have e2 : Asc l := (g.ok l hl).1
    have e3 : l.length ≤ lim := by have := g.short l hl; omega
    simp_arith [f_is_lot, e1, e2, e3])]
  simp_arith []
  simp
theorem f_check_lots {L : List Lot} {m : Int} (g : Good L m) : call (n + 5) "check_lots" [.d (lotsT L), .d (.int m)] M = some (.d .none, M) := by
  unfold call
  rw [call_of t_check_lots rfl]
  simp_arith [b_check_lots, f_check_many _ _ m g.m0 g.m40, f_are_lots _ _ g]
theorem Good.ascs {L : List Lot} {m : Int} (g : Good L m) : ∀ l ∈ L, Asc l := fun l hl => (g.ok l hl).1
theorem Good.leastLen {L : List Lot} {m : Int} (g : Good L m) : (leastF L).length ≤ L.length := by
  obtain ⟨h1, h2⟩ := leastF_ok g.ascs
  exact nd_len h2.nodup h1.sub
theorem f_crossing_of {L : List Lot} {m : Int} (g : Good L m) : call (n + 3) "crossing_of" [.d (.list (L.map lotD))] M = some (.d (.list ((crossF L).map lotD)), M) := by
  unfold call
  rw [call_of t_crossing_of rfl]
  have hc : cst "MOST_LOTS" = some (.int 400) := by rfl
  have hb : bysO bys none = true := by decide
  have h1 : L.length ≤ 1000 := by have := g.len; omega
  have h3 : ∀ l ∈ L, l.length ≤ 1000 := fun l hl => by have := g.short l hl; omega
  have hs := (leastF_ok g.ascs).1.sub
  apply ok_is
  simp_arith [b_crossing_of, f_least_of _ _ L h1 g.ne h3]
  refine for_ok (fun pre ρ M' => ∃ u2, ρ = [some (.d (.list (L.map lotD))), some (.d (.list ((pre.foldl crossStep [[]]).map lotD))), u2] ∧ M' = M) ⟨_, rfl, rfl⟩ ?_ ?_
  · rintro a x b eF _ _ ⟨u2, rfl, rfl⟩
    have hl : (a.foldl crossStep [[]]).length ≤ 500 := by have := g.few a (x :: b) eF; omega
    have hx : x ∈ L := hs x (by rw [eF]; simp)
    have fa := fam_all (L := a) fun l hl => ((g.ok l (hs l (by rw [eF]; simp [hl]))).1).nodup
    have ht : ∀ t ∈ a.foldl crossStep [[]], t.length ≤ 500 := fun t ht => by
      have h5 := few_parts ((fa.mem t).mp ht)
      have h6 : a.length ≤ (leastF L).length := by rw [eF]; simp
      have := g.leastLen
      have := g.len
      omega
    have hx2 : x.length ≤ 500 := by have := g.short x hx; omega
    simp_arith [f_crossed_by _ _ _ x hl ht hx2, hc]
    have h7 := g.few (a ++ [x]) b (by rw [eF]; simp)
    rw [List.foldl_append, List.foldl_cons, List.foldl_nil] at h7
    have h8 : ¬ ((400 : Int) < ((crossStep (a.foldl crossStep [[]]) x).length : Int)) := by omega
    simp_arith [h8, List.foldl_append]
    exact ⟨_, rfl⟩
  · rintro _ _ ⟨u2, rfl, rfl⟩
    simp_arith [hb, sortN_lots]
    rfl
theorem f_crossing {L : List Lot} {m : Int} (g : Good L m) : call (n + 6) "crossing" [.d (lotsT L), .d (.int m)] M = some (.d (lotsT (crossF L)), M) := by
  unfold call
  rw [call_of t_crossing rfl]
  simp_arith [b_crossing, f_check_lots _ _ g, f_crossing_of _ _ g]
theorem f_is_lot_ok {l : Lot} {m : Int} (h : Asc l ∧ ∀ p ∈ l, 0 ≤ p ∧ p ≤ m - 1) (m40 : m ≤ 40) : call (n + 3) "is_lot" [.d (lotD l), .d (.int m)] M = some (.d (.bool true), M) := by
  have e1 : (l.all fun p => decide (0 ≤ p) && decide (p ≤ m - 1)) = true := by simpa using h.2
  have l0 : lim = 1000000 := rfl
  have e3 : l.length ≤ lim := by have := asc_len h.1 h.2 m40; omega
  rw [f_is_lot n M l m e3, e1, decide_eq_true h.1]
  rfl
theorem f_does_cross {L : List Lot} {m : Int} (g : Good L m) (t : Lot) (h : Asc t ∧ ∀ p ∈ t, 0 ≤ p ∧ p ≤ m - 1) : call (n + 6) "does_cross" [.d (lotsT L), .d (.int m), .d (lotD t)] M = some (.d (.bool (L.all fun l => meetB t l)), M) := by
  unfold call
  rw [call_of t_does_cross rfl]
  have l0 : lim = 1000000 := rfl
  have h1 : L.length ≤ lim := by have := g.len; omega
  have h2 : t.length ≤ lim := by have := asc_len h.1 h.2 g.m40; omega
  simp_arith [b_does_cross, f_check_lots _ _ g, f_is_lot_ok _ _ h g.m40, h1]
  rw [compL_map (g := fun l => .bool (meetB t l)) (h := by intro l hl; simp_arith [f_meets, h2])]
  simp_arith []
/-- a part of t that some lot has, and no other part of t -/
def aloneB (t : Lot) (p : Int) (L : List Lot) : Bool := L.any fun l => decide (p ∈ l) && !((t.filter fun q => !decide (q = p)).any fun q => decide (q ∈ l))
theorem f_is_alone_in (t : Lot) (p : Int) (L : List Lot) (h1 : L.length ≤ lim) (h2 : t.length ≤ lim) : call (n + 1) "is_alone_in" [.d (lotD t), .d (.int p), .d (lotsT L)] M = some (.d (.bool (aloneB t p L)), M) := by
  unfold call
  rw [call_of t_is_alone_in rfl]
  simp_arith [b_is_alone_in, h1]
  rw [compL_map (g := fun l => .bool (decide (p ∈ l) && !((t.filter fun q => !decide (q = p)).any fun q => decide (q ∈ l)))) (h := by
    intro l hl
    simp_arith [h2]
    rw [compL_filter (c := fun q => !decide (q = p)) (g := fun q => .bool (decide (q ∈ l))) (h := by intro q hq; simp_arith [])]
    simp_arith [])]
  simp_arith []
  rfl
theorem f_is_least_crossing {L : List Lot} {m : Int} (g : Good L m) (t : Lot) (h : Asc t ∧ ∀ p ∈ t, 0 ≤ p ∧ p ≤ m - 1) : call (n + 7) "is_least_crossing" [.d (lotsT L), .d (.int m), .d (lotD t)] M = some (.d (.bool ((L.all fun l => meetB t l) && t.all fun p => aloneB t p L)), M) := by
  unfold call
  rw [call_of t_is_least_crossing rfl]
  have l0 : lim = 1000000 := rfl
  have h1 : L.length ≤ lim := by have := g.len; omega
  have h2 : t.length ≤ lim := by have := asc_len h.1 h.2 g.m40; omega
  simp_arith [b_is_least_crossing, f_does_cross _ _ g t h, h2]
  rw [compL_map (g := fun p => .bool (aloneB t p L)) (h := by intro p hp; simp_arith [f_is_alone_in _ _ t _ L h1 h2])]
  simp_arith []
theorem f_fewest_crossing {L : List Lot} {m : Int} (g : Good L m) (t : Lot) (ht : (crossF L).head? = some t) : call (n + 7) "fewest_crossing" [.d (lotsT L), .d (.int m)] M = some (.d (.int t.length), M) := by
  unfold call
  rw [call_of t_fewest_crossing rfl]
  have hne : decide ((crossF L).map lotD = []) = false := by
    cases hc : crossF L with
    | nil => rw [hc] at ht; cases ht
    | cons x r => simp
  simp_arith [b_fewest_crossing, f_crossing _ _ g, hne, sub_zero _ _ _ _ ht]
theorem f_cut_short {L : List Lot} {m : Int} (g : Good L m) (k : Int) (h0 : 0 ≤ k) (hk : k ≤ m) : call (n + 6) "cut_short" [.d (lotsT L), .d (.int m), .d (.int k)] M = some (.d (lotsT ((crossF L).filter fun t => decide ((t.length : Int) ≤ k))), M) := by
  unfold call
  rw [call_of t_cut_short rfl]
  have l0 : lim = 1000000 := rfl
  have hf : (crossF L).length ≤ lim := by
    have := g.few (leastF L) [] (by simp)
    unfold crossF nsort
    rw [List.length_mergeSort]
    omega
  simp_arith [b_cut_short, f_check_lots _ _ g, f_is_between, h0, hk, f_crossing_of _ _ g, hf]
  rw [compL_filter (c := fun t => decide ((t.length : Int) ≤ k)) (g := lotD) (h := by intro q hq; simp_arith [])]
  simp_arith []
end Mi.K52
set_option maxHeartbeats 4000000
/-! W4: lots apart. -/
namespace Mi
open PySem
theorem bigI_spec : ∀ (xs : List Int) (m : Int), (bigI m xs = m ∨ bigI m xs ∈ xs) ∧ m ≤ bigI m xs ∧ ∀ x ∈ xs, x ≤ bigI m xs
  | [], m => ⟨.inl rfl, Int.le_refl _, nofun⟩
  | x :: r, m => by
    obtain ⟨h1, h2, h3⟩ := bigI_spec r (if m < x then x else m)
    rw [bigI]
    refine ⟨?_, ?_, fun y hy => ?_⟩
    · rcases h1 with e | e
      · rw [e]
        split
        · exact .inr List.mem_cons_self
        · exact .inl rfl
      · exact .inr (List.mem_cons_of_mem _ e)
    · split at h2 <;> split <;> omega
    · rcases List.mem_cons.mp hy with e | e
      · subst e
        split at h2 <;> split <;> omega
      · exact h3 y e
theorem b_max {xs : List Int} (h : xs ≠ []) : ∃ m, blt1 .max (.list (xs.map .int)) = some (.int m) ∧ m ∈ xs ∧ ∀ x ∈ xs, x ≤ m := by
  cases xs with
  | nil => exact absurd rfl h
  | cons x r =>
    obtain ⟨h1, h2, h3⟩ := bigI_spec r x
    refine ⟨bigI x r, ?_, ?_, ?_⟩
    · show (intsOf ((x :: r).map .int)).bind _ = _
      rw [intsOf_map]
      rfl
    · rcases h1 with e | e
      · rw [e]; exact List.mem_cons_self
      · exact List.mem_cons_of_mem _ e
    · intro y hy
      rcases List.mem_cons.mp hy with e | e
      · rw [e]; exact h2
      · exact h3 y e
def lotsL (L : List Lot) : D := .list (L.map lotD)
theorem items_lotsL (L : List Lot) : items (lotsL L) = some (L.map lotD) := rfl
theorem b_len_lotsL (L : List Lot) : blt1 .len (lotsL L) = some (.int L.length) := by simp [lotsL]
end Mi
namespace Mi.K52
open PySem
local macro_rules | `(tactic| simp_arith [$as,*] $[$l:location]?) => `(tactic| simp only [startE, List.map_cons, List.map_nil, List.cons_append, List.nil_append, List.length_cons, List.length_nil, List.length_map, List.replicate_succ, List.replicate_zero, Nat.reduceSub, Nat.reduceAdd, Nat.zero_add, Nat.reduceLT, Nat.reduceLeDiff, Nat.reduceEqDiff, List.getElem?_cons_zero, List.getElem?_cons_succ, List.set_cons_zero, List.set_cons_succ, List.zip_cons_cons, List.zip_nil_left, List.zip_nil_right, List.foldl_cons, List.foldl_nil, List.take_length, List.take_left', Option.bind_some, Option.map_some, Option.bind_none, Option.map_none, reduceIte, Bool.false_eq_true, if_true, if_false, Bool.not_true, Bool.not_false, decide_eq_true_eq, decide_true, decide_false, eq_self, and_self, and_true, true_and, Bool.and_true, Bool.true_and, Bool.and_false, Bool.false_and, Bool.or_true, Bool.true_or, Bool.or_false, Bool.false_or, not_true_eq_false, not_false_eq_true, ite_andB, ite_orB, Bool.decide_eq_true, zero_lim, one_lim, two_lim, three_lim, lim_4, lim_5, lim_6, lim_7, lim_8, lim_9, lim_10, lim_11, lim_12, lim_13, lim_14, lim_15, lim_16, take_set, take_set_app, List.append_nil, Option.bind_assoc, Option.bind_map, Option.map_bind, Option.map_map, Function.comp_def,
  kVar_s, v_var, v_cst, kGlob_s, v_glob, kBin2_s, kBin1_s, v_bin, kNeg_s, v_neg, kCmp2_s, kCmp1_s, v_cmp, kCh4_s, kCh3_s, kCh2_s, kCh1_s, v_chain, kIsN_s, v_isN, kNotN_s, v_notN, kB_s, kAnd_s, v_and, kOr_s, v_or, kNot_s, v_not, kIte_s, v_ite, kTup_s, kLst_s, v_tup, v_lst, kSub2_s, kSub1_s, v_sub, kSlc3_s, kSlc2_s, kSlc1_s, v_slc, kRev_s, v_rev, kCall_s, v_call, kNew_s, v_new_lst, v_new_blt, v_new_srt, v_new_add, v_new_comp, v_new_slc, v_new_srtk, kSS_s, v_sset, v_trng, v_lrng, kB1_s, v_blt1, kB2b_s, kB2a_s, v_blt2, kSrt_s, v_srt, kIsi_s, v_isi, kT3_s, kT2_s, kT1_s, turn_is, kComp_s, v_comp, kPop2_s, kPop1_s, v_pop, kA2_s, kA1_s, vs_nil, vs_cons, kD2_s, kD1_s, vd_nil, vd_cons, kSt2_s, kSt1'_s, kSt1_s, vd_star, kO_s, vo_nil, vo_cons, kC_s, vc_nil, vc_cons, kR1_s, vr_one, kR2b_s, kR2a_s, vr_two, kI_s, vi_val, kZ2_s, kZ1_s, vi_zip, vi_rng, kTst_s, vT, kAsg_s, w_asg, kPar_s, w_par, kSet3_s, kSet2_s, kSet1_s, w_setI, kApp2_s, kApp1_s, w_app, kExt2_s, kExt1_s, w_ext, kExp_s, w_exp, kRet_s, w_ret, kIf_s, w_ifs, kLap_s, lap_is, kFor_s, w_for, w_while, w_pass, ws_nil, sq_nx, sq_rt, ws_cons, kEnd_rt, kEnd_nx,
  revD_tup, revD_lst, bltW_sorted, bltW_len, bltW_all, bltW_any, bltW_sum, bltW_max, bltW_min, bltW_tuple, bltW_list, bltW_int, bltW_abs, isRS_var, isRS_cst, isRS_glob, isRS_bin, isRS_cmp, isRS_chain, isRS_isN, isRS_notN, isRS_and, isRS_or, isRS_not, isRS_ite, isRS_tup, isRS_lst, isRS_sub, isRS_slc, isRS_rev, isRS_call, isRS_blt, isRS_srt, isRS_isi, isRS_neg, isRS_new, isRS_zip, isRS_comp, isRS_pop, popVV_ok, rng2_int, setVV_ok, appVV_ok, extVV_ok, hand_d, hand_new, get_d, get_scr, getT_d, get_new, getT_new, app_new, ext_new, items_tup, items_lst, itemsV_d, bind1_one, bind1_many, wipe_nil, wipe_cons, store_nil, store_cons, zipV_tup, zipV_lst, ok_some, ok_sq, then_nx, then_rt, ok_end, fin_rt, fin_nx, nx_nx, nx_rt,
  items_lot, cop_lt, cop_le, cop_gt, cop_ge, cop_eq_int, cop_ne_int, cop_eq_lot, cop_ne_lot, cop_ne_nilL, cop_eq_nilL, cop_ne_nilT, cop_eq_nilT, cop_in_lot, cop_in_intT, cop_in_intL, cop_in_lotT, cop_in_lotL, cop_ne_lotsT, cop_eq_lotsT, bop_add, bop_sub, b_lenT, b_lenL, b_len_lot, b_tupL, b_tupT, b_lstL, b_lstT, b_lst_lot, b_tup_lot, b_int, b_intb, b_abs, b_all, b_any, b_allm, b_anym, b_sum, b_max2, b_min2, isTy_int, isTy_bool, isTy_tup, isTy_lot, $as,*] $[$l:location]?)
variable (n : Nat) (M : MH)
theorem f_apart_lots {L : List Lot} {m : Int} (g : Good L m) (h16 : (leastF L).length ≤ 16) : ∃ k : Nat, Nu (leastF L) k ∧ call (n + 6) "apart_lots" [.d (lotsT L), .d (.int m)] M = some (.d (.int k), M) := by
  have l0 : lim = 1000000 := rfl
  have h1 : L.length ≤ 1000 := by have := g.len; omega
  have h3 : ∀ l ∈ L, l.length ≤ 1000 := fun l hl => by have := g.short l hl; omega
  obtain ⟨hL, hs⟩ := leastF_ok g.ascs
  have hne : ((apartAll (leastF L)).map fun G => (G.length : Int)) ≠ [] := by
    have : [] ∈ apartAll (leastF L) := apart_mem.mpr ⟨List.nil_sublist _, List.Pairwise.nil⟩
    intro e
    rw [List.map_eq_nil_iff] at e
    rw [e] at this
    cases this
  obtain ⟨mx, e1, e2, e3⟩ := b_max hne
  obtain ⟨G, hG, eG⟩ := List.mem_map.mp e2
  have lenA : ∀ a b, leastF L = a ++ b → (a.foldl apartStep [[]]).length ≤ 65536 := fun a b e => by
    have h := apart_len a [[]]
    have h4 : a.length ≤ 16 := by have : a.length ≤ (leastF L).length := by { rw [e]; simp }; omega
    have h5 : 2 ^ a.length ≤ 2 ^ 16 := Nat.pow_le_pow_right (by decide) h4
    simp only [List.length_singleton, Nat.one_mul] at h
    omega
  refine ⟨G.length, nu_max hs.nodup ⟨G, hG, rfl⟩ fun G' hG' => ?_, ?_⟩
  · have := e3 _ (List.mem_map.mpr ⟨G', hG', rfl⟩)
    omega
  · unfold call
    rw [call_of t_apart_lots rfl]
    have h16' : ¬ ((16 : Int) < ((leastF L).length : Int)) := by omega
    have e0 : PyData.list [PyData.list []] = .list ([[]].map lotsL) := rfl
    apply ok_is
    simp_arith [b_apart_lots, f_check_lots _ _ g, f_least_of _ _ L h1 g.ne h3, h16']
    refine for_ok (fun pre ρ M' => ∃ u4, ρ = [some (.d (lotsT L)), some (.d (.int m)), some (.d (.list ((leastF L).map lotD))), some (.d (.list ((pre.foldl apartStep [[]]).map lotsL))), u4, none, none] ∧ M' = M) ⟨_, rfl, rfl⟩ ?_ ?_
    · rintro a x b eF _ _ ⟨u4, rfl, rfl⟩
      have ha := lenA a (x :: b) eF
      have hx : x ∈ L := hL.sub x (by rw [eF]; simp)
      have hxl : x.length ≤ lim := by have := g.short x hx; omega
      have hal : (a.foldl apartStep [[]]).length ≤ lim := by omega
      have hsub : ∀ G ∈ a.foldl apartStep [[]], G.length ≤ 16 ∧ ∀ y ∈ G, y.length ≤ lim := fun G hG => by
        obtain ⟨k1, k2⟩ := (apart_mem (M := a)).mp hG
        have := k1.length_le
        have h4 : a.length ≤ (leastF L).length := by rw [eF]; simp
        exact ⟨by omega, fun y hy => by
          have := g.short y (hL.sub y (by rw [eF]; simp [k1.subset hy]))
          omega⟩
      simp_arith [hal]
      rw [compL_filter (c := fun G => !G.any fun its => meetB x its) (g := fun G => lotsL (G ++ [x])) (h := by
        intro G hG
        obtain ⟨k1, k2⟩ := hsub G hG
        have k3 : G.length ≤ lim := by omega
        have k4 : G.length + 1 ≤ lim := by omega
        simp_arith [items_lotsL, k3]
        rw [compL_map (g := fun its => .bool (meetB x its)) (h := by intro its hi; simp_arith [f_meets _ _ x its hxl])]
        simp_arith [k4, items_lotsL]
        simp [lotsL])]
      simp_arith []
      rw [bop_addL _ _ (by
        rw [List.length_map, List.length_map]
        have := List.length_filter_le (fun G => !G.any fun its => meetB x its) (a.foldl apartStep [[]])
        omega)]
      simp_arith []
      refine ⟨some (.d (lotD x)), ?_⟩
      rw [List.foldl_append, List.foldl_cons, List.foldl_nil]
      rw [apartStep, List.map_append, List.map_map]
      rfl
    · rintro _ _ ⟨u4, rfl, rfl⟩
      have hA : (apartAll (leastF L)).length ≤ lim := by have := lenA (leastF L) [] (by simp); unfold apartAll; omega
      simp_arith [apartAll, hA]
      have hA : ((leastF L).foldl apartStep [[]]).length ≤ lim := hA
      simp_arith [hA]
      rw [compL_map (g := fun G => .int (G.length : Int)) (h := by intro G hG; simp_arith [b_len_lotsL])]
      simp_arith []
      have e1 : blt1 .max (.list (((leastF L).foldl apartStep [[]]).map fun G => .int (G.length : Int))) = some (.int mx) := by
        rw [List.map_map] at e1
        exact e1
      rw [e1]
      simp_arith []
      rw [eG]
theorem f_apart_nu {L : List Lot} {m : Int} (g : Good L m) (h16 : (leastF L).length ≤ 16) {k : Nat} (nu : Nu (leastF L) k) : call (n + 6) "apart_lots" [.d (lotsT L), .d (.int m)] M = some (.d (.int k), M) := by
  obtain ⟨k', nu', e⟩ := f_apart_lots n M g h16
  rw [e, nu.uniq nu']
end Mi.K52
set_option maxHeartbeats 4000000
/-! W5: what the law draws. -/
namespace Mi
open PySem
/-- a pot: a digit store, a seed, how many were mixed -/
def PotC (c : Nat) (x : Cell) : Prop := ∃ a b k : Int, x = .lst [.int a, .int b, .int k] ∧ 0 ≤ b ∧ b < 2305843009213693952 ∧ 0 ≤ k ∧ k ≤ c
def PotAt (i c : Nat) (M : MH) : Prop := ∃ x, M[i]? = some x ∧ PotC c x
theorem PotC.mono {c d : Nat} {x : Cell} (h : PotC c x) (hd : c ≤ d) : PotC d x := by
  obtain ⟨a, b, k, e, h1, h2, h3, h4⟩ := h
  exact ⟨a, b, k, e, h1, h2, h3, by omega⟩
theorem PotAt.lt {i c : Nat} {M : MH} (h : PotAt i c M) : i < M.length := by
  obtain ⟨x, e, _⟩ := h
  exact (List.getElem?_eq_some_iff.mp e).1
theorem PotAt.set {i c d : Nat} {M : MH} {x : Cell} (h : PotAt i c M) (hx : PotC d x) : PotAt i d (M.set i x) := ⟨x, List.getElem?_set_self h.lt, hx⟩
theorem PotAt.app {i c : Nat} {M R : MH} (h : PotAt i c M) : PotAt i c (M ++ R) := by
  obtain ⟨x, e, p⟩ := h
  exact ⟨x, by rw [get_old _ _ _ (List.getElem?_eq_some_iff.mp e).1, e], p⟩
theorem sub3_0 (x y z : D) (M : MH) : subV [x, y, z] (.d (.int 0)) M = some (.d x, M) := rfl
theorem sub3_1 (x y z : D) (M : MH) : subV [x, y, z] (.d (.int 1)) M = some (.d y, M) := rfl
theorem sub3_2 (x y z : D) (M : MH) : subV [x, y, z] (.d (.int 2)) M = some (.d z, M) := rfl
theorem set3_0 (x y z w : D) (M : MH) (i : Nat) (h : M[i]? = some (.lst [x, y, z])) : setV i 0 w M = some (M.set i (.lst [w, y, z])) := by
  unfold setV
  rw [h]
  rfl
theorem set3_2 (x y z w : D) (M : MH) (i : Nat) (h : M[i]? = some (.lst [x, y, z])) : setV i 2 w M = some (M.set i (.lst [x, y, w])) := by
  unfold setV
  rw [h]
  rfl
theorem mul_l (i j : Int) (h : i.natAbs < 18446744073709551616) : bop .mul (.int i) (.int j) = some (.int (i * j)) := bop_mul i j (by unfold mulOk; rw [decide_eq_true (show i.natAbs < 2 ^ 64 from h)]; rfl)
theorem mul_r (i j : Int) (h : j.natAbs < 18446744073709551616) : bop .mul (.int i) (.int j) = some (.int (i * j)) := bop_mul i j (by unfold mulOk; rw [decide_eq_true (show j.natAbs < 2 ^ 64 from h), Bool.or_true])
theorem pow3 (i : Int) (h : 2 ≤ i) (h2 : i < 1267650600228229401496703205376) : bop .pow (.int i) (.int 3) = some (.int (i ^ 3)) := by
  refine bop_pow i 3 ?_
  unfold powOk
  have h3 : i.natAbs.log2 < 100 := (Nat.log2_lt (by omega)).mpr (by omega)
  have h4 : (i.natAbs.log2 + 1) * Int.natAbs 3 ≤ 100000 := by
    have : Int.natAbs 3 = 3 := rfl
    rw [this]
    omega
  rw [decide_eq_true h, decide_eq_true h4]
  rfl
theorem pow_big : ∃ q r t : Int, bop .pow (.int 10) (.int 60) = some (.int q) ∧ bop .pow (.int q) (.int 5) = some (.int r) ∧ 0 < r ∧ bop .pow (.int 10) (.int 18) = some (.int t) :=
  ⟨_, _, _, bop_pow _ _ (by decide +kernel), bop_pow _ _ (by decide +kernel), by decide +kernel, bop_pow _ _ (by decide +kernel)⟩
end Mi
namespace Mi.K52
open PySem
local macro_rules | `(tactic| simp_arith [$as,*] $[$l:location]?) => `(tactic| simp only [startE, List.map_cons, List.map_nil, List.cons_append, List.nil_append, List.length_cons, List.length_nil, List.length_map, List.replicate_succ, List.replicate_zero, Nat.reduceSub, Nat.reduceAdd, Nat.zero_add, Nat.reduceLT, Nat.reduceLeDiff, Nat.reduceEqDiff, List.getElem?_cons_zero, List.getElem?_cons_succ, List.set_cons_zero, List.set_cons_succ, List.zip_cons_cons, List.zip_nil_left, List.zip_nil_right, List.foldl_cons, List.foldl_nil, List.take_length, List.take_left', Option.bind_some, Option.map_some, Option.bind_none, Option.map_none, reduceIte, Bool.false_eq_true, if_true, if_false, Bool.not_true, Bool.not_false, decide_eq_true_eq, decide_true, decide_false, eq_self, and_self, and_true, true_and, Bool.and_true, Bool.true_and, Bool.and_false, Bool.false_and, Bool.or_true, Bool.true_or, Bool.or_false, Bool.false_or, not_true_eq_false, not_false_eq_true, ite_andB, ite_orB, Bool.decide_eq_true, zero_lim, one_lim, two_lim, three_lim, lim_4, lim_5, lim_6, lim_7, lim_8, lim_9, lim_10, lim_11, lim_12, lim_13, lim_14, lim_15, lim_16, take_set, take_set_app, List.append_nil, Option.bind_assoc, Option.bind_map, Option.map_bind, Option.map_map, Function.comp_def,
  kVar_s, v_var, v_cst, kGlob_s, v_glob, kBin2_s, kBin1_s, v_bin, kNeg_s, v_neg, kCmp2_s, kCmp1_s, v_cmp, kCh4_s, kCh3_s, kCh2_s, kCh1_s, v_chain, kIsN_s, v_isN, kNotN_s, v_notN, kB_s, kAnd_s, v_and, kOr_s, v_or, kNot_s, v_not, kIte_s, v_ite, kTup_s, kLst_s, v_tup, v_lst, kSub2_s, kSub1_s, v_sub, kSlc3_s, kSlc2_s, kSlc1_s, v_slc, kRev_s, v_rev, kCall_s, v_call, kNew_s, v_new_lst, v_new_blt, v_new_srt, v_new_add, v_new_comp, v_new_slc, v_new_srtk, kSS_s, v_sset, v_trng, v_lrng, kB1_s, v_blt1, kB2b_s, kB2a_s, v_blt2, kSrt_s, v_srt, kIsi_s, v_isi, kT3_s, kT2_s, kT1_s, turn_is, kComp_s, v_comp, kPop2_s, kPop1_s, v_pop, kA2_s, kA1_s, vs_nil, vs_cons, kD2_s, kD1_s, vd_nil, vd_cons, kSt2_s, kSt1'_s, kSt1_s, vd_star, kO_s, vo_nil, vo_cons, kC_s, vc_nil, vc_cons, kR1_s, vr_one, kR2b_s, kR2a_s, vr_two, kI_s, vi_val, kZ2_s, kZ1_s, vi_zip, vi_rng, kTst_s, vT, kAsg_s, w_asg, kPar_s, w_par, kSet3_s, kSet2_s, kSet1_s, w_setI, kApp2_s, kApp1_s, w_app, kExt2_s, kExt1_s, w_ext, kExp_s, w_exp, kRet_s, w_ret, kIf_s, w_ifs, kLap_s, lap_is, kFor_s, w_for, w_while, w_pass, ws_nil, sq_nx, sq_rt, ws_cons, kEnd_rt, kEnd_nx,
  revD_tup, revD_lst, bltW_sorted, bltW_len, bltW_all, bltW_any, bltW_sum, bltW_max, bltW_min, bltW_tuple, bltW_list, bltW_int, bltW_abs, isRS_var, isRS_cst, isRS_glob, isRS_bin, isRS_cmp, isRS_chain, isRS_isN, isRS_notN, isRS_and, isRS_or, isRS_not, isRS_ite, isRS_tup, isRS_lst, isRS_sub, isRS_slc, isRS_rev, isRS_call, isRS_blt, isRS_srt, isRS_isi, isRS_neg, isRS_new, isRS_zip, isRS_comp, isRS_pop, popVV_ok, rng2_int, setVV_ok, appVV_ok, extVV_ok, hand_d, hand_new, get_d, get_scr, getT_d, get_new, getT_new, app_new, ext_new, items_tup, items_lst, itemsV_d, bind1_one, bind1_many, wipe_nil, wipe_cons, store_nil, store_cons, zipV_tup, zipV_lst, ok_some, ok_sq, then_nx, then_rt, ok_end, fin_rt, fin_nx, nx_nx, nx_rt,
  items_lot, cop_lt, cop_le, cop_gt, cop_ge, cop_eq_int, cop_ne_int, cop_eq_lot, cop_ne_lot, cop_ne_nilL, cop_eq_nilL, cop_ne_nilT, cop_eq_nilT, cop_in_lot, cop_in_intT, cop_in_intL, cop_in_lotT, cop_in_lotL, cop_ne_lotsT, cop_eq_lotsT, bop_add, bop_sub, b_lenT, b_lenL, b_len_lot, b_tupL, b_tupT, b_lstL, b_lstT, b_lst_lot, b_tup_lot, b_int, b_intb, b_abs, b_all, b_any, b_allm, b_anym, b_sum, b_max2, b_min2, isTy_int, isTy_bool, isTy_tup, isTy_lot, $as,*] $[$l:location]?)
variable (n : Nat) (M : MH)
theorem f_take (i c : Nat) (hp : PotAt i c M) (hc : c ≤ 1000000) (u : Int) (h1 : 1 ≤ u) (h2 : u < 1073741824) :
    Ok (call (n + 1) "_law_take" [.ref i, .d (.int u)] M) fun r => ∃ v x, r = (.d (.int v), M.set i x) ∧ PotC (c + 1) x ∧ 0 ≤ v ∧ v < u := by
  obtain ⟨_, hM, a, b, k, rfl, b0, b1, k0, k1⟩ := hp
  have hi : i < M.length := (List.getElem?_eq_some_iff.mp hM).1
  unfold call
  rw [call_of t__law_take rfl]
  have u0 : (0 : Int) < u := by omega
  by_cases ha : 0 < a
  · simp_arith [b__law_take, get_c M i _ hM, sub3_0, sub3_1, sub3_2, ha, bop_mod _ _ u0, bop_fdiv _ _ u0 h2, set3_0 _ _ _ _ M i hM]
    refine ⟨a % u, _, rfl, ⟨_, _, _, rfl, b0, b1, k0, by omega⟩, Int.emod_nonneg _ (by omega), Int.emod_lt_of_pos _ u0⟩
  · have hM2 : (M.set i (.lst [.int a, .int b, .int (k + 1)]))[i]? = some (.lst [.int a, .int b, .int (k + 1)]) := List.getElem?_set_self hi
    simp_arith [b__law_take, get_c M i _ hM, sub3_0, sub3_1, sub3_2, ha, set3_2 _ _ _ _ M i hM, get_c _ i _ hM2, bop_mod _ 5 (by decide)]
    have hx : ∃ p : Int, subV [PyData.int 2147483647, PyData.int 2147483629, PyData.int 2147483587, PyData.int 2147483579, PyData.int 2147483563] (.d (.int ((k + 1) % 5))) (M.set i (.lst [.int a, .int b, .int (k + 1)])) = some (.d (.int p), M.set i (.lst [.int a, .int b, .int (k + 1)])) ∧ 0 < p ∧ p < 2147483648 := by
      have e1 := Int.emod_nonneg (k + 1) (show (5 : Int) ≠ 0 by decide)
      have e2 := Int.emod_lt_of_pos (k + 1) (show (0 : Int) < 5 by decide)
      generalize (k + 1) % 5 = q at e1 e2
      have : q = 0 ∨ q = 1 ∨ q = 2 ∨ q = 3 ∨ q = 4 := by omega
      rcases this with e | e | e | e | e <;> subst e
      · exact ⟨_, rfl, by decide, by decide⟩
      · exact ⟨_, rfl, by decide, by decide⟩
      · exact ⟨_, rfl, by decide, by decide⟩
      · exact ⟨_, rfl, by decide, by decide⟩
      · exact ⟨_, rfl, by decide, by decide⟩
    obtain ⟨p, hp, p0, p1⟩ := hx
    have hk : (99825 * (k + 1) * (k + 1) : Int) ≤ 99825 * 1000001 * 1000001 := Int.mul_le_mul (by omega) (by omega) (by omega) (by omega)
    have hk0 : (0 : Int) ≤ 99825 * (k + 1) * (k + 1) := Int.mul_nonneg (by omega) (by omega)
    have hm1 := mul_l 99825 (k + 1) (by decide)
    have hm2 := mul_r (99825 * (k + 1)) (k + 1) (by omega)
    have hp3 := pow3 (b + 99825 * (k + 1) * (k + 1) + 203) (by omega) (by omega)
    simp_arith [get_c _ i _ hM2, sub3_1, sub3_2, hp, hm1, hm2, hp3, bop_mod _ p p0]
    generalize hq : (b + 99825 * (k + 1) * (k + 1) + 203) ^ 3 % p = q
    have q0 : 0 ≤ q := by rw [← hq]; exact Int.emod_nonneg _ (by omega)
    have q1 : q < p := by rw [← hq]; exact Int.emod_lt_of_pos _ p0
    have hm3 := mul_l 155 (k + 1) (by decide)
    have hm4 := mul_l q (q % 10111 + 155 * (k + 1)) (by omega)
    simp_arith [get_c _ i _ hM2, sub3_1, sub3_2, bop_mod _ 10111 (by decide), hm3, hm4, bop_mod _ 2305843009213693907 (by decide), bop_fdiv _ 231 (by decide) (by decide), bop_mod _ u u0]
    exact ⟨_, _, rfl, ⟨_, _, _, rfl, b0, b1, by omega, by omega⟩, Int.emod_nonneg _ (by omega), Int.emod_lt_of_pos _ u0⟩
end Mi.K52
set_option maxHeartbeats 4000000
/-! W6: what the law draws. -/
namespace Mi
open PySem
theorem hand_keep (M : MH) (x : Cell) : handOn true M.length (.ref M.length) (M ++ [x]) = some (.ref M.length, M ++ [x]) := by
  show (if M.length < M.length then _ else if true = true then (if M.length = M.length then some (Val.ref M.length, (M ++ [x]).take (M.length + 1)) else none) else _) = _
  rw [if_neg (by omega), if_pos rfl, if_pos rfl, List.take_of_length_le (by simp)]
end Mi
namespace Mi.K52
open PySem
local macro_rules | `(tactic| simp_arith [$as,*] $[$l:location]?) => `(tactic| simp only [startE, List.map_cons, List.map_nil, List.cons_append, List.nil_append, List.length_cons, List.length_nil, List.length_map, List.replicate_succ, List.replicate_zero, Nat.reduceSub, Nat.reduceAdd, Nat.zero_add, Nat.reduceLT, Nat.reduceLeDiff, Nat.reduceEqDiff, List.getElem?_cons_zero, List.getElem?_cons_succ, List.set_cons_zero, List.set_cons_succ, List.zip_cons_cons, List.zip_nil_left, List.zip_nil_right, List.foldl_cons, List.foldl_nil, List.take_length, List.take_left', Option.bind_some, Option.map_some, Option.bind_none, Option.map_none, reduceIte, Bool.false_eq_true, if_true, if_false, Bool.not_true, Bool.not_false, decide_eq_true_eq, decide_true, decide_false, eq_self, and_self, and_true, true_and, Bool.and_true, Bool.true_and, Bool.and_false, Bool.false_and, Bool.or_true, Bool.true_or, Bool.or_false, Bool.false_or, not_true_eq_false, not_false_eq_true, ite_andB, ite_orB, Bool.decide_eq_true, zero_lim, one_lim, two_lim, three_lim, lim_4, lim_5, lim_6, lim_7, lim_8, lim_9, lim_10, lim_11, lim_12, lim_13, lim_14, lim_15, lim_16, take_set, take_set_app, List.append_nil, Option.bind_assoc, Option.bind_map, Option.map_bind, Option.map_map, Function.comp_def,
  kVar_s, v_var, v_cst, kGlob_s, v_glob, kBin2_s, kBin1_s, v_bin, kNeg_s, v_neg, kCmp2_s, kCmp1_s, v_cmp, kCh4_s, kCh3_s, kCh2_s, kCh1_s, v_chain, kIsN_s, v_isN, kNotN_s, v_notN, kB_s, kAnd_s, v_and, kOr_s, v_or, kNot_s, v_not, kIte_s, v_ite, kTup_s, kLst_s, v_tup, v_lst, kSub2_s, kSub1_s, v_sub, kSlc3_s, kSlc2_s, kSlc1_s, v_slc, kRev_s, v_rev, kCall_s, v_call, kNew_s, v_new_lst, v_new_blt, v_new_srt, v_new_add, v_new_comp, v_new_slc, v_new_srtk, kSS_s, v_sset, v_trng, v_lrng, kB1_s, v_blt1, kB2b_s, kB2a_s, v_blt2, kSrt_s, v_srt, kIsi_s, v_isi, kT3_s, kT2_s, kT1_s, turn_is, kComp_s, v_comp, kPop2_s, kPop1_s, v_pop, kA2_s, kA1_s, vs_nil, vs_cons, kD2_s, kD1_s, vd_nil, vd_cons, kSt2_s, kSt1'_s, kSt1_s, vd_star, kO_s, vo_nil, vo_cons, kC_s, vc_nil, vc_cons, kR1_s, vr_one, kR2b_s, kR2a_s, vr_two, kI_s, vi_val, kZ2_s, kZ1_s, vi_zip, vi_rng, kTst_s, vT, kAsg_s, w_asg, kPar_s, w_par, kSet3_s, kSet2_s, kSet1_s, w_setI, kApp2_s, kApp1_s, w_app, kExt2_s, kExt1_s, w_ext, kExp_s, w_exp, kRet_s, w_ret, kIf_s, w_ifs, kLap_s, lap_is, kFor_s, w_for, w_while, w_pass, ws_nil, sq_nx, sq_rt, ws_cons, kEnd_rt, kEnd_nx,
  revD_tup, revD_lst, bltW_sorted, bltW_len, bltW_all, bltW_any, bltW_sum, bltW_max, bltW_min, bltW_tuple, bltW_list, bltW_int, bltW_abs, isRS_var, isRS_cst, isRS_glob, isRS_bin, isRS_cmp, isRS_chain, isRS_isN, isRS_notN, isRS_and, isRS_or, isRS_not, isRS_ite, isRS_tup, isRS_lst, isRS_sub, isRS_slc, isRS_rev, isRS_call, isRS_blt, isRS_srt, isRS_isi, isRS_neg, isRS_new, isRS_zip, isRS_comp, isRS_pop, popVV_ok, rng2_int, setVV_ok, appVV_ok, extVV_ok, hand_d, hand_new, get_d, get_scr, getT_d, get_new, getT_new, app_new, ext_new, items_tup, items_lst, itemsV_d, bind1_one, bind1_many, wipe_nil, wipe_cons, store_nil, store_cons, zipV_tup, zipV_lst, ok_some, ok_sq, then_nx, then_rt, ok_end, fin_rt, fin_nx, nx_nx, nx_rt,
  items_lot, cop_lt, cop_le, cop_gt, cop_ge, cop_eq_int, cop_ne_int, cop_eq_lot, cop_ne_lot, cop_ne_nilL, cop_eq_nilL, cop_ne_nilT, cop_eq_nilT, cop_in_lot, cop_in_intT, cop_in_intL, cop_in_lotT, cop_in_lotL, cop_ne_lotsT, cop_eq_lotsT, bop_add, bop_sub, b_lenT, b_lenL, b_len_lot, b_tupL, b_tupT, b_lstL, b_lstT, b_lst_lot, b_tup_lot, b_int, b_intb, b_abs, b_all, b_any, b_allm, b_anym, b_sum, b_max2, b_min2, isTy_int, isTy_bool, isTy_tup, isTy_lot, $as,*] $[$l:location]?)
variable (n : Nat) (M : MH)
def pot_tail : Ss := (.cons (.asg (.one 3) (.bin .mul (.bin .mod (.blt .int (.cons (.blt .abs (.cons (.var 2) .nil)) .nil)) (.bin .pow (.bin .pow (.cst (.int 10)) (.cst (.int 60))) (.cst (.int 5)))) (.blt .int (.cons (.cmp .ge (.blt .abs (.cons (.var 2) .nil)) (.bin .pow (.cst (.int 10)) (.cst (.int 18)))) .nil)))) (.cons (.asg (.one 4) (.bin .mod (.blt .int (.cons (.var 2) .nil)) (.cst (.int 2305843009213693951)))) (.cons (.ret (.new (.lst (.cons (.var 3) (.cons (.bin .mod (.blt .int (.cons (.bin .add (.bin .add (.bin .mul (.var 4) (.cst (.int 124112))) (.bin .mul (.bin .mul (.cst (.int 9213)) (.var 1)) (.var 1))) (.cst (.int 465))) .nil)) (.cst (.int 2305843009213693921))) (.cons (.cst (.int 0)) .nil)))))) .nil)))
def pot_head : E := (.ite (.cmp .lt (.var 1) (.blt .len (.cons (.var 0) .nil))) (.sub (.var 0) (.var 1)) (.bin .add (.bin .add (.bin .mod (.blt .sum (.cons (.slc (.var 0) .nil (.cons (.cst (.int 1)) .nil)) .nil)) (.cst (.int 1000003))) (.bin .mul (.cst (.int 8925)) (.var 1))) (.cst (.int 28999))))
theorem f_pot (ns : List Int) (p : Int) (h0 : 0 ≤ p) (h4 : p ≤ 4) : Ok (call (n + 1) "_law_pot" [.scr ns, .d (.int p)] M) fun r => ∃ x, r = (.ref M.length, M ++ [x]) ∧ PotC 0 x := by
  unfold call
  rw [call_of t__law_pot rfl]
  obtain ⟨q, r, t, e1, e2, e3, e4⟩ := pow_big
  have hz : ∃ z, evE ⟨cst, callF (tabOf rows) cst 100 bys n, 100, bys⟩ pot_head [some (.scr ns), some (.d (.int p)), none, none, none] M = some (.d (.int z), M) := by
    by_cases hc : p < ns.length
    · obtain ⟨z, hz⟩ : ∃ z, ns[p.toNat]? = some z := ⟨ns[p.toNat]'(by omega), List.getElem?_eq_getElem _⟩
      refine ⟨z, ?_⟩
      simp_arith [pot_head, hc, sub_at _ ns z p M h0 hz]
    · have m1 := mul_l 8925 p (by decide)
      have e5 : (ns.map PyData.int).take 1 = (ns.take 1).map .int := by rw [List.map_take]
      refine ⟨(ns.take 1).sum % 1000003 + 8925 * p + 28999, ?_⟩
      simp_arith [pot_head, hc, cutD, cut_hi1, e5, bop_mod _ 1000003 (by decide), m1]
  obtain ⟨z, hz⟩ := hz
  have eb : b__law_pot = .cons (.asg (.one 2) pot_head) pot_tail := rfl
  have es : startE 5 [.scr ns, .d (.int p)] = [some (.scr ns), some (.d (.int p)), none, none, none] := rfl
  rw [eb, es, ws_cons, w_asg, hz]
  have m1 := mul_r (z % 2305843009213693951) 124112 (by decide)
  have m2 := mul_l 9213 p (by decide)
  have m3 := mul_r (9213 * p) p (by omega)
  have m4 : ∀ (u : Int) (c : Prop) [Decidable c], bop .mul (.int u) (.int (if c then 1 else 0)) = some (.int (u * if c then 1 else 0)) := fun u b => mul_r _ _ (by split <;> decide)
  simp_arith [pot_tail, e1, e2, e4, bop_mod _ r e3, m4, hand_keep, bop_mod _ 2305843009213693951 (by decide), m1, m2, m3, bop_mod _ 2305843009213693921 (by decide)]
  refine ⟨_, rfl, _, _, _, rfl, Int.emod_nonneg _ (by decide), ?_, by decide, by decide⟩
  have := Int.emod_lt_of_pos (z % 2305843009213693951 * 124112 + 9213 * p * p + 465) (show (0 : Int) < 2305843009213693921 by decide)
  omega
end Mi.K52
set_option maxHeartbeats 4000000
/-! W7: what the law draws. -/
namespace Mi
open PySem
theorem map_erase {α : Type} (f : α → D) (xs : List α) (j : Nat) : (xs.map f).eraseIdx j = (xs.eraseIdx j).map f := by
  induction xs generalizing j with
  | nil => rfl
  | cons x xs ih =>
    cases j with
    | zero => rfl
    | succ j => simp [ih]
theorem perm_erase {α : Type} : ∀ (xs : List α) (j : Nat) (h : j < xs.length), (xs[j] :: xs.eraseIdx j).Perm xs
  | x :: xs, 0, _ => List.Perm.refl _
  | x :: xs, j + 1, h => by
    have h' : j < xs.length := by simpa using h
    show (xs[j] :: x :: xs.eraseIdx j).Perm (x :: xs)
    exact (List.Perm.swap x xs[j] _).trans ((perm_erase xs j h').cons x)
theorem set_same {M : MH} {i : Nat} {x : Cell} (h : M[i]? = some x) : M.set i x = M := by
  obtain ⟨hl, e⟩ := List.getElem?_eq_some_iff.mp h
  rw [← e, List.set_getElem_self]
end Mi
namespace Mi.K52
open PySem
local macro_rules | `(tactic| simp_arith [$as,*] $[$l:location]?) => `(tactic| simp only [startE, List.map_cons, List.map_nil, List.cons_append, List.nil_append, List.length_cons, List.length_nil, List.length_map, List.replicate_succ, List.replicate_zero, Nat.reduceSub, Nat.reduceAdd, Nat.zero_add, Nat.reduceLT, Nat.reduceLeDiff, Nat.reduceEqDiff, List.getElem?_cons_zero, List.getElem?_cons_succ, List.set_cons_zero, List.set_cons_succ, List.zip_cons_cons, List.zip_nil_left, List.zip_nil_right, List.foldl_cons, List.foldl_nil, List.take_length, List.take_left', Option.bind_some, Option.map_some, Option.bind_none, Option.map_none, reduceIte, Bool.false_eq_true, if_true, if_false, Bool.not_true, Bool.not_false, decide_eq_true_eq, decide_true, decide_false, eq_self, and_self, and_true, true_and, Bool.and_true, Bool.true_and, Bool.and_false, Bool.false_and, Bool.or_true, Bool.true_or, Bool.or_false, Bool.false_or, not_true_eq_false, not_false_eq_true, ite_andB, ite_orB, Bool.decide_eq_true, zero_lim, one_lim, two_lim, three_lim, lim_4, lim_5, lim_6, lim_7, lim_8, lim_9, lim_10, lim_11, lim_12, lim_13, lim_14, lim_15, lim_16, take_set, take_set_app, List.append_nil, Option.bind_assoc, Option.bind_map, Option.map_bind, Option.map_map, Function.comp_def,
  kVar_s, v_var, v_cst, kGlob_s, v_glob, kBin2_s, kBin1_s, v_bin, kNeg_s, v_neg, kCmp2_s, kCmp1_s, v_cmp, kCh4_s, kCh3_s, kCh2_s, kCh1_s, v_chain, kIsN_s, v_isN, kNotN_s, v_notN, kB_s, kAnd_s, v_and, kOr_s, v_or, kNot_s, v_not, kIte_s, v_ite, kTup_s, kLst_s, v_tup, v_lst, kSub2_s, kSub1_s, v_sub, kSlc3_s, kSlc2_s, kSlc1_s, v_slc, kRev_s, v_rev, kCall_s, v_call, kNew_s, v_new_lst, v_new_blt, v_new_srt, v_new_add, v_new_comp, v_new_slc, v_new_srtk, kSS_s, v_sset, v_trng, v_lrng, kB1_s, v_blt1, kB2b_s, kB2a_s, v_blt2, kSrt_s, v_srt, kIsi_s, v_isi, kT3_s, kT2_s, kT1_s, turn_is, kComp_s, v_comp, kPop2_s, kPop1_s, v_pop, kA2_s, kA1_s, vs_nil, vs_cons, kD2_s, kD1_s, vd_nil, vd_cons, kSt2_s, kSt1'_s, kSt1_s, vd_star, kO_s, vo_nil, vo_cons, kC_s, vc_nil, vc_cons, kR1_s, vr_one, kR2b_s, kR2a_s, vr_two, kI_s, vi_val, kZ2_s, kZ1_s, vi_zip, vi_rng, kTst_s, vT, kAsg_s, w_asg, kPar_s, w_par, kSet3_s, kSet2_s, kSet1_s, w_setI, kApp2_s, kApp1_s, w_app, kExt2_s, kExt1_s, w_ext, kExp_s, w_exp, kRet_s, w_ret, kIf_s, w_ifs, kLap_s, lap_is, kFor_s, w_for, w_while, w_pass, ws_nil, sq_nx, sq_rt, ws_cons, kEnd_rt, kEnd_nx,
  revD_tup, revD_lst, bltW_sorted, bltW_len, bltW_all, bltW_any, bltW_sum, bltW_max, bltW_min, bltW_tuple, bltW_list, bltW_int, bltW_abs, isRS_var, isRS_cst, isRS_glob, isRS_bin, isRS_cmp, isRS_chain, isRS_isN, isRS_notN, isRS_and, isRS_or, isRS_not, isRS_ite, isRS_tup, isRS_lst, isRS_sub, isRS_slc, isRS_rev, isRS_call, isRS_blt, isRS_srt, isRS_isi, isRS_neg, isRS_new, isRS_zip, isRS_comp, isRS_pop, popVV_ok, rng2_int, setVV_ok, appVV_ok, extVV_ok, hand_d, hand_new, get_d, get_scr, getT_d, get_new, getT_new, app_new, ext_new, items_tup, items_lst, itemsV_d, bind1_one, bind1_many, wipe_nil, wipe_cons, store_nil, store_cons, zipV_tup, zipV_lst, ok_some, ok_sq, then_nx, then_rt, ok_end, fin_rt, fin_nx, nx_nx, nx_rt,
  items_lot, cop_lt, cop_le, cop_gt, cop_ge, cop_eq_int, cop_ne_int, cop_eq_lot, cop_ne_lot, cop_ne_nilL, cop_eq_nilL, cop_ne_nilT, cop_eq_nilT, cop_in_lot, cop_in_intT, cop_in_intL, cop_in_lotT, cop_in_lotL, cop_ne_lotsT, cop_eq_lotsT, bop_add, bop_sub, b_lenT, b_lenL, b_len_lot, b_tupL, b_tupT, b_lstL, b_lstT, b_lst_lot, b_tup_lot, b_int, b_intb, b_abs, b_all, b_any, b_allm, b_anym, b_sum, b_max2, b_min2, isTy_int, isTy_bool, isTy_tup, isTy_lot, $as,*] $[$l:location]?)
variable (n : Nat) (M : MH)
theorem f_places (ns : List Int) (h : ns.length ≤ 63) : ∃ k : Nat, k ≤ 4 ∧ call (n + 1) "_law_places" [.scr ns, .d (.int 4)] M = some (.d (.list ((nums 0 k).map .int)), M) := by
  unfold call
  rw [call_of t__law_places rfl]
  have l0 : lim = 1000000 := rfl
  refine ⟨(if (if (ns.length : Int) < 4 then (ns.length : Int) else 4) > 1 then (if (ns.length : Int) < 4 then (ns.length : Int) else 4) else 1).toNat, ?_, ?_⟩
  · split <;> split <;> omega
  · simp_arith [b__law_places]
    rw [if_pos (by split <;> split <;> omega)]
    simp_arith [rangeL_nums]
/-- drawn out of a pool -/
theorem f_some {α : Type} (e : α → D) (i c : Nat) (hp : PotAt i c M) (pool : D) (xs : List α) (k : Nat) (hpool : blt1 .list pool = some (.list (xs.map e))) (hl : xs.length ≤ 1000) (hk : k ≤ xs.length) (hc : c + k ≤ 1000000) :
    Ok (call (n + 2) "_law_some" [.ref i, .d pool, .d (.int k)] M) fun r => ∃ (ys rest : List α) (x : Cell), r = (.d (.list (ys.map e)), M.set i x) ∧ PotC (c + k) x ∧ (ys ++ rest).Perm xs ∧ ys.length = k := by
  unfold call
  rw [call_of t__law_some rfl]
  have l0 : lim = 1000000 := rfl
  have hi := hp.lt
  obtain ⟨x0, hx0, px0⟩ := hp
  have hk2 : ((k : Int)).natAbs ≤ lim := by omega
  have en : (M ++ [Cell.lst (xs.map e)]).length = M.length + 1 := by simp
  simp_arith [b__law_some, hpool, hk2, rangeL_nums, en, List.append_assoc]
  refine for_ok (fun pre ρ M' => ∃ u ys rest x, ρ = [some (.ref i), some (.d pool), some (.d (.int k)), some (.ref M.length), some (.ref (M.length + 1)), u] ∧ M' = M.set i x ++ [.lst (rest.map e), .lst (ys.map e)] ∧ PotC (c + pre.length) x ∧ (ys ++ rest).Perm xs ∧ ys.length = pre.length) ⟨_, [], xs, x0, rfl, ?_, px0, List.Perm.refl _, rfl⟩ ?_ ?_
  · have e0 : M.set i x0 = M := set_same hx0
    rw [e0]
    rfl
  · rintro a z b eF _ _ ⟨u, ys, rest, x, rfl, rfl, px, pm, ly⟩
    have hlen : (M.set i x).length = M.length := List.length_set
    have la : a.length < k := by
      have h1 : (nums 0 (k : Int).toNat).length = a.length + (b.length + 1) := by rw [eF]; simp
      rw [nums_len] at h1
      omega
    have hpl := pm.length_eq
    rw [List.length_append] at hpl
    have g1 : get (M.set i x ++ [Cell.lst (rest.map e), Cell.lst (ys.map e)]) (.ref M.length) = some (.list (rest.map e)) := by
      have := get_new (M.set i x) (rest.map e) [Cell.lst (ys.map e)]
      rw [hlen] at this
      exact this
    have pa : PotAt i (c + a.length) (M.set i x ++ [Cell.lst (rest.map e), Cell.lst (ys.map e)]) := PotAt.app ⟨x, List.getElem?_set_self hi, px⟩
    simp_arith [g1]
    obtain ⟨_, eT, v, x', rfl, px', v0, v1⟩ := f_take n _ i (c + a.length) pa (by omega) rest.length (by omega) (by omega)
    rw [set_old _ _ _ _ (by rw [hlen]; exact hi), List.set_set] at eT
    have hlen' : (M.set i x').length = M.length := List.length_set
    have hv : v.toNat < rest.length := by omega
    have v2 : v.natAbs ≤ lim := by omega
    simp_arith [eT, pop_new' _ _ _ _ _ hlen'.symm, ix_of v0 v1, v2, List.getElem?_map, List.getElem?_eq_getElem hv, app_new2' _ _ _ _ _ _ hlen'.symm, map_erase]
    rw [if_pos (by omega)]
    simp_arith []
    refine ⟨_, ys ++ [rest[v.toNat]], rest.eraseIdx v.toNat, x', rfl, by simp, ?_, ?_, by simp [ly]⟩
    · simpa [Nat.add_assoc] using px'
    · refine List.Perm.trans ?_ pm
      rw [List.append_assoc]
      exact List.Perm.append_left ys (perm_erase rest _ hv)
  · rintro _ _ ⟨u, ys, rest, x, rfl, rfl, px, pm, ly⟩
    have hlen : (M.set i x).length = M.length := List.length_set
    have h2 := hand_new2 (M.set i x) (.lst (rest.map e)) (ys.map e) []
    rw [hlen] at h2
    simp_arith [h2]
    rw [nums_len] at px ly
    exact ⟨ys, rest, x, rfl, px, pm, ly⟩
theorem f_law_in (a b : Lot) (h : a.length ≤ lim) : call (n + 1) "_law_in" [.d (lotD a), .d (lotD b)] M = some (.d (.bool (inB a b)), M) := by
  unfold call
  rw [call_of t__law_in rfl]
  simp_arith [b__law_in, h]
  rw [compL_map (g := fun p => .bool (decide (p ∈ b))) (h := by intro p _; simp_arith [])]
  simp_arith []
  rfl
theorem f_law_least (L : List Lot) (h : L.length ≤ lim) (h2 : ∀ l ∈ L, l.length ≤ lim) : call (n + 2) "_law_least" [.d (.list (L.map lotD))] M = some (.d (.list ((L.filter (minB L)).map lotD)), M) := by
  unfold call
  rw [call_of t__law_least rfl]
  simp_arith [b__law_least, h]
  rw [compL_filter (c := minB L) (g := lotD) (h := by
    intro lot hlot
    simp_arith [h]
    rw [compL_map (g := fun o => .bool (!decide (o = lot) && inB o lot)) (h := by
      intro o ho
      by_cases e : o = lot
      · simp_arith [e]
      · simp_arith [e, f_law_in _ _ o lot (h2 o ho)])]
    simp_arith []
    rfl)]
  simp_arith []
theorem f_law_by_size (v : Val) (x : D) (L : List Lot) (hv : get M v = some x) (hx : items x = some (L.map lotD)) (h : L.length ≤ 1000) (h2 : (∀ l ∈ L, l ≠ []) ∨ L.length ≤ 1) : call (n + 1) "_law_by_size" [v] M = some (.d (lotsT (byN L)), M) := by
  unfold call
  rw [call_of t__law_by_size rfl]
  have hb : bysO bys none = true := by decide
  simp_arith [b__law_by_size, hb, hv, hx, sset_lots _ L h h2]
  rw [sortN_lots, byN_sorted]
  simp_arith []
theorem f_lots_of (i c : Nat) (hp : PotAt i c M) (hc : c + 31 ≤ 1000000) (m : Nat) (m1 : 1 ≤ m) (m2 : m ≤ 12) :
    Ok (call (n + 3) "_law_lots_of" [.ref i, .d (.int m)] M) fun r => ∃ (L : List Lot) (x : Cell), r = (.d (lotsT L), M.set i x) ∧ PotC (c + 31) x ∧ L.length ≤ 6 ∧ ∀ l ∈ L, Asc l ∧ l ≠ [] ∧ ∀ p ∈ l, 0 ≤ p ∧ p ≤ m - 1 := by
  unfold call
  rw [call_of t__law_lots_of rfl]
  have l0 : lim = 1000000 := rfl
  have hi := hp.lt
  have hp' : PotAt i c (M ++ [.lst []]) := hp.app
  simp_arith [b__law_lots_of]
  obtain ⟨_, eT, v, x, rfl, px, v0, v1⟩ := f_take (n + 1) _ i c hp' (by omega) 7 (by decide) (by decide)
  rw [set_old _ _ _ _ hi] at eT
  have v2 : v.natAbs ≤ lim := by omega
  simp_arith [eT, v2, rangeL_nums]
  refine for_ok (fun pre ρ M' => ∃ u L x, ρ = [some (.ref i), some (.d (.int m)), some (.ref M.length), u] ∧ M' = M.set i x ++ [.lst (L.map lotD)] ∧ PotC (c + 1 + pre.length * 5) x ∧ L.length = pre.length ∧ ∀ l ∈ L, Asc l ∧ l ≠ [] ∧ ∀ p ∈ l, 0 ≤ p ∧ p ≤ m - 1) ⟨_, [], x, rfl, rfl, px, rfl, nofun⟩ ?_ ?_
  · rintro a z b eF _ _ ⟨u, L, x, rfl, rfl, px, lL, hL⟩
    have la : a.length < 6 := by
      have h1 : (nums 0 v.toNat).length = a.length + (b.length + 1) := by rw [eF]; simp
      rw [nums_len] at h1
      omega
    have hlen : (M.set i x).length = M.length := List.length_set
    have m3 : ((m : Int)).natAbs ≤ lim := by omega
    have pa : PotAt i (c + 1 + a.length * 5) (M.set i x ++ [.lst (L.map lotD)]) := PotAt.app ⟨x, List.getElem?_set_self hi, px⟩
    simp_arith [m3, rangeL_nums]
    obtain ⟨_, eT2, w, x', rfl, px', w0, w1⟩ := f_take (n + 1) _ i _ pa (by omega) (if (m : Int) < 4 then (m : Int) else 4) (by split <;> omega) (by split <;> omega)
    rw [set_old _ _ _ _ (by rw [hlen]; exact hi), List.set_set] at eT2
    have hlen' : (M.set i x').length = M.length := List.length_set
    have pa' : PotAt i (c + 1 + a.length * 5 + 1) (M.set i x' ++ [.lst (L.map lotD)]) := PotAt.app ⟨x', List.getElem?_set_self hi, px'⟩
    have hw : ∃ k : Nat, (1 + w : Int) = k ∧ 1 ≤ k ∧ k ≤ m ∧ k ≤ 4 := ⟨(1 + w).toNat, by omega, by omega, by split at w1 <;> omega, by split at w1 <;> omega⟩
    obtain ⟨k, ek, k1, k2, k4⟩ := hw
    simp_arith [eT2, ek]
    obtain ⟨_, eS, ys, rest, x'', rfl, px'', pm, ly⟩ := (f_some n _ PyData.int i _ pa' (.list ((nums 0 (m : Int).toNat).map .int)) (nums 0 m) k rfl (by rw [nums_len]; omega) (by rw [nums_len]; exact k2) (by omega))
    rw [set_old _ _ _ _ (by rw [hlen']; exact hi), List.set_set] at eS
    have hlen'' : (M.set i x'').length = M.length := List.length_set
    have hnd : (ys ++ rest).Nodup := pm.symm.nodup (nums_nodup 0 m)
    have hmem : ∀ p ∈ ys, 0 ≤ p ∧ p ≤ m - 1 := fun p hp => by
      have := nums_mem.mp (pm.mem_iff.mp (List.mem_append_left _ hp))
      omega
    simp_arith [eS, sortD_ints]
    have es : PyData.tuple ((srt ys).map .int) = lotD (srt ys) := rfl
    rw [es, app_new' _ _ _ _ _ hlen''.symm, if_pos (by rw [List.length_map]; omega)]
    simp_arith []
    refine ⟨_, L ++ [srt ys], x'', rfl, by simp, ?_, by simp [lL], fun l hl => ?_⟩
    · refine px''.mono ?_
      simp only [List.length_append, List.length_singleton]
      omega
    · rcases List.mem_append.mp hl with q | q
      · exact hL l q
      · rw [List.mem_singleton.mp q]
        refine ⟨srt_asc (List.nodup_append.mp hnd).1, fun e => ?_, fun p hp => hmem p (srt_mem.mp hp)⟩
        have : (srt ys).length = ys.length := List.length_mergeSort _
        rw [e] at this
        simp at this
        omega
  · rintro _ _ ⟨u, L, x, rfl, rfl, px, lL, hL⟩
    have hlen : (M.set i x).length = M.length := List.length_set
    have h2 := get_new (M.set i x) (L.map lotD) []
    rw [hlen] at h2
    simp_arith [h2]
    rw [nums_len] at px lL
    exact ⟨L, x, rfl, px.mono (by omega), by omega, hL⟩
end Mi.K52
set_option maxHeartbeats 4000000
/-! W8: the law's asking. -/
namespace Mi
open PySem
theorem good_of {A : List Lot} {m k : Int} (m0 : 0 ≤ m) (m40 : m ≤ 40) (hk : k ≤ 6) (len : A.length ≤ 400) (ok : ∀ l ∈ A, Asc l ∧ ∀ p ∈ l, 0 ≤ p ∧ p ≤ m - 1) (ne : (∀ l ∈ A, l ≠ []) ∨ A.length ≤ 1) (two : ∀ l ∈ A, (∀ p ∈ l, 0 ≤ p ∧ p < k) ∨ ∀ p ∈ l, k ≤ p ∧ p < 2 * k) : K52.Good A m := by
  refine ⟨m0, m40, len, ok, ne, fun P R e => ?_⟩
  have hs := (leastF_ok fun l hl => (ok l hl).1).1.sub
  have hP : ∀ l ∈ P, l ∈ A := fun l hl => hs l (by rw [e]; exact List.mem_append_left _ hl)
  exact few400 hk (fun l hl => (ok l (hP l hl)).1.nodup) (fun l hl => two l (hP l hl)) (fam_all fun l hl => (ok l (hP l hl)).1.nodup)
theorem good_in {A : List Lot} {m k : Int} (h : In m A) (h0 : 0 ≤ m) (h6 : m ≤ 6) (len : A.length ≤ 400) (hk : m ≤ k) (k40 : k ≤ 40) : K52.Good A k :=
  good_of (k := m) (by omega) k40 h6 len (fun l hl => ⟨(h l hl).1, fun p hp => by have := (h l hl).2.2 p hp; omega⟩) (.inl fun l hl => (h l hl).2.1) fun l hl => .inl fun p hp => by have := (h l hl).2.2 p hp; omega
theorem good_due {A : List Lot} {m : Int} (h : In m A) (h0 : 0 ≤ m) (h6 : m ≤ 6) : K52.Good (crossF A) m := by
  have c := cross_ok h.asc
  have pr : ∀ t ∈ crossF A, ∀ p ∈ t, 0 ≤ p ∧ p ≤ m - 1 := fun t ht p hp => by
    obtain ⟨l, hl, hpl⟩ := minT_part ((c.mem t).mp ht) hp
    exact (h l hl).2.2 p hpl
  refine good_of (k := m) h0 (by omega) h6 (Nat.le_trans (few20 h6 h) (by decide)) (fun t ht => ⟨((c.mem t).mp ht).asc, pr t ht⟩) ?_ fun t ht => .inl fun p hp => by have := pr t ht p hp; omega
  by_cases e : A = []
  · right
    rw [e, cross_nil]
    decide
  · left
    exact fun t ht => minT_nonempty ((c.mem t).mp ht) e
theorem good_far {A B : List Lot} {m : Int} (ha : In m A) (hb : In m B) (h0 : 0 ≤ m) (h6 : m ≤ 6) (len : A.length + B.length ≤ 400) : K52.Good (A ++ B.map (shift m)) (2 * m) := by
  have hf := far_lo hb
  refine good_of (k := m) (by omega) (by omega) h6 (by simpa using len) (fun l hl => ⟨beside_asc ha hb l hl, fun p hp => ?_⟩) (.inl fun l hl => ?_) fun l hl => ?_
  · rcases List.mem_append.mp hl with z | z
    · have := (ha l z).2.2 p hp; omega
    · have := (hf l z).2.2 p hp; omega
  · exact (List.mem_append.mp hl).elim (fun z => (ha l z).2.1) fun z => (hf l z).2.1
  · rcases List.mem_append.mp hl with z | z
    · exact .inl fun p hp => by have := (ha l z).2.2 p hp; omega
    · exact .inr fun p hp => by have := (hf l z).2.2 p hp; omega
theorem ends_snoc (m : Int) (a B : List Lot) (t : Lot) : endsOf m (a ++ [t]) B = endsOf m a B ++ B.map fun o => t ++ shift m o := by
  unfold endsOf
  rw [List.flatMap_append, List.flatMap_cons, List.flatMap_nil, List.append_nil]
theorem mine_snoc (a B : List Lot) (t : Lot) : mineOf (a ++ [t]) B = mineOf a B ++ B.map fun o => asc (t ++ o) := by
  unfold mineOf
  rw [List.flatMap_append, List.flatMap_cons, List.flatMap_nil, List.append_nil]
theorem sset_lot (l : Lot) (h : l.length ≤ 1000) (M : MH) : (if setOk (lotD l) (l.map .int) = true then (sortD (onceD (l.map .int))).map fun ys => (Val.d (.list ys), M) else none) = some (.d (.list ((asc l).map .int)), M) := sset_ints (l.map .int) l h M
/-- what is put together has a part, or stands alone -/
theorem pair_ne {A B F : List Lot} {m : Int} (hA : In m A) (hB : In m B) (hF : ∀ u ∈ F, ∃ a, MinT A a ∧ ∃ b, MinT B b ∧ a.length ≤ u.length ∧ b.length ≤ u.length) (h1 : A = [] → B = [] → F.length ≤ 1) : (∀ l ∈ F, l ≠ []) ∨ F.length ≤ 1 := by
  by_cases c : A = [] ∧ B = []
  · exact .inr (h1 c.1 c.2)
  · left
    intro u hu e
    obtain ⟨a, ma, b, mb, l1, l2⟩ := hF u hu
    rw [e] at l1 l2
    have za : a = [] := List.eq_nil_of_length_eq_zero (by simpa using l1)
    have zb : b = [] := List.eq_nil_of_length_eq_zero (by simpa using l2)
    refine c ⟨Classical.byContradiction fun n => minT_nonempty ma n za, Classical.byContradiction fun n => minT_nonempty mb n zb⟩
theorem fewest_both {A B : List Lot} {m : Int} (hA : In m A) (hB : In m B) {t0 s0 u0 : Lot} (mt : MinT A t0) (min : ∀ s, MinT A s → t0.length ≤ s.length) (ms : MinT B s0) (mis : ∀ s, MinT B s → s0.length ≤ s.length)
    (mu : MinT (A ++ B.map (shift m)) u0) (miu : ∀ s, MinT (A ++ B.map (shift m)) s → u0.length ≤ s.length) : (u0.length : Int) = t0.length + s0.length := by
  obtain ⟨a, ha, b, hb, e⟩ := (beside_iff hA hB u0).mp mu
  have h1 := min a ha
  have h2 := mis b hb
  have h3 := miu _ ((beside_iff hA hB _).mpr ⟨t0, mt, s0, ms, rfl⟩)
  have h4 : (shift m b).length = b.length := List.length_map _
  have h5 : (shift m s0).length = s0.length := List.length_map _
  rw [List.length_append] at h3
  have h6 : u0.length = a.length + b.length := by rw [e, List.length_append, h4]
  omega
end Mi
namespace Mi.K52
open PySem
local macro_rules | `(tactic| simp_arith [$as,*] $[$l:location]?) => `(tactic| simp only [startE, List.map_cons, List.map_nil, List.cons_append, List.nil_append, List.length_cons, List.length_nil, List.length_map, List.replicate_succ, List.replicate_zero, Nat.reduceSub, Nat.reduceAdd, Nat.zero_add, Nat.reduceLT, Nat.reduceLeDiff, Nat.reduceEqDiff, List.getElem?_cons_zero, List.getElem?_cons_succ, List.set_cons_zero, List.set_cons_succ, List.zip_cons_cons, List.zip_nil_left, List.zip_nil_right, List.foldl_cons, List.foldl_nil, List.take_length, List.take_left', Option.bind_some, Option.map_some, Option.bind_none, Option.map_none, reduceIte, Bool.false_eq_true, if_true, if_false, Bool.not_true, Bool.not_false, decide_eq_true_eq, decide_true, decide_false, eq_self, and_self, and_true, true_and, Bool.and_true, Bool.true_and, Bool.and_false, Bool.false_and, Bool.or_true, Bool.true_or, Bool.or_false, Bool.false_or, not_true_eq_false, not_false_eq_true, ite_andB, ite_orB, Bool.decide_eq_true, zero_lim, one_lim, two_lim, three_lim, lim_4, lim_5, lim_6, lim_7, lim_8, lim_9, lim_10, lim_11, lim_12, lim_13, lim_14, lim_15, lim_16, take_set, take_set_app, List.append_nil, Option.bind_assoc, Option.bind_map, Option.map_bind, Option.map_map, Function.comp_def,
  kVar_s, v_var, v_cst, kGlob_s, v_glob, kBin2_s, kBin1_s, v_bin, kNeg_s, v_neg, kCmp2_s, kCmp1_s, v_cmp, kCh4_s, kCh3_s, kCh2_s, kCh1_s, v_chain, kIsN_s, v_isN, kNotN_s, v_notN, kB_s, kAnd_s, v_and, kOr_s, v_or, kNot_s, v_not, kIte_s, v_ite, kTup_s, kLst_s, v_tup, v_lst, kSub2_s, kSub1_s, v_sub, kSlc3_s, kSlc2_s, kSlc1_s, v_slc, kRev_s, v_rev, kCall_s, v_call, kNew_s, v_new_lst, v_new_blt, v_new_srt, v_new_add, v_new_comp, v_new_slc, v_new_srtk, kSS_s, v_sset, v_trng, v_lrng, kB1_s, v_blt1, kB2b_s, kB2a_s, v_blt2, kSrt_s, v_srt, kIsi_s, v_isi, kT3_s, kT2_s, kT1_s, turn_is, kComp_s, v_comp, kPop2_s, kPop1_s, v_pop, kA2_s, kA1_s, vs_nil, vs_cons, kD2_s, kD1_s, vd_nil, vd_cons, kSt2_s, kSt1'_s, kSt1_s, vd_star, kO_s, vo_nil, vo_cons, kC_s, vc_nil, vc_cons, kR1_s, vr_one, kR2b_s, kR2a_s, vr_two, kI_s, vi_val, kZ2_s, kZ1_s, vi_zip, vi_rng, kTst_s, vT, kAsg_s, w_asg, kPar_s, w_par, kSet3_s, kSet2_s, kSet1_s, w_setI, kApp2_s, kApp1_s, w_app, kExt2_s, kExt1_s, w_ext, kExp_s, w_exp, kRet_s, w_ret, kIf_s, w_ifs, kLap_s, lap_is, kFor_s, w_for, w_while, w_pass, ws_nil, sq_nx, sq_rt, ws_cons, kEnd_rt, kEnd_nx,
  revD_tup, revD_lst, bltW_sorted, bltW_len, bltW_all, bltW_any, bltW_sum, bltW_max, bltW_min, bltW_tuple, bltW_list, bltW_int, bltW_abs, isRS_var, isRS_cst, isRS_glob, isRS_bin, isRS_cmp, isRS_chain, isRS_isN, isRS_notN, isRS_and, isRS_or, isRS_not, isRS_ite, isRS_tup, isRS_lst, isRS_sub, isRS_slc, isRS_rev, isRS_call, isRS_blt, isRS_srt, isRS_isi, isRS_neg, isRS_new, isRS_zip, isRS_comp, isRS_pop, popVV_ok, rng2_int, setVV_ok, appVV_ok, extVV_ok, hand_d, hand_new, get_d, get_scr, getT_d, get_new, getT_new, app_new, ext_new, items_tup, items_lst, itemsV_d, bind1_one, bind1_many, wipe_nil, wipe_cons, store_nil, store_cons, zipV_tup, zipV_lst, ok_some, ok_sq, then_nx, then_rt, ok_end, fin_rt, fin_nx, nx_nx, nx_rt,
  items_lot, cop_lt, cop_le, cop_gt, cop_ge, cop_eq_int, cop_ne_int, cop_eq_lot, cop_ne_lot, cop_ne_nilL, cop_eq_nilL, cop_ne_nilT, cop_eq_nilT, cop_in_lot, cop_in_intT, cop_in_intL, cop_in_lotT, cop_in_lotL, cop_ne_lotsT, cop_eq_lotsT, bop_add, bop_sub, b_lenT, b_lenL, b_len_lot, b_tupL, b_tupT, b_lstL, b_lstT, b_lst_lot, b_tup_lot, b_int, b_intb, b_abs, b_all, b_any, b_allm, b_anym, b_sum, b_max2, b_min2, isTy_int, isTy_bool, isTy_tup, isTy_lot, $as,*] $[$l:location]?)
variable (n : Nat) (M : MH)
theorem tup_asc (l : Lot) : PyData.tuple ((asc l).map .int) = lotD (asc l) := rfl
theorem add_one (a : Lot) (v : Int) (h : a.length + 1 ≤ lim) : bop .add (lotD a) (.tuple [.int v]) = some (.tuple ((a ++ [v]).map .int)) := by
  unfold lotD
  rw [bop_addT _ _ (by simpa using h), List.map_append]
  rfl
theorem add_lot (a b : Lot) (h : a.length + b.length ≤ lim) : bop .add (lotD a) (lotD b) = some (lotD (a ++ b)) := by
  unfold lotD
  rw [bop_addT _ _ (by simpa using h), List.map_append]
theorem add_lotsT (A B : List Lot) (h : A.length + B.length ≤ lim) : bop .add (lotsT A) (lotsT B) = some (lotsT (A ++ B)) := by
  rw [bop_addT _ _ (by simpa using h), ← List.map_append]
theorem tup_shift (m : Int) (l : Lot) : PyData.tuple (l.map fun p => .int (p + m)) = lotD (shift m l) := by
  unfold lotD shift
  rw [List.map_map]
  rfl
theorem minT_alone {L : List Lot} {t : Lot} (h : MinT L t) : ((L.all fun l => meetB t l) && t.all fun p => aloneB t p L) = true := by
  rw [Bool.and_eq_true, List.all_eq_true, List.all_eq_true]
  refine ⟨fun l hl => meetB_iff.mpr (h.hit l hl), fun p hp => ?_⟩
  obtain ⟨l, hl, h1, h2⟩ := h.own p hp
  unfold aloneB
  refine List.any_eq_true.mpr ⟨l, hl, ?_⟩
  rw [decide_eq_true h1, Bool.true_and, Bool.not_eq_true', List.any_eq_false]
  intro q hq
  obtain ⟨q1, q2⟩ := List.mem_filter.mp hq
  intro z
  have := h2 q q1 (of_decide_eq_true z)
  simp [this] at q2
theorem minT_ok {m : Int} {L : List Lot} (hL : In m L) {t : Lot} (h : MinT L t) : Asc t ∧ ∀ p ∈ t, 0 ≤ p ∧ p ≤ m - 1 := ⟨h.asc, fun p hp => by
  obtain ⟨l, hl, hpl⟩ := minT_part h hp
  exact (hL l hl).2.2 p hpl⟩
theorem f_right (i c : Nat) (hp : PotAt i c M) (hc : c + 100 ≤ 1000000) : Ok (call (n + 8) "_law_right" [.ref i] M) fun r => ∃ x, r = (.d (.bool true), M.set i x) ∧ PotC (c + 100) x := by
  unfold call
  rw [call_of t__law_right rfl]
  have l0 : lim = 1000000 := rfl
  have hi := hp.lt
  have at_ : ∀ {x : Cell} {d : Nat}, PotC d x → PotAt i d (M.set i x) := fun px => ⟨_, List.getElem?_set_self hi, px⟩
  obtain ⟨_, eT, v, x, rfl, px, v0, v1⟩ := f_take (n + 6) _ i c hp (by omega) 6 (by decide) (by decide)
  obtain ⟨m, em, m1, m6⟩ : ∃ m : Nat, (1 + v : Int) = m ∧ 1 ≤ m ∧ m ≤ 6 := ⟨(1 + v).toNat, by omega, by omega, by omega⟩
  obtain ⟨_, eA, A, x2, rfl, px, lA, hA⟩ := f_lots_of (n + 4) _ i _ (at_ px) (by omega) m m1 (by omega)
  rw [List.set_set] at eA
  obtain ⟨_, eB, B, x3, rfl, px, lB, hB⟩ := f_lots_of (n + 4) _ i _ (at_ px) (by omega) m m1 (by omega)
  rw [List.set_set] at eB
  have hA : In m A := hA
  have hB : In m B := hB
  have m0 : (0 : Int) ≤ m := by omega
  have m6' : (m : Int) ≤ 6 := by omega
  have gA : Good A m := good_in hA m0 m6' (by omega) (Int.le_refl _) (by omega)
  have e2 : (2 * (A.length : Int)) = ((2 * A.length : Nat) : Int) := by omega
  simp_arith [b__law_right, eT, em, eA, eB, f_crossing _ _ gA, add_lotsT A A (by omega), mul_l 2 _ (show (2 : Int).natAbs < 18446744073709551616 by decide), e2]
  obtain ⟨_, eS, Y, rest, x4, rfl, px, pY, lY⟩ := f_some (n + 5) _ lotD i _ (at_ px) (.list ((A ++ A).map lotD)) (A ++ A) (2 * A.length) rfl (by simp; omega) (by simp; omega) (by omega)
  rw [List.set_set] at eS
  have hrest : rest = [] := by
    have := pY.length_eq
    simp at this
    exact List.eq_nil_of_length_eq_zero (by omega)
  rw [hrest, List.append_nil] at pY
  have mY : ∀ l, l ∈ Y ↔ l ∈ A := fun l => by rw [pY.mem_iff]; simp
  have hY : In m Y := fun l hl => hA l ((mY l).mp hl)
  have gY : Good Y m := good_in hY m0 m6' (by omega) (Int.le_refl _) (by omega)
  have cY : crossF Y = crossF A := cross_congr hY.asc mY
  have hl1 : A.length ≤ lim := by omega
  simp_arith [eS, f_crossing _ _ gY, cY, hl1]
  refine ok_k (k := kAsg _ _) rfl (ok_k (k := kB1 _) rfl (ok_k (k := kLst) rfl ?_))
  refine comp_ok (fun pre ys M' => ∃ (W : List Lot) (x : Cell), ys = W.map lotD ∧ M' = M.set i x ∧ PotC (c + 75 + pre.length) x ∧ W.length = pre.length ∧ ∀ w ∈ W, (Asc w ∧ w ≠ [] ∧ ∀ p ∈ w, 0 ≤ p ∧ p ≤ m - 1) ∧ ∃ a ∈ A, inB a w = true) ⟨[], x4, rfl, rfl, px.mono (by simp; omega), rfl, nofun⟩ ?_ ?_
  · rintro a l b eF ys _ ⟨W, x5, rfl, rfl, px, lW, hW⟩
    have hl : l ∈ A := by rw [eF]; simp
    have la : a.length < 6 := by
      have : A.length = a.length + (b.length + 1) := by rw [eF]; simp
      omega
    obtain ⟨_, eT, v, x6, rfl, px, v0, v1⟩ := f_take (n + 6) _ i _ (at_ px) (by omega) m (by omega) (by omega)
    rw [List.set_set] at eT
    have hll : l.length ≤ 40 := gA.short l hl
    simp_arith [eT, add_one l v (by omega)]
    have hs := sset_ints ((l ++ [v]).map .int) (l ++ [v]) (by simp; omega) (M.set i x6)
    simp_arith [hs, tup_asc]
    refine ⟨W ++ [asc (l ++ [v])], x6, by simp, rfl, by simpa [Nat.add_assoc] using px, by simp [lW], fun w hw => ?_⟩
    rcases List.mem_append.mp hw with z | z
    · exact hW w z
    · rw [List.mem_singleton.mp z]
      obtain ⟨q1, q2, q3⟩ := hA l hl
      refine ⟨⟨asc_asc _, fun e => ?_, fun p hp => ?_⟩, l, hl, inB_iff.mpr fun p hp => asc_mem.mpr (List.mem_append_left _ hp)⟩
      · have : v ∈ asc (l ++ [v]) := asc_mem.mpr (by simp)
        rw [e] at this
        cases this
      · rcases List.mem_append.mp (asc_mem.mp hp) with z | z
        · exact q3 p z
        · rw [List.mem_singleton.mp z]; omega
  rintro _ _ ⟨W, x5, rfl, rfl, px, lW, hW⟩
  have hWi : In m W := fun w hw => (hW w hw).1
  have gW : Good (A ++ W) m := good_in (hA.app hWi) m0 m6' (by rw [List.length_append]; omega) (Int.le_refl _) (by omega)
  have gA3 : Good A (m + 3) := good_in hA m0 m6' (by omega) (by omega) (by omega)
  have cW : crossF (A ++ W) = crossF A := cross_wide hA.asc hWi.asc fun w hw => (hW w hw).2
  have lX := few20 m6' hA
  have hl2 : (crossF A).length ≤ lim := by omega
  simp_arith [f_crossing _ _ gW, add_lotsT A W (by omega), cW, f_crossing _ _ gA3, hl2]
  have mA : ∀ t ∈ crossF A, MinT A t := fun t ht => (cross_mem hA.asc t).mp ht
  rw [compL_map (g := fun _ => .bool true) (h := by
    intro t ht
    have mt := mA t ht
    have ha := minT_alone mt
    rw [Bool.and_eq_true] at ha
    simp_arith [f_is_least_crossing _ _ gA t (minT_ok hA mt), f_does_cross _ _ gA t (minT_ok hA mt), ha.1, ha.2])]
  have gD : Good (crossF A) m := good_due hA m0 m6'
  have hall : ((crossF A).all fun _ => true) = true := by simp
  obtain ⟨t0, ht0, mt0, min0⟩ := cross_head (L := A) fun l hl => ⟨(hA l hl).1, (hA l hl).2.1⟩
  have lF := gA.leastLen
  obtain ⟨kA, nuA, _⟩ := f_apart_lots n M gA (by omega)
  have hkA : ¬ ((t0.length : Int) < kA) := by have := due_apart hA.asc mt0 nuA; omega
  have lN : (byN A).length ≤ 6 := Nat.le_trans (nd_len (byN_srt A).nodup fun x hx => byN_mem.mp hx) lA
  have lN2 : (byN A).length ≤ lim := by omega
  have sN : ∀ l ∈ byN A, l.length ≤ lim := fun l hl => by have := gA.short l (byN_mem.mp hl); omega
  have hBS : call (n + 7) "_law_by_size" [.d (lotsT A)] (M.set i x5) = some (.d (lotsT (byN A)), M.set i x5) := f_law_by_size (n + 6) _ _ _ A rfl rfl (by omega) (.inl fun l hl => (hA l hl).2.1)
  simp_arith [hall, hBS, f_law_least _ _ (byN A) lN2 sN, core_least hA.asc, f_crossing _ _ gD, twice_core hA.asc, f_fewest_crossing _ _ gA t0 ht0, sub_zero _ _ _ _ ht0, f_apart_nu _ _ gA (by omega) nuA, hkA, hl2]
  rw [compL_map (g := fun _ => .bool false) (h := by
    intro t ht
    have := due_short hA.asc (mA t ht)
    have h9 : ¬ (((leastF A).length : Int) < (t.length : Int)) := by omega
    simp_arith [h9])]
  have hany : ((crossF A).any fun _ => false) = false := by simp
  have hl3 : B.length ≤ lim := by omega
  simp_arith [hany, hl3]
  have shB : ∀ l ∈ B, l.length ≤ lim := fun l hl => by
    have := asc_len (hB l hl).1 (hB l hl).2.2 (by omega)
    omega
  rw [compL_map (g := fun l => lotD (shift m l)) (h := by
    intro l hl
    simp_arith [shB l hl]
    rw [compL_map (g := fun p => .int (p + m)) (h := by intro p hp; simp_arith [])]
    simp_arith [tup_shift])]
  have gB : Good B m := good_in hB m0 m6' (by omega) (Int.le_refl _) (by omega)
  have eF : PyData.tuple (B.map fun l => lotD (shift m l)) = lotsT (B.map (shift m)) := by
    rw [lotsT, List.map_map]
    rfl
  simp_arith [eF, f_crossing _ _ gB, hl2]
  have hlen : (M.set i x5).length = M.length := List.length_set
  have mB : ∀ t ∈ crossF B, MinT B t := fun t ht => (cross_mem hB.asc t).mp ht
  have lY2 := few20 m6' hB
  have hl4 : (crossF B).length ≤ lim := by omega
  have rDue : ∀ t ∈ crossF A, t.length ≤ 40 := gD.short
  have rThe : ∀ t ∈ crossF B, t.length ≤ 40 := (good_due hB m0 m6').short
  rw [hlen]
  refine for_ok (fun pre ρ M' => ∃ u, ρ = [some (.ref i), some (.d (.int m)), some (.d (lotsT A)), some (.d (lotsT B)), some (.d (lotsT (crossF A))), some (.d (lotsT W)), some (.d (lotsT (leastF A))), some (.d (lotsT (B.map (shift m)))), some (.ref M.length), some (.d (lotsT (crossF B))), u, none, none, none, none, none] ∧ M' = M.set i x5 ++ [.lst ((endsOf m pre (crossF B)).map lotD)]) ⟨_, rfl, rfl⟩ ?_ ?_
  · rintro a t b eFa _ _ ⟨u, rfl, rfl⟩
    have ht : t ∈ crossF A := by rw [eFa]; simp
    have la : (endsOf m a (crossF B)).length ≤ 400 := by
      refine Nat.le_trans (flat_len (k := 20) fun y hy => by rw [List.length_map]; exact lY2) ?_
      have : a.length ≤ (crossF A).length := by rw [eFa]; simp
      omega
    simp_arith [hl4]
    rw [compL_map (g := fun o => lotD (t ++ shift m o)) (h := by
      intro o ho
      have k1 := rDue t ht
      have k2 := rThe o ho
      have k3 : o.length ≤ lim := by omega
      simp_arith [k3]
      rw [compL_map (g := fun p => .int (p + m)) (h := by intro p hp; simp_arith [])]
      simp_arith [tup_shift, add_lot t (shift m o) (by simp [shift]; omega)])]
    simp_arith [ext_new' _ _ _ _ _ hlen.symm]
    rw [if_pos (by omega)]
    simp_arith []
    refine ⟨_, rfl, ?_⟩
    rw [ends_snoc, List.map_append, List.map_map]
    rfl
  rintro _ _ ⟨u, rfl, rfl⟩
  have gF : Good (A ++ B.map (shift m)) (2 * m) := good_far hA hB m0 m6' (by omega)
  have hE : (endsOf m (crossF A) (crossF B)).length ≤ 400 := by
    refine Nat.le_trans (flat_len (k := 20) fun y hy => by rw [List.length_map]; exact lY2) ?_
    omega
  have hEn := pair_ne hA hB (F := endsOf m (crossF A) (crossF B)) (fun u hu => by
    obtain ⟨a, ha, b, hb, e⟩ := ends_mem.mp hu
    refine ⟨a, mA a ha, b, mB b hb, by rw [e]; simp, by rw [e]; simp [shift]⟩) fun e1 e2 => by
      rw [e1, e2, cross_nil]
      simp [endsOf]
  have hBS2 := f_law_by_size (n + 6) (M.set i x5 ++ [.lst ((endsOf m (crossF A) (crossF B)).map lotD)]) (.ref M.length) _ (endsOf m (crossF A) (crossF B)) (get_new' _ _ _ _ hlen.symm) rfl (by omega) hEn
  obtain ⟨s0, hs0, ms0, mis0⟩ := cross_head (L := B) fun l hl => ⟨(hB l hl).1, (hB l hl).2.1⟩
  obtain ⟨u0, hu0, mu0, miu0⟩ := cross_head (L := A ++ B.map (shift m)) fun l hl => (List.mem_append.mp hl).elim (fun z => ⟨(hA l z).1, (hA l z).2.1⟩) fun z => ⟨(far_lo hB l z).1, (far_lo hB l z).2.1⟩
  have eu := fewest_both hA hB mt0 min0 ms0 mis0 mu0 miu0
  have lFB := gB.leastLen
  have lFF := gF.leastLen
  rw [List.length_append, List.length_map] at lFF
  obtain ⟨kB, nuB, _⟩ := f_apart_lots n M gB (by omega)
  have nuF := nu_all hA hB nuA nuB
  have ek : (((kA + kB : Nat) : Int)) = (kA : Int) + (kB : Int) := by omega
  simp_arith [add_lotsT A (B.map (shift m)) (by simp; omega), mul_l 2 _ (show (2 : Int).natAbs < 18446744073709551616 by decide), f_crossing _ _ gF, cross_beside hA hB, hBS2, f_fewest_crossing _ _ gF u0 hu0, sub_zero _ _ _ _ ht0, sub_zero _ _ _ _ hs0, eu,
    f_apart_nu _ _ gA (by omega) nuA, f_apart_nu _ _ gB (by omega) nuB, f_apart_nu _ _ gF (by omega) nuF, ek, List.length_append, hlen, List.append_assoc, hl2]
  refine for_ok (fun pre ρ M' => ∃ u, ρ = [some (.ref i), some (.d (.int m)), some (.d (lotsT A)), some (.d (lotsT B)), some (.d (lotsT (crossF A))), some (.d (lotsT W)), some (.d (lotsT (leastF A))), some (.d (lotsT (B.map (shift m)))), some (.ref M.length), some (.d (lotsT (crossF B))), u, some (.ref (M.length + 1)), none, none, none, none] ∧ M' = M.set i x5 ++ [.lst ((endsOf m (crossF A) (crossF B)).map lotD), .lst ((mineOf pre (crossF B)).map lotD)]) ⟨_, rfl, rfl⟩ ?_ ?_
  · rintro a t b eFa _ _ ⟨u, rfl, rfl⟩
    have ht : t ∈ crossF A := by rw [eFa]; simp
    have la : (mineOf a (crossF B)).length ≤ 400 := by
      refine Nat.le_trans (flat_len (k := 20) fun y hy => by rw [List.length_map]; exact lY2) ?_
      have : a.length ≤ (crossF A).length := by rw [eFa]; simp
      omega
    simp_arith [hl4]
    rw [compL_map (g := fun o => lotD (asc (t ++ o))) (h := by
      intro o ho
      have k1 := rDue t ht
      have k2 := rThe o ho
      simp_arith [add_lot t o (by omega), sset_lot (t ++ o) (by rw [List.length_append]; omega), tup_asc])]
    simp_arith [ext_new2' _ _ _ _ _ _ hlen.symm]
    rw [if_pos (by omega)]
    simp_arith []
    refine ⟨_, rfl, ?_⟩
    rw [mine_snoc, List.map_append, List.map_map]
    rfl
  rintro _ _ ⟨u, rfl, rfl⟩
  have hMi : (mineOf (crossF A) (crossF B)).length ≤ 400 := by
    refine Nat.le_trans (flat_len (k := 20) fun y hy => by rw [List.length_map]; exact lY2) ?_
    omega
  have hMn := pair_ne hA hB (F := mineOf (crossF A) (crossF B)) (fun u hu => by
    obtain ⟨a, ha, b, hb, e⟩ := mine_mem.mp hu
    refine ⟨a, mA a ha, b, mB b hb, ?_, ?_⟩
    · rw [e]
      exact nd_len (mA a ha).asc.nodup fun p hp => union_mem.mpr (.inl hp)
    · rw [e]
      exact nd_len (mB b hb).asc.nodup fun p hp => union_mem.mpr (.inr hp)) fun e1 e2 => by
      rw [e1, e2, cross_nil]
      simp [mineOf]
  have hBS3 := f_law_by_size (n + 6) (M.set i x5 ++ [.lst ((endsOf m (crossF A) (crossF B)).map lotD), .lst ((mineOf (crossF A) (crossF B)).map lotD)]) (.ref (M.length + 1)) _ (mineOf (crossF A) (crossF B)) (get_new2' _ _ _ _ _ hlen.symm) rfl (by omega) hMn
  have lNM : (byN (mineOf (crossF A) (crossF B))).length ≤ 400 := Nat.le_trans (nd_len (byN_srt _).nodup fun x hx => byN_mem.mp hx) hMi
  have sNM : ∀ l ∈ byN (mineOf (crossF A) (crossF B)), l.length ≤ lim := fun l hl => by
    obtain ⟨a, ha, b, hb, e⟩ := mine_mem.mp (byN_mem.mp hl)
    have k1 := rDue a ha
    have k2 := rThe b hb
    have : l.length ≤ (a ++ b).length := by
      rw [e]
      exact nd_len (asc_asc _).nodup fun p hp => asc_mem.mp hp
    rw [List.length_append] at this
    omega
  have gAB : Good (A ++ B) m := good_in (hA.app hB) m0 m6' (by rw [List.length_append]; omega) (Int.le_refl _) (by omega)
  obtain ⟨_, eN, v, x6, rfl, px, v0, v1⟩ := f_take (n + 6) (M.set i x5 ++ [.lst ((endsOf m (crossF A) (crossF B)).map lotD), .lst ((mineOf (crossF A) (crossF B)).map lotD)]) i _ (at_ px).app (by omega) (m + 1) (by omega) (by omega)
  rw [set_old _ _ _ _ (by rw [hlen]; exact hi), List.set_set] at eN
  have lNM2 : (byN (mineOf (crossF A) (crossF B))).length ≤ lim := by omega
  simp_arith [add_lotsT A B (by omega), f_crossing _ _ gAB, cross_both hA.asc hB.asc, hBS3, f_law_least _ _ _ lNM2 sNM, eN, f_cut_short _ _ gA v v0 (by omega), hl2]
  rw [compL_filter (c := fun t => decide ((t.length : Int) ≤ v)) (g := lotD) (h := by intro q hq; simp_arith [])]
  simp_arith []
  exact ⟨x6, rfl, px.mono (by omega)⟩
end Mi.K52
set_option maxHeartbeats 4000000
/-! W9: k52 whole. -/
namespace Mi
open PySem
theorem snocRec {α : Type} {motive : List α → Prop} (h0 : motive []) (h1 : ∀ P l, motive P → motive (P ++ [l])) (P : List α) : motive P := by
  have : ∀ n (P : List α), P.length = n → motive P := by
    intro n
    induction n with
    | zero => intro P h; rw [List.eq_nil_of_length_eq_zero h]; exact h0
    | succ n ih =>
      intro P h
      have hne : P ≠ [] := fun e => by rw [e] at h; cases h
      rw [← List.dropLast_concat_getLast hne]
      exact h1 _ _ (ih _ (by rw [List.length_dropLast]; omega))
  exact this _ P rfl
theorem moreOf_len {F : List Lot} {l : Lot} (h : ∀ t ∈ F, meetB t l = false) : (moreOf F l).length = F.length * l.length ∧ keptOf F l = [] := by
  have hk : keptOf F l = [] := by
    unfold keptOf
    rw [List.filter_eq_nil_iff]
    intro t ht
    simp [h t ht]
  refine ⟨?_, hk⟩
  unfold moreOf
  rw [hk]
  have e : ∀ G : List Lot, (∀ t ∈ G, meetB t l = false) → (G.flatMap fun t => if meetB t l = true then [] else newOf [] l t).length = G.length * l.length := by
    intro G
    induction G with
    | nil => intro _; simp
    | cons t G ih =>
      intro hG
      rw [List.flatMap_cons, List.length_append, ih fun t ht => hG t (List.mem_cons_of_mem _ ht), if_neg (by simp [hG t List.mem_cons_self]), List.length_cons, Nat.succ_mul]
      have : (newOf [] l t).length = l.length := by
        unfold newOf
        rw [List.filter_eq_self.mpr (by simp), List.length_map]
      omega
  exact e F h
theorem disj_count : ∀ (P : List Lot), P.Pairwise (fun a b => meetB a b = false) → (∀ l ∈ P, l.Nodup ∧ l.length = 2) → (P.foldl crossStep [[]]).length = 2 ^ P.length := by
  intro P
  refine snocRec (motive := fun P => P.Pairwise (fun a b => meetB a b = false) → (∀ l ∈ P, l.Nodup ∧ l.length = 2) → (P.foldl crossStep [[]]).length = 2 ^ P.length) ?_ ?_ P
  · intro _ _; rfl
  · intro P l ih hP hl
    obtain ⟨h1, _, h3⟩ := List.pairwise_append.mp hP
    have ih := ih h1 fun x hx => hl x (List.mem_append_left _ hx)
    rw [List.foldl_append, List.foldl_cons, List.foldl_nil]
    have fa := fam_all (L := P) fun x hx => (hl x (List.mem_append_left _ hx)).1
    obtain ⟨e1, e2⟩ := moreOf_len (F := P.foldl crossStep [[]]) (l := l) fun t ht => by
      cases z : meetB t l with
      | false => rfl
      | true =>
        obtain ⟨p, hp, hpl⟩ := meetB_iff.mp z
        obtain ⟨x, hx, hpx⟩ := minT_part ((fa.mem t).mp ht) hp
        have := h3 x hx l (by simp)
        rw [meetB_iff.mpr ⟨p, hpx, hpl⟩] at this
        cases this
    rw [show crossStep (P.foldl crossStep [[]]) l = keptOf (P.foldl crossStep [[]]) l ++ moreOf (P.foldl crossStep [[]]) l from rfl, e2, List.nil_append, e1, ih, (hl l (by simp)).2, List.length_append, List.length_singleton, Nat.pow_succ]
def pairs8 : List Lot := (nums 0 8).map fun a => [a, a + 8]
theorem p8_in : ∀ l ∈ pairs8, (Asc l ∧ ∀ p ∈ l, 0 ≤ p ∧ p ≤ 16 - 1) ∧ l ≠ [] ∧ l.Nodup ∧ l.length = 2 := by
  intro l hl
  obtain ⟨a, ha, rfl⟩ := List.mem_map.mp hl
  have := nums_mem.mp ha
  refine ⟨⟨?_, ?_⟩, by simp, ?_, rfl⟩
  · exact List.pairwise_cons.mpr ⟨fun y hy => by rw [List.mem_singleton.mp hy]; omega, List.pairwise_singleton _ _⟩
  · intro p hp
    simp at hp
    omega
  · simp
    omega
theorem p8_meet : ∀ a ∈ pairs8, ∀ b ∈ pairs8, a ≠ b → meetB a b = false := by
  intro a ha b hb ne
  obtain ⟨x, hx, rfl⟩ := List.mem_map.mp ha
  obtain ⟨y, hy, rfl⟩ := List.mem_map.mp hb
  have h1 := nums_mem.mp hx
  have h2 := nums_mem.mp hy
  cases z : meetB [x, x + 8] [y, y + 8] with
  | false => rfl
  | true =>
    obtain ⟨p, hp, hq⟩ := meetB_iff.mp z
    simp at hp hq
    have : x = y := by omega
    subst this
    exact absurd rfl ne
theorem p8_nodup : pairs8.Nodup := List.pairwise_map.mpr ((nums_nodup 0 8).imp fun h e => by simp at e; exact h e)
theorem p8_least (t : Lot) : t ∈ leastF pairs8 ↔ t ∈ pairs8 := by
  have h := leastF_ok fun l hl => (p8_in l hl).1.1
  rw [h.1.iff]
  refine ⟨fun z => z.1, fun z => ⟨z, fun l hl hi => ?_⟩⟩
  apply Classical.byContradiction
  intro ne
  have := p8_meet l hl t z ne
  obtain ⟨_, n, _⟩ := p8_in l hl
  cases l with
  | nil => exact n rfl
  | cons p r => rw [meetB_iff.mpr ⟨p, List.mem_cons_self, inB_iff.mp hi p List.mem_cons_self⟩] at this; cases this
theorem p8_len : (leastF pairs8).length = 8 := by
  have h := leastF_ok fun l hl => (p8_in l hl).1.1
  have h1 := nd_len h.2.nodup fun x hx => (p8_least x).mp hx
  have h2 := nd_len p8_nodup fun x hx => (p8_least x).mpr hx
  have : pairs8.length = 8 := by simp [pairs8, nums_len]
  omega
theorem p8_apart : Apart (leastF pairs8) := apart_mk (leastF_ok fun l hl => (p8_in l hl).1.1).2.nodup fun a ha b hb => p8_meet a ((p8_least a).mp ha) b ((p8_least b).mp hb)
theorem p8_count {P R : List Lot} (e : leastF pairs8 = P ++ R) : (P.foldl crossStep [[]]).length = 2 ^ P.length ∧ P.length ≤ 8 := by
  have ha := p8_apart
  unfold Apart at ha
  rw [e] at ha
  have hl := p8_len
  rw [e, List.length_append] at hl
  refine ⟨disj_count P (List.pairwise_append.mp ha).1 fun l hl => (p8_in l ((p8_least l).mp (by rw [e]; exact List.mem_append_left _ hl))).2.2, by omega⟩
theorem p8_good : K52.Good pairs8 16 := by
  refine ⟨by decide, by decide, by simp [pairs8, nums_len], fun l hl => (p8_in l hl).1, .inl fun l hl => (p8_in l hl).2.1, fun P R e => ?_⟩
  obtain ⟨h1, h2⟩ := p8_count e
  rw [h1]
  have := Nat.pow_le_pow_right (n := 2) (by decide) h2
  omega
theorem p8_256 : (crossF pairs8).length = 256 := by
  unfold crossF nsort
  rw [List.length_mergeSort, (p8_count (List.append_nil _).symm).1, p8_len]
theorem p8_nu : Nu (leastF pairs8) 8 := ⟨⟨_, fun _ h => h, (leastF_ok fun l hl => (p8_in l hl).1.1).2.nodup, p8_apart, p8_len⟩, fun G h1 h2 _ => by have := nd_len h2 h1; rw [p8_len] at this; exact this⟩
theorem p8_head : ∃ t, (crossF pairs8).head? = some t ∧ t.length = 8 := by
  have ha : ∀ l ∈ pairs8, Asc l := fun l hl => (p8_in l hl).1.1
  obtain ⟨t, h1, h2, _⟩ := cross_head (L := pairs8) fun l hl => ⟨ha l hl, (p8_in l hl).2.1⟩
  have h3 := due_short ha h2
  have h4 := due_apart ha h2 p8_nu
  rw [p8_len] at h3
  exact ⟨t, h1, by omega⟩
end Mi
namespace Mi.K52
open PySem
local macro_rules | `(tactic| simp_arith [$as,*] $[$l:location]?) => `(tactic| simp only [startE, List.map_cons, List.map_nil, List.cons_append, List.nil_append, List.length_cons, List.length_nil, List.length_map, List.replicate_succ, List.replicate_zero, Nat.reduceSub, Nat.reduceAdd, Nat.zero_add, Nat.reduceLT, Nat.reduceLeDiff, Nat.reduceEqDiff, List.getElem?_cons_zero, List.getElem?_cons_succ, List.set_cons_zero, List.set_cons_succ, List.zip_cons_cons, List.zip_nil_left, List.zip_nil_right, List.foldl_cons, List.foldl_nil, List.take_length, List.take_left', Option.bind_some, Option.map_some, Option.bind_none, Option.map_none, reduceIte, Bool.false_eq_true, if_true, if_false, Bool.not_true, Bool.not_false, decide_eq_true_eq, decide_true, decide_false, eq_self, and_self, and_true, true_and, Bool.and_true, Bool.true_and, Bool.and_false, Bool.false_and, Bool.or_true, Bool.true_or, Bool.or_false, Bool.false_or, not_true_eq_false, not_false_eq_true, ite_andB, ite_orB, Bool.decide_eq_true, zero_lim, one_lim, two_lim, three_lim, lim_4, lim_5, lim_6, lim_7, lim_8, lim_9, lim_10, lim_11, lim_12, lim_13, lim_14, lim_15, lim_16, take_set, take_set_app, List.append_nil, Option.bind_assoc, Option.bind_map, Option.map_bind, Option.map_map, Function.comp_def,
  kVar_s, v_var, v_cst, kGlob_s, v_glob, kBin2_s, kBin1_s, v_bin, kNeg_s, v_neg, kCmp2_s, kCmp1_s, v_cmp, kCh4_s, kCh3_s, kCh2_s, kCh1_s, v_chain, kIsN_s, v_isN, kNotN_s, v_notN, kB_s, kAnd_s, v_and, kOr_s, v_or, kNot_s, v_not, kIte_s, v_ite, kTup_s, kLst_s, v_tup, v_lst, kSub2_s, kSub1_s, v_sub, kSlc3_s, kSlc2_s, kSlc1_s, v_slc, kRev_s, v_rev, kCall_s, v_call, kNew_s, v_new_lst, v_new_blt, v_new_srt, v_new_add, v_new_comp, v_new_slc, v_new_srtk, kSS_s, v_sset, v_trng, v_lrng, kB1_s, v_blt1, kB2b_s, kB2a_s, v_blt2, kSrt_s, v_srt, kIsi_s, v_isi, kT3_s, kT2_s, kT1_s, turn_is, kComp_s, v_comp, kPop2_s, kPop1_s, v_pop, kA2_s, kA1_s, vs_nil, vs_cons, kD2_s, kD1_s, vd_nil, vd_cons, kSt2_s, kSt1'_s, kSt1_s, vd_star, kO_s, vo_nil, vo_cons, kC_s, vc_nil, vc_cons, kR1_s, vr_one, kR2b_s, kR2a_s, vr_two, kI_s, vi_val, kZ2_s, kZ1_s, vi_zip, vi_rng, kTst_s, vT, kAsg_s, w_asg, kPar_s, w_par, kSet3_s, kSet2_s, kSet1_s, w_setI, kApp2_s, kApp1_s, w_app, kExt2_s, kExt1_s, w_ext, kExp_s, w_exp, kRet_s, w_ret, kIf_s, w_ifs, kLap_s, lap_is, kFor_s, w_for, w_while, w_pass, ws_nil, sq_nx, sq_rt, ws_cons, kEnd_rt, kEnd_nx,
  revD_tup, revD_lst, bltW_sorted, bltW_len, bltW_all, bltW_any, bltW_sum, bltW_max, bltW_min, bltW_tuple, bltW_list, bltW_int, bltW_abs, isRS_var, isRS_cst, isRS_glob, isRS_bin, isRS_cmp, isRS_chain, isRS_isN, isRS_notN, isRS_and, isRS_or, isRS_not, isRS_ite, isRS_tup, isRS_lst, isRS_sub, isRS_slc, isRS_rev, isRS_call, isRS_blt, isRS_srt, isRS_isi, isRS_neg, isRS_new, isRS_zip, isRS_comp, isRS_pop, popVV_ok, rng2_int, setVV_ok, appVV_ok, extVV_ok, hand_d, hand_new, get_d, get_scr, getT_d, get_new, getT_new, app_new, ext_new, items_tup, items_lst, itemsV_d, bind1_one, bind1_many, wipe_nil, wipe_cons, store_nil, store_cons, zipV_tup, zipV_lst, ok_some, ok_sq, then_nx, then_rt, ok_end, fin_rt, fin_nx, nx_nx, nx_rt,
  items_lot, cop_lt, cop_le, cop_gt, cop_ge, cop_eq_int, cop_ne_int, cop_eq_lot, cop_ne_lot, cop_ne_nilL, cop_eq_nilL, cop_ne_nilT, cop_eq_nilT, cop_in_lot, cop_in_intT, cop_in_intL, cop_in_lotT, cop_in_lotL, cop_ne_lotsT, cop_eq_lotsT, bop_add, bop_sub, b_lenT, b_lenL, b_len_lot, b_tupL, b_tupT, b_lstL, b_lstT, b_lst_lot, b_tup_lot, b_int, b_intb, b_abs, b_all, b_any, b_allm, b_anym, b_sum, b_max2, b_min2, isTy_int, isTy_bool, isTy_tup, isTy_lot, $as,*] $[$l:location]?)
theorem main52 : ∀ ns : List Int, ns.length ≤ 63 → (∀ z ∈ ns, Builtin.Int.intBits z ≤ 1048576) → callF (tabOf rows) cst 100 bys 12 "law" [.scr ns] [] = some (.d (.bool true), []) := by
  intro ns hns _
  rw [call_of t_law rfl]
  have l0 : lim = 1000000 := rfl
  have h8 : (8 : Int).natAbs ≤ lim := by decide
  have h3 : (3 : Int).natAbs ≤ lim := by decide
  have h8' : (nums 0 (8 : Int).toNat).length ≤ lim := by rw [nums_len]; decide
  have h3' : (nums 0 (3 : Int).toNat).length ≤ lim := by rw [nums_len]; decide
  apply ok_is
  simp_arith [b_law, h8, rangeL_nums, h8']
  rw [compL_map (g := fun a => lotD [a, a + 8]) (h := by intro a ha; simp_arith []; rfl)]
  have e8 : PyData.tuple ((nums 0 (8 : Int).toNat).map fun a => lotD [a, a + 8]) = lotsT pairs8 := by
    unfold pairs8
    rw [lotsT, List.map_map]
    rfl
  obtain ⟨t, ht, ht8⟩ := p8_head
  have c256 : (((crossF pairs8).length : Nat) : Int) = 256 := by rw [p8_256]; rfl
  have c8 : ((t.length : Nat) : Int) = 8 := by rw [ht8]; rfl
  have c8' : ((8 : Nat) : Int) = 8 := rfl
  obtain ⟨k, hk, eK⟩ := f_places 10 [] ns hns
  simp_arith [e8, f_crossing _ _ p8_good, c256, f_fewest_crossing _ _ p8_good t ht, c8, f_apart_nu _ _ p8_good (by rw [p8_len]; decide) p8_nu, c8', eK]
  refine for_ok (fun pre ρ M' => ∃ u v, ρ = [some (.scr ns), some (.d (lotsT pairs8)), u, v, none, none]) ⟨_, _, rfl⟩ ?_ ?_
  · rintro a z b eF _ M' ⟨u, v, rfl⟩
    have hz : z ∈ nums 0 k := by rw [eF]; simp
    have hz := nums_mem.mp hz
    obtain ⟨_, eP, x, rfl, px⟩ := f_pot 10 M' ns z (by omega) (by omega)
    simp_arith [eP, h3, rangeL_nums, h3']
    refine ok_k (k := kIf _ _ _ _) rfl (ok_k (k := kNot) rfl (ok_k (k := kB1 _) rfl (ok_k (k := kLst) rfl ?_)))
    refine comp_ok (fun pre ys M2 => ∃ x, ys = pre.map (fun _ => PyData.bool true) ∧ M2 = M' ++ [x] ∧ PotC (pre.length * 100) x) ⟨x, rfl, rfl, px⟩ ?_ ?_
    · rintro c p d eG ys _ ⟨x, rfl, rfl, px⟩
      have lc : c.length ≤ 3 := by
        have : (nums 0 (3 : Int).toNat).length = c.length + (d.length + 1) := by rw [eG]; simp
        rw [nums_len] at this
        have h : (3 : Int).toNat = 3 := rfl
        omega
      have pa : PotAt M'.length (c.length * 100) (M' ++ [x]) := ⟨x, by simp, px⟩
      obtain ⟨_, eR, x2, rfl, px2⟩ := f_right 3 (M' ++ [x]) M'.length _ pa (by omega)
      have es : (M' ++ [x]).set M'.length x2 = M' ++ [x2] := by simp
      rw [es] at eR
      simp_arith [eR]
      exact ⟨x2, by simp, rfl, px2.mono (by simp; omega)⟩
    · rintro _ _ ⟨x, rfl, rfl, px⟩
      have hall : ((nums 0 (3 : Int).toNat).all fun _ => true) = true := by simp
      simp_arith [hall]
      exact ⟨_, _, rfl⟩
  · rintro _ M' ⟨u, v, rfl⟩
    simp_arith [List.take_zero]
end Mi.K52
namespace Mi
open PySem PySem.Spec PyProof.Rows L2
section
variable {T : List (Addr × Str)} {K : PySem.W.Frag} {mg : Str → Option Value} {base : Heap} {r : Row} {fa : Addr} {oc : Value} {od an : Option Addr} {osl : Array (Option Value)} {kV doc pm cdv ct : Value}
theorem funX_mk (KX : K.In base) (G : base.Ns mainGlobals mg) (S : RowS r) (hm : PySem.W.nsIn K mainGlobals r.name = some (some (.ref fa)))
    (l : K.lookup fa = some ⟨oc, od, .func (PySem.W.fnOf r.name r.name (defArgs r.st) (defBody r.st) (defScope r.st) .none kV doc pm an cdv ct), osl⟩)
    (c : PySem.W.codeIn K cdv r.name = true) (k : PySem.W.keepIn K (.ref fa) = true)
    (hl : r.lam = true → ∃ c P, cdv = .ref c ∧ LamX.TabB base mg c P ∧ (P, r.name ++ ".<locals>." ++ "<lambda>") ∈ T ∧ ∀ p ∈ T, p.1 = P → p.2 = r.name ++ ".<locals>." ++ "<lambda>") :
    ∃ fa fd, FunX T K mg base r fa fd :=
  ⟨fa, _, ⟨oc, od, kV, doc, pm, an, cdv, ct, osl, rfl, l, c, hl⟩, k, .all (S.binds kV doc pm an cdv ct), S.scope, PySem.W.mg_of KX G hm⟩
theorem funX_lam {c0 P0 : Addr} (KX : K.In base) (G : base.Ns mainGlobals mg) (S : RowS r) (hm : PySem.W.nsIn K mainGlobals r.name = some (some (.ref fa)))
    (l : K.lookup fa = some ⟨oc, od, .func (PySem.W.fnOf r.name r.name (defArgs r.st) (defBody r.st) (defScope r.st) .none kV doc pm an (.ref c0) ct), osl⟩)
    (c : PySem.W.codeIn K (.ref c0) r.name = true) (k : PySem.W.keepIn K (.ref fa) = true)
    (t : LamX.TabB base mg c0 P0) (i : (P0, r.name ++ ".<locals>." ++ "<lambda>") ∈ T) (j : ∀ p ∈ T, p.1 = P0 → p.2 = r.name ++ ".<locals>." ++ "<lambda>") :
    ∃ fa fd, FunX T K mg base r fa fd := funX_mk KX G S hm l c k fun _ => ⟨c0, P0, rfl, t, i, j⟩
def isFree : Option (Option Value) → Bool
  | some none => true
  | _ => false
theorem free_all {ns : List Str} (KX : K.In base) (G : base.Ns mainGlobals mg) (h : ns.all (fun x => isFree (PySem.W.nsIn K mainGlobals x)) = true) : ∀ x ∈ ns, mg x = none := fun x hx => by
  have z := List.all_eq_true.mp h x hx
  refine PySem.W.mg_none_of KX G ?_
  cases e : PySem.W.nsIn K mainGlobals x with
  | none => rw [e] at z; cases z
  | some o =>
    cases o with
    | none => rfl
    | some v => rw [e] at z; cases z
theorem end_law2 {l : PySem.W.OpenLaw} {w : World} {h : Heap} {f2 : Addr} (cs : List (Addr × Addr)) (rs : List Row) (cst : Str → Option D) (fuel : Nat) (bys : Str → Bool) (n : Nat) (KX : K.In h) (G : h.Ns mainGlobals mg)
    (hmg : mg "law" = some (.ref fa)) (S : RowS r) (er : r.name = "law") (es : r.ps = [("script" : Str)]) (a2 : PySem.W.nsIn K mainGlobals "law" = some (some (.ref f2)))
    (lk : K.lookup f2 = some ⟨oc, od, .func (PySem.W.fnOf r.name r.name (defArgs r.st) (defBody r.st) (defScope r.st) .none kV doc pm an cdv ct), osl⟩)
    (hT : ∀ p ∈ cs, h.get? p.2 = some { cls := .none, data := .fields #[] }) (nT : ∀ p ∈ cs, K.lookup p.2 = none) (C : ∀ p ∈ cs, PySem.W.codeHdIn K p.1 p.2 = true)
    (TT : ∀ p ∈ T, p.1 ∈ cs.map (·.2)) (hps : ∀ r ∈ rs, r.name = "law" → r.ps = [("script" : Str)])
    (top : ∀ base : Heap, K.In base → base.Ns mainGlobals mg → (∀ p ∈ cs, LamX.TabB base mg p.1 p.2) → TopOk T K mg base rs cst) (hby : ∀ f, bys f = true → ∃ r ∈ rs, r.name = f ∧ bySzD r.st = true)
    (main : ∀ ns : List Int, ns.length ≤ 63 → (∀ z ∈ ns, Builtin.Int.intBits z ≤ 1048576) → callF (tabOf rs) cst fuel bys n "law" [.scr ns] [] = some (.d (.bool true), [])) :
    LamX.LawAtS l w K CX0 (n + 4) 63 "script" mg fa h := by
  have e := hmg.symm.trans (PySem.W.mg_of KX G a2)
  cases e
  refine end_law T cs rs cst fuel bys n hT nT (fun p hp => PySem.W.codeHd_of_K KX (C p hp)) (fun s u => .of_eq ?_) lk hmg TT hps top hby main
  have z := S.binds kV doc pm an cdv ct [u] (by rw [es]; rfl)
  rw [z, es]
  rfl
end
namespace K52
theorem cst_all {K : PySem.W.Frag} {mg : Str → Option Value} {base : Heap} {t1 t2 : Tok} (KX : K.In base) (G : base.Ns mainGlobals mg) (p : PySem.W.nsIn K mainGlobals "MOST_PARTS" = some (some (.int 40 t1))) (l : PySem.W.nsIn K mainGlobals "MOST_LOTS" = some (some (.int 400 t2))) :
    ∀ x d, cst x = some d → ∃ u v, mg x = some u ∧ RelV v u ∧ ∀ H Z, RD K H Z d v := fun x d h => by
  unfold cst at h
  split at h
  · rename_i e
    cases h
    subst e
    exact ⟨_, .int 40, PySem.W.mg_of KX G p, ⟨_, rfl⟩, fun _ _ => rfl⟩
  · split at h
    · rename_i e
      cases h
      subst e
      exact ⟨_, .int 400, PySem.W.mg_of KX G l, ⟨_, rfl⟩, fun _ _ => rfl⟩
    · cases h
theorem bys_all : ∀ f, bys f = true → ∃ r ∈ rows, r.name = f ∧ bySzD r.st = true := fun f h => by
  have e : f = "by_size" := of_decide_eq_true h
  subst e
  exact ⟨r_by_size, by simp [rows], rfl, by decide +kernel⟩
theorem ps_all : ∀ r ∈ rows, r.name = "law" → r.ps = [("script" : Str)] := by
  have h : rows.all (fun r => !decide (r.name = "law") || decide (r.ps = [("script" : Str)])) = true := by decide +kernel
  intro r hr e
  have z := List.all_eq_true.mp h r hr
  rw [e] at z
  simpa using z
end K52
end Mi
open PySem PySem.W PyProof.Rows
set_option maxHeartbeats 0 in
theorem PySem.Challenge.cw_leastthatfails_k52_crossing_of_many_lots_holds : PySem.Challenge.rw_leastthatfails_k52_crossing_of_many_lots.Holds := by
  w_on; o_law; k_head; (case hw => w_witness2)
  k_fill
  refine LamX.walk_ofTs (l := PySem.Challenge.rw_leastthatfails_k52_crossing_of_many_lots) (n := 63) (k := 16) (x := "script") (CX := fun _ => L2.CX0) rfl (by decide) rfl ⟨rfl, by decide, by decide⟩ (fun w h Y => PySem.W.km_in_of Y) ?F (fun _ _ _ _ _ z => z)
  case F =>
    intro w mg fa h Y KX G hmg
    have hT8 := PySem.W.km_tabs_of Y
    have hT8' : ∀ P ∈ [266, 182], h.get? P = some (PySem.W.tabObj #[]) := hT8
    have TOP : ∀ base : Heap, (PySem.Challenge.cw_leastthatfails_k52_crossing_of_many_lots_holds.heap_39 w.params).In base → base.Ns mainGlobals mg → (∀ p ∈ [((186 : Addr), (182 : Addr)), (270, 266)], LamX.TabB base mg p.1 p.2) →
        Mi.TopOk [(182, "crossing_of.<locals>.<lambda>"), (266, "_law_by_size.<locals>.<lambda>")] (PySem.Challenge.cw_leastthatfails_k52_crossing_of_many_lots_holds.heap_39 w.params) mg base Mi.K52.rows Mi.K52.cst := by
      clear hT8 hT8' G KX Y
      intro base KX G hB
      refine ⟨Mi.free_all KX G ?fr, ?cs, ?fs⟩
      case fr => kernel_rfl
      case cs =>
        refine' Mi.K52.cst_all KX G ?cstA ?cstB
        (case cstA => k_is); (case cstB => k_is)
      case fs =>
        open Mi Mi.K52 in
        refine' List.forall_mem_cons.mpr ⟨funX_mk KX G s_is_integer ?m ?l ?c ?k (fun z => absurd z (by decide)), ?_⟩
        (case m => k_is); (case l => k_is); (case c => k_is); (case k => k_is)
        refine' List.forall_mem_cons.mpr ⟨funX_mk KX G s_is_between ?m ?l ?c ?k (fun z => absurd z (by decide)), ?_⟩
        (case m => k_is); (case l => k_is); (case c => k_is); (case k => k_is)
        refine' List.forall_mem_cons.mpr ⟨funX_mk KX G s_is_tuple ?m ?l ?c ?k (fun z => absurd z (by decide)), ?_⟩
        (case m => k_is); (case l => k_is); (case c => k_is); (case k => k_is)
        refine' List.forall_mem_cons.mpr ⟨funX_mk KX G s_is_ascending ?m ?l ?c ?k (fun z => absurd z (by decide)), ?_⟩
        (case m => k_is); (case l => k_is); (case c => k_is); (case k => k_is)
        refine' List.forall_mem_cons.mpr ⟨funX_mk KX G s_is_lot ?m ?l ?c ?k (fun z => absurd z (by decide)), ?_⟩
        (case m => k_is); (case l => k_is); (case c => k_is); (case k => k_is)
        refine' List.forall_mem_cons.mpr ⟨funX_mk KX G s_meets ?m ?l ?c ?k (fun z => absurd z (by decide)), ?_⟩
        (case m => k_is); (case l => k_is); (case c => k_is); (case k => k_is)
        refine' List.forall_mem_cons.mpr ⟨funX_mk KX G s_is_within ?m ?l ?c ?k (fun z => absurd z (by decide)), ?_⟩
        (case m => k_is); (case l => k_is); (case c => k_is); (case k => k_is)
        refine' List.forall_mem_cons.mpr ⟨funX_mk KX G s_least_of ?m ?l ?c ?k (fun z => absurd z (by decide)), ?_⟩
        (case m => k_is); (case l => k_is); (case c => k_is); (case k => k_is)
        refine' List.forall_mem_cons.mpr ⟨funX_mk KX G s_by_size ?m ?l ?c ?k (fun z => absurd z (by decide)), ?_⟩
        (case m => k_is); (case l => k_is); (case c => k_is); (case k => k_is)
        refine' List.forall_mem_cons.mpr ⟨funX_mk KX G s_is_many ?m ?l ?c ?k (fun z => absurd z (by decide)), ?_⟩
        (case m => k_is); (case l => k_is); (case c => k_is); (case k => k_is)
        refine' List.forall_mem_cons.mpr ⟨funX_mk KX G s_check_many ?m ?l ?c ?k (fun z => absurd z (by decide)), ?_⟩
        (case m => k_is); (case l => k_is); (case c => k_is); (case k => k_is)
        refine' List.forall_mem_cons.mpr ⟨funX_mk KX G s_are_lots ?m ?l ?c ?k (fun z => absurd z (by decide)), ?_⟩
        (case m => k_is); (case l => k_is); (case c => k_is); (case k => k_is)
        refine' List.forall_mem_cons.mpr ⟨funX_mk KX G s_check_lots ?m ?l ?c ?k (fun z => absurd z (by decide)), ?_⟩
        (case m => k_is); (case l => k_is); (case c => k_is); (case k => k_is)
        refine' List.forall_mem_cons.mpr ⟨funX_mk KX G s_crossed_by ?m ?l ?c ?k (fun z => absurd z (by decide)), ?_⟩
        (case m => k_is); (case l => k_is); (case c => k_is); (case k => k_is)
        refine' List.forall_mem_cons.mpr ⟨funX_lam (P0 := 182) KX G s_crossing_of ?m ?l ?c ?k ?t ?i ?j, ?_⟩
        (case m => k_is); (case l => k_is); (case c => k_is); (case k => k_is)
        (case t => exact hB (186, 182) (by decide)); (case i => decide); (case j => decide)
        refine' List.forall_mem_cons.mpr ⟨funX_mk KX G s_is_alone_in ?m ?l ?c ?k (fun z => absurd z (by decide)), ?_⟩
        (case m => k_is); (case l => k_is); (case c => k_is); (case k => k_is)
        refine' List.forall_mem_cons.mpr ⟨funX_mk KX G s_crossing ?m ?l ?c ?k (fun z => absurd z (by decide)), ?_⟩
        (case m => k_is); (case l => k_is); (case c => k_is); (case k => k_is)
        refine' List.forall_mem_cons.mpr ⟨funX_mk KX G s_does_cross ?m ?l ?c ?k (fun z => absurd z (by decide)), ?_⟩
        (case m => k_is); (case l => k_is); (case c => k_is); (case k => k_is)
        refine' List.forall_mem_cons.mpr ⟨funX_mk KX G s_is_least_crossing ?m ?l ?c ?k (fun z => absurd z (by decide)), ?_⟩
        (case m => k_is); (case l => k_is); (case c => k_is); (case k => k_is)
        refine' List.forall_mem_cons.mpr ⟨funX_mk KX G s_fewest_crossing ?m ?l ?c ?k (fun z => absurd z (by decide)), ?_⟩
        (case m => k_is); (case l => k_is); (case c => k_is); (case k => k_is)
        refine' List.forall_mem_cons.mpr ⟨funX_mk KX G s_apart_lots ?m ?l ?c ?k (fun z => absurd z (by decide)), ?_⟩
        (case m => k_is); (case l => k_is); (case c => k_is); (case k => k_is)
        refine' List.forall_mem_cons.mpr ⟨funX_mk KX G s_cut_short ?m ?l ?c ?k (fun z => absurd z (by decide)), ?_⟩
        (case m => k_is); (case l => k_is); (case c => k_is); (case k => k_is)
        refine' List.forall_mem_cons.mpr ⟨funX_mk KX G s__law_pot ?m ?l ?c ?k (fun z => absurd z (by decide)), ?_⟩
        (case m => k_is); (case l => k_is); (case c => k_is); (case k => k_is)
        refine' List.forall_mem_cons.mpr ⟨funX_mk KX G s__law_take ?m ?l ?c ?k (fun z => absurd z (by decide)), ?_⟩
        (case m => k_is); (case l => k_is); (case c => k_is); (case k => k_is)
        refine' List.forall_mem_cons.mpr ⟨funX_mk KX G s__law_places ?m ?l ?c ?k (fun z => absurd z (by decide)), ?_⟩
        (case m => k_is); (case l => k_is); (case c => k_is); (case k => k_is)
        refine' List.forall_mem_cons.mpr ⟨funX_mk KX G s__law_some ?m ?l ?c ?k (fun z => absurd z (by decide)), ?_⟩
        (case m => k_is); (case l => k_is); (case c => k_is); (case k => k_is)
        refine' List.forall_mem_cons.mpr ⟨funX_mk KX G s__law_in ?m ?l ?c ?k (fun z => absurd z (by decide)), ?_⟩
        (case m => k_is); (case l => k_is); (case c => k_is); (case k => k_is)
        refine' List.forall_mem_cons.mpr ⟨funX_mk KX G s__law_least ?m ?l ?c ?k (fun z => absurd z (by decide)), ?_⟩
        (case m => k_is); (case l => k_is); (case c => k_is); (case k => k_is)
        refine' List.forall_mem_cons.mpr ⟨funX_lam (P0 := 266) KX G s__law_by_size ?m ?l ?c ?k ?t ?i ?j, ?_⟩
        (case m => k_is); (case l => k_is); (case c => k_is); (case k => k_is)
        (case t => exact hB (270, 266) (by decide)); (case i => decide); (case j => decide)
        refine' List.forall_mem_cons.mpr ⟨funX_mk KX G s__law_lots_of ?m ?l ?c ?k (fun z => absurd z (by decide)), ?_⟩
        (case m => k_is); (case l => k_is); (case c => k_is); (case k => k_is)
        refine' List.forall_mem_cons.mpr ⟨funX_mk KX G s__law_right ?m ?l ?c ?k (fun z => absurd z (by decide)), ?_⟩
        (case m => k_is); (case l => k_is); (case c => k_is); (case k => k_is)
        refine' List.forall_mem_cons.mpr ⟨funX_mk KX G s_law ?m ?l ?c ?k (fun z => absurd z (by decide)), ?_⟩
        (case m => k_is); (case l => k_is); (case c => k_is); (case k => k_is)
        exact nofun
  
    refine' Mi.end_law2 [((186 : Addr), (182 : Addr)), (270, 266)] Mi.K52.rows Mi.K52.cst 100 Mi.K52.bys 12 KX G hmg Mi.K52.s_law rfl rfl ?a2 ?lk ?hT ?nT ?C (by decide) Mi.K52.ps_all TOP Mi.K52.bys_all Mi.K52.main52
    (case a2 => k_is); (case lk => k_is)
    case hT => exact List.forall_mem_cons.mpr ⟨hT8' 182 (by decide), List.forall_mem_cons.mpr ⟨hT8' 266 (by decide), nofun⟩⟩
    case nT => exact List.forall_mem_cons.mpr ⟨by kernel_rfl, List.forall_mem_cons.mpr ⟨by kernel_rfl, nofun⟩⟩
    case C => exact List.forall_mem_cons.mpr ⟨by kernel_rfl, List.forall_mem_cons.mpr ⟨by kernel_rfl, nofun⟩⟩
