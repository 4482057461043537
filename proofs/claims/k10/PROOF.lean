import PyProof.Rows.All
import Wide.All
import OpenK.AllK
import Wide.FinOn
import PySem.Syntax
import PyProof.ReprReads
import HandS.List
import HandS.HeadHook2
import HandS.Head0
import HandS.Head1
import HandS.Head2
import KE.KExcInit
import HandS.Words
import HandS.WordsExc
import HandS.HeadEnd
import HandS.ForMost
import HandS.Walk
import HandS.Exc
import HandS.ExcInit
import HandS.IsInst
import HandS.Defaults
import HandS.Evl
import HandS.TupLen
import HandS.TryOnly
import HandS.ExcField
import KE.KExcIs
import HandS.ExcIs
import KE.KExcMake
import HandS.Ends
import PySem.Challenge.RW_uplines_k10_errors_and_kinds_of_values
set_option linter.all false
set_option maxRecDepth 100000
/-! U0: plain data, a memory of cells, a little language and its evaluator. Plain Lean; no program in sight. -/
namespace U
open PySem

abbrev Ky := Sum Int Str

/-- data as a tree -/
inductive D where
  | non | bl (b : Bool) | int (i : Int) | str (x : Str)
  | lst (xs : List D) | tup (xs : List D)
  | dic (kvs : List (Ky × D)) | dct (kvs : List (List Ky × D))
  | ins (c : Nat) (fs : List (Nat × D))
  | exc (c : Nat) (fs : List (Nat × D))
  | pot
  deriving Inhabited

/-- a value: a tree that nobody changes any more, or a cell of the memory -/
inductive W where
  | d (x : D) | c (n : Nat)
  deriving Inhabited

inductive Cell where
  | lst (ws : List W) | pin (ws : List W)
  | dic (kvs : List (Ky × W)) | dct (kvs : List (List Ky × W))
  | ins (c : Nat) (fs : List (Nat × W))
  | frz (x : D) | gone
  deriving Inhabited
abbrev Mem := List Cell
abbrev En := List (Option W)

inductive Out (α : Type) where
  | ok (a : α) (m : Mem) | exc (c : Nat) (fs : List (Nat × D)) (m : Mem)
abbrev Ev (α : Type) := Mem → Option (Out α)
def ret {α : Type} (a : α) : Ev α := fun m => some (.ok a m)
def bnd {α β : Type} (x : Ev α) (f : α → Ev β) : Ev β := fun m => match x m with
  | none => none
  | some (.ok a m1) => f a m1
  | some (.exc c fs m1) => some (.exc c fs m1)
def stuck {α : Type} : Ev α := fun _ => none
def ask {α : Type} (o : Option α) : Ev α := fun m => match o with
  | some a => some (.ok a m)
  | none => none
/-- what is read off the memory, nothing changed -/
def rd {α : Type} (f : Mem → Option α) : Ev α := fun m => match f m with
  | some a => some (.ok a m)
  | none => none
def newC (c : Cell) : Ev W := fun m => some (.ok (.c m.length) (m ++ [c]))
def newL (ws : List W) : Ev W := newC (.lst ws)

def BIG : Nat := 100000

/-! ### reading -/
/-- a value as a tree, as it is now (depth at most n) -/
def pks (f : W → Option D) : List W → Option (List D)
  | [] => some []
  | w :: r => match f w with
    | none => none
    | some x => match pks f r with
      | none => none
      | some xs => some (x :: xs)
def pkk {κ : Type} (f : W → Option D) : List (κ × W) → Option (List (κ × D))
  | [] => some []
  | (k, w) :: r => match f w with
    | none => none
    | some x => match pkk f r with
      | none => none
      | some xs => some ((k, x) :: xs)
def pk (m : Mem) : Nat → W → Option D
  | 0, _ => none
  | _ + 1, .d x => some x
  | n + 1, .c k => match m[k]? with
    | some (.lst ws) => (pks (pk m n) ws).map .lst
    | some (.pin ws) => (pks (pk m n) ws).map .lst
    | some (.frz x) => some x
    | _ => none
/-- a list's or a tuple's items -/
def seqOf (w : W) (m : Mem) : Option (Bool × List W) := match w with
  | .d (.lst xs) => some (true, xs.map .d)
  | .d (.tup xs) => some (false, xs.map .d)
  | .d _ => none
  | .c k => match m[k]? with
    | some (.lst ws) => some (true, ws)
    | some (.pin ws) => some (true, ws)
    | some (.frz (.lst xs)) => some (true, xs.map .d)
    | some (.frz (.tup xs)) => some (false, xs.map .d)
    | _ => none
def allD : List W → Option (List D)
  | [] => some []
  | .d x :: r => match allD r with
    | some xs => some (x :: xs)
    | none => none
  | .c _ :: _ => none

/-! ### a value is frozen: from now on a tree -/
def fzs (f : W → Mem → Option (D × Mem)) : List W → Mem → Option (List D × Mem)
  | [], m => some ([], m)
  | w :: r, m => match f w m with
    | none => none
    | some (x, m1) => match fzs f r m1 with
      | none => none
      | some (xs, m2) => some (x :: xs, m2)
def fzk {κ : Type} (f : W → Mem → Option (D × Mem)) : List (κ × W) → Mem → Option (List (κ × D) × Mem)
  | [], m => some ([], m)
  | (k, w) :: r, m => match f w m with
    | none => none
    | some (x, m1) => match fzk f r m1 with
      | none => none
      | some (xs, m2) => some ((k, x) :: xs, m2)
def fz : Nat → W → Mem → Option (D × Mem)
  | 0, _, _ => none
  | _ + 1, .d x, m => some (x, m)
  | n + 1, .c k, m => match k with
    | 0 => none
    | k' + 1 => match m[k' + 1]? with
      | some (.lst ws) => (match fzs (fz n) ws m with
        | none => none
        | some (xs, m1) => some (.lst xs, m1.set (k' + 1) (.frz (.lst xs))))
      | some (.dic kvs) => (match fzk (fz n) kvs m with
        | none => none
        | some (xs, m1) => some (.dic xs, m1.set (k' + 1) (.frz (.dic xs))))
      | some (.dct kvs) => (match fzk (fz n) kvs m with
        | none => none
        | some (xs, m1) => some (.dct xs, m1.set (k' + 1) (.frz (.dct xs))))
      | some (.ins c fs) => (match fzk (fz n) fs m with
        | none => none
        | some (xs, m1) => some (.ins c xs, m1.set (k' + 1) (.frz (.ins c xs))))
      | some (.frz x) => some (x, m)
      | _ => none
def FZ : Nat := 6
def frz1 (w : W) : Ev D := fun m => match fz FZ w m with
  | some (x, m1) => some (.ok x m1)
  | none => none
def frzs (ws : List W) : Ev (List D) := fun m => match fzs (fz FZ) ws m with
  | some (xs, m1) => some (.ok xs m1)
  | none => none

/-! ### functions -/
/-- what a function hands back: a tree; a new list of trees; a new list of new lists of trees -/
inductive Fr where
  | d (x : D) | l (xs : List D) | ll (xss : List (List D))
/-- the pot: two ints, if there is one -/
abbrev Pt := Option (Int × Int)
inductive Ans where
  | ok (r : Fr) (p : Pt) | exc (c : Nat) (fs : List (Nat × D)) (p : Pt)
abbrev Fn := List D → Pt → Option Ans
def potC : Pt → Cell
  | some (p, q) => .lst [.d (.int p), .d (.int q)]
  | none => .gone
def potOf (m : Mem) : Option Pt := match m with
  | .lst [.d (.int p), .d (.int q)] :: _ => some (some (p, q))
  | .gone :: _ => some none
  | _ => none
def setPot (p : Pt) : Mem → Mem
  | [] => []
  | _ :: r => potC p :: r
def flatD : D → Bool
  | .non => true
  | .bl _ => true
  | .int _ => true
  | .str _ => true
  | _ => false
def flatF : Fr → Bool
  | .d x => flatD x
  | _ => false
def args1 (w : W) (m : Mem) : Option (D × Mem) := match w with
  | .c 0 => some (.pot, m)
  | w => fz FZ w m
def argsv : List W → Mem → Option (List D × Mem) := fzs args1
def inll : List (List D) → Mem → List W × Mem
  | [], m => ([], m)
  | xs :: r, m => match inll r (m ++ [.lst (xs.map .d)]) with
    | (ws, m1) => (.c m.length :: ws, m1)
def innw : Fr → Mem → W × Mem
  | .d x, m => (.d x, m)
  | .l xs, m => (.c m.length, m ++ [.lst (xs.map .d)])
  | .ll xss, m => match inll xss m with
    | (ws, m1) => (.c m1.length, m1 ++ [.lst ws])
def callF (f : Fn) (ws : List W) : Ev W := fun m => match argsv ws m with
  | none => none
  | some (ds, m1) => match potOf m with
    | none => none
    | some pq => match f ds pq with
      | none => none
      | some (.exc c fs pq') => some (.exc c fs (setPot pq' m1))
      | some (.ok r pq') => match innw r (setPot pq' (if flatF r then m else m1)) with
        | (w, m2) => some (.ok w m2)

/-! ### the language -/
inductive Bl where
  | len | abs | max | min | int | str | repr | list | tuple | sorted | sum | all | any | divmod
  deriving DecidableEq
inductive LM where
  | append | extend | pop | get | update | reverse | clear
  deriving DecidableEq
inductive Ty where
  | int | bool | str | list | tuple | dict | own (c : Nat) | bex (x : String)
  deriving DecidableEq
/-- a target: a name; a tuple of names -/
inductive Tg where
  | nm (i : Nat) | tp (is : List Nat)

inductive E where
  | var (i : Nat)
  | cst (x : D)
  | glo (n : Nat) (x : D)
  | nil | cons (a r : E)
  | lst (as : E) | tup (as : E) | dic (ks vs : E)
  | neg (a : E) | not (a : E) | inv (a : E)
  | bin (o : Operator) (a b : E)
  | and (a b : E) | or (a b : E)
  | cmp (o : CmpOp) (a b : E)
  | chn (o o' : CmpOp) (a b c : E)
  | ife (c a b : E)
  | call (f : Nat) (as : E) (ks : List Nat) (kas : E)
  | blt (f : Bl) (as : E)
  | lmt (f : LM) (o : E) (as : E)
  | mth (f : Nat) (o : E) (as : E) (ks : List Nat) (kas : E)
  | isi (a : E) (ts : List Ty)
  | fld (o : E) (f : Nat)
  | idx (a b : E)
  | slc (a lo hi : E)
  | rev (a : E)
  | seq (a : E) | rng1 (a : E) | rng2 (a b : E) | enu (a : E) | zip (a b : E)
  | lc (tg : Tg) (it cnd elt : E) (own : List Nat)
  | fst (ps : E)

/-- what may stand as a test here -/
def tstOk : E → Bool
  | .ife _ _ _ => false
  | .and a b => tstOk a && tstOk b
  | .or a b => tstOk a && tstOk b
  | .not a => tstOk a
  | _ => true

/-! ### operations on values -/
/-- == of data; none where it is not told here -/
def eqA (f : D → D → Option Bool) : List D → List D → Option Bool
  | [], [] => some true
  | x :: xs, y :: ys => match f x y, eqA f xs ys with
    | some a, some b => some (a && b)
    | _, _ => none
  | _, _ => some false
/-- as far as both go -/
def eqZ (f : D → D → Option Bool) : List D → List D → Option Bool
  | x :: xs, y :: ys => match f x y, eqZ f xs ys with
    | some a, some b => some (a && b)
    | _, _ => none
  | _, _ => some true
def kd6 : D → Bool
  | .non => true
  | .bl _ => true
  | .int _ => true
  | .str _ => true
  | .lst _ => true
  | .tup _ => true
  | _ => false
def eqD : Nat → D → D → Option Bool
  | 0, _, _ => none
  | n + 1, x, y => match x, y with
    | .non, .non => some true
    | .bl a, .bl b => some (a == b)
    | .int a, .int b => some (a == b)
    | .bl a, .int b => some ((if a then 1 else 0) == b)
    | .int a, .bl b => some (a == (if b then 1 else 0))
    | .str a, .str b => some (a == b)
    | .lst xs, .lst ys => if xs.length = ys.length then eqA (eqD n) xs ys else some false
    | .tup xs, .tup ys => (eqZ (eqD n) xs ys).map fun b => b && xs.length == ys.length
    | x, y => if kd6 x && kd6 y then some false else none
def truth : W → Option Bool
  | .d (.bl b) => some b
  | _ => none
def wbl (b : Bool) : W := .d (.bl b)
def wint (i : Int) : W := .d (.int i)
def wstr (x : Str) : W := .d (.str x)

def atI {α : Type} (xs : List α) (i : Int) : Option α := if 0 ≤ i then (if i < xs.length then xs[i.toNat]? else none) else if -(xs.length : Int) ≤ i then xs[(i + xs.length).toNat]? else none
def small (n : Nat) : Bool := decide (n < BIG)

def binop (o : Operator) (x y : W) : Ev W := fun m => match o, x, y with
  | .Add, .d (.int i), .d (.int j) => ret (wint (i + j)) m
  | .Sub, .d (.int i), .d (.int j) => ret (wint (i - j)) m
  | .Mult, .d (.int i), .d (.int j) => if (-(2 ^ 64) < i ∧ i < 2 ^ 64) ∨ (-(2 ^ 64) < j ∧ j < 2 ^ 64) then ret (wint (i * j)) m else none
  | .Mod, .d (.int i), .d (.int j) => if 0 < j then ret (wint (i % j)) m else none
  | .FloorDiv, .d (.int i), .d (.int j) => if 0 < j ∧ j < 1073741824 then ret (wint (i / j)) m else none
  | .Pow, .d (.int i), .d (.int j) => if 0 ≤ j ∧ j ≤ 1000000 ∧ i.natAbs < 2 ^ 64 then ret (wint (i ^ j.toNat)) m else none
  | .Add, .d (.str a), .d (.str b) => if small (a.length + b.length) then ret (wstr (a ++ b)) m else none
  | .Add, x, y => match seqOf x m, seqOf y m with
    | some (true, xs), some (true, ys) => if small (xs.length + ys.length) then newL (xs ++ ys) m else none
    | _, _ => none
  | _, _, _ => none

/-! ### comparisons -/
def isNon : W → Bool
  | .d .non => true
  | _ => false
def inA (x : D) : List D → Option Bool
  | [] => some false
  | y :: r => match eqD FZ y x, inA x r with
    | some a, some b => some (a || b)
    | _, _ => none
def keyD : D → Option Ky
  | .int i => some (.inl i)
  | .str x => some (.inr x)
  | _ => none
def keysD : List D → Option (List Ky)
  | [] => some []
  | x :: r => match keyD x, keysD r with
    | some k, some ks => some (k :: ks)
    | _, _ => none
def getK {κ α : Type} [DecidableEq κ] (k : κ) : List (κ × α) → Option α
  | [] => none
  | (k', v) :: r => if k' = k then some v else getK k r
def putK {κ α : Type} [DecidableEq κ] (k : κ) (v : α) : List (κ × α) → List (κ × α)
  | [] => [(k, v)]
  | (k', v') :: r => if k' = k then (k', v) :: r else (k', v') :: putK k v r
/-- a dict as it is now: by keys, or by tuples of keys -/
inductive Dv where
  | k (kvs : List (Ky × W)) | t (kvs : List (List Ky × W))
def dicOf (w : W) (m : Mem) : Option Dv := match w with
  | .d (.dic kvs) => some (.k (kvs.map fun p => (p.1, W.d p.2)))
  | .d (.dct kvs) => some (.t (kvs.map fun p => (p.1, W.d p.2)))
  | .d _ => none
  | .c k => match m[k]? with
    | some (.dic kvs) => some (.k kvs)
    | some (.dct kvs) => some (.t kvs)
    | some (.frz (.dic kvs)) => some (.k (kvs.map fun p => (p.1, W.d p.2)))
    | some (.frz (.dct kvs)) => some (.t (kvs.map fun p => (p.1, W.d p.2)))
    | _ => none
def dget (d : Dv) (x : D) : Option (Option W) := match d with
  | .k kvs => (match keyD x with
    | some k => some (getK k kvs)
    | none => none)
  | .t kvs => (match x with
    | .tup xs => (match keysD xs with
      | some k => some (getK k kvs)
      | none => none)
    | _ => none)
def inW (x y : W) (m : Mem) : Option Bool := match y with
  | .d (.str z) => (match x with
    | .d (.str a) => (match a.cps.toList with
      | [c] => some (decide (c ∈ z.cps.toList))
      | _ => none)
    | _ => none)
  | y => match dicOf y m with
    | some d => (match pk m FZ x with
      | some x => (dget d x).map (·.isSome)
      | none => none)
    | none => match seqOf y m with
      | some (_, ws) => (match pk m FZ x, pks (pk m FZ) ws with
        | some x, some ys => inA x ys
        | _, _ => none)
      | none => none
def eqW (x y : W) (m : Mem) : Option Bool := match pk m FZ x, pk m FZ y with
  | some a, some b => eqD FZ a b
  | _, _ => none
def cmpop (o : CmpOp) (x y : W) (m : Mem) : Option Bool := match o with
  | .Eq => eqW x y m
  | .NotEq => (eqW x y m).map (!·)
  | .Lt => (match x, y with | .d (.int i), .d (.int j) => some (decide (i < j)) | _, _ => none)
  | .LtE => (match x, y with | .d (.int i), .d (.int j) => some (decide (i ≤ j)) | _, _ => none)
  | .Gt => (match x, y with | .d (.int i), .d (.int j) => some (decide (j < i)) | _, _ => none)
  | .GtE => (match x, y with | .d (.int i), .d (.int j) => some (decide (j ≤ i)) | _, _ => none)
  | .Is => if isNon y then some (isNon x) else none
  | .IsNot => if isNon y then some (!isNon x) else none
  | .In => inW x y m
  | .NotIn => (inW x y m).map (!·)

/-! ### built-ins -/
def toPys (f : D → Option PyData) : List D → Option (List PyData)
  | [] => some []
  | x :: r => match f x, toPys f r with
    | some p, some ps => some (p :: ps)
    | _, _ => none
def kyPy : Ky → PyData
  | .inl i => .int i
  | .inr x => .str x
def toPyk (f : D → Option PyData) : List (Ky × D) → Option (List (PyData × PyData))
  | [] => some []
  | (k, x) :: r => match f x, toPyk f r with
    | some p, some ps => some ((kyPy k, p) :: ps)
    | _, _ => none
def toPy : Nat → D → Option PyData
  | 0, _ => none
  | n + 1, x => match x with
    | .non => some .none
    | .bl b => some (.bool b)
    | .int i => some (.int i)
    | .str z => some (.str z)
    | .lst xs => (toPys (toPy n) xs).map .list
    | .tup xs => (toPys (toPy n) xs).map .tuple
    | .dic kvs => (toPyk (toPy n) kvs).map .dict
    | _ => none
def reprD (x : D) : Option Str := match toPy FZ x with
  | some p => if p.showable && small p.shown.length then some p.shown else none
  | none => none
def intsD : List D → Option (List Int)
  | [] => some []
  | .int i :: r => match intsD r with
    | some is => some (i :: is)
    | none => none
  | _ :: _ => none
def blsD : List D → Option (List Bool)
  | [] => some []
  | .bl b :: r => match blsD r with
    | some bs => some (b :: bs)
    | none => none
  | _ :: _ => none
def strsD : List D → Option (List Str)
  | [] => some []
  | .str b :: r => match strsD r with
    | some bs => some (b :: bs)
    | none => none
  | _ :: _ => none
def lenW (w : W) (m : Mem) : Option Nat := match w with
  | .d (.str x) => if small x.length then some x.length else none
  | w => match seqOf w m with
    | some (_, ws) => some ws.length
    | none => match dicOf w m with
      | some (.k kvs) => some kvs.length
      | some (.t kvs) => some kvs.length
      | none => none
def blt (b : Bl) (ws : List W) : Ev W := fun m => match b, ws with
  | .len, [w] => (match lenW w m with
    | some n => ret (wint n) m
    | none => none)
  | .abs, [.d (.int i)] => ret (wint (if i < 0 then -i else i)) m
  | .max, [.d (.int i), .d (.int j)] => ret (wint (if j > i then j else i)) m
  | .min, [.d (.int i), .d (.int j)] => ret (wint (if j < i then j else i)) m
  | .int, [.d (.int i)] => ret (wint i) m
  | .int, [.d (.bl b)] => ret (wint (if b then 1 else 0)) m
  | .str, [.d (.int i)] => if i.natAbs.log2 < 1920 then ret (wstr (toString i)) m else none
  | .repr, [w] => (match pk m FZ w with
    | some x => (match reprD x with
      | some z => ret (wstr z) m
      | none => none)
    | none => none)
  | .list, [w] => (match seqOf w m with
    | some (_, ws) => newL ws m
    | none => none)
  | .sum, [w] => (match seqOf w m with
    | some (true, ws) => (match (allD ws).bind intsD with
      | some is => ret (wint is.sum) m
      | none => none)
    | _ => none)
  | .all, [w] => (match seqOf w m with
    | some (true, ws) => (match (allD ws).bind blsD with
      | some bs => ret (wbl (bs.all id)) m
      | none => none)
    | _ => none)
  | .any, [w] => (match seqOf w m with
    | some (true, ws) => (match (allD ws).bind blsD with
      | some bs => ret (wbl (bs.any id)) m
      | none => none)
    | _ => none)
  | .divmod, [.d (.int i), .d (.int j)] => if 0 < j ∧ j < 1073741824 then ret (.d (.tup [.int (i / j), .int (i % j)])) m else none
  | _, _ => none
/-- it is a list -/
def lstAt (w : W) (m : Mem) : Option Unit := match w with
  | .c k => (match m[k]? with
    | some (.lst _) => some ()
    | _ => none)
  | _ => none
/-- methods of lists and dicts -/
def lmt (f : LM) (o : W) (ws : List W) : Ev W := fun m => match o with
  | .d _ => none
  | .c k => match f, m[k]?, ws with
    | .append, some (.lst xs), [w] => if small (xs.length + 1) then some (.ok (.d .non) (m.set k (.lst (xs ++ [w])))) else none
    | .extend, some (.lst xs), [w] => (match seqOf w m with
      | some (true, ys) => if small (xs.length + ys.length) then some (.ok (.d .non) (m.set k (.lst (xs ++ ys)))) else none
      | _ => none)
    | .pop, some (.lst xs), [] => (match xs.getLast? with
      | some w => some (.ok w (m.set k (.lst xs.dropLast)))
      | none => none)
    | .pop, some (.lst xs), [.d (.int i)] => if 0 ≤ i then (match xs[i.toNat]? with
        | some w => some (.ok w (m.set k (.lst (xs.eraseIdx i.toNat))))
        | none => none) else none
    | _, _, _ => none
/-- the kind of a value, for isinstance -/
inductive Kd where
  | non | bl | int | str | lst | tup | dic | ins (c : Nat) | exc (c : Nat)
  deriving DecidableEq
def kindD : D → Option Kd
  | .non => some .non
  | .bl _ => some .bl
  | .int _ => some .int
  | .str _ => some .str
  | .lst _ => some .lst
  | .tup _ => some .tup
  | .dic _ => some .dic
  | .dct _ => some .dic
  | .ins c _ => some (.ins c)
  | .exc c _ => some (.exc c)
  | .pot => none
def kindW (w : W) (m : Mem) : Option Kd := match w with
  | .d x => kindD x
  | .c k => match m[k]? with
    | some (.lst _) => some .lst
    | some (.pin _) => some .lst
    | some (.dic _) => some .dic
    | some (.dct _) => some .dic
    | some (.ins c _) => some (.ins c)
    | some (.frz x) => kindD x
    | _ => none
/-- whether a kind is of one of the types -/
def anyTy (sub : Kd → Ty → Option Bool) (k : Kd) : List Ty → Option Bool
  | [] => some false
  | t :: ts => match sub k t with
    | some true => some true
    | some false => anyTy sub k ts
    | none => none
def fldW (w : W) (f : Nat) (m : Mem) : Option W := match w with
  | .d (.ins _ fs) => (getK f fs).map .d
  | .d (.exc _ fs) => (getK f fs).map .d
  | .d _ => none
  | .c k => match m[k]? with
    | some (.ins _ fs) => getK f fs
    | some (.frz (.ins _ fs)) => (getK f fs).map .d
    | _ => none
def idxW (x y : W) (m : Mem) : Option W := match seqOf x m with
  | some (_, ws) => (match y with
    | .d (.int i) => atI ws i
    | _ => none)
  | none => match dicOf x m with
    | some d => (match pk m FZ y with
      | some y => (dget d y).bind id
      | none => none)
    | none => none
/-- a slice's ends -/
def cutL {α : Type} (xs : List α) (lo hi : Option Int) : List α := (xs.drop (HT.sIx xs.length 0 lo)).take (HT.sIx xs.length xs.length hi - HT.sIx xs.length 0 lo)
def slcW (x : W) (lo hi : Option Int) : Ev W := fun m => match seqOf x m with
  | some (true, ws) => newL (cutL ws lo hi) m
  | _ => none
def intW : W → Option Int
  | .d (.int i) => some i
  | _ => none

/-! ### the evaluator of expressions -/
structure Gm where
  fn : Nat → Option Fn
  sub : Kd → Ty → Option Bool
  /-- which attributes of which kinds are read -/
  fd : Kd → Nat → Bool
/-- a row of constants -/
def csts : E → Option (List D)
  | .nil => some []
  | .cons (.cst d) r => (csts r).map (d :: ·)
  | _ => none
/-- arguments by place and by name, as the parameters come -/
def placed {α : Type} (ws : List α) (ks : List Nat) (vs : List α) : List α := match ks with
  | [] => ws
  | _ => ws ++ (List.range ks.length).filterMap fun j => getK (ws.length + j) (ks.zip vs)
/-- one turn's values as the target has them -/
def rowOf (tg : Tg) (w : W) (m : Mem) : Option (List W) := match tg with
  | .nm _ => some [w]
  | .tp is => match w with
    | .d _ => (match seqOf w m with
      | some (_, ws) => if ws.length = is.length then some ws else none
      | none => none)
    | .c _ => none
def rowsOf (tg : Tg) (m : Mem) : List W → Option (List (List W))
  | [] => some []
  | w :: r => match rowOf tg w m, rowsOf tg m r with
    | some x, some xs => some (x :: xs)
    | _, _ => none
def setT : List Nat → List W → En → En
  | i :: is, w :: ws, env => setT is ws (env.set i (some w))
  | _, _, env => env
def setRow (tg : Tg) (ws : List W) (env : En) : En := match tg with
  | .nm i => setT [i] ws env
  | .tp is => setT is ws env
def wipeE (own : List Nat) (env : En) : En := own.foldr (fun i e => e.set i none) env
/-- a live list is pinned while it is walked -/
def pinned (w : W) (m : Mem) : Option Nat := match w with
  | .c k => (match m[k]? with
    | some (.lst _) => some k
    | _ => none)
  | .d _ => none
def pinC (k : Option Nat) (m : Mem) : Mem := match k with
  | none => m
  | some k => (match m[k]? with
    | some (.lst ws) => m.set k (.pin ws)
    | _ => m)
def unpin (k : Option Nat) (m : Mem) : Option Mem := match k with
  | none => some m
  | some k => (match m[k]? with
    | some (.pin ws) => some (m.set k (.lst ws))
    | _ => none)
def unpinned {α : Type} (k : Option Nat) (x : Ev α) : Ev α := fun m => match x m with
  | some (.ok a m1) => (match unpin k m1 with
    | some m2 => some (.ok a m2)
    | none => none)
  | some (.exc c fs m1) => some (.exc c fs m1)
  | none => none
/-- a name; a pair of names -/
def tgN : Tg → Bool
  | .nm _ => true
  | .tp _ => false
def tgP : Tg → Bool
  | .tp [_, _] => true
  | _ => false
/-- the rows of a walked value -/
def rowsW (tg : Tg) (w : W) : Ev (Option Nat × List (List W)) := fun m => match seqOf w m with
  | some (_, ws) => if small ws.length then (match rowsOf tg m ws with
      | some rs => some (.ok (pinned w m, rs) (pinC (pinned w m) m))
      | none => none) else none
  | none => match w with
    | .d (.str z) => if tgN tg && small z.length then some (.ok (none, z.cps.toList.map fun c => [wstr ⟨#[c]⟩]) m) else none
    | _ => none
def enumR : Nat → List W → List (List W)
  | _, [] => []
  | k, w :: r => [wint k, w] :: enumR (k + 1) r
def zipR : List W → List W → List (List W)
  | x :: xs, y :: ys => [x, y] :: zipR xs ys
  | _, _ => []
def rangeR (lo : Int) : Nat → List (List W)
  | 0 => []
  | n + 1 => [wint lo] :: rangeR (lo + 1) n
/-- the list that a comprehension is making stands at n -/
def pushC (n : Nat) (w : W) : Ev Unit := fun m => match m[n]? with
  | some (.pin ws) => if small (ws.length + 1) then some (.ok () (m.set n (.pin (ws ++ [w])))) else none
  | _ => none
/-- one turn after another of a comprehension -/
def lcLoop (n : Nat) (f : List W → Ev (Option W)) : List (List W) → Ev Unit
  | [] => ret ()
  | r :: rs => bnd (f r) fun o => bnd (match o with
    | some w => pushC n w
    | none => ret ()) fun _ => lcLoop n f rs
def lcRun (f : List W → Ev (Option W)) (k : Option Nat) (rs : List (List W)) : Ev W := fun m => match lcLoop m.length f rs (m ++ [.pin []]) with
  | some (.ok _ m1) => (match m1[m.length]? with
    | some (.pin ws) => (match unpin k (m1.set m.length (.lst ws)) with
      | some m2 => some (.ok (.c m.length) m2)
      | none => none)
    | _ => none)
  | _ => none
mutual
def ev (G : Gm) : E → En → Ev W
  | .var i, env => ask (match env[i]? with
    | some (some w) => some w
    | _ => none)
  | .cst x, _ => ret (.d x)
  | .glo _ x, _ => ret (.d x)
  | .lst as, env => bnd (evs G as env) fun ws => if small ws.length then newL ws else stuck
  | .tup as, env => bnd (evs G as env) fun ws => if small ws.length then bnd (frzs ws) fun xs => ret (.d (.tup xs)) else stuck
  | .neg a, env => bnd (ev G a env) fun w => ask (match w with
    | .d (.int i) => some (wint (-i))
    | _ => none)
  | .not a, env => bnd (ev G a env) fun w => ask ((truth w).map fun b => wbl (!b))
  | .dic ks vs, _ => (match csts ks, csts vs with
    | some ks, some vs => (match keysD ks with
      | some qs => if qs.length = vs.length ∧ qs.length ≤ 1 then newC (.dic (qs.zip (vs.map .d))) else stuck
      | none => stuck)
    | _, _ => stuck)
  | .bin o a b, env => bnd (ev G a env) fun x => bnd (ev G b env) fun y => binop o x y
  | .and a b, env => bnd (ev G a env) fun x => bnd (ask (truth x)) fun c => if c then ev G b env else ret (wbl false)
  | .or a b, env => bnd (ev G a env) fun x => bnd (ask (truth x)) fun c => if c then ret (wbl true) else ev G b env
  | .cmp o a b, env => bnd (ev G a env) fun x => bnd (ev G b env) fun y => rd fun m => (cmpop o x y m).map wbl
  | .chn o o' a b c, env => bnd (ev G a env) fun x => bnd (ev G b env) fun y => bnd (rd (cmpop o x y)) fun k =>
      if k then bnd (ev G c env) fun z => rd fun m => (cmpop o' y z m).map wbl else ret (wbl false)
  | .ife c a b, env => bnd (ev G c env) fun x => bnd (ask (truth x)) fun k => if k then ev G a env else ev G b env
  | .call f as ks kas, env => (match G.fn f with
    | some F => bnd (evs G as env) fun ws => bnd (evs G kas env) fun vs => callF F (placed ws ks vs)
    | none => stuck)
  | .mth f o as ks kas, env => (match G.fn f with
    | some F => bnd (ev G o env) fun x => bnd (evs G as env) fun ws => bnd (evs G kas env) fun vs => callF F (placed (x :: ws) ks vs)
    | none => stuck)
  | .blt f as, env => bnd (evs G as env) fun ws => blt f ws
  | .lmt f o as, env => bnd (ev G o env) fun x => bnd (rd (lstAt x)) fun _ => bnd (evs G as env) fun ws => lmt f x ws
  | .isi a ts, env => if small ts.length then bnd (ev G a env) fun x => rd fun m => (match kindW x m with
    | some k => (anyTy G.sub k ts).map wbl
    | none => none) else stuck
  | .fld o f, env => bnd (ev G o env) fun x => rd fun m => (match kindW x m with
    | some k => if G.fd k f then fldW x f m else none
    | none => none)
  | .idx a b, env => bnd (ev G a env) fun x => bnd (ev G b env) fun y => rd (idxW x y)
  | .slc a lo hi, env => bnd (ev G a env) fun x => bnd (evo G lo env) fun l => bnd (evo G hi env) fun h => slcW x l h
  | .rev a, env => bnd (ev G a env) fun x => fun m => (match seqOf x m with
    | some (true, ws) => newL ws.reverse m
    | _ => none)
  | .lc tg it cnd elt own, env => bnd (rows G it tg env) fun p => lcRun (fun r => bnd (ev G cnd (setRow tg r (wipeE own env))) fun t => bnd (ask (truth t)) fun b =>
      if b then bnd (ev G elt (setRow tg r (wipeE own env))) fun w => ret (some w) else ret none) p.1 p.2
  | _, _ => stuck
def evo (G : Gm) : E → En → Ev (Option Int)
  | .nil, _ => ret none
  | .cons a _, env => bnd (ev G a env) fun w => ask ((intW w).map some)
  | _, _ => stuck
def evs (G : Gm) : E → En → Ev (List W)
  | .nil, _ => ret []
  | .cons a r, env => bnd (ev G a env) fun w => bnd (evs G r env) fun ws => ret (w :: ws)
  | _, _ => stuck
def rows (G : Gm) : E → Tg → En → Ev (Option Nat × List (List W))
  | .rng1 a, tg, env => if tgN tg then bnd (ev G a env) fun x => ask (match x with
    | .d (.int n) => if -(BIG : Int) < n ∧ n < BIG then some (none, rangeR 0 n.toNat) else none
    | _ => none) else stuck
  | .rng2 a b, tg, env => if tgN tg then bnd (ev G a env) fun x => bnd (ev G b env) fun y => ask (match x, y with
    | .d (.int i), .d (.int j) => if -(BIG : Int) < i ∧ i < BIG ∧ -(BIG : Int) < j ∧ j < BIG then some (none, rangeR i (j - i).toNat) else none
    | _, _ => none) else stuck
  | .seq a, tg, env => bnd (ev G a env) fun x => rowsW tg x
  | .enu a, tg, env => if tgP tg then bnd (ev G a env) fun x => fun m => (match seqOf x m with
    | some (true, ws) => if small ws.length then some (.ok (pinned x m, enumR 0 ws) (pinC (pinned x m) m)) else none
    | _ => none) else stuck
  | .zip a b, tg, env => if tgP tg then bnd (ev G a env) fun x => bnd (ev G b env) fun y => bnd (frz1 x) fun x' => bnd (frz1 y) fun y' => ask (match x', y' with
    | .lst xs, .lst ys => if small xs.length && small ys.length then some (none, zipR (xs.map .d) (ys.map .d)) else none
    | _, _ => none) else stuck
  | _, _, _ => stuck
end

/-! ### statements -/
inductive T where
  | skip | seq (a b : T)
  | set (i : Nat) (e : E) | unp (is : List Nat) (e : E) | par (is : List Nat) (es : E)
  | sub (o i e : E) | subn (o i : E) (j : Nat) (e : E) | fld (o : E) (f : Nat) (e : E)
  | aug (i : Nat) (op : Operator) (e : E)
  | iff (c : E) (a b : T)
  | for_ (tg : Tg) (it : E) (body : T) | whl (fuel : Nat) (c : E) (body : T)
  | ret (e : E) | retN | exp (e : E) | brk | cont | never
inductive Fl where
  | next | ret (w : W) | brk | cont
def setIdx (o i v : W) : Ev Unit := fun m => match o, i with
  | .c k, .d (.int i) => (match m[k]? with
    | some (.lst ws) => if 0 ≤ i ∧ i.toNat < ws.length then some (.ok () (m.set k (.lst (ws.set i.toNat v)))) else none
    | _ => none)
  | _, _ => none
def putD (o : W) (x : D) (v : W) : Ev Unit := fun m => match o with
  | .c k => (match m[k]?, x with
    | some (.dic kvs), x => (match keyD x with
      | some q => if small (kvs.length + 1) then some (.ok () (m.set k (.dic (putK q v kvs)))) else none
      | none => none)
    | _, _ => none)
  | _ => none
def setSub (o i v : W) : Ev Unit := fun m => match o with
  | .c k => (match m[k]? with
    | some (.lst _) => setIdx o i v m
    | some (.dic _) => (match i with
      | .d x => putD o x v m
      | _ => none)
    | _ => none)
  | _ => none
def setFld (o : W) (f : Nat) (v : W) : Ev Unit := fun m => match o with
  | .c k => (match m[k]? with
    | some (.ins c fs) => some (.ok () (m.set k (.ins c (putK f v fs))))
    | _ => none)
  | _ => none
def unpW (n : Nat) (w : W) (m : Mem) : Option (List W) := match seqOf w m with
  | some (_, ws) => if ws.length = n then some ws else none
  | none => none
def augop (o : Operator) (x y : W) : Ev W := fun m => match o, x, y with
  | .Add, .d (.int i), .d (.int j) => ret (wint (i + j)) m
  | .Sub, .d (.int i), .d (.int j) => ret (wint (i - j)) m
  | _, _, _ => none
/-- a for, one turn after another -/
def forLoop (f : List W → En → Ev (Fl × En)) : List (List W) → En → Ev (Fl × En)
  | [], env => U.ret (.next, env)
  | r :: rs, env => bnd (f r env) fun p => match p.1 with
    | .next => forLoop f rs p.2
    | .cont => forLoop f rs p.2
    | .brk => U.ret (.next, p.2)
    | .ret w => U.ret (.ret w, p.2)
def whLoop (c : En → Ev W) (f : En → Ev (Fl × En)) : Nat → En → Ev (Fl × En)
  | 0, _ => stuck
  | n + 1, env => bnd (c env) fun x => bnd (ask (truth x)) fun k => if k then bnd (f env) fun p => match p.1 with
      | .next => whLoop c f n p.2
      | .cont => whLoop c f n p.2
      | .brk => U.ret (.next, p.2)
      | .ret w => U.ret (.ret w, p.2)
    else U.ret (.next, env)
def ex (G : Gm) : T → En → Ev (Fl × En)
  | .skip, env => U.ret (.next, env)
  | .seq a b, env => bnd (ex G a env) fun p => match p.1 with
    | .next => ex G b p.2
    | _ => U.ret p
  | .set i e, env => bnd (ev G e env) fun w => U.ret (.next, env.set i (some w))
  | .unp is e, env => bnd (ev G e env) fun w => bnd (rd (unpW is.length w)) fun ws => U.ret (.next, setT is ws env)
  | .par is es, env => bnd (evs G es env) fun ws => if ws.length = is.length then U.ret (.next, setT is ws env) else stuck
  | .sub o i e, env => bnd (ev G e env) fun v => bnd (ev G o env) fun x => bnd (ev G i env) fun y => bnd (setIdx x y v) fun _ => U.ret (.next, env)
  | .subn o i j e, env => bnd (ev G e env) fun v => bnd (rd (unpW 2 v)) fun ws => (match ws with
    | [a, b] => bnd (ev G o env) fun x => bnd (ev G i env) fun y => bnd (setIdx x y a) fun _ => U.ret (.next, env.set j (some b))
    | _ => stuck)
  | .fld o f e, env => bnd (ev G e env) fun v => bnd (ev G o env) fun x => bnd (setFld x f v) fun _ => U.ret (.next, env)
  | .aug i op e, env => bnd (ask (match env[i]? with | some (some w) => some w | _ => none)) fun x => bnd (ev G e env) fun y => bnd (augop op x y) fun z => U.ret (.next, env.set i (some z))
  | .iff c a b, env => bnd (ev G c env) fun x => bnd (ask (truth x)) fun k => if k then ex G a env else ex G b env
  | .for_ tg it body, env => bnd (rows G it tg env) fun p => unpinned p.1 (forLoop (fun r env => ex G body (setRow tg r env)) p.2 env)
  | .whl n c body, env => whLoop (ev G c) (ex G body) n env
  | .ret e, env => bnd (ev G e env) fun w => U.ret (.ret w, env)
  | .retN, env => U.ret (.ret (.d .non), env)
  | .exp e, env => bnd (ev G e env) fun _ => U.ret (.next, env)
  | .brk, env => U.ret (.brk, env)
  | .cont, env => U.ret (.cont, env)
  | .never, _ => stuck

/-! ### a def as a function -/
inductive Rk where
  | d | l | ll
def outW (rk : Rk) (w : W) (m : Mem) : Option (Fr × Mem) := match rk, w with
  | .d, w => (match fz FZ w m with
    | some (x, m1) => some (.d x, m1)
    | none => none)
  | .l, .c (k + 1) => (match m[k + 1]? with
    | some (.lst us) => (match fzs (fz FZ) us (m.set (k + 1) (.pin us)) with
      | some (xs, m1) => some (.l xs, m1)
      | none => none)
    | _ => none)
  | _, _ => none
def argW : D → Option W
  | .pot => some (.c 0)
  | x => some (.d x)
def fin (rk : Rk) (w : W) (m : Mem) : Option Ans := match outW rk w m with
  | some (r, m1) => (match potOf m1 with
    | some p => some (.ok r p)
    | none => none)
  | none => none
/-- np parameters, n names -/
def run (G : Gm) (np n : Nat) (body : T) (rk : Rk) : Fn := fun ds p => if ds.length = np then
  (match ex G body (ds.map argW ++ List.replicate (n - np) none) [potC p] with
    | some (.ok (.ret w, _) m) => fin rk w m
    | some (.ok (.next, _) m) => fin rk (.d .non) m
    | some (.ok _ _) => none
    | some (.exc c fs m) => (match potOf m with
      | some p => some (.exc c fs p)
      | none => none)
    | none => none) else none
end U
set_option Elab.async false
set_option linter.all false
set_option maxRecDepth 100000
set_option maxHeartbeats 4000000
set_option autoImplicit false
/-! V3a: a law's tables, and what the head is asked. -/
namespace U
open PySem L2 PySem.Spec PyProof.Rows
/-! ### a Hook by one Bool of one's own, and the defs -/
def obsX (xb : PySem.W.Frag → Bool) (fn : List He.DefD) (K : PySem.W.Frag) : Bool × List He.FnW := (xb K && fn.all (He.DefD.ok K), fn.map fun x => He.fnW K x.at_)
def SaysX (xb : PySem.W.Frag → Bool) (fn : List He.DefD) (K : PySem.W.Frag) : Prop := obsX xb fn K = (true, fn.map He.DefD.val)
def isDic (o : Obj) : Bool := match o.data with
  | .dict _ _ => true
  | _ => false
/-- the same, and that there is a table of modules -/
def obsY (xb : PySem.W.Frag → Bool) (fn : List He.DefD) (g : Addr → Option Obj) (n : Nat) : Bool × List He.FnW := ((obsX xb fn (He.frG g (He.asD g n))).1 && (g sysModules).any isDic, (obsX xb fn (He.frG g (He.asD g n))).2)
def hookX (n : Nat) (xb : PySem.W.Frag → Bool) (fn : List He.DefD) : PySem.W.Hook where
  α := Bool × List He.FnW
  obs s := obsY xb fn s.heap.get? n
  val _ := (true, fn.map He.DefD.val)
  says _ h := (∃ K, PySem.W.Frag.In K h ∧ SaysX xb fn K) ∧ ∃ o, h.get? sysModules = some o ∧ isDic o = true
  of _ s e := by
    have e1 := Bool.and_eq_true_iff.mp (congrArg Prod.fst e)
    have e2 := congrArg Prod.snd e
    exact ⟨⟨_, He.frG_in, Prod.ext e1.1 e2⟩, PySem.W.any_some e1.2⟩
  keeps _ _ _ z k := by
    obtain ⟨⟨K, i, c⟩, o, e, d⟩ := z
    exact ⟨⟨K, i.keeps k, c⟩, o, k _ _ e, d⟩
def obX (n : Nat) (xb : PySem.W.Frag → Bool) (fn : List He.DefD) (s : PySem.W.SharedT) : Bool × List He.FnW := obsY xb fn (HandSHeadRun.getT s) n
theorem obX_eq {n : Nat} {xb : PySem.W.Frag → Bool} {fn : List He.DefD} (s : PySem.W.SharedT) : obX n xb fn s = (hookX n xb fn).obs s.abs := by
  have e : HandSHeadRun.getT s = s.abs.heap.get? := funext (HandSHeadRun.getT_eq s)
  unfold obX
  rw [e]
  rfl
section
variable {xb : PySem.W.Frag → Bool} {fn : List He.DefD} {K : PySem.W.Frag}
theorem SaysX.own (c : SaysX xb fn K) : xb K = true := (Bool.and_eq_true_iff.mp (congrArg Prod.fst c)).1
theorem SaysX.fun_ (c : SaysX xb fn K) {i : Nat} {x : He.DefD} (h : fn[i]? = some x) : ∃ fd, FunD K x.name x.qual x.params x.body x.scope (x.dvs K) (x.kws K) (He.fAd K x.at_) fd := by
  have ok := List.all_eq_true.mp (Bool.and_eq_true_iff.mp (congrArg Prod.fst c)).2 x (List.mem_of_getElem? h)
  have e := congrArg (fun z => z[i]?) (congrArg Prod.snd c)
  simp only [obsX, List.getElem?_map, h, Option.map_some] at e
  exact He.DefD.funD (Option.some.inj e) ok
end

/-! ### the tables of a law -/
/-- the built-in exception classes that own ones stand on -/
inductive BE where
  | ve | le | re | ae
  deriving DecidableEq
def BE.B : BE → String
  | .ve => "ValueError"
  | .le => "LookupError"
  | .re => "RuntimeError"
  | .ae => "ArithmeticError"
def BE.nid : BE → String
  | .ve => "ValueError.__new__"
  | .le => "LookupError.__new__"
  | .re => "RuntimeError.__new__"
  | .ae => "ArithmeticError.__new__"
def BE.iid : BE → String
  | .ve => "ValueError.__init__"
  | .le => "LookupError.__init__"
  | .re => "RuntimeError.__init__"
  | .ae => "ArithmeticError.__init__"
def BE.tail (b : BE) : List Value := [.type b.B, .type "Exception", .type "BaseException", .type "object"]
theorem BE.facts : ∀ b : BE, ExcBaseFacts b.B b.nid b.iid b.tail
  | .ve => F.excBase_ValueError
  | .le => F.excBase_LookupError
  | .re => F.excBase_RuntimeError
  | .ae => F.excBase_ArithmeticError
theorem BE.store : ∀ b : BE, StoreFacts b.B b.tail "object.__setattr__" "object"
  | .ve => F.store_ValueError
  | .le => F.store_LookupError
  | .re => F.store_RuntimeError
  | .ae => F.store_ArithmeticError
/-- an own exception class: its name, the own classes of its mro, the built-in below, whether it has its own __init__, its attributes -/
structure EC where
  nm : Str
  anc : List Nat
  b : BE
  ini : Bool
  fds : List Nat
structure Ws where
  ec : List EC
  fdn : List Str
  bl : List Str
  cons : List (Str × D)
  fnn : List (Str × List Str × List (Nat × List Nat))
  tys : List Ty
  glo : List Str
def Ws.cln (t : Ws) (c : Nat) : Str := match t.ec[c]? with
  | some e => e.nm
  | none => ""
def Ws.fdm (t : Ws) (f : Nat) : Str := t.fdn.getD f ""
/-! ### what is asked of the written part -/
def vOk (v : Value) : D → Bool
  | .int i => (match v with
    | .int j _ => decide (i = j)
    | _ => false)
  | .str x => (match v with
    | .str y _ => decide (x = y)
    | _ => false)
  | _ => false
def coB (K : PySem.W.Frag) (p : Str × D) : Bool := match PySem.W.nsIn K mainGlobals p.1 with
  | some (some v) => vOk v p.2
  | _ => false
def gloB (K : PySem.W.Frag) (x : Str) : Bool := He.eqO (PySem.W.nsIn K mainGlobals x) (some (some (.ref (He.ga K x))))
def ecB (t : Ws) (K : PySem.W.Frag) (e : EC) : Bool :=
  gloB K e.nm && PySem.W.excInitIn K (He.ga K e.nm) e.b.tail e.b.nid && PySem.W.excOver K (He.ga K e.nm) e.b.tail && PySem.W.hasDictIn K (He.ga K e.nm) &&
  He.eqO (PySem.W.findIn K (.ref (He.ga K e.nm)) "__setattr__") (some (some (.builtin "object.__setattr__"))) && PySem.W.keepIn K (.ref (He.ga K e.nm)) &&
  He.eqO (PySem.W.findIn K (.ref (He.ga K e.nm)) "__getattribute__") (some (some (.builtin "BaseException.__getattribute__"))) && He.eqO (PySem.W.findIn K (.ref (He.ga K e.nm)) "__getattr__") (some none) &&
  He.eqO (PySem.W.findIn K (.ref (He.ga K e.nm)) "__class__") (some (some (.builtin "object.__class__"))) &&
  (match PySem.W.clsIn K (He.ga K e.nm) with
    | some cd => decide (cd.mro = (e.anc.map fun d => Value.ref (He.ga K (t.cln d))) ++ e.b.tail)
    | none => false) &&
  decide (PySem.W.typeIn K (.ref (He.ga K e.nm)) = some (.type "type")) &&
  (if e.ini then He.eqO (PySem.W.findIn K (.ref (He.ga K e.nm)) "__init__") (some (some (.ref (He.ma K (He.ga K e.nm) "__init__")))) && decide (PySem.W.typeIn K (.ref (He.ma K (He.ga K e.nm) "__init__")) = some (.type "function"))
    else He.eqO (PySem.W.findIn K (.ref (He.ga K e.nm)) "__init__") (some (some (.builtin e.b.iid)))) &&
  e.fds.all fun f => He.eqO (PySem.W.findIn K (.ref (He.ga K e.nm)) (t.fdm f)) (some none)
def nodupB : List Addr → Bool
  | [] => true
  | a :: r => !r.contains a && nodupB r
def Ws.xb (t : Ws) (K : PySem.W.Frag) : Bool :=
  t.ec.all (ecB t K) && nodupB (t.ec.map fun e => He.ga K e.nm) && t.bl.all (fun x => He.eqO (PySem.W.nsIn K mainGlobals x) (some none)) && t.cons.all (coB K) && t.fnn.all (fun p => gloB K p.1) &&
  He.eqO (PySem.W.specialIn K (.builtin "object.__class__") "__get__") (some (some (.builtin "getset_descriptor.__get__"))) && decide (PySem.W.takesIn K (.builtin "object.__class__") = some true) && (K.lookup sysModules).isNone && t.glo.all (gloB K)
end U
set_option Elab.async false
set_option linter.all false
set_option maxRecDepth 100000
set_option maxHeartbeats 0
set_option autoImplicit false
/-! The head of law_k10_errors_and_kinds_of_values (printed by gen2.py). -/
namespace U
namespace KK
open PySem L2 PySem.Spec PyProof.Rows
def txt (i : Nat) : Stmt := (PySem.Challenge.pw_uplines_k10_errors_and_kinds_of_values).main.body.getD i (.Pass ⟨0, 0, 0, 0⟩)
abbrev s__law_pot : Stmt := txt 41
def d__law_pot : He.DefD := { at_ := ("_law_pot", none), name := "_law_pot", qual := "_law_pot", params := defArgs s__law_pot, body := defBody s__law_pot, scope := defScope s__law_pot }
abbrev s_law : Stmt := txt 55
def d_law : He.DefD := { at_ := ("law", none), name := "law", qual := "law", params := defArgs s_law, body := defBody s_law, scope := defScope s_law }
abbrev s_is_integer : Stmt := txt 4
def d_is_integer : He.DefD := { at_ := ("is_integer", none), name := "is_integer", qual := "is_integer", params := defArgs s_is_integer, body := defBody s_is_integer, scope := defScope s_is_integer }
abbrev s_is_count : Stmt := txt 5
def d_is_count : He.DefD := { at_ := ("is_count", none), name := "is_count", qual := "is_count", params := defArgs s_is_count, body := defBody s_is_count, scope := defScope s_is_count }
abbrev s_is_name : Stmt := txt 6
def d_is_name : He.DefD := { at_ := ("is_name", none), name := "is_name", qual := "is_name", params := defArgs s_is_name, body := defBody s_is_name, scope := defScope s_is_name }
abbrev s__law_draw : Stmt := txt 42
def d__law_draw : He.DefD := { at_ := ("_law_draw", none), name := "_law_draw", qual := "_law_draw", params := defArgs s__law_draw, body := defBody s__law_draw, scope := defScope s__law_draw }
abbrev s__law_pick : Stmt := txt 43
def d__law_pick : He.DefD := { at_ := ("_law_pick", none), name := "_law_pick", qual := "_law_pick", params := defArgs s__law_pick, body := defBody s__law_pick, scope := defScope s__law_pick }
abbrev s__law_values : Stmt := txt 45
def d__law_values : He.DefD := { at_ := ("_law_values", none), name := "_law_values", qual := "_law_values", params := defArgs s__law_values, body := defBody s__law_values, scope := defScope s__law_values }
abbrev s__law_is_name : Stmt := txt 46
def d__law_is_name : He.DefD := { at_ := ("_law_is_name", none), name := "_law_is_name", qual := "_law_is_name", params := defArgs s__law_is_name, body := defBody s__law_is_name, scope := defScope s__law_is_name }
abbrev s__law_kinds_right : Stmt := txt 47
def d__law_kinds_right : He.DefD := { at_ := ("_law_kinds_right", none), name := "_law_kinds_right", qual := "_law_kinds_right", params := defArgs s__law_kinds_right, body := defBody s__law_kinds_right, scope := defScope s__law_kinds_right }
abbrev s__law_is_of : Stmt := txt 49
def d__law_is_of : He.DefD := { at_ := ("_law_is_of", none), name := "_law_is_of", qual := "_law_is_of", params := defArgs s__law_is_of, body := defBody s__law_is_of, scope := defScope s__law_is_of }
abbrev s__law_valued_right : Stmt := txt 48
def d__law_valued_right : He.DefD := { at_ := ("_law_valued_right", none), name := "_law_valued_right", qual := "_law_valued_right", params := defArgs s__law_valued_right, body := defBody s__law_valued_right, scope := defScope s__law_valued_right }
abbrev s__law_placed_right : Stmt := txt 50
def d__law_placed_right : He.DefD := { at_ := ("_law_placed_right", none), name := "_law_placed_right", qual := "_law_placed_right", params := defArgs s__law_placed_right, body := defBody s__law_placed_right, scope := defScope s__law_placed_right }
abbrev s__law_two_right : Stmt := txt 51
def d__law_two_right : He.DefD := { at_ := ("_law_two_right", none), name := "_law_two_right", qual := "_law_two_right", params := defArgs s__law_two_right, body := defBody s__law_two_right, scope := defScope s__law_two_right }
abbrev s__law_marks : Stmt := txt 53
def d__law_marks : He.DefD := { at_ := ("_law_marks", none), name := "_law_marks", qual := "_law_marks", params := defArgs s__law_marks, body := defBody s__law_marks, scope := defScope s__law_marks }
abbrev s__law_apart_right : Stmt := txt 52
def d__law_apart_right : He.DefD := { at_ := ("_law_apart_right", none), name := "_law_apart_right", qual := "_law_apart_right", params := defArgs s__law_apart_right, body := defBody s__law_apart_right, scope := defScope s__law_apart_right }
abbrev s__law_right : Stmt := txt 54
def d__law_right : He.DefD := { at_ := ("_law_right", none), name := "_law_right", qual := "_law_right", params := defArgs s__law_right, body := defBody s__law_right, scope := defScope s__law_right }
abbrev s_InvalidName : Stmt := inClass (txt 9) 0
def d_InvalidName : He.DefD := { at_ := ("InvalidName", some "__init__"), name := "__init__", qual := "InvalidName.__init__", params := defArgs s_InvalidName, body := defBody s_InvalidName, scope := defScope s_InvalidName }
abbrev s_InvalidLevel : Stmt := inClass (txt 10) 0
def d_InvalidLevel : He.DefD := { at_ := ("InvalidLevel", some "__init__"), name := "__init__", qual := "InvalidLevel.__init__", params := defArgs s_InvalidLevel, body := defBody s_InvalidLevel, scope := defScope s_InvalidLevel }
abbrev s_InvalidNumber : Stmt := inClass (txt 11) 0
def d_InvalidNumber : He.DefD := { at_ := ("InvalidNumber", some "__init__"), name := "__init__", qual := "InvalidNumber.__init__", params := defArgs s_InvalidNumber, body := defBody s_InvalidNumber, scope := defScope s_InvalidNumber }
abbrev s_InvalidPair : Stmt := inClass (txt 12) 0
def d_InvalidPair : He.DefD := { at_ := ("InvalidPair", some "__init__"), name := "__init__", qual := "InvalidPair.__init__", params := defArgs s_InvalidPair, body := defBody s_InvalidPair, scope := defScope s_InvalidPair }
abbrev s_InvalidLine : Stmt := inClass (txt 13) 0
def d_InvalidLine : He.DefD := { at_ := ("InvalidLine", some "__init__"), name := "__init__", qual := "InvalidLine.__init__", params := defArgs s_InvalidLine, body := defBody s_InvalidLine, scope := defScope s_InvalidLine }
abbrev s_InvalidOrder : Stmt := inClass (txt 14) 0
def d_InvalidOrder : He.DefD := { at_ := ("InvalidOrder", some "__init__"), name := "__init__", qual := "InvalidOrder.__init__", params := defArgs s_InvalidOrder, body := defBody s_InvalidOrder, scope := defScope s_InvalidOrder }
abbrev s_InvalidOrders : Stmt := inClass (txt 15) 0
def d_InvalidOrders : He.DefD := { at_ := ("InvalidOrders", some "__init__"), name := "__init__", qual := "InvalidOrders.__init__", params := defArgs s_InvalidOrders, body := defBody s_InvalidOrders, scope := defScope s_InvalidOrders }
abbrev s_InvalidDrawing : Stmt := inClass (txt 16) 0
def d_InvalidDrawing : He.DefD := { at_ := ("InvalidDrawing", some "__init__"), name := "__init__", qual := "InvalidDrawing.__init__", params := defArgs s_InvalidDrawing, body := defBody s_InvalidDrawing, scope := defScope s_InvalidDrawing }
abbrev s_InvalidSheet : Stmt := inClass (txt 17) 0
def d_InvalidSheet : He.DefD := { at_ := ("InvalidSheet", some "__init__"), name := "__init__", qual := "InvalidSheet.__init__", params := defArgs s_InvalidSheet, body := defBody s_InvalidSheet, scope := defScope s_InvalidSheet }
abbrev s_InvalidClaim : Stmt := inClass (txt 18) 0
def d_InvalidClaim : He.DefD := { at_ := ("InvalidClaim", some "__init__"), name := "__init__", qual := "InvalidClaim.__init__", params := defArgs s_InvalidClaim, body := defBody s_InvalidClaim, scope := defScope s_InvalidClaim }
abbrev s_InvalidCommand : Stmt := inClass (txt 19) 0
def d_InvalidCommand : He.DefD := { at_ := ("InvalidCommand", some "__init__"), name := "__init__", qual := "InvalidCommand.__init__", params := defArgs s_InvalidCommand, body := defBody s_InvalidCommand, scope := defScope s_InvalidCommand }
abbrev s_InvalidLevels : Stmt := inClass (txt 20) 0
def d_InvalidLevels : He.DefD := { at_ := ("InvalidLevels", some "__init__"), name := "__init__", qual := "InvalidLevels.__init__", params := defArgs s_InvalidLevels, body := defBody s_InvalidLevels, scope := defScope s_InvalidLevels }
abbrev s_InvalidNodes : Stmt := inClass (txt 21) 0
def d_InvalidNodes : He.DefD := { at_ := ("InvalidNodes", some "__init__"), name := "__init__", qual := "InvalidNodes.__init__", params := defArgs s_InvalidNodes, body := defBody s_InvalidNodes, scope := defScope s_InvalidNodes }
abbrev s_InvalidLines : Stmt := inClass (txt 22) 0
def d_InvalidLines : He.DefD := { at_ := ("InvalidLines", some "__init__"), name := "__init__", qual := "InvalidLines.__init__", params := defArgs s_InvalidLines, body := defBody s_InvalidLines, scope := defScope s_InvalidLines }
abbrev s_InvalidPairs : Stmt := inClass (txt 23) 0
def d_InvalidPairs : He.DefD := { at_ := ("InvalidPairs", some "__init__"), name := "__init__", qual := "InvalidPairs.__init__", params := defArgs s_InvalidPairs, body := defBody s_InvalidPairs, scope := defScope s_InvalidPairs }
abbrev s_InvalidWalk : Stmt := inClass (txt 24) 0
def d_InvalidWalk : He.DefD := { at_ := ("InvalidWalk", some "__init__"), name := "__init__", qual := "InvalidWalk.__init__", params := defArgs s_InvalidWalk, body := defBody s_InvalidWalk, scope := defScope s_InvalidWalk }
abbrev s_InvalidText : Stmt := inClass (txt 25) 0
def d_InvalidText : He.DefD := { at_ := ("InvalidText", some "__init__"), name := "__init__", qual := "InvalidText.__init__", params := defArgs s_InvalidText, body := defBody s_InvalidText, scope := defScope s_InvalidText }
abbrev s_UnknownNode : Stmt := inClass (txt 27) 0
def d_UnknownNode : He.DefD := { at_ := ("UnknownNode", some "__init__"), name := "__init__", qual := "UnknownNode.__init__", params := defArgs s_UnknownNode, body := defBody s_UnknownNode, scope := defScope s_UnknownNode }
abbrev s_UnknownLine : Stmt := inClass (txt 28) 0
def d_UnknownLine : He.DefD := { at_ := ("UnknownLine", some "__init__"), name := "__init__", qual := "UnknownLine.__init__", params := defArgs s_UnknownLine, body := defBody s_UnknownLine, scope := defScope s_UnknownLine }
abbrev s_NameTaken : Stmt := inClass (txt 30) 0
def d_NameTaken : He.DefD := { at_ := ("NameTaken", some "__init__"), name := "__init__", qual := "NameTaken.__init__", params := defArgs s_NameTaken, body := defBody s_NameTaken, scope := defScope s_NameTaken }
abbrev s_Refused : Stmt := inClass (txt 32) 0
def d_Refused : He.DefD := { at_ := ("Refused", some "__init__"), name := "__init__", qual := "Refused.__init__", params := defArgs s_Refused, body := defBody s_Refused, scope := defScope s_Refused }
abbrev s_OtherSheets : Stmt := inClass (txt 33) 0
def d_OtherSheets : He.DefD := { at_ := ("OtherSheets", some "__init__"), name := "__init__", qual := "OtherSheets.__init__", params := defArgs s_OtherSheets, body := defBody s_OtherSheets, scope := defScope s_OtherSheets }
abbrev s_OtherLevels : Stmt := inClass (txt 34) 0
def d_OtherLevels : He.DefD := { at_ := ("OtherLevels", some "__init__"), name := "__init__", qual := "OtherLevels.__init__", params := defArgs s_OtherLevels, body := defBody s_OtherLevels, scope := defScope s_OtherLevels }
abbrev s_CommandFailed : Stmt := inClass (txt 37) 0
def d_CommandFailed : He.DefD := { at_ := ("CommandFailed", some "__init__"), name := "__init__", qual := "CommandFailed.__init__", params := defArgs s_CommandFailed, body := defBody s_CommandFailed, scope := defScope s_CommandFailed }
abbrev s_TooMany : Stmt := inClass (txt 39) 0
def d_TooMany : He.DefD := { at_ := ("TooMany", some "__init__"), name := "__init__", qual := "TooMany.__init__", params := defArgs s_TooMany, body := defBody s_TooMany, scope := defScope s_TooMany }
def fn : List He.DefD := ([d__law_pot, d_law, d_is_integer, d_is_count, d_is_name, d__law_draw, d__law_pick, d__law_values, d__law_is_name, d__law_kinds_right, d__law_is_of, d__law_valued_right, d__law_placed_right, d__law_two_right, d__law_marks, d__law_apart_right, d__law_right, d_InvalidName, d_InvalidLevel, d_InvalidNumber, d_InvalidPair, d_InvalidLine, d_InvalidOrder, d_InvalidOrders, d_InvalidDrawing] : List He.DefD) ++ ([d_InvalidSheet, d_InvalidClaim, d_InvalidCommand, d_InvalidLevels, d_InvalidNodes, d_InvalidLines, d_InvalidPairs, d_InvalidWalk, d_InvalidText, d_UnknownNode, d_UnknownLine, d_NameTaken, d_Refused, d_OtherSheets, d_OtherLevels, d_CommandFailed, d_TooMany] : List He.DefD)
def ec : List EC := ([⟨"SheetError", [0], .ve, false, []⟩, ⟨"InvalidName", [1, 0], .ve, true, [0]⟩, ⟨"InvalidLevel", [2, 0], .ve, true, [0]⟩, ⟨"InvalidNumber", [3, 0], .ve, true, [0]⟩, ⟨"InvalidPair", [4, 0], .ve, true, [0]⟩, ⟨"InvalidLine", [5, 0], .ve, true, [0]⟩, ⟨"InvalidOrder", [6, 0], .ve, true, [0]⟩, ⟨"InvalidOrders", [7, 0], .ve, true, [0]⟩, ⟨"InvalidDrawing", [8, 0], .ve, true, [0]⟩, ⟨"InvalidSheet", [9, 0], .ve, true, [0]⟩, ⟨"InvalidClaim", [10, 0], .ve, true, [0]⟩, ⟨"InvalidCommand", [11, 0], .ve, true, [0]⟩, ⟨"InvalidLevels", [12, 0], .ve, true, [1]⟩, ⟨"InvalidNodes", [13, 0], .ve, true, [1]⟩, ⟨"InvalidLines", [14, 0], .ve, true, [1]⟩, ⟨"InvalidPairs", [15, 0], .ve, true, [1]⟩, ⟨"InvalidWalk", [16, 0], .ve, true, [1]⟩, ⟨"InvalidText", [17, 0], .ve, true, [2]⟩, ⟨"MissingError", [18], .le, false, []⟩, ⟨"UnknownNode", [19, 18], .le, true, [0]⟩, ⟨"UnknownLine", [20, 18], .le, true, [0]⟩, ⟨"StateError", [21], .re, false, []⟩, ⟨"NameTaken", [22, 21], .re, true, [0]⟩, ⟨"NothingClean", [23, 21], .re, false, []⟩, ⟨"Refused", [24, 21], .re, true, [0]⟩] : List EC) ++ ([⟨"OtherSheets", [25, 21], .re, true, [3, 4]⟩, ⟨"OtherLevels", [26, 21], .re, true, [3, 4]⟩, ⟨"NotTrue", [27, 21], .re, false, []⟩, ⟨"NothingToUndo", [28, 21], .re, false, []⟩, ⟨"CommandFailed", [29, 21], .re, true, [1]⟩, ⟨"LimitError", [30], .ae, false, []⟩, ⟨"TooMany", [31, 30], .ae, true, [5, 6]⟩] : List EC)
def fnn : List (Str × List Str × List (Nat × List Nat)) := ([("InvalidName", ["value"], [(1, []), (0, [0])]), ("InvalidLevel", ["value"], [(1, [])]), ("InvalidNumber", ["value"], [(1, [])]), ("InvalidPair", ["value"], [(1, [])]), ("InvalidLine", ["value"], [(1, [])]), ("InvalidOrder", ["value"], [(1, [])]), ("InvalidOrders", ["value"], [(1, [])]), ("InvalidDrawing", ["value"], [(1, [])]), ("InvalidSheet", ["value"], [(1, []), (0, [0])]), ("InvalidClaim", ["value"], [(1, [])]), ("InvalidCommand", ["value"], [(1, []), (0, [0])]), ("InvalidLevels", ["position"], [(1, []), (0, [0])]), ("InvalidNodes", ["position"], [(1, [])]), ("InvalidLines", ["position"], [(1, [])]), ("InvalidPairs", ["position"], [(1, [])]), ("InvalidWalk", ["position"], [(1, []), (0, [0])]), ("InvalidText", ["line"], [(1, []), (0, [0])]), ("UnknownNode", ["value"], [(1, []), (0, [0])]), ("UnknownLine", ["value"], [(1, []), (0, [0])]), ("NameTaken", ["value"], [(1, []), (0, [0])]), ("NothingClean", [], [(0, [])]), ("Refused", ["value"], [(1, []), (0, [0])]), ("OtherSheets", ["one", "other"], [(2, []), (0, [1, 0])]), ("OtherLevels", ["one", "other"], [(2, [])]), ("NotTrue", [], [(0, [])])] : List (Str × List Str × List (Nat × List Nat))) ++ ([("NothingToUndo", [], [(0, [])]), ("CommandFailed", ["position"], [(1, []), (0, [0])]), ("TooMany", ["what", "limit"], [(2, []), (0, [1, 0])]), ("is_integer", ["value"], [(1, []), (0, [0])]), ("is_count", ["value"], [(1, []), (0, [0])]), ("is_name", ["value"], [(1, []), (0, [0])]), ("_law_draw", ["_law_pot_here", "_law_many"], [(2, [])]), ("_law_pick", ["_law_pot_here", "_law_some_here"], [(2, [])]), ("_law_values", ["_law_pot_here"], [(1, [])]), ("_law_is_name", ["_law_value_there"], [(1, [])]), ("_law_kinds_right", ["_law_some_here"], [(1, [])]), ("_law_is_of", ["_law_e", "_law_kinds"], [(2, [])]), ("_law_valued_right", ["_law_one"], [(1, [])]), ("_law_placed_right", ["_law_one"], [(1, [])]), ("_law_two_right", ["_law_here", "_law_there"], [(2, [])]), ("_law_marks", ["_law_e"], [(1, [])]), ("_law_apart_right", [], [(0, [])]), ("_law_right", ["_law_pot_here"], [(1, [])])] : List (Str × List Str × List (Nat × List Nat)))
def ws : Ws := { ec := ec, fdn := ["value", "position", "line", "one", "other", "what", "limit"], bl := ["ArithmeticError", "LookupError", "RuntimeError", "ValueError", "abs", "all", "bool", "divmod", "int", "isinstance", "len", "max", "min", "range", "repr", "str"], cons := [("LETTERS", (.str "abcdefghijklmnopqrstuvwxyz")), ("DIGITS", (.str "0123456789")), ("LONGEST_NAME", (.int 6))], fnn := fnn, tys := ([.int, .bool, .str, .own 0, .own 18, .own 21, .own 30, .bex "ValueError", .bex "LookupError", .bex "RuntimeError", .bex "ArithmeticError", .own 29, .own 10, .own 11, .own 8, .own 2, .own 12, .own 5, .own 14, .own 1, .own 13, .own 3, .own 6, .own 7, .own 4] : List Ty) ++ ([.own 15, .own 9, .own 17, .own 16, .own 22, .own 23, .own 28, .own 27, .own 26, .own 25, .own 24, .own 31, .own 20, .own 19] : List Ty), glo := ["_law_pot", "law", "_law_right"] }
abbrev R : PySem.W.OpenRow := PySem.W.OpenLaw.row PySem.Challenge.rw_uplines_k10_errors_and_kinds_of_values
abbrev hk : PySem.W.Hook := hookX 5 ws.xb fn
def loose : List Str := (["LETTERS", "DIGITS", "LONGEST_NAME", "is_integer", "is_count", "is_name", "SheetError", "InvalidName", "InvalidLevel", "InvalidNumber", "InvalidPair", "InvalidLine", "InvalidOrder", "InvalidOrders", "InvalidDrawing", "InvalidSheet", "InvalidClaim", "InvalidCommand", "InvalidLevels", "InvalidNodes", "InvalidLines", "InvalidPairs", "InvalidWalk", "InvalidText", "MissingError"] : List Str) ++ (["UnknownNode", "UnknownLine", "StateError", "NameTaken", "NothingClean", "Refused", "OtherSheets", "OtherLevels", "NotTrue", "NothingToUndo", "CommandFailed", "LimitError", "TooMany", "_law_pot", "_law_draw", "_law_pick", "_law_some", "_law_values", "_law_is_name", "_law_kinds_right", "_law_valued_right", "_law_is_of", "_law_placed_right", "_law_two_right", "_law_apart_right"] : List Str) ++ (["_law_marks", "_law_right"] : List Str)
theorem head (w : World) : HandSHeadRun.RunEq R (PySem.W.view R.prog [55]) hk (obX 5 ws.xb fn) 20000 loose w := by
  intro os
  kernel_rfl
end KK
end U
set_option Elab.async false
set_option linter.all false
set_option maxRecDepth 100000
set_option maxHeartbeats 4000000
set_option autoImplicit false
/-! U1: what the little language's values stand for in the layer's heap. -/
namespace U
open Evl (Ex)
open PySem L2

/-- what numbers stand for: classes, attributes -/
structure Tb where
  cl : Nat → Str
  fd : Nat → Str
def fldS (tb : Tb) (ds : List (Nat × D)) : List (Str × D) := ds.map fun p => (tb.fd p.1, p.2)

mutual
inductive Rp (tb : Tb) (K : PySem.W.Frag) (S : Hp) : V → D → Prop
  | non : Rp tb K S .non .non
  | bl (b : Bool) : Rp tb K S (.bl b) (.bl b)
  | int (i : Int) : Rp tb K S (.int i) (.int i)
  | str (x : Str) : Rp tb K S (.str x) (.str x)
  | lst {a : Addr} {vs : List V} {ds : List D} : S a = some (.lst vs) → Rps tb K S vs ds → Rp tb K S (.ref a) (.lst ds)
  | tup {a : Addr} {vs : List V} {ds : List D} : S a = some (.tup vs) → Rps tb K S vs ds → Rp tb K S (.ref a) (.tup ds)
  | dic {a : Addr} {kvs : List (Key × V)} {ds : List (Key × D)} : S a = some (.dK kvs) → Rkv tb K S Key kvs ds → Rp tb K S (.ref a) (.dic ds)
  | dct {a : Addr} {kvs : List (List Key × V)} {ds : List (List Key × D)} : S a = some (.dT kvs) → Rkv tb K S (List Key) kvs ds → Rp tb K S (.ref a) (.dct ds)
  | ins {a dx : Addr} {c : Nat} {fs : List (Str × V)} {ds : List (Nat × D)} : S a = some (.ins (He.ga K (tb.cl c)) dx fs) → S dx = some (.own a) → Rkv tb K S Str fs (fldS tb ds) → Rp tb K S (.ref a) (.ins c ds)
  | exc0 {a : Addr} {c : Nat} : S a = some (exo a (He.ga K (tb.cl c)) none) → Rp tb K S (.ref a) (.exc c [])
  | exc {a dx : Addr} {c : Nat} {fs : List (Str × V)} {ds : List (Nat × D)} : S a = some (exo a (He.ga K (tb.cl c)) (some dx)) → S dx = some (exd dx fs) → Rkv tb K S Str fs (fldS tb ds) → Rp tb K S (.ref a) (.exc c ds)
inductive Rps (tb : Tb) (K : PySem.W.Frag) (S : Hp) : List V → List D → Prop
  | nil : Rps tb K S [] []
  | cons {v : V} {d : D} {vs : List V} {ds : List D} : Rp tb K S v d → Rps tb K S vs ds → Rps tb K S (v :: vs) (d :: ds)
inductive Rkv (tb : Tb) (K : PySem.W.Frag) (S : Hp) : (κ : Type) → List (κ × V) → List (κ × D) → Prop
  | nil {κ : Type} : Rkv tb K S κ [] []
  | cons {κ : Type} {k : κ} {v : V} {d : D} {vs : List (κ × V)} {ds : List (κ × D)} : Rp tb K S v d → Rkv tb K S κ vs ds → Rkv tb K S κ ((k, v) :: vs) ((k, d) :: ds)
end
section
variable {tb : Tb} {K : PySem.W.Frag} {S S' : Hp}
mutual
theorem Rp.mono (e : Ex S S') : ∀ {v : V} {d : D}, Rp tb K S v d → Rp tb K S' v d
  | _, _, .non => .non
  | _, _, .bl b => .bl b
  | _, _, .int i => .int i
  | _, _, .str x => .str x
  | _, _, .lst h r => .lst (e _ _ h) (Rps.mono e r)
  | _, _, .tup h r => .tup (e _ _ h) (Rps.mono e r)
  | _, _, .dic h r => .dic (e _ _ h) (Rkv.mono e r)
  | _, _, .dct h r => .dct (e _ _ h) (Rkv.mono e r)
  | _, _, .ins h h' r => .ins (e _ _ h) (e _ _ h') (Rkv.mono e r)
  | _, _, .exc0 h => .exc0 (e _ _ h)
  | _, _, .exc h h' r => .exc (e _ _ h) (e _ _ h') (Rkv.mono e r)
theorem Rps.mono (e : Ex S S') : ∀ {vs : List V} {ds : List D}, Rps tb K S vs ds → Rps tb K S' vs ds
  | _, _, .nil => .nil
  | _, _, .cons h r => .cons (Rp.mono e h) (Rps.mono e r)
theorem Rkv.mono (e : Ex S S') : ∀ {κ : Type} {vs : List (κ × V)} {ds : List (κ × D)}, Rkv tb K S κ vs ds → Rkv tb K S' κ vs ds
  | _, _, _, .nil => .nil
  | _, _, _, .cons h r => .cons (Rp.mono e h) (Rkv.mono e r)
end
end

/-! ### values, cells, the memory -/
def WOk (tb : Tb) (K : PySem.W.Frag) (S : Hp) (as : List (Option Addr)) (v : V) : W → Prop
  | .d x => Rp tb K S v x
  | .c n => ∃ a, as[n]? = some (some a) ∧ v = .ref a
abbrev WOs (tb : Tb) (K : PySem.W.Frag) (S : Hp) (as : List (Option Addr)) : List V → List W → Prop := Paired (WOk tb K S as)
abbrev KOs (tb : Tb) (K : PySem.W.Frag) (S : Hp) (as : List (Option Addr)) {κ : Type} : List (κ × V) → List (κ × W) → Prop := Paired fun p q => p.1 = q.1 ∧ WOk tb K S as p.2 q.2
def fldW' (tb : Tb) (ds : List (Nat × W)) : List (Str × W) := ds.map fun p => (tb.fd p.1, p.2)
def CellOk (tb : Tb) (K : PySem.W.Frag) (H0 S : Hp) (as : List (Option Addr)) (H : Hp) (a : Addr) : Cell → Prop
  | .lst ws => S a = none ∧ ∃ vs, H a = some (.lst vs) ∧ WOs tb K S as vs ws
  | .pin ws => S a = none ∧ ∃ vs, H a = some (.lst vs) ∧ WOs tb K S as vs ws
  | .dic kvs => S a = none ∧ ∃ us : List (Key × V), H a = some (.dK us) ∧ KOs tb K S as us kvs
  | .dct kvs => S a = none ∧ ∃ us : List (List Key × V), H a = some (.dT us) ∧ KOs tb K S as us kvs
  | .ins c fs => S a = none ∧ ∃ dx us, H a = some (.ins (He.ga K (tb.cl c)) dx us) ∧ H dx = some (.own a) ∧ S dx = none ∧ H0 dx = none ∧ KOs tb K S as us (fldW' tb fs)
  | .frz x => Rp tb K S (.ref a) x
  | .gone => True
structure MOk (tb : Tb) (K : PySem.W.Frag) (H0 S0 : Hp) (P : Option Addr) (m : Mem) (as : List (Option Addr)) (S H : Hp) : Prop where
  sub : Ex S H
  sys : ∃ u : Obj × Addr, H sysModules = some (.frz u.1 (.own u.2))
  s0 : Ex S0 S
  h0 : Ex S0 H0
  base : ∀ a o, H0 a = some o → P ≠ some a → H a = some o
  sbase : ∀ a, S0 a = none → H0 a ≠ none → S a = none
  nd : as.Nodup
  len : as.length = m.length
  p0 : as[0]? = some P
  pz : P = none ↔ m[0]? = some .gone
  live : ∀ (n : Nat) (a : Addr), as[n]? = some (some a) → H a ≠ none
  pot : ∀ a, P = some a → S a = none ∧ ∃ vs, H a = some (.lst vs)
  cell : ∀ (n : Nat) (c : Cell) (a : Addr), m[n]? = some c → as[n]? = some (some a) → CellOk tb K H0 S as H a c
  new : ∀ (n : Nat) (a : Addr), as[n + 1]? = some (some a) → H0 a = none
  some_ : ∀ (n : Nat), n + 1 < as.length → ∃ a, as[n + 1]? = some (some a)
def EnvOk (tb : Tb) (K : PySem.W.Frag) (S : Hp) (as : List (Option Addr)) (σ : St) (env : En) : Prop := env.length = σ.length ∧ ∀ (i : Nat) (w : W), env[i]? = some (some w) → ∃ v, σ[i]? = some (some v) ∧ WOk tb K S as v w
/-- what a step keeps -/
structure Stp (m : Mem) (as : List (Option Addr)) (S H : Hp) (m' : Mem) (as' : List (Option Addr)) (S' H' : Hp) : Prop where
  ex : Ex S S'
  pre : as <+: as'
  pin : ∀ (n : Nat) (ws : List W) (a : Addr), m[n]? = some (.pin ws) → as[n]? = some (some a) → m'[n]? = some (.pin ws) ∧ H' a = H a
theorem Stp.rfl' {m : Mem} {as : List (Option Addr)} {S H : Hp} : Stp m as S H m as S H := ⟨(Evl.Ex.refl _), List.prefix_rfl, fun _ _ _ h _ => ⟨h, rfl⟩⟩
theorem pre_get {α : Type} {as bs : List α} (h : as <+: bs) {n : Nat} {x : α} (e : as[n]? = some x) : bs[n]? = some x := by
  obtain ⟨t, rfl⟩ := h
  rw [List.getElem?_append_left (List.getElem?_eq_some_iff.mp e).1]
  exact e
theorem Stp.trans {m m1 m2 : Mem} {as as1 as2 : List (Option Addr)} {S S1 S2 H H1 H2 : Hp} (a : Stp m as S H m1 as1 S1 H1) (b : Stp m1 as1 S1 H1 m2 as2 S2 H2) : Stp m as S H m2 as2 S2 H2 :=
  ⟨a.ex.trans b.ex, a.pre.trans b.pre, fun n ws x h e => by
    obtain ⟨p, q⟩ := a.pin n ws x h e
    obtain ⟨p2, q2⟩ := b.pin n ws x p (pre_get a.pre e)
    exact ⟨p2, q2.trans q⟩⟩
section
variable {tb : Tb} {K : PySem.W.Frag} {S S' H H' H0 S0 : Hp} {as as' : List (Option Addr)} {P : Option Addr} {m m' : Mem} {σ : St} {env : En}
theorem WOk.mono (e : Ex S S') (p : as <+: as') {v : V} : ∀ {w : W}, WOk tb K S as v w → WOk tb K S' as' v w
  | .d _, h => Rp.mono e h
  | .c _, ⟨a, h, r⟩ => ⟨a, pre_get p h, r⟩
theorem WOs.mono (e : Ex S S') (p : as <+: as') {vs : List V} {ws : List W} (h : WOs tb K S as vs ws) : WOs tb K S' as' vs ws := PySem.Paired.mono (fun _ _ h => WOk.mono e p h) h
theorem KOs.mono {κ : Type} (e : Ex S S') (p : as <+: as') {vs : List (κ × V)} {ws : List (κ × W)} (h : KOs tb K S as vs ws) : KOs tb K S' as' vs ws := PySem.Paired.mono (fun _ _ h => ⟨h.1, WOk.mono e p h.2⟩) h
theorem EnvOk.mono (e : Ex S S') (p : as <+: as') (h : EnvOk tb K S as σ env) : EnvOk tb K S' as' σ env := ⟨h.1, fun i w hi => by
  obtain ⟨v, h1, h2⟩ := h.2 i w hi
  exact ⟨v, h1, h2.mono e p⟩⟩
/-- a cell that stands where neither the heap nor the shared part changed, but for growth -/
theorem CellOk.mono {a : Addr} {c : Cell} (e : Ex S S') (p : as <+: as') (hs : S a = none → S' a = none) (hd : ∀ dx, H dx = some (.own a) → S dx = none → S' dx = none) (hk : H' a = H a) (ho : ∀ dx, H dx = some (.own a) → H' dx = H dx)
    (h : CellOk tb K H0 S as H a c) : CellOk tb K H0 S' as' H' a c := by
  cases c with
  | lst ws => obtain ⟨h1, vs, h2, h3⟩ := h; exact ⟨hs h1, vs, hk.trans h2, h3.mono e p⟩
  | pin ws => obtain ⟨h1, vs, h2, h3⟩ := h; exact ⟨hs h1, vs, hk.trans h2, h3.mono e p⟩
  | dic ws => obtain ⟨h1, vs, h2, h3⟩ := h; exact ⟨hs h1, vs, hk.trans h2, h3.mono e p⟩
  | dct ws => obtain ⟨h1, vs, h2, h3⟩ := h; exact ⟨hs h1, vs, hk.trans h2, h3.mono e p⟩
  | ins c ws => obtain ⟨h1, dx, vs, h2, h4, h5, h6, h3⟩ := h; exact ⟨hs h1, dx, vs, hk.trans h2, (ho dx h4).trans h4, hd dx h4 h5, h6, h3.mono e p⟩
  | frz x => exact Rp.mono e h
  | gone => trivial
/-- an address that is free in the heap is no one's -/
theorem MOk.fresh (M : MOk tb K H0 S0 P m as S H) {p : Addr} (h : H p = none) : H0 p = none ∧ S p = none ∧ P ≠ some p := by
  have hP : P ≠ some p := fun e => by
    obtain ⟨_, vs, hv⟩ := M.pot p e
    rw [hv] at h
    cases h
  refine ⟨?_, ?_, hP⟩
  · cases e : H0 p with
    | none => rfl
    | some o => rw [M.base p o e hP] at h; cases h
  · cases e : S p with
    | none => rfl
    | some o => rw [M.sub p o e] at h; cases h

/-- what a live cell holds is no instance's dict -/
theorem CellOk.noOwn {a b : Addr} {c : Cell} (h : CellOk tb K H0 S as H a c) (hl : S a = none) (hc : c ≠ .gone) (hf : ∀ x, c ≠ .frz x) : H a ≠ some (.own b) := by
  intro e
  cases c with
  | lst ws => obtain ⟨_, vs, h2, _⟩ := h; rw [h2] at e; cases e
  | pin ws => obtain ⟨_, vs, h2, _⟩ := h; rw [h2] at e; cases e
  | dic ws => obtain ⟨_, vs, h2, _⟩ := h; rw [h2] at e; cases e
  | dct ws => obtain ⟨_, vs, h2, _⟩ := h; rw [h2] at e; cases e
  | ins c ws => obtain ⟨_, dx, vs, h2, _⟩ := h; rw [h2] at e; cases e
  | frz x => exact hf x rfl
  | gone => exact hc rfl
theorem nodup_get {α : Type} {l : List α} (h : l.Nodup) {i j : Nat} {x : α} (a : l[i]? = some x) (b : l[j]? = some x) : i = j := by
  obtain ⟨h1, e1⟩ := List.getElem?_eq_some_iff.mp a
  obtain ⟨h2, e2⟩ := List.getElem?_eq_some_iff.mp b
  exact (List.getElem_inj h).mp (e1.trans e2.symm)
theorem MOk.lt (M : MOk tb K H0 S0 P m as S H) {n : Nat} {c : Cell} (h : m[n]? = some c) : n < as.length := by
  rw [M.len]
  exact (List.getElem?_eq_some_iff.mp h).1
/-- the address of a cell -/
theorem MOk.adr (M : MOk tb K H0 S0 P m as S H) {n : Nat} {c : Cell} (h : m[n + 1]? = some c) : ∃ a, as[n + 1]? = some (some a) := M.some_ n (M.lt h)
/-- a new cell -/
theorem MOk.alloc (M : MOk tb K H0 S0 P m as S H) {p : Addr} {o : HO} {c : Cell} (hp : H p = none) (hc : CellOk tb K H0 S (as ++ [some p]) (upd H p o) p c) (hn : m ≠ []) :
    MOk tb K H0 S0 P (m ++ [c]) (as ++ [some p]) S (upd H p o) ∧ Stp m as S H (m ++ [c]) (as ++ [some p]) S (upd H p o) := by
  obtain ⟨f1, f2, f3⟩ := M.fresh hp
  have hl : 0 < m.length := List.length_pos_iff.mpr hn
  have key : ∀ (n : Nat) (a : Addr), (as ++ [some p])[n]? = some (some a) → (n < as.length ∧ as[n]? = some (some a) ∧ a ≠ p) ∨ (n = as.length ∧ a = p) := fun n a e => by
    rcases Nat.lt_or_ge n as.length with h | h
    · rw [List.getElem?_append_left h] at e
      refine .inl ⟨h, e, fun z => ?_⟩
      subst z
      exact M.live n a e hp
    · rw [List.getElem?_append_right h] at e
      cases hz : n - as.length with
      | zero =>
        rw [hz] at e
        simp at e
        exact .inr ⟨by omega, e.symm⟩
      | succ k => rw [hz] at e; simp at e
  have ke : ∀ {b : Addr} {u : HO}, H b = some u → upd H p o b = some u := fun {b u} e => by rw [upd_ne (ne_of_none e hp)]; exact e
  refine ⟨⟨fun a u e => ke (M.sub a u e), (let ⟨u, h⟩ := M.sys; ⟨u, ke h⟩), M.s0, M.h0, fun a u e hP => ke (M.base a u e hP), M.sbase, ?_, by simp [M.len], ?_, (by rw [List.getElem?_append_left hl]; exact M.pz), fun n a e => ?_, fun a e => ?_, fun n c' a e ea => ?_, fun n a e => ?_, fun n hn' => ?_⟩, (Evl.Ex.refl _), List.prefix_append _ _, fun n ws a e ea => ⟨?_, ?_⟩⟩
  · rw [List.nodup_append]
    refine ⟨M.nd, by simp, fun x hx y hy => ?_⟩
    simp at hy
    subst hy
    rintro rfl
    obtain ⟨n, hn', e⟩ := List.getElem_of_mem hx
    exact M.live n p (List.getElem?_eq_some_iff.mpr ⟨hn', e⟩) hp
  · rw [List.getElem?_append_left (by rw [M.len]; exact hl)]
    exact M.p0
  · rcases key n a e with ⟨_, e', _⟩ | ⟨_, rfl⟩
    · cases q : H a with
      | none => exact absurd q (M.live n a e')
      | some u => rw [ke q]; simp
    · rw [upd_same]; simp
  · obtain ⟨h1, vs, h2⟩ := M.pot a e
    exact ⟨h1, vs, ke h2⟩
  · rcases key n a ea with ⟨hl', e', ne⟩ | ⟨hn', rfl⟩
    · rw [List.getElem?_append_left (by rw [← M.len]; exact hl')] at e
      refine (M.cell n c' a e e').mono (Evl.Ex.refl _) (List.prefix_append _ _) id (fun _ _ h => h) (upd_ne ne) fun dx hd => upd_ne (ne_of_none hd hp)
    · rw [hn', M.len, List.getElem?_append_right (Nat.le_refl _)] at e
      simp at e
      subst e
      exact hc
  · rcases key _ a e with ⟨_, e', _⟩ | ⟨_, rfl⟩
    · exact M.new n a e'
    · exact f1
  · rw [List.length_append] at hn'
    rcases Nat.lt_or_ge (n + 1) as.length with h | h
    · obtain ⟨a, e⟩ := M.some_ n h
      exact ⟨a, by rw [List.getElem?_append_left h]; exact e⟩
    · have : n + 1 = as.length := by simp at hn'; omega
      exact ⟨p, by rw [this, List.getElem?_append_right (Nat.le_refl _)]; simp⟩
  · rw [List.getElem?_append_left (List.getElem?_eq_some_iff.mp e).1]
    exact e
  · rw [upd_ne]
    rintro rfl
    exact M.live n a ea hp

/-- a new object that nobody will change: a tuple -/
theorem MOk.newS (M : MOk tb K H0 S0 P m as S H) {p : Addr} {o : HO} (hp : H p = none) : MOk tb K H0 S0 P m as (upd S p o) (upd H p o) ∧ Stp m as S H m as (upd S p o) (upd H p o) := by
  obtain ⟨f1, f2, f3⟩ := M.fresh hp
  have ke : ∀ {b : Addr} {u : HO}, H b = some u → upd H p o b = some u := fun {b u} e => by rw [upd_ne (ne_of_none e hp)]; exact e
  have kn : ∀ {b : Addr}, H b ≠ none → upd S p o b = S b := fun {b} e => upd_ne fun z => e (by rw [z]; exact hp)
  have exS : Ex S (upd S p o) := Evl.Ex.new f2
  refine ⟨⟨fun a u e => ?_, (let ⟨u, h⟩ := M.sys; ⟨u, ke h⟩), M.s0.trans exS, M.h0, fun a u e hP => ke (M.base a u e hP), fun a h1 h2 => ?_, M.nd, M.len, M.p0, M.pz, fun n a e => ?_, fun a e => ?_, fun n c a e ea => ?_, M.new, M.some_⟩, exS, List.prefix_rfl, fun n ws a e ea => ⟨e, ?_⟩⟩
  · by_cases ha : a = p
    · subst ha; rw [upd_same] at e ⊢; exact e
    · rw [upd_ne ha] at e ⊢; exact M.sub a u e
  · rw [upd_ne]
    · exact M.sbase a h1 h2
    · rintro rfl; exact h2 f1
  · cases q : H a with
    | none => exact absurd q (M.live n a e)
    | some u => rw [ke q]; simp
  · obtain ⟨h1, vs, h2⟩ := M.pot a e
    exact ⟨by rw [kn (by rw [h2]; simp)]; exact h1, vs, ke h2⟩
  · have hl := M.live n a ea
    refine (M.cell n c a e ea).mono exS List.prefix_rfl (fun h => by rw [kn hl]; exact h) (fun dx h h' => by rw [kn (by rw [h]; simp)]; exact h') ?_ fun dx hd => upd_ne (ne_of_none hd hp)
    rw [upd_ne]
    rintro rfl
    exact hl hp
  · rw [upd_ne]
    rintro rfl
    exact M.live n a ea hp
/-- a live cell's object is written -/
theorem MOk.write (M : MOk tb K H0 S0 P m as S H) {n : Nat} {a : Addr} {c c' : Cell} {o' : HO} (hm : m[n]? = some c) (ha : as[n]? = some (some a)) (hS : S a = none) (hno : ∀ b, H a ≠ some (.own b)) (hnz : ∀ q b, H a ≠ some (.frz q b)) (hnp : ∀ ws, c ≠ .pin ws) (hnl : n = 0 → (∃ vs, o' = .lst vs) ∧ c' ≠ .gone)
    (hc : CellOk tb K H0 S as (upd H a o') a c') : MOk tb K H0 S0 P (m.set n c') as S (upd H a o') ∧ Stp m as S H (m.set n c') as S (upd H a o') := by
  have hn : n < m.length := (List.getElem?_eq_some_iff.mp hm).1
  have hne : ∀ {k : Nat} {b : Addr}, as[k]? = some (some b) → k ≠ n → b ≠ a := fun {k b} e hk z => by
    subst z
    exact hk (nodup_get M.nd e ha)
  refine ⟨⟨fun b u e => ?_, (let ⟨u, h⟩ := M.sys; ⟨u, by rw [upd_ne fun z => hnz _ _ (by rw [← z]; exact h)]; exact h⟩), M.s0, M.h0, fun b u e hP => ?_, M.sbase, M.nd, by rw [List.length_set]; exact M.len, M.p0, ?_, fun k b e => ?_, fun b e => ?_, fun k d b e eb => ?_, M.new, M.some_⟩, (Evl.Ex.refl _), List.prefix_rfl, fun k ws b e eb => ⟨?_, ?_⟩⟩
  · rw [upd_ne]
    · exact M.sub b u e
    · rintro rfl; rw [hS] at e; cases e
  · rw [upd_ne]
    · exact M.base b u e hP
    · rintro rfl
      cases n with
      | zero =>
        have := M.p0.symm.trans ha
        exact hP (Option.some.inj this)
      | succ k => rw [M.new k b ha] at e; cases e
  · by_cases hk : n = 0
    · subst hk
      have hPa : P = some a := Option.some.inj (M.p0.symm.trans ha)
      rw [List.getElem?_set_self hn, hPa]
      constructor
      · intro z; cases z
      · intro z; exact absurd (Option.some.inj z) (hnl rfl).2
    · rw [List.getElem?_set_ne hk]
      exact M.pz
  · by_cases hb : b = a
    · rw [hb, upd_same]; simp
    · rw [upd_ne hb]; exact M.live k b e
  · obtain ⟨h1, vs, h2⟩ := M.pot b e
    refine ⟨h1, ?_⟩
    by_cases hb : b = a
    · have e0 : as[0]? = some (some b) := by rw [M.p0, e]
      have : n = 0 := by
        by_cases hk : (0 : Nat) = n
        · exact hk.symm
        · exact absurd hb (hne e0 hk)
      obtain ⟨⟨vs', rfl⟩, _⟩ := hnl this
      exact ⟨vs', by rw [hb, upd_same]⟩
    · exact ⟨vs, by rw [upd_ne hb]; exact h2⟩
  · by_cases hk : k = n
    · subst hk
      rw [List.getElem?_set_self hn] at e
      rw [ha] at eb
      cases e; cases eb
      exact hc
    · rw [List.getElem?_set_ne (Ne.symm hk)] at e
      have hb := hne eb hk
      exact (M.cell k d b e eb).mono (Evl.Ex.refl _) List.prefix_rfl id (fun _ _ h => h) (upd_ne hb) fun dx hd => upd_ne fun z => hno b (by rw [← z]; exact hd)
  · have hk : k ≠ n := fun z => by
      subst z
      rw [hm] at e
      cases e
      exact hnp ws rfl
    rw [List.getElem?_set_ne (Ne.symm hk)]
    exact e
  · have hk : k ≠ n := fun z => by
      subst z
      rw [hm] at e
      cases e
      exact hnp ws rfl
    exact upd_ne (hne eb hk)
/-- a cell is given over to the shared part: S' has S, and a (and a's own dict) beside -/
theorem MOk.share (M : MOk tb K H0 S0 P m as S H) {S' : Hp} {n : Nat} {a : Addr} {x : D} (hn : n + 1 < m.length) (ha : as[n + 1]? = some (some a)) (hno : ∀ b, H a ≠ some (.own b)) (e1 : Ex S S') (e2 : Ex S' H)
    (hk : ∀ b, S b = none → S' b ≠ none → b = a ∨ H b = some (.own a)) (h0 : ∀ dx, H dx = some (.own a) → S dx = none → S' dx ≠ none → H0 dx = none) (hr : Rp tb K S' (.ref a) x) :
    MOk tb K H0 S0 P (m.set (n + 1) (.frz x)) as S' H := by
  have hne : ∀ {k : Nat} {b : Addr}, as[k]? = some (some b) → k ≠ n + 1 → b ≠ a := fun {k b} e hq z => by
    subst z
    exact hq (nodup_get M.nd e ha)
  refine ⟨e2, M.sys, M.s0.trans e1, M.h0, M.base, fun b h1 h2 => ?_, M.nd, by rw [List.length_set]; exact M.len, M.p0, (by rw [List.getElem?_set_ne (by omega)]; exact M.pz), M.live, fun b e => ?_, fun k d b e eb => ?_, M.new, M.some_⟩
  · have hs := M.sbase b h1 h2
    cases q : S' b with
    | none => rfl
    | some u =>
      rcases hk b hs (by rw [q]; simp) with rfl | h
      · exact absurd (M.new n b ha) h2
      · exact absurd (h0 b h hs (by rw [q]; simp)) h2
  · obtain ⟨h1, vs, h2⟩ := M.pot b e
    refine ⟨?_, vs, h2⟩
    cases q : S' b with
    | none => rfl
    | some u =>
      exfalso
      have e0 : as[0]? = some (some b) := by rw [M.p0, e]
      rcases hk b h1 (by rw [q]; simp) with rfl | h
      · exact hne e0 (by omega) rfl
      · rw [h2] at h; cases h
  · by_cases hkn : k = n + 1
    · subst hkn
      rw [List.getElem?_set_self hn] at e
      rw [ha] at eb
      cases e; cases eb
      exact hr
    · rw [List.getElem?_set_ne (Ne.symm hkn)] at e
      have hb := hne eb hkn
      have hc := M.cell k d b e eb
      by_cases hg : d = .gone
      · subst hg; trivial
      · by_cases hf : ∃ x, d = .frz x
        · obtain ⟨y, rfl⟩ := hf
          exact Rp.mono e1 hc
        · have hs : S b = none → S' b = none := fun h => by
            cases q : S' b with
            | none => rfl
            | some u =>
              rcases hk b h (by rw [q]; simp) with z | z
              · exact absurd z hb
              · exact absurd z (hc.noOwn h hg fun y z => hf ⟨y, z⟩)
          refine hc.mono e1 List.prefix_rfl hs (fun dx h h' => ?_) rfl fun _ _ => rfl
          cases q : S' dx with
          | none => rfl
          | some u =>
            rcases hk dx h' (by rw [q]; simp) with z | z
            · subst z
              exact absurd h (hno b)
            · rw [h] at z; cases z; exact absurd rfl hb

theorem upd_ex {S H : Hp} {a : Addr} {o : HO} (e : Ex S H) (h : H a = some o) : Ex S (upd S a o) ∧ Ex (upd S a o) H := by
  refine ⟨fun b u hb => ?_, fun b u hb => ?_⟩
  · by_cases z : b = a
    · subst z
      rw [e b u hb] at h
      rw [upd_same]
      exact h.symm
    · rw [upd_ne z]; exact hb
  · by_cases z : b = a
    · subst z
      rw [upd_same] at hb
      rw [h]; exact hb
    · rw [upd_ne z] at hb; exact e b u hb
theorem upd_new {S : Hp} {a b : Addr} {o : HO} (h : S b = none) (h' : upd S a o b ≠ none) : b = a := by
  by_cases z : b = a
  · exact z
  · rw [upd_ne z] at h'; exact absurd h h'
def FzOk (tb : Tb) (K : PySem.W.Frag) (f : W → Mem → Option (D × Mem)) : Prop := ∀ (w : W) (m : Mem) (x : D) (m' : Mem) (v : V) (H0 S0 : Hp) (P : Option Addr) (as : List (Option Addr)) (S H : Hp), f w m = some (x, m') → MOk tb K H0 S0 P m as S H → WOk tb K S as v w →
  ∃ S', MOk tb K H0 S0 P m' as S' H ∧ Stp m as S H m' as S' H ∧ Rp tb K S' v x
theorem fzs_ok {f : W → Mem → Option (D × Mem)} (hf : FzOk tb K f) : ∀ (ws : List W) (m : Mem) (xs : List D) (m' : Mem) (vs : List V) (S : Hp), fzs f ws m = some (xs, m') → MOk tb K H0 S0 P m as S H → WOs tb K S as vs ws →
    ∃ S', MOk tb K H0 S0 P m' as S' H ∧ Stp m as S H m' as S' H ∧ Rps tb K S' vs xs
  | [], m, xs, m', vs, S, h, M, r => by
    cases r
    simp only [fzs, Option.some.injEq, Prod.mk.injEq] at h
    obtain ⟨rfl, rfl⟩ := h
    exact ⟨S, M, Stp.rfl', .nil⟩
  | w :: ws, m, xs, m', vs, S, h, M, r => by
    cases r with
    | @cons v _ vs' _ r0 r1 =>
      unfold fzs at h
      cases e1 : f w m with
      | none => rw [e1] at h; cases h
      | some p =>
        obtain ⟨x, m1⟩ := p
        rw [e1] at h
        dsimp only at h
        cases e2 : fzs f ws m1 with
        | none => rw [e2] at h; cases h
        | some q =>
          obtain ⟨ys, m2⟩ := q
          rw [e2] at h
          simp only [Option.some.injEq, Prod.mk.injEq] at h
          obtain ⟨rfl, rfl⟩ := h
          obtain ⟨S1, M1, s1, r2⟩ := hf w m x m1 v H0 S0 P as S H e1 M r0
          obtain ⟨S2, M2, s2, r3⟩ := fzs_ok hf ws m1 ys m2 vs' S1 e2 M1 (WOs.mono s1.ex List.prefix_rfl r1)
          exact ⟨S2, M2, s1.trans s2, .cons (r2.mono s2.ex) r3⟩
theorem fzk_ok {κ κ' : Type} (g : κ → κ') {f : W → Mem → Option (D × Mem)} (hf : FzOk tb K f) : ∀ (ws : List (κ × W)) (m : Mem) (xs : List (κ × D)) (m' : Mem) (vs : List (κ' × V)) (S : Hp), fzk f ws m = some (xs, m') → MOk tb K H0 S0 P m as S H →
    Paired (fun (p : κ' × V) (q : κ × W) => p.1 = g q.1 ∧ WOk tb K S as p.2 q.2) vs ws → ∃ S', MOk tb K H0 S0 P m' as S' H ∧ Stp m as S H m' as S' H ∧ Rkv tb K S' κ' vs (xs.map fun p => (g p.1, p.2))
  | [], m, xs, m', vs, S, h, M, r => by
    cases r
    simp only [fzk, Option.some.injEq, Prod.mk.injEq] at h
    obtain ⟨rfl, rfl⟩ := h
    exact ⟨S, M, Stp.rfl', .nil⟩
  | (k, w) :: ws, m, xs, m', vs, S, h, M, r => by
    cases r with
    | @cons v _ vs' _ r0 r1 =>
      obtain ⟨k', v⟩ := v
      obtain ⟨rfl, r0⟩ := r0
      unfold fzk at h
      cases e1 : f w m with
      | none => rw [e1] at h; cases h
      | some p =>
        obtain ⟨x, m1⟩ := p
        rw [e1] at h
        dsimp only at h
        cases e2 : fzk f ws m1 with
        | none => rw [e2] at h; cases h
        | some q =>
          obtain ⟨ys, m2⟩ := q
          rw [e2] at h
          simp only [Option.some.injEq, Prod.mk.injEq] at h
          obtain ⟨rfl, rfl⟩ := h
          obtain ⟨S1, M1, s1, r2⟩ := hf w m x m1 v H0 S0 P as S H e1 M r0
          obtain ⟨S2, M2, s2, r3⟩ := fzk_ok g hf ws m1 ys m2 vs' S1 e2 M1 (PySem.Paired.mono (fun _ _ h => ⟨h.1, h.2.mono s1.ex List.prefix_rfl⟩) r1)
          exact ⟨S2, M2, s1.trans s2, .cons (r2.mono s2.ex) r3⟩
theorem stp_set {m m1 : Mem} {S1 : Hp} {k : Nat} {c c' : Cell} {S' : Hp} (s : Stp m as S H m1 as S1 H) (e : Ex S1 S') (hm : m[k]? = some c) (hnp : ∀ ws, c ≠ .pin ws) : Stp m as S H (m1.set k c') as S' H :=
  ⟨s.ex.trans e, s.pre, fun n ws a h ha => by
    have hk : k ≠ n := fun z => by
      subst z
      rw [hm] at h
      cases h
      exact hnp ws rfl
    rw [List.getElem?_set_ne hk]
    exact s.pin n ws a h ha⟩
theorem fz_ok : ∀ n : Nat, FzOk tb K (fz n)
  | 0, w, m, x, m', v, H0, S0, P, as, S, H, h, M, r => by simp [fz] at h
  | n + 1, .d y, m, x, m', v, H0, S0, P, as, S, H, h, M, r => by
    simp only [fz, Option.some.injEq, Prod.mk.injEq] at h
    obtain ⟨rfl, rfl⟩ := h
    exact ⟨S, M, Stp.rfl', r⟩
  | n + 1, .c 0, m, x, m', v, H0, S0, P, as, S, H, h, M, r => by simp [fz] at h
  | n + 1, .c (k + 1), m, x, m', v, H0, S0, P, as, S, H, h, M, r => by
    obtain ⟨a, ha, rfl⟩ := r
    unfold fz at h
    dsimp only at h
    cases e : m[k + 1]? with
    | none => rw [e] at h; cases h
    | some c =>
      rw [e] at h
      have hc := M.cell _ _ _ e ha
      have hlt : k + 1 < as.length := M.lt e
      cases c with
      | lst ws =>
        dsimp only at h
        obtain ⟨hS, vs, hH, hw⟩ := hc
        cases e1 : fzs (fz n) ws m with
        | none => rw [e1] at h; cases h
        | some p =>
          obtain ⟨xs, m1⟩ := p
          rw [e1] at h
          simp only [Option.some.injEq, Prod.mk.injEq] at h
          obtain ⟨rfl, rfl⟩ := h
          obtain ⟨S1, M1, s1, rs⟩ := fzs_ok (fz_ok n) ws m xs m1 vs S e1 M hw
          obtain ⟨u1, u2⟩ := upd_ex M1.sub hH
          have rr : Rp tb K (upd S1 a (.lst vs)) (.ref a) (.lst xs) := .lst upd_same (rs.mono u1)
          refine ⟨upd S1 a (.lst vs), M1.share (by rw [← M1.len]; exact hlt) ha (fun b q => by rw [hH] at q; cases q) u1 u2 (fun b h1 h2 => .inl (upd_new h1 h2)) (fun dx h1 h2 h3 => ?_) rr, stp_set s1 u1 e (fun ws q => by cases q), rr⟩
          rw [upd_new h2 h3, hH] at h1; cases h1
      | pin ws => cases h
      | dic kvs =>
        dsimp only at h
        obtain ⟨hS, vs, hH, hw⟩ := hc
        cases e1 : fzk (fz n) kvs m with
        | none => rw [e1] at h; cases h
        | some p =>
          obtain ⟨xs, m1⟩ := p
          rw [e1] at h
          simp only [Option.some.injEq, Prod.mk.injEq] at h
          obtain ⟨rfl, rfl⟩ := h
          obtain ⟨S1, M1, s1, rs⟩ := fzk_ok id (fz_ok n) kvs m xs m1 vs S e1 M hw
          have eid : (xs.map fun p => (id p.1, p.2)) = xs := by simp
          rw [eid] at rs
          obtain ⟨u1, u2⟩ := upd_ex M1.sub hH
          have rr : Rp tb K (upd S1 a (.dK vs)) (.ref a) (.dic xs) := .dic upd_same (rs.mono u1)
          refine ⟨upd S1 a (.dK vs), M1.share (by rw [← M1.len]; exact hlt) ha (fun b q => by rw [hH] at q; cases q) u1 u2 (fun b h1 h2 => .inl (upd_new h1 h2)) (fun dx h1 h2 h3 => ?_) rr, stp_set s1 u1 e (fun ws q => by cases q), rr⟩
          rw [upd_new h2 h3, hH] at h1; cases h1
      | dct kvs =>
        dsimp only at h
        obtain ⟨hS, vs, hH, hw⟩ := hc
        cases e1 : fzk (fz n) kvs m with
        | none => rw [e1] at h; cases h
        | some p =>
          obtain ⟨xs, m1⟩ := p
          rw [e1] at h
          simp only [Option.some.injEq, Prod.mk.injEq] at h
          obtain ⟨rfl, rfl⟩ := h
          obtain ⟨S1, M1, s1, rs⟩ := fzk_ok id (fz_ok n) kvs m xs m1 vs S e1 M hw
          have eid : (xs.map fun p => (id p.1, p.2)) = xs := by simp
          rw [eid] at rs
          obtain ⟨u1, u2⟩ := upd_ex M1.sub hH
          have rr : Rp tb K (upd S1 a (.dT vs)) (.ref a) (.dct xs) := .dct upd_same (rs.mono u1)
          refine ⟨upd S1 a (.dT vs), M1.share (by rw [← M1.len]; exact hlt) ha (fun b q => by rw [hH] at q; cases q) u1 u2 (fun b h1 h2 => .inl (upd_new h1 h2)) (fun dx h1 h2 h3 => ?_) rr, stp_set s1 u1 e (fun ws q => by cases q), rr⟩
          rw [upd_new h2 h3, hH] at h1; cases h1
      | ins c fs =>
        dsimp only at h
        obtain ⟨hS, dx, vs, hH, hd, hSd, h0d, hw⟩ := hc
        cases e1 : fzk (fz n) fs m with
        | none => rw [e1] at h; cases h
        | some p =>
          obtain ⟨xs, m1⟩ := p
          rw [e1] at h
          simp only [Option.some.injEq, Prod.mk.injEq] at h
          obtain ⟨rfl, rfl⟩ := h
          have hw' : Paired (fun (p : Str × V) (q : Nat × W) => p.1 = tb.fd q.1 ∧ WOk tb K S as p.2 q.2) vs fs := by
            have aux : ∀ (fs : List (Nat × W)) (vs : List (Str × V)), KOs tb K S as vs (fldW' tb fs) → Paired (fun (p : Str × V) (q : Nat × W) => p.1 = tb.fd q.1 ∧ WOk tb K S as p.2 q.2) vs fs := by
              intro fs
              induction fs with
              | nil => intro vs h; cases h; exact .nil
              | cons q r ih =>
                intro vs h
                cases h with
                | cons h1 h2 => exact .cons h1 (ih _ h2)
            exact aux fs vs hw
          obtain ⟨S1, M1, s1, rs⟩ := fzk_ok tb.fd (fz_ok n) fs m xs m1 vs S e1 M hw'
          obtain ⟨u1, u2⟩ := upd_ex M1.sub hd
          obtain ⟨u3, u4⟩ := upd_ex u2 hH
          have nda : dx ≠ a := fun z => by rw [z, hH] at hd; cases hd
          have rr : Rp tb K (upd (upd S1 dx (.own a)) a (.ins (He.ga K (tb.cl c)) dx vs)) (.ref a) (.ins c xs) := .ins upd_same (by rw [upd_ne nda, upd_same]) (rs.mono (u1.trans u3))
          refine ⟨_, M1.share (by rw [← M1.len]; exact hlt) ha (fun b q => by rw [hH] at q; cases q) (u1.trans u3) u4 (fun b h1 h2 => ?_) (fun dy h1 h2 h3 => ?_) rr, stp_set s1 (u1.trans u3) e (fun ws q => by cases q), rr⟩
          · by_cases hb : b = a
            · exact .inl hb
            · rw [upd_ne hb] at h2
              rw [upd_new h1 h2]
              exact .inr hd
          · by_cases hb : dy = a
            · rw [hb, hH] at h1; cases h1
            · rw [upd_ne hb] at h3
              rw [upd_new h2 h3]
              exact h0d
      | frz y =>
        simp only [Option.some.injEq, Prod.mk.injEq] at h
        obtain ⟨rfl, rfl⟩ := h
        exact ⟨S, M, Stp.rfl', hc⟩
      | gone => cases h
end
end U
set_option Elab.async false
set_option linter.all false
set_option maxRecDepth 100000
set_option maxHeartbeats 4000000
set_option autoImplicit false
/-! U2: readings by outcomes; operators by values. -/
namespace U
open Evl (Ex)
open PySem L2

/-- the dict of an error that leaves -/
def XdOk (tb : Tb) (K : PySem.W.Frag) (S H : Hp) (fs : List (Nat × D)) : Option Addr → Prop
  | none => fs = []
  | some d => ∃ us, H d = some (.xd us) ∧ Rkv tb K S Str us (fldS tb fs)
/-- what is wanted of an outcome -/
def Post (tb : Tb) (K : PySem.W.Frag) (E : XK) {α β : Type} (R : Hp → List (Option Addr) → β → α → Prop) (H0 S0 : Hp) (P : Option Addr) (m : Mem) (as : List (Option Addr)) (S H : Hp) (Q : β → Hp → Prop) : Out α → Prop
  | .ok a m' => ∀ b S' H' as', Stp m as S H m' as' S' H' → MOk tb K H0 S0 P m' as' S' H' → R S' as' b a → Q b H'
  | .exc c fs m' => ∀ od S' H' as', Stp m as S H m' as' S' H' → MOk tb K H0 S0 P m' as' S' H' → XdOk tb K S' H' fs od → E (.ref (He.ga K (tb.cl c))) od H'
theorem Post.shift {tb : Tb} {K : PySem.W.Frag} {E : XK} {α β : Type} {R : Hp → List (Option Addr) → β → α → Prop} {H0 S0 : Hp} {P : Option Addr} {m m1 : Mem} {as as1 : List (Option Addr)} {S S1 H H1 : Hp} {Q : β → Hp → Prop} {o : Out α}
    (s : Stp m as S H m1 as1 S1 H1) (p : Post tb K E R H0 S0 P m as S H Q o) : Post tb K E R H0 S0 P m1 as1 S1 H1 Q o := by
  cases o with
  | ok a m' => exact fun b S' H' as' s' M' r => p b S' H' as' (s.trans s') M' r
  | exc c fs m' => exact fun od S' H' as' s' M' r => p od S' H' as' (s.trans s') M' r
/-- an outcome as a reading -/
def tG (tb : Tb) (K : PySem.W.Frag) (E : XK) {α β : Type} (R : Hp → List (Option Addr) → β → α → Prop) (env : En) (m : Mem) (o : Out α) : St → Hp → (β → Hp → Prop) → Prop := fun σ H Q =>
  ∃ H0 S0 P S as, MOk tb K H0 S0 P m as S H ∧ EnvOk tb K S as σ env ∧ Post tb K E R H0 S0 P m as S H Q o
abbrev RW (tb : Tb) (K : PySem.W.Frag) : Hp → List (Option Addr) → V → W → Prop := fun S as v w => WOk tb K S as v w
abbrev RWs (tb : Tb) (K : PySem.W.Frag) : Hp → List (Option Addr) → List V → List W → Prop := fun S as v w => WOs tb K S as v w
abbrev RB : Hp → List (Option Addr) → Bool → Bool → Prop := fun _ _ b c => b = c
def tE (tb : Tb) (K : PySem.W.Frag) (E : XK) (env : En) (m : Mem) (o : Out W) : TE := tG tb K E (RW tb K) env m o
def tAs (tb : Tb) (K : PySem.W.Frag) (E : XK) (env : En) (m : Mem) (o : Out (List W)) : TA := tG tb K E (RWs tb K) env m o
def tT (tb : Tb) (K : PySem.W.Frag) (E : XK) (env : En) (m : Mem) (o : Out Bool) : TT := tG tb K E RB env m o

/-- an operation by values, as the evaluator tells it -/
def rS (tb : Tb) (K : PySem.W.Frag) (E : XK) (f : W → W → Ev W) : R2 := fun x y H Q => ∃ H0 S0 P m as S wx wy o, MOk tb K H0 S0 P m as S H ∧ WOk tb K S as x wx ∧ WOk tb K S as y wy ∧ f wx wy m = some o ∧ Post tb K E (RW tb K) H0 S0 P m as S H Q o
def uS (tb : Tb) (K : PySem.W.Frag) (E : XK) (f : W → Ev W) : V → Hp → VK → Prop := fun x H Q => ∃ H0 S0 P m as S wx o, MOk tb K H0 S0 P m as S H ∧ WOk tb K S as x wx ∧ f wx m = some o ∧ Post tb K E (RW tb K) H0 S0 P m as S H Q o
def cS (tb : Tb) (K : PySem.W.Frag) (E : XK) (f : List W → Ev W) : List V → Hp → VK → Prop := fun xs H Q => ∃ H0 S0 P m as S ws o, MOk tb K H0 S0 P m as S H ∧ WOs tb K S as xs ws ∧ f ws m = some o ∧ Post tb K E (RW tb K) H0 S0 P m as S H Q o

section
variable {tb : Tb} {K : PySem.W.Frag} {E : XK} {H0 S0 S H : Hp} {P : Option Addr} {m : Mem} {as : List (Option Addr)} {Q : VK}
theorem WOk.int {v : V} {i : Int} (h : WOk tb K S as v (.d (.int i))) : v = .int i := by cases (show Rp tb K S v (.int i) from h); rfl
theorem WOk.bl {v : V} {i : Bool} (h : WOk tb K S as v (.d (.bl i))) : v = .bl i := by cases (show Rp tb K S v (.bl i) from h); rfl
theorem WOk.str {v : V} {i : Str} (h : WOk tb K S as v (.d (.str i))) : v = .str i := by cases (show Rp tb K S v (.str i) from h); rfl
theorem WOk.non {v : V} (h : WOk tb K S as v (.d .non)) : v = .non := by cases (show Rp tb K S v .non from h); rfl
/-- a value without objects, nothing changed -/
theorem Post.val {w : W} {v : V} (M : MOk tb K H0 S0 P m as S H) (p : Post tb K E (RW tb K) H0 S0 P m as S H Q (.ok w m)) (h : WOk tb K S as v w) : Q v H := p v S H as Stp.rfl' M h
/-- a new list -/
theorem Post.newL {ws : List W} {vs : List V} {a : Addr} (M : MOk tb K H0 S0 P m as S H) (p : Post tb K E (RW tb K) H0 S0 P m as S H Q (.ok (.c m.length) (m ++ [.lst ws]))) (h : WOs tb K S as vs ws) (ha : H a = none) : Q (.ref a) (upd H a (.lst vs)) := by
  have hm : m ≠ [] := fun z => by
    have h0 := M.p0
    have hl := M.len
    rw [z] at hl
    rw [List.eq_nil_of_length_eq_zero hl] at h0
    cases h0
  obtain ⟨f1, f2, f3⟩ := M.fresh ha
  obtain ⟨M', s'⟩ := M.alloc (p := a) (o := .lst vs) (c := .lst ws) ha ⟨f2, vs, upd_same, WOs.mono (Evl.Ex.refl _) (List.prefix_append _ _) h⟩ hm
  exact p _ _ _ _ s' M' ⟨a, by rw [← M.len, List.getElem?_append_right (Nat.le_refl _)]; simp, rfl⟩
/-- the items of a sequence -/
theorem Rps.ws {vs : List V} : ∀ {xs : List D}, Rps tb K S vs xs → WOs tb K S as vs (xs.map .d) := by
  induction vs with
  | nil => intro xs h; cases h; exact .nil
  | cons v vs ih =>
    intro xs h
    cases h with
    | cons h1 h2 => exact .cons h1 (ih h2)
theorem seq_ok (M : MOk tb K H0 S0 P m as S H) {w : W} {v : V} (h : WOk tb K S as v w) {b : Bool} {ws : List W} (e : seqOf w m = some (b, ws)) : ∃ a vs, v = .ref a ∧ H a = some (if b then .lst vs else .tup vs) ∧ WOs tb K S as vs ws := by
  cases w with
  | d x =>
    cases x with
    | lst xs =>
      simp only [seqOf, Option.some.injEq, Prod.mk.injEq] at e
      obtain ⟨rfl, rfl⟩ := e
      cases (show Rp tb K S v (.lst xs) from h) with
      | lst h1 h2 => exact ⟨_, _, rfl, M.sub _ _ h1, h2.ws⟩
    | tup xs =>
      simp only [seqOf, Option.some.injEq, Prod.mk.injEq] at e
      obtain ⟨rfl, rfl⟩ := e
      cases (show Rp tb K S v (.tup xs) from h) with
      | tup h1 h2 => exact ⟨_, _, rfl, M.sub _ _ h1, h2.ws⟩
    | _ => cases e
  | c k =>
    obtain ⟨a, ha, rfl⟩ := h
    unfold seqOf at e
    dsimp only at e
    cases ec : m[k]? with
    | none => rw [ec] at e; cases e
    | some c =>
      rw [ec] at e
      have hc := M.cell _ _ _ ec ha
      cases c with
      | lst us =>
        simp only [Option.some.injEq, Prod.mk.injEq] at e
        obtain ⟨rfl, rfl⟩ := e
        obtain ⟨_, vs, h2, h3⟩ := hc
        exact ⟨a, vs, rfl, h2, h3⟩
      | pin us =>
        simp only [Option.some.injEq, Prod.mk.injEq] at e
        obtain ⟨rfl, rfl⟩ := e
        obtain ⟨_, vs, h2, h3⟩ := hc
        exact ⟨a, vs, rfl, h2, h3⟩
      | frz x =>
        cases x with
        | lst xs =>
          simp only [Option.some.injEq, Prod.mk.injEq] at e
          obtain ⟨rfl, rfl⟩ := e
          cases (show Rp tb K S (.ref a) (.lst xs) from hc) with
          | lst h1 h2 => exact ⟨_, _, rfl, M.sub _ _ h1, h2.ws⟩
        | tup xs =>
          simp only [Option.some.injEq, Prod.mk.injEq] at e
          obtain ⟨rfl, rfl⟩ := e
          cases (show Rp tb K S (.ref a) (.tup xs) from hc) with
          | tup h1 h2 => exact ⟨_, _, rfl, M.sub _ _ h1, h2.ws⟩
        | _ => cases e
      | _ => cases e
end
theorem _root_.PySem.Paired.app {α β : Type} {F : α → β → Prop} {l₁ l₃ : List α} {l₂ l₄ : List β} (a : Paired F l₁ l₂) (b : Paired F l₃ l₄) : Paired F (l₁ ++ l₃) (l₂ ++ l₄) := by
  induction a with
  | nil => exact b
  | cons h _ ih => exact .cons h ih
theorem big_le {n : Nat} (h : small n = true) : n ≤ sizeLine := by
  have h1 : n < BIG := of_decide_eq_true h
  rw [sizeLine_eq]
  unfold BIG at h1
  omega
section
variable {X : Cx} {tb : Tb} {E : XK}
theorem op_bin (o : Operator) : OpR X (binaryOp o) (rS tb X.K E (binop o)) := by
  intro pins s σ H x y v u Q I rx ry ⟨H0, S0, P, m, as, S, wx, wy, out, M, hx, hy, e, p⟩
  have lists : ∀ {xs ys : List W}, o = .Add → seqOf wx m = some (true, xs) → seqOf wy m = some (true, ys) → (if small (xs.length + ys.length) then newL (xs ++ ys) m else none) = some out →
      wpAny (model X.prog X.w) X.A (binaryOp o v u) (EP X pins σ Q) X.xe s := by
    intro xs ys ho e1 e2 e3
    subst ho
    obtain ⟨a, vs, rfl, q1, r1⟩ := seq_ok M hx e1
    obtain ⟨a', vs', rfl, q2, r2⟩ := seq_ok M hy e2
    rw [if_pos rfl] at q1 q2
    split at e3
    · rename_i hs
      simp only [newL, newC, Option.some.injEq] at e3
      subst e3
      refine op_cat pins s σ H _ _ v u Q I rx ry ⟨a, a', vs, vs', rfl, rfl, q1, q2, by rw [r1.length, r2.length]; exact big_le hs, fun q hq => p.newL M (r1.app r2) hq⟩
    · cases e3
  unfold binop at e
  split at e
  · cases hx.int; cases hy.int; cases e
    exact op_add pins s σ H _ _ v u Q I rx ry ⟨_, _, rfl, rfl, p.val M (Rp.int _)⟩
  · cases hx.int; cases hy.int; cases e
    exact op_sub pins s σ H _ _ v u Q I rx ry ⟨_, _, rfl, rfl, p.val M (Rp.int _)⟩
  · cases hx.int; cases hy.int
    split at e
    · rename_i hc
      cases e
      exact op_mul pins s σ H _ _ v u Q I rx ry ⟨_, _, rfl, rfl, hc, p.val M (Rp.int _)⟩
    · cases e
  · cases hx.int; cases hy.int
    split at e
    · rename_i hc
      cases e
      exact op_mod pins s σ H _ _ v u Q I rx ry ⟨_, _, rfl, rfl, hc, p.val M (Rp.int _)⟩
    · cases e
  · cases hx.int; cases hy.int
    split at e
    · rename_i hc
      cases e
      exact op_fdiv pins s σ H _ _ v u Q I rx ry ⟨_, _, rfl, rfl, hc, p.val M (Rp.int _)⟩
    · cases e
  · cases hx.int; cases hy.int
    split at e
    · rename_i hc
      cases e
      exact op_pow pins s σ H _ _ v u Q I rx ry ⟨_, _, rfl, rfl, hc, p.val M (Rp.int _)⟩
    · cases e
  · cases hx.str; cases hy.str
    split at e
    · rename_i hc
      cases e
      exact op_add_str pins s σ H _ _ v u Q I rx ry ⟨_, _, rfl, rfl, big_le hc, p.val M (Rp.str _)⟩
    · cases e
  · split at e
    · rename_i e1 e2
      exact lists rfl e1 e2 e
    · cases e
  · cases e
end
end U
set_option Elab.async false
set_option linter.all false
set_option maxRecDepth 100000
set_option maxHeartbeats 4000000
set_option autoImplicit false
/-! U3: == and in, of data. -/
namespace U
open Evl (Ex)
open PySem L2 PySem.SeqAt
section
variable {tb : Tb} {K : PySem.W.Frag} {H : Hp} {Pg : Program} {w : World}
theorem lst_at {s : Shared} {a : Addr} {vs : List V} (ok : HOk Pg w H s.heap) (h : H a = some (.lst vs)) : ∃ its : List Value, Vals vs its ∧ s.heap.IsList a its.toArray := by
  obtain ⟨_, its, n, r, e⟩ := ok a _ h
  exact ⟨its, r, _, e, rfl, n, rfl⟩
theorem tup_at {s : Shared} {a : Addr} {vs : List V} (ok : HOk Pg w H s.heap) (h : H a = some (.tup vs)) : ∃ its : List Value, Vals vs its ∧ s.heap.IsTuple a its.toArray := by
  obtain ⟨_, its, r, o, e, c, n, d⟩ := ok a _ h
  exact ⟨its, r, o, e, c, n, d⟩
/-- one and the same value is equal to itself -/
theorem eqD_same : ∀ (n : Nat) (x y : D) (v : V) (b : Bool), eqD n x y = some b → Rp tb K H v x → Rp tb K H v y → b = true
  | 0, x, y, v, b, h, _, _ => by simp [eqD] at h
  | n + 1, x, y, v, b, h, hx, hy => by
    have all : ∀ (vs : List V) (xs ys : List D) (c : Bool), eqA (eqD n) xs ys = some c → Rps tb K H vs xs → Rps tb K H vs ys → c = true := by
      intro vs
      induction vs with
      | nil =>
        intro xs ys c h h1 h2
        cases h1; cases h2
        simp [eqA] at h
        exact h.symm ▸ rfl
      | cons v vs ih =>
        intro xs ys c h h1 h2
        cases h1 with
        | @cons _ dx _ dxs r1 t1 =>
          cases h2 with
          | @cons _ dy _ dys r2 t2 =>
            unfold eqA at h
            cases e : eqD n dx dy with
            | none => rw [e] at h; cases h
            | some k =>
              have hk := eqD_same n dx dy v k e r1 r2
              subst hk
              rw [e] at h
              cases e2 : eqA (eqD n) dxs dys with
              | none => rw [e2] at h; cases h
              | some k2 =>
                rw [e2] at h
                have := ih _ _ k2 e2 t1 t2
                subst this
                simpa using h.symm
    have allZ : ∀ (vs : List V) (xs ys : List D) (c : Bool), eqZ (eqD n) xs ys = some c → Rps tb K H vs xs → Rps tb K H vs ys → c = true := by
      intro vs
      induction vs with
      | nil =>
        intro xs ys c h h1 h2
        cases h1; cases h2
        simp [eqZ] at h
        exact h.symm ▸ rfl
      | cons v vs ih =>
        intro xs ys c h h1 h2
        cases h1 with
        | @cons _ dx _ dxs r1 t1 =>
          cases h2 with
          | @cons _ dy _ dys r2 t2 =>
            unfold eqZ at h
            cases e : eqD n dx dy with
            | none => rw [e] at h; cases h
            | some k =>
              have hk := eqD_same n dx dy v k e r1 r2
              subst hk
              rw [e] at h
              cases e2 : eqZ (eqD n) dxs dys with
              | none => rw [e2] at h; cases h
              | some k2 =>
                rw [e2] at h
                have := ih _ _ k2 e2 t1 t2
                subst this
                simpa using h.symm
    have len : ∀ (vs : List V) (xs : List D), Rps tb K H vs xs → xs.length = vs.length := by
      intro vs
      induction vs with
      | nil => intro xs h; cases h; rfl
      | cons v vs ih => intro xs h; cases h with | cons _ t => simp [ih _ t]
    cases hx with
    | non => cases hy; simpa [eqD] using h.symm
    | bl k => cases hy; simpa [eqD] using h.symm
    | int k => cases hy; simpa [eqD] using h.symm
    | str k => cases hy; simpa [eqD] using h.symm
    | lst h1 r1 =>
      cases hy with
      | lst h2 r2 =>
        rw [h1] at h2
        cases h2
        simp only [eqD] at h
        rw [if_pos (by rw [len _ _ r1, len _ _ r2])] at h
        exact all _ _ _ b h r1 r2
      | tup h2 r2 => rw [h1] at h2; cases h2
      | _ => simp [eqD, kd6] at h
    | tup h1 r1 =>
      cases hy with
      | @tup _ _ ys h2 r2 =>
        rw [h1] at h2
        cases h2
        simp only [eqD, Option.map_eq_some_iff] at h
        obtain ⟨k, hk, rfl⟩ := h
        rw [allZ _ _ _ k hk r1 r2, len _ _ r1, len _ _ r2]
        simp
      | lst h2 r2 => rw [h1] at h2; cases h2
      | _ => simp [eqD, kd6] at h
    | _ => cases hy <;> simp [eqD, kd6] at h
theorem Rps.len {vs : List V} : ∀ {xs : List D}, Rps tb K H vs xs → xs.length = vs.length := by
  induction vs with
  | nil => intro xs h; cases h; rfl
  | cons v vs ih => intro xs h; cases h with | cons _ t => simp [ih t]
theorem Rps.get : ∀ {vs : List V} {xs : List D}, Rps tb K H vs xs → ∀ {i : Nat} {v : V}, vs[i]? = some v → ∃ x, xs[i]? = some x ∧ Rp tb K H v x
  | _, _, .nil, i, v, e => by simp at e
  | _, _, .cons r t, 0, v, e => by
    simp at e
    subst e
    exact ⟨_, rfl, r⟩
  | _, _, .cons r t, i + 1, v, e => by
    obtain ⟨x, e1, r1⟩ := Rps.get t (i := i) (v := v) (by simpa using e)
    exact ⟨x, by simpa using e1, r1⟩
/-- what eqA has told, place by place -/
def eqJ (f : D → D → Option Bool) (xs ys : List D) (j : Nat) : Bool := match xs[j]?, ys[j]? with
  | some x, some y => (f x y).getD false
  | _, _ => false
theorem eqA_eq {f : D → D → Option Bool} : ∀ (xs ys : List D) (b : Bool), xs.length = ys.length → eqA f xs ys = some b → b = (List.range xs.length).all (eqJ f xs ys) ∧ ∀ (j : Nat) (x y : D), xs[j]? = some x → ys[j]? = some y → f x y = some (eqJ f xs ys j)
  | [], [], b, _, h => by
    simp [eqA] at h
    subst h
    exact ⟨rfl, fun j x y e => by simp at e⟩
  | [], _ :: _, _, hl, _ => by simp at hl
  | _ :: _, [], _, hl, _ => by simp at hl
  | x :: xs, y :: ys, b, hl, h => by
    unfold eqA at h
    cases e : f x y with
    | none => rw [e] at h; cases h
    | some k =>
      cases e2 : eqA f xs ys with
      | none => rw [e, e2] at h; cases h
      | some k2 =>
        rw [e, e2] at h
        obtain ⟨i1, i2⟩ := eqA_eq xs ys k2 (by simpa using hl) e2
        have z0 : eqJ f (x :: xs) (y :: ys) 0 = k := by simp [eqJ, e]
        have zs : ∀ j, eqJ f (x :: xs) (y :: ys) (j + 1) = eqJ f xs ys j := fun j => by simp [eqJ]
        refine ⟨?_, fun j x' y' e1 e3 => ?_⟩
        · have hb : b = (k && k2) := by simpa using h.symm
          rw [hb, i1, List.length_cons, List.range_succ_eq_map, List.all_cons, z0, List.all_map]
          congr 1
        · cases j with
          | zero => simp at e1 e3; subst e1 e3; rw [z0]; exact e
          | succ j => rw [zs]; exact i2 j x' y' (by simpa using e1) (by simpa using e3)
theorem eqZ_eq {f : D → D → Option Bool} : ∀ (xs ys : List D) (b : Bool), eqZ f xs ys = some b → b = (List.range (min xs.length ys.length)).all (eqJ f xs ys) ∧ ∀ (j : Nat) (x y : D), xs[j]? = some x → ys[j]? = some y → f x y = some (eqJ f xs ys j)
  | [], ys, b, h => by
    simp [eqZ] at h
    subst h
    exact ⟨by simp, fun j x y e => by simp at e⟩
  | _ :: _, [], b, h => by
    simp [eqZ] at h
    subst h
    exact ⟨by simp, fun j x y _ e => by simp at e⟩
  | x :: xs, y :: ys, b, h => by
    unfold eqZ at h
    cases e : f x y with
    | none => rw [e] at h; cases h
    | some k =>
      cases e2 : eqZ f xs ys with
      | none => rw [e, e2] at h; cases h
      | some k2 =>
        rw [e, e2] at h
        obtain ⟨i1, i2⟩ := eqZ_eq xs ys k2 e2
        have z0 : eqJ f (x :: xs) (y :: ys) 0 = k := by simp [eqJ, e]
        have zs : ∀ j, eqJ f (x :: xs) (y :: ys) (j + 1) = eqJ f xs ys j := fun j => by simp [eqJ]
        refine ⟨?_, fun j x' y' e1 e3 => ?_⟩
        · have hb : b = (k && k2) := by simpa using h.symm
          rw [hb, i1, List.length_cons, List.length_cons, Nat.add_min_add_right, List.range_succ_eq_map, List.all_cons, z0, List.all_map]
          congr 1
        · cases j with
          | zero => simp at e1 e3; subst e1 e3; rw [z0]; exact e
          | succ j => rw [zs]; exact i2 j x' y' (by simpa using e1) (by simpa using e3)
theorem vals_at {vs : List V} {its : List Value} (r : Vals vs its) {j : Nat} (h : j < its.toArray.size) : ∃ v, vs[j]? = some v ∧ RelV v its.toArray[j] := by
  have hj : j < vs.length := by rw [r.length]; simpa using h
  obtain ⟨u, h1, h2⟩ := r.get (i := j) (x := vs[j]) (by simp [hj])
  refine ⟨vs[j], by simp [hj], ?_⟩
  have : its.toArray[j] = u := by
    have h3 : its[j]? = some its[j] := by simp at h; simp [h]
    rw [h3] at h1
    simpa using h1
  rw [this]
  exact h2
theorem eqAt_D : ∀ (n : Nat) (A : Around) (s : Shared) (x y : D) (v u : V) (a c : Value) (b : Bool), eqD n x y = some b → HOk Pg w H s.heap → Rp tb K H v x → Rp tb K H u y → RelV v a → RelV u c → A.units + n < cLine → EqAt A s a c b
  | 0, A, s, x, y, v, u, a, c, b, h, _, _, _, _, _, _ => by simp [eqD] at h
  | n + 1, A, s, x, y, v, u, a, c, b, h, ok, hx, hy, ra, rc, hu => by
    have hu0 : A.units < cLine := by omega
    have hu1 : A.in1.units + n < cLine := by
      have : A.in1.units = A.units + 1 := rfl
      omega
    have its : ∀ {vs us : List V} {xs ys : List D} {i1 i2 : List Value} {k : Bool}, xs.length = ys.length → eqA (eqD n) xs ys = some k → Rps tb K H vs xs → Rps tb K H us ys → Vals vs i1 → Vals us i2 →
        k = (List.range xs.length).all (eqJ (eqD n) xs ys) ∧ ∀ j (h1 : j < i1.toArray.size) (h2 : j < i2.toArray.size), EqAt A.in1 s i1.toArray[j] i2.toArray[j] (eqJ (eqD n) xs ys j) := by
      intro vs us xs ys i1 i2 k hl e r1 r2 q1 q2
      obtain ⟨z1, z2⟩ := eqA_eq xs ys k hl e
      refine ⟨z1, fun j h1 h2 => ?_⟩
      obtain ⟨v1, g1, g2⟩ := vals_at q1 h1
      obtain ⟨v2, g3, g4⟩ := vals_at q2 h2
      obtain ⟨x1, g5, g6⟩ := r1.get g1
      obtain ⟨x2, g7, g8⟩ := r2.get g3
      exact eqAt_D n A.in1 s x1 x2 v1 v2 _ _ _ (z2 j x1 x2 g5 g7) ok g6 g8 g2 g4 hu1
    cases hx with
    | non =>
      cases ra
      cases hy with
      | non => cases rc; simp [eqD] at h; subst h; exact EqAt.same _
      | bl k => cases rc; simp [eqD, kd6] at h; subst h; exact EqAt.none_bool k
      | int k => obtain ⟨t, rfl⟩ := rc; simp [eqD, kd6] at h; subst h; exact EqAt.none_int k t
      | str k => obtain ⟨t, rfl⟩ := rc; simp [eqD, kd6] at h; subst h; exact EqAt.none_str k t
      | lst h2 r2 => cases rc; simp [eqD, kd6] at h; subst h; obtain ⟨i2, q2, l2⟩ := lst_at ok h2; exact EqAt.none_list l2 hu0
      | tup h2 r2 => cases rc; simp [eqD, kd6] at h; subst h; obtain ⟨i2, q2, l2⟩ := tup_at ok h2; exact EqAt.none_tuple l2 hu0
      | _ => simp [eqD, kd6] at h
    | bl k1 =>
      cases ra
      cases hy with
      | non => cases rc; simp [eqD, kd6] at h; subst h; exact EqAt.bool_none k1
      | bl k => cases rc; simp only [eqD, Option.some.injEq] at h; subst h; exact EqAt.bool_bool k1 k
      | int k => obtain ⟨t, rfl⟩ := rc; simp only [eqD, Option.some.injEq] at h; subst h; exact EqAt.bool_int k1 k t
      | str k => obtain ⟨t, rfl⟩ := rc; simp [eqD, kd6] at h; subst h; exact EqAt.bool_str k1 k t
      | lst h2 r2 => cases rc; simp [eqD, kd6] at h; subst h; obtain ⟨i2, q2, l2⟩ := lst_at ok h2; exact EqAt.bool_list k1 l2 hu0
      | tup h2 r2 => cases rc; simp [eqD, kd6] at h; subst h; obtain ⟨i2, q2, l2⟩ := tup_at ok h2; exact EqAt.bool_tuple k1 l2 hu0
      | _ => simp [eqD, kd6] at h
    | int k1 =>
      obtain ⟨t1, rfl⟩ := ra
      cases hy with
      | non => cases rc; simp [eqD, kd6] at h; subst h; exact EqAt.int_none k1 t1
      | bl k => cases rc; simp only [eqD, Option.some.injEq] at h; subst h; exact EqAt.int_bool k1 t1 k
      | int k => obtain ⟨t, rfl⟩ := rc; simp only [eqD, Option.some.injEq] at h; subst h; exact EqAt.int_int k1 t1 k t
      | str k => obtain ⟨t, rfl⟩ := rc; simp [eqD, kd6] at h; subst h; exact EqAt.int_str k1 t1 k t
      | lst h2 r2 => cases rc; simp [eqD, kd6] at h; subst h; obtain ⟨i2, q2, l2⟩ := lst_at ok h2; exact EqAt.int_list k1 t1 l2 hu0
      | tup h2 r2 => cases rc; simp [eqD, kd6] at h; subst h; obtain ⟨i2, q2, l2⟩ := tup_at ok h2; exact EqAt.int_tuple k1 t1 l2 hu0
      | _ => simp [eqD, kd6] at h
    | str k1 =>
      obtain ⟨t1, rfl⟩ := ra
      cases hy with
      | non => cases rc; simp [eqD, kd6] at h; subst h; exact EqAt.str_none k1 t1
      | bl k => cases rc; simp [eqD, kd6] at h; subst h; exact EqAt.str_bool k1 t1 k
      | int k => obtain ⟨t, rfl⟩ := rc; simp [eqD, kd6] at h; subst h; exact EqAt.str_int k1 t1 k t
      | str k => obtain ⟨t, rfl⟩ := rc; simp only [eqD, Option.some.injEq] at h; subst h; exact EqAt.str_str k1 t1 k t
      | lst h2 r2 => cases rc; simp [eqD, kd6] at h; subst h; obtain ⟨i2, q2, l2⟩ := lst_at ok h2; exact EqAt.str_list k1 t1 l2 hu0
      | tup h2 r2 => cases rc; simp [eqD, kd6] at h; subst h; obtain ⟨i2, q2, l2⟩ := tup_at ok h2; exact EqAt.str_tuple k1 t1 l2 hu0
      | _ => simp [eqD, kd6] at h
    | @lst a1 vs1 xs1 h1 r1 =>
      cases ra
      obtain ⟨i1, q1, l1⟩ := lst_at ok h1
      cases hy with
      | non => cases rc; simp [eqD, kd6] at h; subst h; exact EqAt.list_none l1 hu0
      | bl k => cases rc; simp [eqD, kd6] at h; subst h; exact EqAt.list_bool k l1 hu0
      | int k => obtain ⟨t, rfl⟩ := rc; simp [eqD, kd6] at h; subst h; exact EqAt.list_int k t l1 hu0
      | str k => obtain ⟨t, rfl⟩ := rc; simp [eqD, kd6] at h; subst h; exact EqAt.list_str k t l1 hu0
      | @lst a2 vs2 xs2 h2 r2 =>
        cases rc
        by_cases ea : a1 = a2
        · subst ea
          have hb := eqD_same (n + 1) _ _ _ b h (Rp.lst h1 r1) (Rp.lst h2 r2)
          subst hb
          exact EqAt.same _
        · obtain ⟨i2, q2, l2⟩ := lst_at ok h2
          have n1 : i1.toArray.size = xs1.length := by rw [r1.len, q1.length]; simp
          have n2 : i2.toArray.size = xs2.length := by rw [r2.len, q2.length]; simp
          simp only [eqD] at h
          split at h
          · rename_i hl
            obtain ⟨z1, z2⟩ := its hl h r1 r2 q1 q2
            rw [z1, ← n1]
            exact EqAt.of_refs ea (RcAt.lists l1 l2 (by omega) hu0 z2)
          · rename_i hl
            cases h
            exact EqAt.of_refs ea (RcAt.lists_lengths l1 l2 (by rw [n1, n2]; simpa using hl) hu0)
      | tup h2 r2 => cases rc; simp [eqD, kd6] at h; subst h; obtain ⟨i2, q2, l2⟩ := tup_at ok h2; exact EqAt.list_tuple l1 l2 hu0
      | _ => simp [eqD, kd6] at h
    | @tup a1 vs1 xs1 h1 r1 =>
      cases ra
      obtain ⟨i1, q1, l1⟩ := tup_at ok h1
      cases hy with
      | non => cases rc; simp [eqD, kd6] at h; subst h; exact EqAt.tuple_none l1 hu0
      | bl k => cases rc; simp [eqD, kd6] at h; subst h; exact EqAt.tuple_bool k l1 hu0
      | int k => obtain ⟨t, rfl⟩ := rc; simp [eqD, kd6] at h; subst h; exact EqAt.tuple_int k t l1 hu0
      | str k => obtain ⟨t, rfl⟩ := rc; simp [eqD, kd6] at h; subst h; exact EqAt.tuple_str k t l1 hu0
      | lst h2 r2 => cases rc; simp [eqD, kd6] at h; subst h; obtain ⟨i2, q2, l2⟩ := lst_at ok h2; exact EqAt.tuple_list l1 l2 hu0
      | @tup a2 vs2 xs2 h2 r2 =>
        cases rc
        by_cases ea : a1 = a2
        · subst ea
          have hb := eqD_same (n + 1) _ _ _ b h (Rp.tup h1 r1) (Rp.tup h2 r2)
          subst hb
          exact EqAt.same _
        · obtain ⟨i2, q2, l2⟩ := tup_at ok h2
          have n1 : i1.toArray.size = xs1.length := by rw [r1.len, q1.length]; simp
          have n2 : i2.toArray.size = xs2.length := by rw [r2.len, q2.length]; simp
          simp only [eqD, Option.map_eq_some_iff] at h
          obtain ⟨k, hk, rfl⟩ := h
          obtain ⟨z1, z2⟩ := eqZ_eq _ _ k hk
          have hh := RcAt.tuples l1 l2 hu0 (e := eqJ (eqD n) xs1 xs2) fun j g h => by
            obtain ⟨v1, g1, g2⟩ := vals_at q1 g
            obtain ⟨v2, g3, g4⟩ := vals_at q2 h
            obtain ⟨x1, g5, g6⟩ := r1.get g1
            obtain ⟨x2, g7, g8⟩ := r2.get g3
            exact eqAt_D n A.in1 s x1 x2 v1 v2 _ _ _ (z2 j x1 x2 g5 g7) ok g6 g8 g2 g4 hu1
          rw [n1, n2, ← z1] at hh
          exact EqAt.of_refs ea hh
      | _ => simp [eqD, kd6] at h
    | _ => cases hy <;> simp [eqD, kd6] at h
theorem rcAt_D (n : Nat) (A : Around) (s : Shared) (x y : D) (v u : V) (a c : Value) (b : Bool) (h : eqD (n + 1) x y = some b) (ok : HOk Pg w H s.heap) (hx : Rp tb K H v x) (hy : Rp tb K H u y) (ra : RelV v a) (rc : RelV u c) (hu : A.units + (n + 1) < cLine) : RcAt A s a c b := by
    have hu0 : A.units < cLine := by omega
    have hu1 : A.in1.units + n < cLine := by
      have : A.in1.units = A.units + 1 := rfl
      omega
    cases hx with
    | non =>
      cases ra
      cases hy with
      | non => cases rc; simp [eqD] at h; subst h; exact RcAt.none_none
      | bl k2 => cases rc; simp [eqD, kd6] at h; subst h; exact RcAt.none_bool k2
      | int k2 => obtain ⟨t2, rfl⟩ := rc; simp [eqD, kd6] at h; subst h; exact RcAt.none_int k2 t2
      | str k2 => obtain ⟨t2, rfl⟩ := rc; simp [eqD, kd6] at h; subst h; exact RcAt.none_str k2 t2
      | @lst a2 vs2 xs2 h2 r2 => cases rc; obtain ⟨i2, q2, l2⟩ := lst_at ok h2; simp [eqD, kd6] at h; subst h; exact RcAt.none_list l2 hu0
      | @tup a2 vs2 xs2 h2 r2 => cases rc; obtain ⟨i2, q2, l2⟩ := tup_at ok h2; simp [eqD, kd6] at h; subst h; exact RcAt.none_tuple l2 hu0
      | _ => simp [eqD, kd6] at h
    | bl k1 =>
      cases ra
      cases hy with
      | non => cases rc; simp [eqD, kd6] at h; subst h; exact RcAt.bool_none k1
      | bl k2 => cases rc; simp only [eqD, Option.some.injEq] at h; subst h; exact RcAt.bool_bool k1 k2
      | int k2 => obtain ⟨t2, rfl⟩ := rc; simp only [eqD, Option.some.injEq] at h; subst h; exact RcAt.bool_int k1 k2 t2
      | str k2 => obtain ⟨t2, rfl⟩ := rc; simp [eqD, kd6] at h; subst h; exact RcAt.bool_str k1 k2 t2
      | @lst a2 vs2 xs2 h2 r2 => cases rc; obtain ⟨i2, q2, l2⟩ := lst_at ok h2; simp [eqD, kd6] at h; subst h; exact RcAt.bool_list k1 l2 hu0
      | @tup a2 vs2 xs2 h2 r2 => cases rc; obtain ⟨i2, q2, l2⟩ := tup_at ok h2; simp [eqD, kd6] at h; subst h; exact RcAt.bool_tuple k1 l2 hu0
      | _ => simp [eqD, kd6] at h
    | int k1 =>
      obtain ⟨t1, rfl⟩ := ra
      cases hy with
      | non => cases rc; simp [eqD, kd6] at h; subst h; exact RcAt.int_none k1 t1
      | bl k2 => cases rc; simp only [eqD, Option.some.injEq] at h; subst h; exact RcAt.int_bool k1 t1 k2
      | int k2 => obtain ⟨t2, rfl⟩ := rc; simp only [eqD, Option.some.injEq] at h; subst h; exact RcAt.int_int k1 t1 k2 t2
      | str k2 => obtain ⟨t2, rfl⟩ := rc; simp [eqD, kd6] at h; subst h; exact RcAt.int_str k1 t1 k2 t2
      | @lst a2 vs2 xs2 h2 r2 => cases rc; obtain ⟨i2, q2, l2⟩ := lst_at ok h2; simp [eqD, kd6] at h; subst h; exact RcAt.int_list k1 t1 l2 hu0
      | @tup a2 vs2 xs2 h2 r2 => cases rc; obtain ⟨i2, q2, l2⟩ := tup_at ok h2; simp [eqD, kd6] at h; subst h; exact RcAt.int_tuple k1 t1 l2 hu0
      | _ => simp [eqD, kd6] at h
    | str k1 =>
      obtain ⟨t1, rfl⟩ := ra
      cases hy with
      | non => cases rc; simp [eqD, kd6] at h; subst h; exact RcAt.str_none k1 t1
      | bl k2 => cases rc; simp [eqD, kd6] at h; subst h; exact RcAt.str_bool k1 t1 k2
      | int k2 => obtain ⟨t2, rfl⟩ := rc; simp [eqD, kd6] at h; subst h; exact RcAt.str_int k1 t1 k2 t2
      | str k2 => obtain ⟨t2, rfl⟩ := rc; simp only [eqD, Option.some.injEq] at h; subst h; exact RcAt.str_str k1 t1 k2 t2
      | @lst a2 vs2 xs2 h2 r2 => cases rc; obtain ⟨i2, q2, l2⟩ := lst_at ok h2; simp [eqD, kd6] at h; subst h; exact RcAt.str_list k1 t1 l2 hu0
      | @tup a2 vs2 xs2 h2 r2 => cases rc; obtain ⟨i2, q2, l2⟩ := tup_at ok h2; simp [eqD, kd6] at h; subst h; exact RcAt.str_tuple k1 t1 l2 hu0
      | _ => simp [eqD, kd6] at h
    | @lst a1 vs1 xs1 h1 r1 =>
      cases ra
      obtain ⟨i1, q1, l1⟩ := lst_at ok h1
      cases hy with
      | non => cases rc; simp [eqD, kd6] at h; subst h; exact RcAt.list_none l1 hu0
      | bl k2 => cases rc; simp [eqD, kd6] at h; subst h; exact RcAt.list_bool k2 l1 hu0
      | int k2 => obtain ⟨t2, rfl⟩ := rc; simp [eqD, kd6] at h; subst h; exact RcAt.list_int k2 t2 l1 hu0
      | str k2 => obtain ⟨t2, rfl⟩ := rc; simp [eqD, kd6] at h; subst h; exact RcAt.list_str k2 t2 l1 hu0
      | @lst a2 vs2 xs2 h2 r2 =>
        cases rc; obtain ⟨i2, q2, l2⟩ := lst_at ok h2
        have n1 : i1.toArray.size = xs1.length := by rw [r1.len, q1.length]; simp
        have n2 : i2.toArray.size = xs2.length := by rw [r2.len, q2.length]; simp
        simp only [eqD] at h
        split at h
        · rename_i hl
          obtain ⟨z1, z2⟩ := eqA_eq _ _ b hl h
          rw [z1, ← n1]
          exact RcAt.lists l1 l2 (by omega) hu0 fun j g h => by
            obtain ⟨v1, g1, g2⟩ := vals_at q1 g
            obtain ⟨v2, g3, g4⟩ := vals_at q2 h
            obtain ⟨x1, g5, g6⟩ := r1.get g1
            obtain ⟨x2, g7, g8⟩ := r2.get g3
            exact eqAt_D n A.in1 s x1 x2 v1 v2 _ _ _ (z2 j x1 x2 g5 g7) ok g6 g8 g2 g4 hu1
        · rename_i hl
          cases h
          exact RcAt.lists_lengths l1 l2 (by rw [n1, n2]; simpa using hl) hu0
      | @tup a2 vs2 xs2 h2 r2 => cases rc; obtain ⟨i2, q2, l2⟩ := tup_at ok h2; simp [eqD, kd6] at h; subst h; exact RcAt.list_tuple l1 l2 hu0
      | _ => simp [eqD, kd6] at h
    | @tup a1 vs1 xs1 h1 r1 =>
      cases ra
      obtain ⟨i1, q1, l1⟩ := tup_at ok h1
      cases hy with
      | non => cases rc; simp [eqD, kd6] at h; subst h; exact RcAt.tuple_none l1 hu0
      | bl k2 => cases rc; simp [eqD, kd6] at h; subst h; exact RcAt.tuple_bool k2 l1 hu0
      | int k2 => obtain ⟨t2, rfl⟩ := rc; simp [eqD, kd6] at h; subst h; exact RcAt.tuple_int k2 t2 l1 hu0
      | str k2 => obtain ⟨t2, rfl⟩ := rc; simp [eqD, kd6] at h; subst h; exact RcAt.tuple_str k2 t2 l1 hu0
      | @lst a2 vs2 xs2 h2 r2 => cases rc; obtain ⟨i2, q2, l2⟩ := lst_at ok h2; simp [eqD, kd6] at h; subst h; exact RcAt.tuple_list l1 l2 hu0
      | @tup a2 vs2 xs2 h2 r2 =>
        cases rc; obtain ⟨i2, q2, l2⟩ := tup_at ok h2
        have n1 : i1.toArray.size = xs1.length := by rw [r1.len, q1.length]; simp
        have n2 : i2.toArray.size = xs2.length := by rw [r2.len, q2.length]; simp
        simp only [eqD, Option.map_eq_some_iff] at h
        obtain ⟨k, hk, rfl⟩ := h
        obtain ⟨z1, z2⟩ := eqZ_eq _ _ k hk
        have hh := RcAt.tuples l1 l2 hu0 (e := eqJ (eqD n) xs1 xs2) fun j g h => by
          obtain ⟨v1, g1, g2⟩ := vals_at q1 g
          obtain ⟨v2, g3, g4⟩ := vals_at q2 h
          obtain ⟨x1, g5, g6⟩ := r1.get g1
          obtain ⟨x2, g7, g8⟩ := r2.get g3
          exact eqAt_D n A.in1 s x1 x2 v1 v2 _ _ _ (z2 j x1 x2 g5 g7) ok g6 g8 g2 g4 hu1
        rw [n1, n2, ← z1] at hh
        exact hh
      | _ => simp [eqD, kd6] at h
    | _ => cases hy <;> simp [eqD, kd6] at h
theorem rcNeAt_D (n : Nat) (A : Around) (s : Shared) (x y : D) (v u : V) (a c : Value) (b : Bool) (h : eqD (n + 1) x y = some b) (ok : HOk Pg w H s.heap) (hx : Rp tb K H v x) (hy : Rp tb K H u y) (ra : RelV v a) (rc : RelV u c) (hu : A.units + (n + 1) < cLine) : RcNeAt A s a c (!b) := by
    have hu0 : A.units < cLine := by omega
    have hu1 : A.in1.units + n < cLine := by
      have : A.in1.units = A.units + 1 := rfl
      omega
    cases hx with
    | non =>
      cases ra
      cases hy with
      | non => cases rc; simp [eqD] at h; subst h; exact RcNeAt.none_none
      | bl k2 => cases rc; simp [eqD, kd6] at h; subst h; exact RcNeAt.none_bool k2
      | int k2 => obtain ⟨t2, rfl⟩ := rc; simp [eqD, kd6] at h; subst h; exact RcNeAt.none_int k2 t2
      | str k2 => obtain ⟨t2, rfl⟩ := rc; simp [eqD, kd6] at h; subst h; exact RcNeAt.none_str k2 t2
      | @lst a2 vs2 xs2 h2 r2 => cases rc; obtain ⟨i2, q2, l2⟩ := lst_at ok h2; simp [eqD, kd6] at h; subst h; exact RcNeAt.none_list l2 hu0
      | @tup a2 vs2 xs2 h2 r2 => cases rc; obtain ⟨i2, q2, l2⟩ := tup_at ok h2; simp [eqD, kd6] at h; subst h; exact RcNeAt.none_tuple l2 hu0
      | _ => simp [eqD, kd6] at h
    | bl k1 =>
      cases ra
      cases hy with
      | non => cases rc; simp [eqD, kd6] at h; subst h; exact RcNeAt.bool_none k1
      | bl k2 => cases rc; simp only [eqD, Option.some.injEq] at h; subst h; exact RcNeAt.bool_bool k1 k2
      | int k2 => obtain ⟨t2, rfl⟩ := rc; simp only [eqD, Option.some.injEq] at h; subst h; exact RcNeAt.bool_int k1 k2 t2
      | str k2 => obtain ⟨t2, rfl⟩ := rc; simp [eqD, kd6] at h; subst h; exact RcNeAt.bool_str k1 k2 t2
      | @lst a2 vs2 xs2 h2 r2 => cases rc; obtain ⟨i2, q2, l2⟩ := lst_at ok h2; simp [eqD, kd6] at h; subst h; exact RcNeAt.bool_list k1 l2 hu0
      | @tup a2 vs2 xs2 h2 r2 => cases rc; obtain ⟨i2, q2, l2⟩ := tup_at ok h2; simp [eqD, kd6] at h; subst h; exact RcNeAt.bool_tuple k1 l2 hu0
      | _ => simp [eqD, kd6] at h
    | int k1 =>
      obtain ⟨t1, rfl⟩ := ra
      cases hy with
      | non => cases rc; simp [eqD, kd6] at h; subst h; exact RcNeAt.int_none k1 t1
      | bl k2 => cases rc; simp only [eqD, Option.some.injEq] at h; subst h; exact RcNeAt.int_bool k1 t1 k2
      | int k2 => obtain ⟨t2, rfl⟩ := rc; simp only [eqD, Option.some.injEq] at h; subst h; exact RcNeAt.int_int k1 t1 k2 t2
      | str k2 => obtain ⟨t2, rfl⟩ := rc; simp [eqD, kd6] at h; subst h; exact RcNeAt.int_str k1 t1 k2 t2
      | @lst a2 vs2 xs2 h2 r2 => cases rc; obtain ⟨i2, q2, l2⟩ := lst_at ok h2; simp [eqD, kd6] at h; subst h; exact RcNeAt.int_list k1 t1 l2 hu0
      | @tup a2 vs2 xs2 h2 r2 => cases rc; obtain ⟨i2, q2, l2⟩ := tup_at ok h2; simp [eqD, kd6] at h; subst h; exact RcNeAt.int_tuple k1 t1 l2 hu0
      | _ => simp [eqD, kd6] at h
    | str k1 =>
      obtain ⟨t1, rfl⟩ := ra
      cases hy with
      | non => cases rc; simp [eqD, kd6] at h; subst h; exact RcNeAt.str_none k1 t1
      | bl k2 => cases rc; simp [eqD, kd6] at h; subst h; exact RcNeAt.str_bool k1 t1 k2
      | int k2 => obtain ⟨t2, rfl⟩ := rc; simp [eqD, kd6] at h; subst h; exact RcNeAt.str_int k1 t1 k2 t2
      | str k2 => obtain ⟨t2, rfl⟩ := rc; simp only [eqD, Option.some.injEq] at h; subst h; exact RcNeAt.str_str k1 t1 k2 t2
      | @lst a2 vs2 xs2 h2 r2 => cases rc; obtain ⟨i2, q2, l2⟩ := lst_at ok h2; simp [eqD, kd6] at h; subst h; exact RcNeAt.str_list k1 t1 l2 hu0
      | @tup a2 vs2 xs2 h2 r2 => cases rc; obtain ⟨i2, q2, l2⟩ := tup_at ok h2; simp [eqD, kd6] at h; subst h; exact RcNeAt.str_tuple k1 t1 l2 hu0
      | _ => simp [eqD, kd6] at h
    | @lst a1 vs1 xs1 h1 r1 =>
      cases ra
      obtain ⟨i1, q1, l1⟩ := lst_at ok h1
      cases hy with
      | non => cases rc; simp [eqD, kd6] at h; subst h; exact RcNeAt.list_none l1 hu0
      | bl k2 => cases rc; simp [eqD, kd6] at h; subst h; exact RcNeAt.list_bool k2 l1 hu0
      | int k2 => obtain ⟨t2, rfl⟩ := rc; simp [eqD, kd6] at h; subst h; exact RcNeAt.list_int k2 t2 l1 hu0
      | str k2 => obtain ⟨t2, rfl⟩ := rc; simp [eqD, kd6] at h; subst h; exact RcNeAt.list_str k2 t2 l1 hu0
      | @lst a2 vs2 xs2 h2 r2 =>
        cases rc; obtain ⟨i2, q2, l2⟩ := lst_at ok h2
        have n1 : i1.toArray.size = xs1.length := by rw [r1.len, q1.length]; simp
        have n2 : i2.toArray.size = xs2.length := by rw [r2.len, q2.length]; simp
        simp only [eqD] at h
        split at h
        · rename_i hl
          obtain ⟨z1, z2⟩ := eqA_eq _ _ b hl h
          rw [z1, ← n1]
          exact RcNeAt.lists l1 l2 (by omega) hu0 fun j g h => by
            obtain ⟨v1, g1, g2⟩ := vals_at q1 g
            obtain ⟨v2, g3, g4⟩ := vals_at q2 h
            obtain ⟨x1, g5, g6⟩ := r1.get g1
            obtain ⟨x2, g7, g8⟩ := r2.get g3
            exact eqAt_D n A.in1 s x1 x2 v1 v2 _ _ _ (z2 j x1 x2 g5 g7) ok g6 g8 g2 g4 hu1
        · rename_i hl
          cases h
          exact RcNeAt.lists_lengths l1 l2 (by rw [n1, n2]; simpa using hl) hu0
      | @tup a2 vs2 xs2 h2 r2 => cases rc; obtain ⟨i2, q2, l2⟩ := tup_at ok h2; simp [eqD, kd6] at h; subst h; exact RcNeAt.list_tuple l1 l2 hu0
      | _ => simp [eqD, kd6] at h
    | @tup a1 vs1 xs1 h1 r1 =>
      cases ra
      obtain ⟨i1, q1, l1⟩ := tup_at ok h1
      cases hy with
      | non => cases rc; simp [eqD, kd6] at h; subst h; exact RcNeAt.tuple_none l1 hu0
      | bl k2 => cases rc; simp [eqD, kd6] at h; subst h; exact RcNeAt.tuple_bool k2 l1 hu0
      | int k2 => obtain ⟨t2, rfl⟩ := rc; simp [eqD, kd6] at h; subst h; exact RcNeAt.tuple_int k2 t2 l1 hu0
      | str k2 => obtain ⟨t2, rfl⟩ := rc; simp [eqD, kd6] at h; subst h; exact RcNeAt.tuple_str k2 t2 l1 hu0
      | @lst a2 vs2 xs2 h2 r2 => cases rc; obtain ⟨i2, q2, l2⟩ := lst_at ok h2; simp [eqD, kd6] at h; subst h; exact RcNeAt.tuple_list l1 l2 hu0
      | @tup a2 vs2 xs2 h2 r2 =>
        cases rc; obtain ⟨i2, q2, l2⟩ := tup_at ok h2
        have n1 : i1.toArray.size = xs1.length := by rw [r1.len, q1.length]; simp
        have n2 : i2.toArray.size = xs2.length := by rw [r2.len, q2.length]; simp
        simp only [eqD, Option.map_eq_some_iff] at h
        obtain ⟨k, hk, rfl⟩ := h
        obtain ⟨z1, z2⟩ := eqZ_eq _ _ k hk
        have hh := RcNeAt.tuples l1 l2 hu0 (e := eqJ (eqD n) xs1 xs2) fun j g h => by
          obtain ⟨v1, g1, g2⟩ := vals_at q1 g
          obtain ⟨v2, g3, g4⟩ := vals_at q2 h
          obtain ⟨x1, g5, g6⟩ := r1.get g1
          obtain ⟨x2, g7, g8⟩ := r2.get g3
          exact eqAt_D n A.in1 s x1 x2 v1 v2 _ _ _ (z2 j x1 x2 g5 g7) ok g6 g8 g2 g4 hu1
        rw [n1, n2, ← z1] at hh
        exact hh
      | _ => simp [eqD, kd6] at h
    | _ => cases hy <;> simp [eqD, kd6] at h

/-- what is told of one value by two trees is the same -/
theorem eqD_uniq : ∀ (n : Nat) (x x' z : D) (v : V) (b b' : Bool), eqD n x z = some b → eqD n x' z = some b' → Rp tb K H v x → Rp tb K H v x' → b = b'
  | 0, x, x', z, v, b, b', h, _, _, _ => by simp [eqD] at h
  | n + 1, x, x', z, v, b, b', h, h', hx, hx' => by
    have allA : ∀ (vs : List V) (xs xs' zs : List D) (c c' : Bool), eqA (eqD n) xs zs = some c → eqA (eqD n) xs' zs = some c' → Rps tb K H vs xs → Rps tb K H vs xs' → c = c' := by
      intro vs
      induction vs with
      | nil =>
        intro xs xs' zs c c' h h' h1 h2
        cases h1; cases h2
        rw [h] at h'
        exact Option.some.inj h'
      | cons v vs ih =>
        intro xs xs' zs c c' h h' h1 h2
        cases h1 with
        | @cons _ dx _ dxs r1 t1 =>
          cases h2 with
          | @cons _ dy _ dys r2 t2 =>
            cases zs with
            | nil => simp [eqA] at h h'; simp_all
            | cons z zs =>
              unfold eqA at h h'
              cases e1 : eqD n dx z with
              | none => rw [e1] at h; cases h
              | some k1 =>
                cases e2 : eqD n dy z with
                | none => rw [e2] at h'; cases h'
                | some k2 =>
                  cases e3 : eqA (eqD n) dxs zs with
                  | none => rw [e1, e3] at h; cases h
                  | some k3 =>
                    cases e4 : eqA (eqD n) dys zs with
                    | none => rw [e2, e4] at h'; cases h'
                    | some k4 =>
                      rw [e1, e3] at h
                      rw [e2, e4] at h'
                      have g1 := eqD_uniq n dx dy z v k1 k2 e1 e2 r1 r2
                      have g2 := ih _ _ _ k3 k4 e3 e4 t1 t2
                      rw [g1, g2] at h
                      rw [h] at h'
                      exact Option.some.inj h'
    have allZ : ∀ (vs : List V) (xs xs' zs : List D) (c c' : Bool), eqZ (eqD n) xs zs = some c → eqZ (eqD n) xs' zs = some c' → Rps tb K H vs xs → Rps tb K H vs xs' → c = c' := by
      intro vs
      induction vs with
      | nil =>
        intro xs xs' zs c c' h h' h1 h2
        cases h1; cases h2
        rw [h] at h'
        exact Option.some.inj h'
      | cons v vs ih =>
        intro xs xs' zs c c' h h' h1 h2
        cases h1 with
        | @cons _ dx _ dxs r1 t1 =>
          cases h2 with
          | @cons _ dy _ dys r2 t2 =>
            cases zs with
            | nil => simp [eqZ] at h h'; simp_all
            | cons z zs =>
              unfold eqZ at h h'
              cases e1 : eqD n dx z with
              | none => rw [e1] at h; cases h
              | some k1 =>
                cases e2 : eqD n dy z with
                | none => rw [e2] at h'; cases h'
                | some k2 =>
                  cases e3 : eqZ (eqD n) dxs zs with
                  | none => rw [e1, e3] at h; cases h
                  | some k3 =>
                    cases e4 : eqZ (eqD n) dys zs with
                    | none => rw [e2, e4] at h'; cases h'
                    | some k4 =>
                      rw [e1, e3] at h
                      rw [e2, e4] at h'
                      have g1 := eqD_uniq n dx dy z v k1 k2 e1 e2 r1 r2
                      have g2 := ih _ _ _ k3 k4 e3 e4 t1 t2
                      rw [g1, g2] at h
                      rw [h] at h'
                      exact Option.some.inj h'
    cases hx with
    | non => cases hx'; rw [h] at h'; exact Option.some.inj h'
    | bl k => cases hx'; rw [h] at h'; exact Option.some.inj h'
    | int k => cases hx'; rw [h] at h'; exact Option.some.inj h'
    | str k => cases hx'; rw [h] at h'; exact Option.some.inj h'
    | @lst a vs xs h1 r1 =>
      cases hx' with
      | @lst _ vs' xs' h2 r2 =>
        rw [h1] at h2
        cases h2
        cases z with
        | lst zs =>
          simp only [eqD] at h h'
          have : xs.length = xs'.length := by rw [r1.len, r2.len]
          rw [this] at h
          split at h
          · rename_i hl
            rw [if_pos hl] at h'
            exact allA _ _ _ _ _ _ h h' r1 r2
          · rename_i hl
            rw [if_neg hl] at h'
            rw [h] at h'
            exact Option.some.inj h'
        | _ => simp [eqD, kd6] at h h' <;> simp_all
      | tup h2 r2 => rw [h1] at h2; cases h2
      | _ => cases z <;> simp [eqD, kd6] at h'
    | @tup a vs xs h1 r1 =>
      cases hx' with
      | @tup _ vs' xs' h2 r2 =>
        rw [h1] at h2
        cases h2
        cases z with
        | tup zs =>
          simp only [eqD, Option.map_eq_some_iff] at h h'
          obtain ⟨k, hk, rfl⟩ := h
          obtain ⟨k', hk', rfl⟩ := h'
          rw [allZ _ _ _ _ _ _ hk hk' r1 r2, r1.len, r2.len]
        | _ => simp [eqD, kd6] at h h' <;> simp_all
      | lst h2 r2 => rw [h1] at h2; cases h2
      | _ => cases z <;> simp [eqD, kd6] at h'
    | _ => cases z <;> simp [eqD, kd6] at h
end
section
variable {tb : Tb} {K : PySem.W.Frag} {H0 S0 S H : Hp} {P : Option Addr} {m : Mem} {as : List (Option Addr)}
theorem pks_ok {f : W → Option D} (hf : ∀ w x v, f w = some x → WOk tb K S as v w → Rp tb K H v x) : ∀ (ws : List W) (xs : List D) (vs : List V), pks f ws = some xs → WOs tb K S as vs ws → Rps tb K H vs xs
  | [], xs, vs, h, r => by
    cases r
    simp [pks] at h
    subst h
    exact .nil
  | w :: ws, xs, vs, h, r => by
    cases r with
    | cons r0 r1 =>
      unfold pks at h
      cases e : f w with
      | none => rw [e] at h; cases h
      | some x =>
        cases e2 : pks f ws with
        | none => rw [e, e2] at h; cases h
        | some ys =>
          rw [e, e2] at h
          cases h
          exact .cons (hf w x _ e r0) (pks_ok hf ws ys _ e2 r1)
theorem pk_ok (M : MOk tb K H0 S0 P m as S H) : ∀ (n : Nat) (w : W) (x : D) (v : V), pk m n w = some x → WOk tb K S as v w → Rp tb K H v x
  | 0, w, x, v, h, _ => by simp [pk] at h
  | n + 1, .d y, x, v, h, r => by
    simp [pk] at h
    subst h
    exact Rp.mono M.sub r
  | n + 1, .c k, x, v, h, r => by
    obtain ⟨a, ha, rfl⟩ := r
    unfold pk at h
    cases e : m[k]? with
    | none => rw [e] at h; cases h
    | some c =>
      rw [e] at h
      have hc := M.cell _ _ _ e ha
      cases c with
      | lst ws =>
        simp only [Option.map_eq_some_iff] at h
        obtain ⟨xs, h1, rfl⟩ := h
        obtain ⟨_, vs, h2, h3⟩ := hc
        exact .lst h2 (pks_ok (fun w x v => pk_ok M n w x v) ws xs vs h1 h3)
      | pin ws =>
        simp only [Option.map_eq_some_iff] at h
        obtain ⟨xs, h1, rfl⟩ := h
        obtain ⟨_, vs, h2, h3⟩ := hc
        exact .lst h2 (pks_ok (fun w x v => pk_ok M n w x v) ws xs vs h1 h3)
      | frz y => cases h; exact Rp.mono M.sub hc
      | _ => cases h
end
section
variable {X : Cx} {tb : Tb} {E : XK}
theorem units_of {k : Nat} {A : Around} (hr : Room k A) : A.units + 64 < cLine := hr.units
/-- x in a sequence -/
theorem in_any {tb : Tb} {K : PySem.W.Frag} {H : Hp} {x : D} {vs : List V} {ys : List D} {its : List Value} {A : Around} {s : Shared} {c : Value} {u : V} {b : Bool} {Pg : Program} {w : World} (h : inA x ys = some b) (ok : HOk Pg w H s.heap) (r : Rps tb K H vs ys) (q : Vals vs its) (hx : Rp tb K H u x) (rc : RelV u c)
    (hu : A.units + FZ < cLine) : ∃ e : Value → Bool, (∀ y, y ∈ its.toArray → EqAt A s y c (e y)) ∧ its.toArray.any e = b := by
  classical
  have hj : ∀ (ys : List D) (b : Bool), inA x ys = some b → (∀ (j : Nat) y, ys[j]? = some y → ∃ k, eqD FZ y x = some k) ∧ (b = true ↔ ∃ (j : Nat) (y : D), ys[j]? = some y ∧ eqD FZ y x = some true) := by
    intro ys
    induction ys with
    | nil => intro b h; simp [inA] at h; subst h; exact ⟨fun j y e => by simp at e, by simp⟩
    | cons y ys ih =>
      intro b h
      unfold inA at h
      cases e1 : eqD FZ y x with
      | none => rw [e1] at h; cases h
      | some k1 =>
        cases e2 : inA x ys with
        | none => rw [e1, e2] at h; cases h
        | some k2 =>
          rw [e1, e2] at h
          obtain ⟨i1, i2⟩ := ih k2 e2
          have hb : b = (k1 || k2) := by simpa using h.symm
          subst hb
          refine ⟨fun j y' e => ?_, ?_⟩
          · cases j with
            | zero => simp at e; subst e; exact ⟨k1, e1⟩
            | succ j => exact i1 j y' (by simpa using e)
          · rw [Bool.or_eq_true, i2]
            constructor
            · rintro (z | ⟨j, y', z1, z2⟩)
              · subst z; exact ⟨0, y, rfl, e1⟩
              · exact ⟨j + 1, y', by simpa using z1, z2⟩
            · rintro ⟨j, y', z1, z2⟩
              cases j with
              | zero => simp at z1; subst z1; rw [e1] at z2; exact .inl (Option.some.inj z2)
              | succ j => exact .inr ⟨j, y', by simpa using z1, z2⟩
  obtain ⟨j1, j2⟩ := hj ys b h
  refine ⟨fun y => decide (∃ (j : Nat) (d : D), its[j]? = some y ∧ ys[j]? = some d ∧ eqD FZ d x = some true), fun y hy => ?_, ?_⟩
  · obtain ⟨j, hlt, rfl⟩ := Array.getElem_of_mem hy
    obtain ⟨v1, g1, g2⟩ := vals_at q hlt
    obtain ⟨d, g3, g4⟩ := r.get g1
    obtain ⟨k, hk⟩ := j1 j d g3
    have hv : its[j]? = some its.toArray[j] := by
      have : j < its.length := by simpa using hlt
      simp [this]
    have hkk : decide (∃ (i : Nat) (d' : D), its[i]? = some its.toArray[j] ∧ ys[i]? = some d' ∧ eqD FZ d' x = some true) = k := by
      cases k with
      | true => exact decide_eq_true ⟨j, d, hv, g3, hk⟩
      | false =>
        refine decide_eq_false ?_
        rintro ⟨i, d', z1, z2, z3⟩
        have hi : i < its.toArray.size := by
          have := (List.getElem?_eq_some_iff.mp z1).1
          simpa using this
        obtain ⟨v2, g5, g6⟩ := vals_at q hi
        obtain ⟨d2, g7, g8⟩ := r.get g5
        rw [z2] at g7
        cases g7
        have hvi : its.toArray[i] = its.toArray[j] := by
          have := (List.getElem?_eq_some_iff.mp z1).2
          simpa using this
        rw [hvi] at g6
        have ev : v2 = v1 := g6.inj g2
        subst ev
        have := eqD_uniq FZ d d' x v2 false true hk z3 g4 g8
        cases this
    show EqAt A s its.toArray[j] c (decide (∃ (i : Nat) (d' : D), its[i]? = some its.toArray[j] ∧ ys[i]? = some d' ∧ eqD FZ d' x = some true))
    rw [hkk]
    exact eqAt_D FZ A s d x v1 u _ c k hk ok g4 hx g2 rc hu
  · rw [Bool.eq_iff_iff, j2, Array.any_eq_true]
    constructor
    · rintro ⟨i, hi, z⟩
      obtain ⟨j, d, z1, z2, z3⟩ := of_decide_eq_true z
      exact ⟨j, d, z2, z3⟩
    · rintro ⟨j, d, z2, z3⟩
      have hj' : j < its.length := by
        have h1 := (List.getElem?_eq_some_iff.mp z2).1
        rw [r.len, q.length] at h1
        exact h1
      exact ⟨j, by simpa using hj', decide_eq_true ⟨j, d, by simp [hj'], z2, z3⟩⟩
end
end U
set_option Elab.async false
set_option linter.all false
set_option maxRecDepth 100000
set_option maxHeartbeats 4000000
set_option autoImplicit false
/-! U4: comparisons, built-ins, methods, by values. -/
namespace U
open Evl (Ex)
open PySem L2 PySem.SeqAt
section
variable {tb : Tb} {K : PySem.W.Frag} {H0 S0 S H : Hp} {P : Option Addr} {m : Mem} {as : List (Option Addr)}
/-! ### dicts -/
theorem kos_get {κ : Type} [DecidableEq κ] (k : κ) : ∀ {us : List (κ × V)} {kvs : List (κ × W)}, KOs tb K S as us kvs → (∀ w, getK k kvs = some w → ∃ v, valV us k = some v ∧ WOk tb K S as v w) ∧ (getK k kvs = none → valV us k = none)
  | _, _, .nil => ⟨fun w h => by simp [getK] at h, fun _ => rfl⟩
  | (k1, v1) :: us, (k2, w2) :: kvs, .cons h t => by
    obtain ⟨rfl, hw⟩ := h
    obtain ⟨i1, i2⟩ := kos_get k t
    by_cases e : k1 = k
    · subst e
      refine ⟨fun w h => ?_, fun h => ?_⟩
      · simp [getK] at h
        subst h
        exact ⟨v1, valV_pos rfl, hw⟩
      · simp [getK] at h
    · refine ⟨fun w h => ?_, fun h => ?_⟩
      · simp only [getK, if_neg e] at h
        obtain ⟨v, h1, h2⟩ := i1 w h
        exact ⟨v, by rw [valV_neg e]; exact h1, h2⟩
      · simp only [getK, if_neg e] at h
        rw [valV_neg e]
        exact i2 h
theorem rkv_kos {κ : Type} : ∀ {us : List (κ × V)} {ds : List (κ × D)}, Rkv tb K S κ us ds → KOs tb K S as us (ds.map fun p => (p.1, W.d p.2))
  | _, _, .nil => .nil
  | _, _, .cons h t => .cons ⟨rfl, h⟩ (rkv_kos t)
/-- a dict as it is now -/
def DvOk (tb : Tb) (K : PySem.W.Frag) (S H : Hp) (as : List (Option Addr)) (a : Addr) : Dv → Prop
  | .k kvs => ∃ us : List (Key × V), H a = some (.dK us) ∧ KOs tb K S as us kvs
  | .t kvs => ∃ us : List (List Key × V), H a = some (.dT us) ∧ KOs tb K S as us kvs
theorem dic_ok (M : MOk tb K H0 S0 P m as S H) {w : W} {v : V} (h : WOk tb K S as v w) {d : Dv} (e : dicOf w m = some d) : ∃ a, v = .ref a ∧ DvOk tb K S H as a d := by
  cases w with
  | d x =>
    cases x with
    | dic kvs =>
      simp only [dicOf, Option.some.injEq] at e
      subst e
      cases (show Rp tb K S v (.dic kvs) from h) with
      | dic h1 h2 => exact ⟨_, rfl, _, M.sub _ _ h1, rkv_kos h2⟩
    | dct kvs =>
      simp only [dicOf, Option.some.injEq] at e
      subst e
      cases (show Rp tb K S v (.dct kvs) from h) with
      | dct h1 h2 => exact ⟨_, rfl, _, M.sub _ _ h1, rkv_kos h2⟩
    | _ => cases e
  | c k =>
    obtain ⟨a, ha, rfl⟩ := h
    refine ⟨a, rfl, ?_⟩
    unfold dicOf at e
    dsimp only at e
    cases ec : m[k]? with
    | none => rw [ec] at e; cases e
    | some c =>
      rw [ec] at e
      have hc := M.cell _ _ _ ec ha
      cases c with
      | dic kvs => cases e; obtain ⟨_, us, h1, h2⟩ := hc; exact ⟨us, h1, h2⟩
      | dct kvs => cases e; obtain ⟨_, us, h1, h2⟩ := hc; exact ⟨us, h1, h2⟩
      | frz x =>
        cases x with
        | dic kvs =>
          cases e
          cases (show Rp tb K S (.ref a) (.dic kvs) from hc) with
          | dic h1 h2 => exact ⟨_, M.sub _ _ h1, rkv_kos h2⟩
        | dct kvs =>
          cases e
          cases (show Rp tb K S (.ref a) (.dct kvs) from hc) with
          | dct h1 h2 => exact ⟨_, M.sub _ _ h1, rkv_kos h2⟩
        | _ => cases e
      | _ => cases e
theorem keyD_ok {x : D} {k : Ky} {v : V} (e : keyD x = some k) (h : Rp tb K H v x) : v = kV k := by
  cases h <;> simp [keyD] at e <;> subst e <;> rfl
theorem keysD_ok : ∀ {xs : List D} {ks : List Ky} {vs : List V}, keysD xs = some ks → Rps tb K H vs xs → vs = ks.map kV
  | [], ks, vs, e, h => by cases h; simp [keysD] at e; subst e; rfl
  | x :: xs, ks, vs, e, h => by
    cases h with
    | cons h t =>
      unfold keysD at e
      cases e1 : keyD x with
      | none => rw [e1] at e; cases e
      | some k =>
        cases e2 : keysD xs with
        | none => rw [e1, e2] at e; cases e
        | some r =>
          rw [e1, e2] at e
          cases e
          rw [keyD_ok e1 h, keysD_ok e2 t]
          rfl
/-- a look-up -/
theorem dget_ok {a : Addr} {d : Dv} {x : D} {u : V} {o : Option W} (hd : DvOk tb K S H as a d) (hx : Rp tb K H u x) (e : dget d x = some o) : ∃ ov : Option V, DGet H a u ov ∧ (match o with
    | some w => ∃ v, ov = some v ∧ WOk tb K S as v w
    | none => ov = none) := by
  cases d with
  | k kvs =>
    obtain ⟨us, h1, h2⟩ := hd
    simp only [dget] at e
    cases ek : keyD x with
    | none => rw [ek] at e; cases e
    | some k =>
      rw [ek] at e
      have ho : getK k kvs = o := by simpa using e
      obtain ⟨i1, i2⟩ := kos_get k h2
      rw [keyD_ok ek hx]
      cases o with
      | none => exact ⟨none, by have := DGet.k (k := k) h1; rw [i2 ho] at this; exact this, rfl⟩
      | some w =>
        obtain ⟨v, g1, g2⟩ := i1 w ho
        exact ⟨some v, by have := DGet.k (k := k) h1; rw [g1] at this; exact this, v, rfl, g2⟩
  | t kvs =>
    obtain ⟨us, h1, h2⟩ := hd
    simp only [dget] at e
    cases hx with
    | @tup b vs xs hb hr =>
      dsimp only at e
      cases ek : keysD xs with
      | none => rw [ek] at e; cases e
      | some k =>
        rw [ek] at e
        have ho : getK k kvs = o := by simpa using e
        obtain ⟨i1, i2⟩ := kos_get k h2
        have hb' : H b = some (.tup (k.map kV)) := by rw [hb, keysD_ok ek hr]
        cases o with
        | none => exact ⟨none, by have := DGet.t (k := k) h1 hb'; rw [i2 ho] at this; exact this, rfl⟩
        | some w =>
          obtain ⟨v, g1, g2⟩ := i1 w ho
          exact ⟨some v, by have := DGet.t (k := k) h1 hb'; rw [g1] at this; exact this, v, rfl, g2⟩
    | _ => cases e
end
section
variable {X : Cx} {tb : Tb} {E : XK}
theorem fz6 {A : Around} (hu : A.units + 64 < cLine) : A.units + (5 + 1) < cLine := by omega
theorem in1_units {A : Around} : A.in1.units = A.units + 1 := rfl
/-- the answer of a comparison, nothing changed -/
theorem rd_wbl {f : Mem → Option Bool} {m : Mem} {o : Out W} (h : rd (fun m => (f m).map wbl) m = some o) : ∃ b, f m = some b ∧ o = .ok (wbl b) m := by
  unfold rd at h
  dsimp only at h
  cases e : f m with
  | none => rw [e] at h; cases h
  | some b => rw [e] at h; exact ⟨b, rfl, by simpa using h.symm⟩
theorem str_one {a : Str} {k : Nat} (h : a.cps.toList = [k]) : a = ⟨#[k]⟩ := by
  obtain ⟨c⟩ := a
  congr 1
  apply Array.toList_inj.mp
  exact h
theorem op_cmp (hu : X.A.units + 64 < cLine) (o : CmpOp) : OpR X (compareOp o) (rS tb X.K E (fun x y => rd fun m => (cmpop o x y m).map wbl)) := by
  intro pins s σ H x y v u Q I rx ry ⟨H0, S0, P, m, as, S, wx, wy, out, M, hx, hy, e, p⟩
  obtain ⟨b, hb, rfl⟩ := rd_wbl e
  have fin : ∀ k, k = b → EP X pins σ Q (.bool k) s := fun k hk => by
    subst hk
    exact ⟨.bl k, H, I, rfl, p.val M (Rp.bl k)⟩
  have feq : ∀ c, eqW wx wy m = some c → ∃ a d, eqD (5 + 1) a d = some c ∧ Rp tb X.K H x a ∧ Rp tb X.K H y d := fun c hc => by
    unfold eqW at hc
    cases e1 : pk m FZ wx with
    | none => rw [e1] at hc; cases hc
    | some a =>
      cases e2 : pk m FZ wy with
      | none => rw [e1, e2] at hc; cases hc
      | some d =>
        rw [e1, e2] at hc
        exact ⟨a, d, hc, pk_ok M _ _ _ _ e1 hx, pk_ok M _ _ _ _ e2 hy⟩
  have fin' : ∀ c, inW wx wy m = some c → (∃ z a k, wy = .d (.str z) ∧ wx = .d (.str a) ∧ a.cps.toList = [k] ∧ c = decide (k ∈ z.cps.toList)) ∨ (∃ a ov, y = .ref a ∧ DGet H a x ov ∧ c = ov.isSome) ∨
      (∃ a vs ys d, y = .ref a ∧ (H a = some (.lst vs) ∨ H a = some (.tup vs)) ∧ Rps tb X.K H vs ys ∧ Rp tb X.K H x d ∧ inA d ys = some c) := fun c hc => by
    unfold inW at hc
    split at hc
    · rename_i z
      split at hc
      · rename_i a
        split at hc
        · rename_i k hk
          exact .inl ⟨z, a, k, rfl, rfl, hk, by simpa using hc.symm⟩
        · cases hc
      · cases hc
    · cases ed : dicOf wy m with
      | some d =>
        rw [ed] at hc
        dsimp only at hc
        cases e1 : pk m FZ wx with
        | none => rw [e1] at hc; cases hc
        | some a =>
          rw [e1] at hc
          simp only [Option.map_eq_some_iff] at hc
          obtain ⟨ow, h1, rfl⟩ := hc
          obtain ⟨ad, rfl, hd⟩ := dic_ok M hy ed
          obtain ⟨ov, g1, g2⟩ := dget_ok hd (pk_ok M _ _ _ _ e1 hx) h1
          refine .inr (.inl ⟨ad, ov, rfl, g1, ?_⟩)
          cases ow with
          | none => simp only at g2; rw [g2] <;> rfl
          | some w => obtain ⟨v', g3, _⟩ := g2; rw [g3] <;> rfl
      | none =>
        rw [ed] at hc
        dsimp only at hc
        cases es : seqOf wy m with
        | none => rw [es] at hc; cases hc
        | some q =>
          obtain ⟨bb, ws⟩ := q
          rw [es] at hc
          dsimp only at hc
          cases e1 : pk m FZ wx with
          | none => rw [e1] at hc; cases hc
          | some a =>
            cases e2 : pks (pk m FZ) ws with
            | none => rw [e1, e2] at hc; cases hc
            | some ys =>
              rw [e1, e2] at hc
              obtain ⟨ad, vs, rfl, hq, hr⟩ := seq_ok M hy es
              refine .inr (.inr ⟨ad, vs, ys, a, rfl, ?_, pks_ok (fun w x v => pk_ok M _ w x v) ws ys vs e2 hr, pk_ok M _ _ _ _ e1 hx, hc⟩)
              cases bb with
              | true => exact .inl hq
              | false => exact .inr hq
  cases o with
  | Eq =>
    obtain ⟨a, d, h1, h2, h3⟩ := feq b hb
    exact rcAt_D 5 X.A s a d x y v u b h1 I.hok h2 h3 rx ry (fz6 hu) _ _ _ _ (fin b rfl)
  | NotEq =>
    simp only [cmpop, Option.map_eq_some_iff] at hb
    obtain ⟨c, hc, rfl⟩ := hb
    obtain ⟨a, d, h1, h2, h3⟩ := feq c hc
    exact rcNeAt_D 5 X.A s a d x y v u c h1 I.hok h2 h3 rx ry (fz6 hu) _ _ _ _ (fin _ rfl)
  | Lt =>
    simp only [cmpop] at hb
    split at hb
    · cases hx.int; cases hy.int; cases hb
      exact op_lt pins s σ H _ _ v u Q I rx ry ⟨_, _, rfl, rfl, p.val M (Rp.bl _)⟩
    · cases hb
  | LtE =>
    simp only [cmpop] at hb
    split at hb
    · cases hx.int; cases hy.int; cases hb
      exact op_le pins s σ H _ _ v u Q I rx ry ⟨_, _, rfl, rfl, p.val M (Rp.bl _)⟩
    · cases hb
  | Gt =>
    simp only [cmpop] at hb
    split at hb
    · cases hx.int; cases hy.int; cases hb
      exact op_gt pins s σ H _ _ v u Q I rx ry ⟨_, _, rfl, rfl, p.val M (Rp.bl _)⟩
    · cases hb
  | GtE =>
    simp only [cmpop] at hb
    split at hb
    · cases hx.int; cases hy.int; cases hb
      exact op_ge pins s σ H _ _ v u Q I rx ry ⟨_, _, rfl, rfl, p.val M (Rp.bl _)⟩
    · cases hb
  | Is =>
    simp only [cmpop] at hb
    split at hb
    · rename_i hn
      cases wy with
      | c k => cases hn
      | d yy =>
        cases yy <;> first | cases hn | skip
        cases hy.non
        refine op_isN pins s σ H _ _ v u Q I rx ry ⟨rfl, ?_⟩
        have hk : decide (x = V.non) = b := by
          cases wx with
          | c k => obtain ⟨a, _, rfl⟩ := hx; simpa [isNon] using hb
          | d xx => cases (show Rp tb X.K S x xx from hx) <;> simpa [isNon] using hb
        rw [hk]
        exact p.val M (Rp.bl _)
    · cases hb
  | IsNot =>
    simp only [cmpop] at hb
    split at hb
    · rename_i hn
      cases wy with
      | c k => cases hn
      | d yy =>
        cases yy <;> first | cases hn | skip
        cases hy.non
        refine op_notN pins s σ H _ _ v u Q I rx ry ⟨rfl, ?_⟩
        have hk : (!decide (x = V.non)) = b := by
          cases wx with
          | c k => obtain ⟨a, _, rfl⟩ := hx; simpa [isNon] using hb
          | d xx => cases (show Rp tb X.K S x xx from hx) <;> simpa [isNon] using hb
        rw [hk]
        exact p.val M (Rp.bl _)
    · cases hb
  | In =>
    rcases fin' b hb with ⟨z, a, k, rfl, rfl, hk, rfl⟩ | ⟨a, ov, rfl, g, rfl⟩ | ⟨a, vs, ys, d, rfl, hq, hr, hd, hi⟩
    · cases hx.str; cases hy.str
      exact op_in_sign pins s σ H _ _ v u Q I rx ry ⟨k, z, by rw [str_one hk], rfl, p.val M (Rp.bl _)⟩
    · obtain rfl : u = Value.ref a := ry
      exact d_in (by omega) I g rx fun s' I' => ⟨.bl _, H, I', rfl, p.val M (Rp.bl _)⟩
    · obtain rfl : u = Value.ref a := ry
      have hu' : X.A.in1.units + FZ < cLine := by rw [in1_units]; show _ + 6 < _; omega
      rcases hq with hq | hq
      · obtain ⟨its, q, l⟩ := lst_at I.hok hq
        obtain ⟨f, hf, hf2⟩ := in_any (A := X.A.in1) hi I.hok hr q hd rx hu'
        exact in_listAt f l hf (fin _ hf2)
      · obtain ⟨its, q, l⟩ := tup_at I.hok hq
        obtain ⟨f, hf, hf2⟩ := in_any (A := X.A.in1) hi I.hok hr q hd rx hu'
        exact in_tupleAt f l hf (fin _ hf2)
  | NotIn =>
    simp only [cmpop, Option.map_eq_some_iff] at hb
    obtain ⟨c, hc, rfl⟩ := hb
    rcases fin' c hc with ⟨z, a, k, rfl, rfl, hk, rfl⟩ | ⟨a, ov, rfl, g, rfl⟩ | ⟨a, vs, ys, d, rfl, hq, hr, hd, hi⟩
    · cases hx.str; cases hy.str
      exact op_notIn_sign pins s σ H _ _ v u Q I rx ry ⟨k, z, by rw [str_one hk], rfl, p.val M (Rp.bl _)⟩
    · obtain rfl : u = Value.ref a := ry
      exact d_notIn (by omega) I g rx fun s' I' => ⟨.bl _, H, I', rfl, p.val M (Rp.bl _)⟩
    · obtain rfl : u = Value.ref a := ry
      have hu' : X.A.in1.units + FZ < cLine := by rw [in1_units]; show _ + 6 < _; omega
      rcases hq with hq | hq
      · obtain ⟨its, q, l⟩ := lst_at I.hok hq
        obtain ⟨f, hf, hf2⟩ := in_any (A := X.A.in1) hi I.hok hr q hd rx hu'
        exact notIn_listAt f l hf (fin _ (by rw [hf2]))
      · obtain ⟨its, q, l⟩ := tup_at I.hok hq
        obtain ⟨f, hf, hf2⟩ := in_any (A := X.A.in1) hi I.hok hr q hd rx hu'
        exact notIn_tupleAt f l hf (fin _ (by rw [hf2]))
end
end U
set_option Elab.async false
set_option linter.all false
set_option maxRecDepth 100000
set_option maxHeartbeats 4000000
set_option autoImplicit false
/-! U5: promises of defs that know that no repr runs around them; calls by values. -/
namespace U
open Evl (Ex)
open PySem L2 PySem.Spec PyProof.Rows

/-- as FnOk, called where no repr is under way -/
structure FnG (Pg : Program) (w : World) (K : PySem.W.Frag) (mg : Str → Option Value) (base : Heap) (CX : CXT) (k : Nat) (f : Addr) (fd : FuncData) (ps : List Str) (sp : Sp) : Prop where
  len : ∀ vs H Q E, sp vs H Q E → vs.length = ps.length
  run : ∀ (A : Around) (outer : List Env) (s : Shared) (H : Hp) (args : Args) (us : List Value) (vs : List V) (Q : VK) (E : XK), A.guards = some [] → Room k A → Env0 Pg w K mg base A outer s H →
    BindsTo s fd args (ps.zip us) → Vals vs us → sp vs H Q E → codeAny (model Pg w) A (.call (.ref f) args) (CR CX outer Pg w H s Q E) s
theorem FnG.mono {Pg : Program} {w : World} {K : PySem.W.Frag} {mg : Str → Option Value} {base : Heap} {CX : CXT} {j k : Nat} {f : Addr} {fd : FuncData} {ps : List Str} {sp : Sp}
    (F : FnG Pg w K mg base CX j f fd ps sp) (h : j ≤ k) : FnG Pg w K mg base CX k f fd ps sp :=
  ⟨F.len, fun A outer s H args us vs Q E hg hr => F.run A outer s H args us vs Q E hg (hr.mono h)⟩
section
variable {Pg : Program} {w : World} {K : PySem.W.Frag} {mg : Str → Option Value} {base : Heap} {CX : CXT} {k : Nat} {f : Addr} {name qual : Str} {params : Arguments} {body : List Stmt} {scope : Scope} {dvs : List V} {kws : List (Str × V)} {fd : FuncData} {N ps : List Str} {sp : Sp}
/-- a def by its body -/
theorem fnG_of (F : FunD K name qual params body scope dvs kws f fd) (S : FnScope N ps scope) (len : ∀ vs H Q E, sp vs H Q E → vs.length = ps.length)
    (hbody : ∀ (cdv : Value) (A : Around) (outer : List Env) (s : Shared) (H : Hp) (vs : List V) (Q : VK) (E : XK), A.guards = some [] → Room k (A.deeper (envOfC qual scope s.heap.objs.size f cdv)) → sp vs H Q E →
      ∃ t, PSs (cxOf CX Pg w K mg base N qual scope f cdv A outer s H E) body t ∧ t { nx := fun _ H' => Q .non H', rt := Q } (start N vs) H) : FnG Pg w K mg base CX (k + 1) f fd ps sp := by
  obtain ⟨_, _, _, _, _, _, _, cdv, _, _, rfl, look, code, -, -⟩ := F.ex
  refine ⟨len, ?_⟩
  intro A outer s H args us vs Q E hg hr e0 hb r hsp
  have there : ∀ b o, base.get? b = some o → s.heap.get? b = some o := fun b o q => (e0.bs b o q).1
  obtain ⟨t, ht, hq⟩ := hbody cdv A outer s H vs Q E hg (hr.deeper _) hsp
  refine Att.call_fn (e0.mod.kin.keeps there) (e0.mod.nolimit.keeps there) look code hr.depth hb ?_ (fun s1 entered => ?_) S.co S.gen S.kind
  · rw [List.all_eq_true]
    intro y hy
    rcases S.par y.1 (List.of_mem_zip hy).1 with z | z <;> simp [z]
  · refine wpAny_mono (ht.run [] s1 (start N vs) H _ (inv_start S hr.hd e0 (len _ _ _ _ hsp) r entered) hq) ?_ fun _ _ z => z
    rintro (_ | _ | _ | u) s' z
    · obtain ⟨_, H', J, y⟩ := z
      exact ⟨.non, H', J.os, J.bare, J.base, J.hok, rfl, y⟩
    · obtain ⟨_, _, _, y⟩ := z
      exact y.elim
    · obtain ⟨_, _, _, y⟩ := z
      exact y.elim
    · obtain ⟨v, _, H', J, rv, y⟩ := z
      exact ⟨v, H', J.os, J.bare, J.base, J.hok, rv, y⟩
end
section
variable {X : Cx} {CX : CXT} {k : Nat} {f : Addr} {fd : FuncData} {ps : List Str} {sp : Sp} {E : XK}
/-- a call of it, by values: positional ones, and the keywords' -/
theorem callG {pins : List (Addr × Obj)} {σ : L2.St} {H : Hp} {s : Shared} {Q : VK} {args : Args} {us : List Value} {vs : List V} (F : FnG X.prog X.w X.K X.mg X.base CX k f fd ps sp) (hg : X.A.guards = some []) (hr : Room k X.A)
    (hx : Passes CX X E) (I : Inv X pins σ H s) (hb : BindsTo s fd args (ps.zip us)) (r : Vals vs us) (h : sp vs H Q E) : wpAny (model X.prog X.w) X.A (call (.ref f) args.pos args.kw) (EP X pins σ Q) X.xe s := by
  have run := F.run X.A X.stack s H args us vs Q E hg hr I.env0 hb r h
  refine wpAny_call (codeAny_mono run ?_)
  rintro (x | x | x | x | x) s' z
  all_goals first
    | exact hx pins σ H s x s' I z
    | exact I.after z
    | exact False.elim z
end
end U
set_option Elab.async false
set_option linter.all false
set_option maxRecDepth 100000
set_option maxHeartbeats 4000000
set_option autoImplicit false
/-! U6: built-in functions by values; repr of data. -/
namespace U
open Evl (Ex)
open PySem L2

/-! ### data as the library reads them -/
section
variable {tb : Tb} {K : PySem.W.Frag} {H : Hp} {Pg : Program} {w : World}
theorem pairs_keys {Pg : Program} {w : World} {h : Heap} : ∀ {es : List DictEntry} {vs : List (Key × Value)}, Pairs (mixKind Pg w) es vs → ∀ (kvs : List (Key × V)), KV kvs vs → ReadsAll h (es.map (·.key)) (kvs.map fun p => kyPy p.1) []
  | _, _, .nil, kvs, r => by cases r; exact .nil
  | e :: es, kv :: vs, .cons hk hv t, kvs, r => by
    cases r with
    | @cons p _ l _ r0 r1 =>
      have ih := pairs_keys (h := h) t _ r1
      obtain ⟨k, v⟩ := p
      obtain ⟨k', v'⟩ := kv
      obtain ⟨rfl, _⟩ := r0
      have hread : Reads h e.key (kyPy k) [] := by
        rcases keyIs_shape (show keyIs k e.key = true from hk) with ⟨i, t, rfl, e1⟩ | ⟨x, t, rfl, e1⟩
        · rw [e1]; exact .int i t
        · rw [e1]; exact .str x t
      exact .cons (as := []) (bs := []) hread ih
theorem pairs_vals {Pg : Program} {w : World} : ∀ {es : List DictEntry} {vs : List (Key × Value)}, Pairs (mixKind Pg w) es vs → es.map (·.val) = vs.map (·.2)
  | _, _, .nil => rfl
  | _, _, .cons hk hv t => by rw [List.map_cons, List.map_cons, hv, pairs_vals t]
theorem kv_vals {kvs : List (Key × V)} {vs : List (Key × Value)} (r : KV kvs vs) : Vals (kvs.map (·.2)) (vs.map (·.2)) := by
  induction r with
  | nil => exact .nil
  | cons h _ ih => exact .cons h.2 ih
theorem noSys {u : Obj × Addr} (hs : H sysModules = some (.frz u.1 (.own u.2))) {a : Addr} {o : HO} (h : H a = some o) (ho : o ≠ .frz u.1 (.own u.2)) : sysModules ≠ a := fun z => by
  subst z
  rw [hs] at h
  exact ho (Option.some.inj h.symm)
theorem reads_ok {s : Shared} {u : Obj × Addr} (ok : HOk Pg w H s.heap) (hs : H sysModules = some (.frz u.1 (.own u.2))) : ∀ (n : Nat) (x : D) (p : PyData) (v : V) (c : Value), toPy n x = some p → Rp tb K H v x → RelV v c → ∃ as, Reads s.heap c p as ∧ sysModules ∉ as ∧ p.depth ≤ n
  | 0, x, p, v, c, h, _, _ => by simp [toPy] at h
  | n + 1, x, p, v, c, h, hx, rc => by
    have all : ∀ (vs : List V) (xs : List D) (ps : List PyData) (its : List Value), toPys (toPy n) xs = some ps → Rps tb K H vs xs → Vals vs its → ∃ as, ReadsAll s.heap its ps as ∧ sysModules ∉ as ∧ PyData.depthAll ps ≤ n := by
      intro vs
      induction vs with
      | nil =>
        intro xs ps its e r q
        cases r; cases q
        simp [toPys] at e
        subst e
        exact ⟨[], .nil, by simp, by simp [PyData.depthAll]⟩
      | cons v vs ih =>
        intro xs ps its e r q
        cases r with
        | @cons _ d _ ds r0 r1 =>
          cases q with
          | cons q0 q1 =>
            unfold toPys at e
            cases e1 : toPy n d with
            | none => rw [e1] at e; cases e
            | some p1 =>
              cases e2 : toPys (toPy n) ds with
              | none => rw [e1, e2] at e; cases e
              | some ps1 =>
                rw [e1, e2] at e
                cases e
                obtain ⟨as, g1, g2, g3⟩ := reads_ok ok hs n d p1 v _ e1 r0 q0
                obtain ⟨bs, g4, g5, g6⟩ := ih _ _ _ e2 r1 q1
                exact ⟨as ++ bs, .cons g1 g4, by simp [g2, g5], by simp only [PyData.depthAll]; omega⟩
    cases hx with
    | non => cases rc; simp [toPy] at h; subst h; exact ⟨[], .none, by simp, by simp [PyData.depth]⟩
    | bl b => cases rc; simp [toPy] at h; subst h; exact ⟨[], .bool b, by simp, by simp [PyData.depth]⟩
    | int i => obtain ⟨t, rfl⟩ := rc; simp [toPy] at h; subst h; exact ⟨[], .int i t, by simp, by simp [PyData.depth]⟩
    | str i => obtain ⟨t, rfl⟩ := rc; simp [toPy] at h; subst h; exact ⟨[], .str i t, by simp, by simp [PyData.depth]⟩
    | @lst a vs xs h1 r1 =>
      cases rc
      simp only [toPy, Option.map_eq_some_iff] at h
      obtain ⟨ps, h2, rfl⟩ := h
      obtain ⟨_, its, k, q, e⟩ := ok a _ h1
      obtain ⟨as, g1, g2, g3⟩ := all vs xs ps its h2 r1 q
      refine ⟨a :: as, .list e rfl rfl (by simpa using g1), ?_, by simp only [PyData.depth]; omega⟩
      simp only [List.mem_cons, not_or]
      exact ⟨noSys hs h1 (by intro z; cases z), g2⟩
    | @tup a vs xs h1 r1 =>
      cases rc
      simp only [toPy, Option.map_eq_some_iff] at h
      obtain ⟨ps, h2, rfl⟩ := h
      obtain ⟨_, its, q, o, e, ec, k, ed⟩ := ok a _ h1
      obtain ⟨as, g1, g2, g3⟩ := all vs xs ps its h2 r1 q
      exact ⟨as, .tuple e ec ed (by simpa using g1), g2, by simp only [PyData.depth]; omega⟩
    | @dic a kvs ds h1 r1 =>
      cases rc
      simp only [toPy, Option.map_eq_some_iff] at h
      obtain ⟨ps, h2, rfl⟩ := h
      obtain ⟨_, hsys, vs, kv, o, es, ep, e, ex, ed, ko, pr, nd⟩ := ok a _ h1
      have key : ∀ (ds : List (Key × D)) (kvs : List (Key × V)) (ps : List (PyData × PyData)), toPyk (toPy n) ds = some ps → Rkv tb K H Key kvs ds → ps.map (·.1) = kvs.map (fun p => kyPy p.1) ∧ ∃ xs : List D, toPys (toPy n) xs = some (ps.map (·.2)) ∧ Rps tb K H (kvs.map (·.2)) xs := by
        intro ds
        induction ds with
        | nil => intro kvs ps e r; cases r; simp [toPyk] at e; subst e; exact ⟨rfl, [], rfl, .nil⟩
        | cons q ds ih =>
          intro kvs ps e r
          cases r with
          | @cons _ k v d vs _ r0 r1 =>
            unfold toPyk at e
            cases e1 : toPy n d with
            | none => rw [e1] at e; cases e
            | some p1 =>
              cases e2 : toPyk (toPy n) ds with
              | none => rw [e1, e2] at e; cases e
              | some ps1 =>
                rw [e1, e2] at e
                cases e
                obtain ⟨i1, xs, i2, i3⟩ := ih _ _ e2 r1
                refine ⟨by rw [List.map_cons, List.map_cons, i1], d :: xs, ?_, .cons r0 i3⟩
                unfold toPys
                rw [e1, i2]
                rfl
      obtain ⟨k1, xs, k2, k3⟩ := key ds kvs ps h2 r1
      have hk := pairs_keys (h := s.heap) pr kvs kv
      rw [← k1] at hk
      obtain ⟨bs, g1, g2, g3⟩ := all _ _ _ _ k2 k3 (kv_vals kv)
      rw [← pairs_vals pr] at g1
      refine ⟨a :: [] ++ bs, .dict e ex.1 ed hk g1, ?_, ?_⟩
      · simp only [List.cons_append, List.nil_append, List.mem_cons, not_or]
        exact ⟨noSys hs h1 (by intro z; cases z), g2⟩
      · have dk : ∀ (ps : List (PyData × PyData)) (kvs : List (Key × V)), ps.map (·.1) = kvs.map (fun p => kyPy p.1) → PyData.depthAll (ps.map (·.2)) ≤ n → PyData.depthKv ps ≤ n := by
          intro ps
          induction ps with
          | nil => intro kvs _ _; simp [PyData.depthKv]
          | cons q ps ih =>
            intro kvs e e2
            cases kvs with
            | nil => simp at e
            | cons kv kvs =>
              obtain ⟨q1, q2⟩ := q
              simp only [List.map_cons, List.cons.injEq] at e
              simp only [List.map_cons, PyData.depthAll] at e2
              have := ih kvs e.2 (by omega)
              have hz : q1.depth = 0 := by
                rw [e.1]
                cases kv.1 <;> rfl
              simp only [PyData.depthKv]
              omega
        have := dk ps kvs k1 g3
        simp only [PyData.depth]
        omega
    | _ => simp [toPy] at h
end

/-! ### the built-ins -/
def bltV : Bl → Value
  | .len => .builtin "len"
  | .abs => .builtin "abs"
  | .max => .builtin "max"
  | .min => .builtin "min"
  | .int => .type "int"
  | .str => .type "str"
  | .repr => .builtin "repr"
  | .list => .type "list"
  | .tuple => .type "tuple"
  | .sorted => .builtin "sorted"
  | .sum => .builtin "sum"
  | .all => .builtin "all"
  | .any => .builtin "any"
  | .divmod => .builtin "divmod"
section
variable {tb : Tb} {K : PySem.W.Frag} {S : Hp} {as : List (Option Addr)}
theorem allD_ok : ∀ {ws : List W} {xs : List D} {vs : List V}, allD ws = some xs → WOs tb K S as vs ws → Rps tb K S vs xs
  | [], xs, vs, e, r => by cases r; simp [allD] at e; subst e; exact .nil
  | .c k :: ws, xs, vs, e, r => by simp [allD] at e
  | .d x :: ws, xs, vs, e, r => by
    cases r with
    | cons r0 r1 =>
      unfold allD at e
      cases e1 : allD ws with
      | none => rw [e1] at e; cases e
      | some ys => rw [e1] at e; cases e; exact .cons r0 (allD_ok e1 r1)
theorem intsD_ok : ∀ {xs : List D} {is : List Int} {vs : List V}, intsD xs = some is → Rps tb K S vs xs → vs = is.map V.int
  | [], is, vs, e, r => by cases r; simp [intsD] at e; subst e; rfl
  | x :: xs, is, vs, e, r => by
    cases r with
    | cons r0 r1 =>
      cases r0 with
      | int i =>
        unfold intsD at e
        cases e1 : intsD xs with
        | none => rw [e1] at e; cases e
        | some js => rw [e1] at e; cases e; rw [intsD_ok e1 r1]; rfl
      | _ => simp [intsD] at e
theorem blsD_ok : ∀ {xs : List D} {is : List Bool} {vs : List V}, blsD xs = some is → Rps tb K S vs xs → vs = is.map V.bl
  | [], is, vs, e, r => by cases r; simp [blsD] at e; subst e; rfl
  | x :: xs, is, vs, e, r => by
    cases r with
    | cons r0 r1 =>
      cases r0 with
      | bl i =>
        unfold blsD at e
        cases e1 : blsD xs with
        | none => rw [e1] at e; cases e
        | some js => rw [e1] at e; cases e; rw [blsD_ok e1 r1]; rfl
      | _ => simp [blsD] at e
theorem lstT {H : Hp} {a : Addr} {vs : List V} {b : Bool} (h : H a = some (if b then HO.lst vs else .tup vs)) : SqL K H a vs ∨ SqT K H a vs := by
  cases b with
  | true => exact .inl (SqL.of h)
  | false => exact .inr (SqT.of h)
end
section
variable {X : Cx} {tb : Tb} {E : XK}
theorem call_repr (hu : X.A.units + 64 < cLine) (hg : X.A.guards = some []) {pins : List (Addr × Obj)} {s : Shared} {σ : L2.St} {H : Hp} {v : V} {c : Value} {Q : VK} {x : D} {z : Str} {u : Obj × Addr} (I : Inv X pins σ H s) (rc : RelV v c) (hx : Rp tb X.K H v x)
    (e : reprD x = some z) (hs : H sysModules = some (.frz u.1 (.own u.2))) (q : Q (.str z) H) : wpAny (model X.prog X.w) X.A (call (.builtin "repr") [c]) (EP X pins σ Q) X.xe s := by
  unfold reprD at e
  cases e1 : toPy FZ x with
  | none => rw [e1] at e; cases e
  | some p =>
    rw [e1] at e
    dsimp only at e
    split at e
    · rename_i hc
      cases e
      rw [Bool.and_eq_true] at hc
      have hz := big_le hc.2
      obtain ⟨as, r, hn, hd⟩ := reads_ok I.hok hs FZ x p v c e1 hx rc
      cases r with
      | none => exact P.repr_of_none ⟨.str _, H, I.tok _, ⟨_, rfl⟩, by simpa [PyData.shown] using q⟩
      | bool b => exact P.repr_of_bool ⟨.str _, H, I.tok _, ⟨_, rfl⟩, by simpa [PyData.shown] using q⟩
      | int i t => exact P.repr_of_int (by simpa [PyData.showable] using hc.1) ⟨.str _, H, I.tok _, ⟨_, rfl⟩, by simpa [PyData.shown] using q⟩
      | str y t => exact P.repr_of_str ⟨.str _, H, I.tok _, ⟨_, rfl⟩, by simpa [PyData.shown] using q⟩ (by simpa [PyData.shown] using hz)
      | list h1 h2 h3 h4 =>
        exact repr_of_reads' (h₀ := s.heap) (.list h1 h2 h3 h4) hc.1 (fun _ => hn) hg (by have : FZ = 6 := rfl; omega) (fun _ _ e => e) (fun h' u tk hk => ⟨.str _, H, I.kept (t' := tk) hk, ⟨_, rfl⟩, q⟩) hz
      | tuple h1 h2 h3 h4 =>
        exact repr_of_reads' (h₀ := s.heap) (.tuple h1 h2 h3 h4) hc.1 (fun _ => hn) hg (by have : FZ = 6 := rfl; omega) (fun _ _ e => e) (fun h' u tk hk => ⟨.str _, H, I.kept (t' := tk) hk, ⟨_, rfl⟩, q⟩) hz
      | dict h1 h2 h3 h4 h5 =>
        exact repr_of_reads' (h₀ := s.heap) (.dict h1 h2 h3 h4 h5) hc.1 (fun _ => hn) hg (by have : FZ = 6 := rfl; omega) (fun _ _ e => e) (fun h' u tk hk => ⟨.str _, H, I.kept (t' := tk) hk, ⟨_, rfl⟩, q⟩) hz
    · cases e
theorem call_blt (hc : X.calm = true) (hu : X.A.units + 64 < cLine) (hg : X.A.guards = some []) (f : Bl) : CallR X (bltV f) (cS tb X.K E (blt f)) := by
  intro pins s σ H xs us Q I r ⟨H0, S0, P, m, as, S, ws, out, M, hw, e, p⟩
  unfold blt at e
  split at e
  · -- len
    rename_i w
    cases hw with
    | @cons v _ _ _ h0 h1 =>
      cases h1
      cases el : lenW w m with
      | none => rw [el] at e; cases e
      | some n =>
        rw [el] at e
        cases e
        have fin : Q (.int n) H := p.val M (Rp.int _)
        unfold lenW at el
        split at el
        · cases h0.str
          split at el
          · rename_i hs
            cases el
            exact call_len_str pins s σ H _ us Q I r ⟨_, rfl, big_le hs, fin⟩
          · cases el
        · cases es : seqOf w m with
          | some q =>
            obtain ⟨b, ys⟩ := q
            rw [es] at el
            cases el
            obtain ⟨a, vs, rfl, g1, g2⟩ := seq_ok M h0 es
            exact call_len_seq pins s σ H _ us Q I r ⟨a, vs, rfl, lstT g1, by rw [g2.length]; exact fin⟩
          | none =>
            rw [es] at el
            dsimp only at el
            cases ed : dicOf w m with
            | none => rw [ed] at el; cases el
            | some d =>
              obtain ⟨a, rfl, hd⟩ := dic_ok M h0 ed
              obtain ⟨u, rfl, ru⟩ := vals1 r
              obtain rfl : u = Value.ref a := ru
              rw [ed] at el
              cases d with
              | k kvs =>
                cases el
                obtain ⟨us', k1, k2⟩ := hd
                exact d_len I (.inl k1) fun t s' I' => ⟨.int _, H, I', ⟨_, rfl⟩, by rw [k2.length]; exact fin⟩
              | t kvs =>
                cases el
                obtain ⟨us', k1, k2⟩ := hd
                exact call_len_dT pins s σ H _ _ Q I r ⟨a, us', rfl, k1, by rw [k2.length]; exact fin⟩
  · -- abs
    cases hw with
    | cons h0 h1 =>
      cases h1; cases h0.int; cases e
      exact call_abs pins s σ H _ us Q I r ⟨_, rfl, p.val M (Rp.int _)⟩
  · cases hw with
    | cons h0 h1 =>
      cases h1 with
      | cons h1 h2 =>
        cases h2; cases h0.int; cases h1.int; cases e
        exact call_max2 hc pins s σ H _ us Q I r ⟨_, _, rfl, p.val M (Rp.int _)⟩
  · cases hw with
    | cons h0 h1 =>
      cases h1 with
      | cons h1 h2 =>
        cases h2; cases h0.int; cases h1.int; cases e
        exact call_min2 hc pins s σ H _ us Q I r ⟨_, _, rfl, p.val M (Rp.int _)⟩
  · cases hw with
    | cons h0 h1 =>
      cases h1; cases h0.int; cases e
      exact call_int1 pins s σ H _ us Q I r (.inl ⟨_, rfl, p.val M (Rp.int _)⟩)
  · cases hw with
    | cons h0 h1 =>
      cases h1; cases h0.bl; cases e
      exact call_int1 pins s σ H _ us Q I r (.inr ⟨_, rfl, p.val M (Rp.int _)⟩)
  · cases hw with
    | cons h0 h1 =>
      cases h1; cases h0.int
      split at e
      · rename_i hz
        cases e
        exact call_str_int pins s σ H _ us Q I r ⟨_, rfl, hz, p.val M (Rp.str _)⟩
      · cases e
  · -- repr
    rename_i w
    cases hw with
    | @cons v _ _ _ h0 h1 =>
      cases h1
      cases ep : pk m FZ w with
      | none => rw [ep] at e; cases e
      | some x =>
        rw [ep] at e
        dsimp only at e
        cases er : reprD x with
        | none => rw [er] at e; cases e
        | some z =>
          rw [er] at e
          cases e
          obtain ⟨c, rfl, rc⟩ := vals1 r
          obtain ⟨u, hs⟩ := M.sys
          exact call_repr hu hg I rc (pk_ok M _ _ _ _ ep h0) er hs (p.val M (Rp.str _))
  · -- list
    rename_i w
    cases hw with
    | @cons v _ _ _ h0 h1 =>
      cases h1
      cases es : seqOf w m with
      | none => rw [es] at e; cases e
      | some q =>
        obtain ⟨b, ys⟩ := q
        rw [es] at e
        cases e
        obtain ⟨a, vs, rfl, g1, g2⟩ := seq_ok M h0 es
        exact call_list_of pins s σ H _ us Q I r ⟨a, vs, rfl, lstT g1, fun l hl => p.newL M g2 hl⟩
  · -- sum
    rename_i w
    cases hw with
    | @cons v _ _ _ h0 h1 =>
      cases h1
      split at e
      · rename_i ys es
        cases ea : allD ys with
        | none => rw [ea] at e; cases e
        | some xs =>
          rw [ea] at e
          dsimp only [Option.bind] at e
          cases ei : intsD xs with
          | none => rw [ei] at e; cases e
          | some is =>
            rw [ei] at e
            cases e
            obtain ⟨a, vs, rfl, g1, g2⟩ := seq_ok M h0 es
            rw [intsD_ok ei (allD_ok ea g2)] at g1
            exact cr_sum hc pins s σ H _ us Q I r ⟨a, is, rfl, SqL.of g1, p.val M (Rp.int _)⟩
      · cases e
  · -- all
    rename_i w
    cases hw with
    | @cons v _ _ _ h0 h1 =>
      cases h1
      split at e
      · rename_i ys es
        cases ea : allD ys with
        | none => rw [ea] at e; cases e
        | some xs =>
          rw [ea] at e
          dsimp only [Option.bind] at e
          cases ei : blsD xs with
          | none => rw [ei] at e; cases e
          | some is =>
            rw [ei] at e
            cases e
            obtain ⟨a, vs, rfl, g1, g2⟩ := seq_ok M h0 es
            rw [blsD_ok ei (allD_ok ea g2)] at g1
            exact cr_all hc pins s σ H _ us Q I r ⟨a, is, rfl, SqL.of g1, p.val M (Rp.bl _)⟩
      · cases e
  · -- any
    rename_i w
    cases hw with
    | @cons v _ _ _ h0 h1 =>
      cases h1
      split at e
      · rename_i ys es
        cases ea : allD ys with
        | none => rw [ea] at e; cases e
        | some xs =>
          rw [ea] at e
          dsimp only [Option.bind] at e
          cases ei : blsD xs with
          | none => rw [ei] at e; cases e
          | some is =>
            rw [ei] at e
            cases e
            obtain ⟨a, vs, rfl, g1, g2⟩ := seq_ok M h0 es
            rw [blsD_ok ei (allD_ok ea g2)] at g1
            exact cr_any hc pins s σ H _ us Q I r ⟨a, is, rfl, SqL.of g1, p.val M (Rp.bl _)⟩
      · cases e
  · -- divmod
    cases hw with
    | cons h0 h1 =>
      cases h1 with
      | cons h1 h2 =>
        cases h2; cases h0.int; cases h1.int
        split at e
        · rename_i hj
          cases e
          refine call_divmod pins s σ H _ us Q I r ⟨_, _, rfl, hj, fun q hq => ?_⟩
          obtain ⟨M', s'⟩ := M.newS (o := .tup [.int _, .int _]) hq
          exact p _ _ _ _ s' M' (Rp.tup upd_same (.cons (.int _) (.cons (.int _) .nil)))
        · cases e
  · cases e
end
end U
set_option Elab.async false
set_option linter.all false
set_option maxRecDepth 100000
set_option maxHeartbeats 4000000
set_option autoImplicit false
/-! U7: subscripts, slices, methods of lists, kinds, by values. -/
namespace U
open Evl (Ex)
open PySem L2
section
variable {tb : Tb} {K : PySem.W.Frag} {H0 S0 S H : Hp} {P : Option Addr} {m : Mem} {as : List (Option Addr)}
theorem wos_at {vs : List V} {ws : List W} (r : WOs tb K S as vs ws) {i : Int} {w : W} (h : U.atI ws i = some w) : ∃ v, L2.atI vs i = some v ∧ WOk tb K S as v w := by
  have get : ∀ {vs : List V} {ws : List W}, WOs tb K S as vs ws → ∀ {j : Nat} {w : W}, ws[j]? = some w → ∃ v, vs[j]? = some v ∧ WOk tb K S as v w := by
    intro vs ws r
    induction r with
    | nil => intro j w h; simp at h
    | cons h0 _ ih =>
      intro j w h
      cases j with
      | zero => simp at h; subst h; exact ⟨_, rfl, h0⟩
      | succ j => obtain ⟨v, h1, h2⟩ := ih (by simpa using h); exact ⟨v, by simpa using h1, h2⟩
  have hl := r.length
  unfold U.atI at h
  unfold L2.atI ixN
  rw [hl]
  split at h
  · rename_i h0
    rw [if_pos h0]
    split at h
    · rename_i h1
      rw [if_pos h1]
      exact get r h
    · cases h
  · rename_i h0
    rw [if_neg h0]
    split at h
    · rename_i h1
      rw [if_pos h1]
      exact get r h
    · cases h
theorem wos_take {vs : List V} {ws : List W} (r : WOs tb K S as vs ws) (n : Nat) : WOs tb K S as (vs.take n) (ws.take n) := by
  induction r generalizing n with
  | nil => simp; exact .nil
  | cons h _ ih =>
    cases n with
    | zero => exact .nil
    | succ n => exact .cons h (ih n)
theorem wos_drop {vs : List V} {ws : List W} (r : WOs tb K S as vs ws) (n : Nat) : WOs tb K S as (vs.drop n) (ws.drop n) := by
  induction r generalizing n with
  | nil => simp; exact .nil
  | cons h t ih =>
    cases n with
    | zero => exact .cons h t
    | succ n => exact ih n
theorem wos_rev {vs : List V} {ws : List W} (r : WOs tb K S as vs ws) : WOs tb K S as vs.reverse ws.reverse := by
  induction r with
  | nil => exact .nil
  | cons h _ ih => rw [List.reverse_cons, List.reverse_cons]; exact ih.app (.cons h .nil)
theorem wos_cut {vs : List V} {ws : List W} (r : WOs tb K S as vs ws) (lo hi : Option Int) : WOs tb K S as (cutV vs lo hi) (cutL ws lo hi) := by
  unfold cutV cutL
  rw [← r.length]
  exact wos_take (wos_drop r _) _
theorem wos_set {vs : List V} {ws : List W} (r : WOs tb K S as vs ws) {v : V} {w : W} (h : WOk tb K S as v w) (j : Nat) : WOs tb K S as (vs.set j v) (ws.set j w) := by
  induction r generalizing j with
  | nil => exact .nil
  | cons h0 t ih =>
    cases j with
    | zero => exact .cons h t
    | succ j => exact .cons h0 (ih j)
theorem wos_erase {vs : List V} {ws : List W} (r : WOs tb K S as vs ws) (j : Nat) : WOs tb K S as (vs.eraseIdx j) (ws.eraseIdx j) := by
  induction r generalizing j with
  | nil => exact .nil
  | cons h0 t ih =>
    cases j with
    | zero => exact t
    | succ j => exact .cons h0 (ih j)
theorem wos_get {vs : List V} {ws : List W} (r : WOs tb K S as vs ws) : ∀ {j : Nat} {w : W}, ws[j]? = some w → ∃ v, vs[j]? = some v ∧ WOk tb K S as v w := by
  induction r with
  | nil => intro j w h; simp at h
  | cons h0 _ ih =>
    intro j w h
    cases j with
    | zero => simp at h; subst h; exact ⟨_, rfl, h0⟩
    | succ j => obtain ⟨v, h1, h2⟩ := ih (by simpa using h); exact ⟨v, by simpa using h1, h2⟩
theorem wos_dropLast {vs : List V} {ws : List W} (r : WOs tb K S as vs ws) : WOs tb K S as vs.dropLast ws.dropLast := by
  rw [List.dropLast_eq_take, List.dropLast_eq_take, ← r.length]
  exact wos_take r _
end
section
variable {X : Cx} {tb : Tb} {E : XK}
/-- x[y] -/
theorem ix_D (hu : X.A.units + 64 < cLine) : IxR X (rS tb X.K E (fun x y => rd (idxW x y))) := by
  intro value slice pins s σ H x y v u Q I rx ry ⟨H0, S0, P, m, as, S, wx, wy, out, M, hx, hy, e, p⟩ hs
  unfold rd at e
  dsimp only at e
  cases ei : idxW wx wy m with
  | none => rw [ei] at e; cases e
  | some w =>
    rw [ei] at e
    cases e
    unfold idxW at ei
    cases es : seqOf wx m with
    | some q =>
      obtain ⟨b, ws⟩ := q
      rw [es] at ei
      dsimp only at ei
      split at ei
      · rename_i i
        cases hy.int
        obtain ⟨a, vs, rfl, g1, g2⟩ := seq_ok M hx es
        obtain ⟨v', g3, g4⟩ := wos_at g2 ei
        cases b with
        | true => exact ix_list value slice pins s σ H _ _ v u Q I rx ry ⟨a, vs, i, v', rfl, rfl, SqL.of g1, g3, p.val M g4⟩ hs
        | false => exact ix_tup value slice pins s σ H _ _ v u Q I rx ry ⟨a, vs, i, v', rfl, rfl, SqT.of g1, g3, p.val M g4⟩ hs
      · cases ei
    | none =>
      rw [es] at ei
      dsimp only at ei
      cases ed : dicOf wx m with
      | none => rw [ed] at ei; cases ei
      | some d =>
        rw [ed] at ei
        dsimp only at ei
        cases ep : pk m FZ wy with
        | none => rw [ep] at ei; cases ei
        | some z =>
          rw [ep] at ei
          dsimp only at ei
          cases eg : dget d z with
          | none => rw [eg] at ei; cases ei
          | some o =>
            rw [eg] at ei
            have eo : o = some w := by simpa using ei
            subst eo
            obtain ⟨a, rfl, hd⟩ := dic_ok M hx ed
            obtain ⟨ov, g1, v', rfl, g3⟩ := dget_ok hd (pk_ok M _ _ _ _ ep hy) eg
            obtain rfl : v = Value.ref a := rx
            have hT := dict_typeIs I g1
            exact PyProof.Rows.tail_any hT PySem.F.slot_dict_getitem.lookup (d_getItem (by omega) I g1 ry fun w' s3 I3 rw' => (⟨v', H, I3, rw', p.val M g3⟩ : EP X pins σ Q w' s3)) hs
/-- methods of lists -/
def mS (tb : Tb) (K : PySem.W.Frag) (E : XK) (f : W → List W → Ev W) : V → List V → Hp → VK → Prop := fun x xs H Q => ∃ H0 S0 P m as S wx ws o, MOk tb K H0 S0 P m as S H ∧ WOk tb K S as x wx ∧ WOs tb K S as xs ws ∧ f wx ws m = some o ∧ Post tb K E (RW tb K) H0 S0 P m as S H Q o
/-- a live list written by a method -/
theorem lst_write {K : PySem.W.Frag} {H0 S0 S H : Hp} {P : Option Addr} {m : Mem} {as : List (Option Addr)} {Q : VK} {k : Nat} {a : Addr} {ws ws' : List W} {vs vs' : List V} {w : W} {v : V} (M : MOk tb K H0 S0 P m as S H) (hm : m[k]? = some (.lst ws)) (ha : as[k]? = some (some a))
    (hH : H a = some (.lst vs)) (hS : S a = none) (r : WOs tb K S as vs' ws') (hw : WOk tb K S as v w) (p : Post tb K E (RW tb K) H0 S0 P m as S H Q (.ok w (m.set k (.lst ws')))) : Q v (upd H a (.lst vs')) := by
  obtain ⟨M', s'⟩ := M.write (c' := .lst ws') (o' := .lst vs') hm ha hS (fun b z => by rw [hH] at z; cases z) (fun q b z => by rw [hH] at z; cases z) (fun _ z => by cases z) (fun _ => ⟨⟨vs', rfl⟩, fun z => by cases z⟩) ⟨hS, vs', upd_same, r⟩
  exact p _ _ _ _ s' M' hw
theorem lmt_cell {K : PySem.W.Frag} {f : LM} {o : W} {ws : List W} {m : Mem} {out : Out W} (h : lmt f o ws m = some out) (hf : f ≠ .get) (hf2 : f ≠ .update) : ∃ k xs, o = .c k ∧ m[k]? = some (.lst xs) := by
  unfold lmt at h
  cases o with
  | d x => cases h
  | c k =>
    dsimp only at h
    cases hm : m[k]? with
    | none => rw [hm] at h; cases f <;> simp at h
    | some c =>
      rw [hm] at h
      cases c with
      | lst xs => exact ⟨k, xs, rfl, hm⟩
      | _ => cases f <;> simp at h
theorem mt_D (f : LM) (id : String) (hid : (f = .append ∧ id = "list.append") ∨ (f = .extend ∧ id = "list.extend") ∨ (f = .pop ∧ id = "list.pop")) : MtR X id (mS tb X.K E (lmt f)) := by
  intro pins s σ H x xs v us Q I rx rxs ⟨H0, S0, P, m, as, S, wx, ws, out, M, hx, hws, e, p⟩
  obtain ⟨k, ys, rfl, hm⟩ := lmt_cell (K := X.K) e (by rcases hid with h | h | h <;> rw [h.1] <;> decide) (by rcases hid with h | h | h <;> rw [h.1] <;> decide)
  obtain ⟨a, ha, rfl⟩ := hx
  obtain ⟨hS, vs, hH, hr⟩ := M.cell _ _ _ hm ha
  rcases hid with ⟨rfl, rfl⟩ | ⟨rfl, rfl⟩ | ⟨rfl, rfl⟩
  · unfold lmt at e
    dsimp only at e
    rw [hm] at e
    cases hws with
    | nil => cases e
    | cons h0 h1 =>
      cases h1 with
      | cons _ _ => cases e
      | nil =>
        dsimp only at e
        split at e
        · rename_i hs
          cases e
          have hz := big_le hs
          exact mt_append pins s σ H _ _ v us Q I rx rxs ⟨a, vs, _, rfl, rfl, hH, by rw [hr.length]; omega, lst_write (w := .d .non) M hm ha hH hS (hr.app (.cons h0 .nil)) Rp.non p⟩
        · cases e
  · unfold lmt at e
    dsimp only at e
    rw [hm] at e
    cases hws with
    | nil => cases e
    | cons h0 h1 =>
      cases h1 with
      | cons _ _ => cases e
      | nil =>
        dsimp only at e
        split at e
        · rename_i zs es
          split at e
          · rename_i hs
            cases e
            have hz := big_le hs
            obtain ⟨b, vs2, rfl, g1, g2⟩ := seq_ok M h0 es
            exact mt_extend pins s σ H _ _ v us Q I rx rxs ⟨a, b, vs, vs2, rfl, rfl, hH, g1, by rw [hr.length, g2.length]; omega, lst_write (w := .d .non) M hm ha hH hS (hr.app g2) Rp.non p⟩
          · cases e
        · cases e
  · unfold lmt at e
    dsimp only at e
    rw [hm] at e
    cases hws with
    | nil =>
      dsimp only at e
      cases el : ys.getLast? with
      | none => rw [el] at e; cases e
      | some w =>
        rw [el] at e
        cases e
        rw [List.getLast?_eq_getElem?] at el
        obtain ⟨v', g1, g2⟩ := wos_get hr el
        rw [← hr.length] at g1
        exact mt_pop pins s σ H _ _ v us Q I rx rxs ⟨a, vs, v', rfl, rfl, hH, g1, lst_write M hm ha hH hS (wos_dropLast hr) g2 p⟩
    | @cons vv ww _ _ h0 h1 =>
      cases h1 with
      | cons _ _ => cases ww with
        | c j => cases e
        | d d => cases d <;> cases e
      | nil =>
        cases ww with
        | c j => cases e
        | d d =>
          cases d with
          | int i =>
            dsimp only at e
            split at e
            · rename_i hi
              cases el : ys[i.toNat]? with
              | none => rw [el] at e; cases e
              | some w =>
                rw [el] at e
                cases e
                cases h0.int
                obtain ⟨v', g1, g2⟩ := wos_get hr el
                have hlt := (List.getElem?_eq_some_iff.mp g1).1
                have hzl : vs.length ≤ sizeLine := by
                  obtain ⟨z, _⟩ := I.hok a _ hH
                  exact z
                have hz : i < 2 ^ 63 := by
                  have := line63
                  omega
                exact mt_popAt pins s σ H _ _ v us Q I rx rxs ⟨a, vs, i, i.toNat, v', rfl, rfl, hH, by omega, hz, seqIndex_of hi (by omega), g1, lst_write M hm ha hH hS (wos_erase hr _) g2 p⟩
            · cases e
          | _ => cases e
end
end U
set_option Elab.async false
set_option linter.all false
set_option maxRecDepth 100000
set_option maxHeartbeats 4000000
set_option autoImplicit false
/-! U8: what a function of the little language promises; a call of it. -/
namespace U
open Evl (Ex)
open PySem L2

def PotOk (S H : Hp) : Option Addr → Pt → Prop
  | P, none => P = none
  | P, some (p, q) => ∃ a, P = some a ∧ S a = none ∧ H a = some (.lst [.int p, .int q])
def AOk (tb : Tb) (K : PySem.W.Frag) (S : Hp) (P : Option Addr) (v : V) (d : D) : Prop := Rp tb K S v d ∨ (d = .pot ∧ ∃ a, P = some a ∧ v = .ref a)
/-- what is handed back -/
def FrOk (tb : Tb) (K : PySem.W.Frag) (H S' H' : Hp) (v : V) : Fr → List Addr → Prop
  | .d x, as => as = [] ∧ Rp tb K S' v x
  | .l xs, as => ∃ a vs, as = [a] ∧ v = .ref a ∧ H a = none ∧ S' a = none ∧ H' a = some (.lst vs) ∧ Rps tb K S' vs xs
  | .ll xss, as => ∃ a bs, as = bs ++ [a] ∧ v = .ref a ∧ as.Nodup ∧ (∀ b ∈ as, H b = none ∧ S' b = none) ∧ H' a = some (.lst (bs.map .ref)) ∧ Paired (fun (b : Addr) (xs : List D) => ∃ vs, H' b = some (.lst vs) ∧ Rps tb K S' vs xs) bs xss
/-- nothing that stood is changed, but the pot -/
structure Frm (P : Option Addr) (S H S' H' : Hp) : Prop where
  ss : Ex S S'
  sh : Ex S' H'
  hh : ∀ a o, H a = some o → P ≠ some a → H' a = some o
  no : ∀ a, S a = none → H a ≠ none → S' a = none
def FPost (tb : Tb) (K : PySem.W.Frag) (P : Option Addr) (S H : Hp) (Q : VK) (E : XK) : Ans → Prop
  | .ok r pt => ∀ v S' H' as, Frm P S H S' H' → PotOk S' H' P pt → FrOk tb K H S' H' v r as → Q v H'
  | .exc c fs pt => ∀ od S' H', Frm P S H S' H' → PotOk S' H' P pt → XdOk tb K S' H' fs od → E (.ref (He.ga K (tb.cl c))) od H'
def FSp (tb : Tb) (K : PySem.W.Frag) (F : Fn) : Sp := fun vs H Q E => ∃ S P ds pt o, Ex S H ∧ (∃ u : Obj × Addr, H sysModules = some (.frz u.1 (.own u.2))) ∧ PotOk S H P pt ∧ Paired (AOk tb K S P) vs ds ∧ F ds pt = some o ∧ FPost tb K P S H Q E o

section
variable {tb : Tb} {K : PySem.W.Frag} {E : XK} {H0 S0 S H S' H' : Hp} {P : Option Addr} {m m1 : Mem} {as : List (Option Addr)} {Q : VK}
theorem args_ok : ∀ (ws : List W) (m : Mem) (ds : List D) (m' : Mem) (vs : List V) (S : Hp), argsv ws m = some (ds, m') → MOk tb K H0 S0 P m as S H → WOs tb K S as vs ws →
    ∃ S', MOk tb K H0 S0 P m' as S' H ∧ Stp m as S H m' as S' H ∧ Paired (AOk tb K S' P) vs ds
  | [], m, ds, m', vs, S, h, M, r => by
    cases r
    simp only [argsv, fzs, Option.some.injEq, Prod.mk.injEq] at h
    obtain ⟨rfl, rfl⟩ := h
    exact ⟨S, M, Stp.rfl', .nil⟩
  | w :: ws, m, ds, m', vs, S, h, M, r => by
    cases r with
    | @cons v _ vs' _ r0 r1 =>
      unfold argsv fzs at h
      cases e1 : args1 w m with
      | none => rw [e1] at h; cases h
      | some p =>
        obtain ⟨x, m1⟩ := p
        rw [e1] at h
        dsimp only at h
        cases e2 : fzs args1 ws m1 with
        | none => rw [e2] at h; cases h
        | some q =>
          obtain ⟨ys, m2⟩ := q
          rw [e2] at h
          simp only [Option.some.injEq, Prod.mk.injEq] at h
          obtain ⟨rfl, rfl⟩ := h
          have one : ∃ S1, MOk tb K H0 S0 P m1 as S1 H ∧ Stp m as S H m1 as S1 H ∧ AOk tb K S1 P v x := by
            unfold args1 at e1
            split at e1
            · simp only [Option.some.injEq, Prod.mk.injEq] at e1
              obtain ⟨rfl, rfl⟩ := e1
              obtain ⟨a, ha, rfl⟩ := r0
              refine ⟨S, M, Stp.rfl', .inr ⟨rfl, a, ?_, rfl⟩⟩
              rw [M.p0] at ha
              exact Option.some.inj ha
            · obtain ⟨S1, M1, s1, r2⟩ := fz_ok FZ w m x m1 v H0 S0 P as S H e1 M r0
              exact ⟨S1, M1, s1, .inl r2⟩
          obtain ⟨S1, M1, s1, r2⟩ := one
          obtain ⟨S2, M2, s2, r3⟩ := args_ok ws m1 ys m2 vs' S1 e2 M1 (WOs.mono s1.ex List.prefix_rfl r1)
          refine ⟨S2, M2, s1.trans s2, .cons ?_ r3⟩
          rcases r2 with r2 | r2
          · exact .inl (r2.mono s2.ex)
          · exact .inr r2
theorem pot_ok (M : MOk tb K H0 S0 P m as S H) {pt : Pt} (h : potOf m = some pt) : PotOk S H P pt := by
  unfold potOf at h
  split at h
  · rename_i p q r
    cases h
    cases e : P with
    | none =>
      have := M.pz.mp e
      simp at this
    | some a =>
      obtain ⟨h1, vs, h2, h3⟩ := M.cell 0 _ a rfl (by rw [M.p0, e])
      refine ⟨a, rfl, h1, ?_⟩
      cases h3 with
      | cons g1 g2 =>
        cases g2 with
        | cons g2 g3 =>
          cases g3
          cases g1.int
          cases g2.int
          exact h2
  · cases h
    exact M.pz.mpr rfl
  · cases h
/-- a list that stands already is taken in as a cell -/
theorem MOk.adopt (M : MOk tb K H0 S0 P m as S H) {p : Addr} {c : Cell} (hp : some p ∉ as) (h0 : H0 p = none) (hH : H p ≠ none) (hc : CellOk tb K H0 S (as ++ [some p]) H p c) : MOk tb K H0 S0 P (m ++ [c]) (as ++ [some p]) S H := by
  have hl : 0 < m.length := by
    rw [← M.len]
    exact (List.getElem?_eq_some_iff.mp M.p0).1
  have key : ∀ (n : Nat) (a : Addr), (as ++ [some p])[n]? = some (some a) → (n < as.length ∧ as[n]? = some (some a)) ∨ (n = as.length ∧ a = p) := fun n a e => by
    rcases Nat.lt_or_ge n as.length with h | h
    · rw [List.getElem?_append_left h] at e
      exact .inl ⟨h, e⟩
    · rw [List.getElem?_append_right h] at e
      cases hz : n - as.length with
      | zero =>
        rw [hz] at e
        simp at e
        exact .inr ⟨by omega, e.symm⟩
      | succ k => rw [hz] at e; simp at e
  refine ⟨M.sub, M.sys, M.s0, M.h0, M.base, M.sbase, ?_, by simp [M.len], ?_, (by rw [List.getElem?_append_left hl]; exact M.pz), fun n a e => ?_, M.pot, fun n c' a e ea => ?_, fun n a e => ?_, fun n hn' => ?_⟩
  · rw [List.nodup_append]
    refine ⟨M.nd, by simp, fun x hx y hy => ?_⟩
    simp at hy
    subst hy
    rintro rfl
    exact hp hx
  · rw [List.getElem?_append_left (by rw [M.len]; exact hl)]
    exact M.p0
  · rcases key n a e with ⟨_, e'⟩ | ⟨_, rfl⟩
    · exact M.live n a e'
    · exact hH
  · rcases key n a ea with ⟨hl', e'⟩ | ⟨hn', rfl⟩
    · rw [List.getElem?_append_left (by rw [← M.len]; exact hl')] at e
      exact (M.cell n c' a e e').mono (Evl.Ex.refl _) (List.prefix_append _ _) id (fun _ _ h => h) rfl fun _ _ => rfl
    · rw [hn', M.len, List.getElem?_append_right (Nat.le_refl _)] at e
      simp at e
      subst e
      exact hc
  · rcases key _ a e with ⟨_, e'⟩ | ⟨_, rfl⟩
    · exact M.new n a e'
    · exact h0
  · rw [List.length_append] at hn'
    rcases Nat.lt_or_ge (n + 1) as.length with h | h
    · obtain ⟨a, e⟩ := M.some_ n h
      exact ⟨a, by rw [List.getElem?_append_left h]; exact e⟩
    · have : n + 1 = as.length := by simp at hn'; omega
      exact ⟨p, by rw [this, List.getElem?_append_right (Nat.le_refl _)]; simp⟩
theorem setPot_get {pt : Pt} {m : Mem} (n : Nat) : (setPot pt m)[n + 1]? = m[n + 1]? := by
  cases m <;> rfl
theorem setPot_0 {pt : Pt} {c : Cell} {m : Mem} (h : m[0]? = some c) : (setPot pt m)[0]? = some (potC pt) := by
  cases m with
  | nil => cases h
  | cons _ _ => rfl
theorem setPot_len {pt : Pt} {m : Mem} : (setPot pt m).length = m.length := by cases m <;> rfl
/-- behind a call: the memory with the new pot -/
theorem MOk.behind (M : MOk tb K H0 S0 P m as S H) {pt' : Pt} {Sc : Hp} (hSc : ∀ b, S b = none → H b ≠ none → Sc b = none) (F : Frm P Sc H S' H') (hS : Ex S S') (hpot : PotOk S' H' P pt') : MOk tb K H0 S0 P (setPot pt' m) as S' H' := by
  obtain ⟨c0, hc0⟩ : ∃ c, m[0]? = some c := by
    have h1 := (List.getElem?_eq_some_iff.mp M.p0).1
    rw [M.len] at h1
    exact ⟨m[0], by simp [h1]⟩
  have keep : ∀ {n : Nat} {a : Addr}, as[n + 1]? = some (some a) → H' a = H a := fun {n a} e => by
    have hl := M.live _ _ e
    cases q : H a with
    | none => exact absurd q hl
    | some u =>
      refine F.hh a u q fun z => ?_
      have e0 : as[0]? = some (some a) := by rw [M.p0, z]
      exact absurd (nodup_get M.nd e e0) (by omega)
  have notP : ∀ {dx x : Addr}, H dx = some (.own x) → P ≠ some dx := fun {dx x} h z => by
    obtain ⟨_, vs, h2⟩ := M.pot dx z
    rw [h] at h2
    cases h2
  refine ⟨F.sh, ?_, M.s0.trans hS, M.h0, fun a o e hP => F.hh a o (M.base a o e hP) hP, fun a h1 h2 => ?_, M.nd, by rw [setPot_len]; exact M.len, M.p0, ?_, fun n a e => ?_, fun a e => ?_, fun n c a e ea => ?_, M.new, M.some_⟩
  · obtain ⟨u, h⟩ := M.sys
    refine ⟨u, F.hh _ _ h fun z => ?_⟩
    obtain ⟨_, vs, h2⟩ := M.pot _ z
    rw [h] at h2
    cases h2
  · by_cases hP : P = some a
    · cases pt' with
      | none => rw [show P = none from hpot] at hP; cases hP
      | some p =>
        obtain ⟨b, e1, e2, e3⟩ := hpot
        rw [hP] at e1
        cases e1
        exact e2
    · have hs := M.sbase a h1 h2
      have hH : H a ≠ none := by
        cases q : H0 a with
        | none => exact absurd q h2
        | some o => rw [M.base a o q hP]; simp
      exact F.no a (hSc a hs hH) hH
  · rw [setPot_0 hc0]
    cases pt' with
    | none =>
      have : P = none := hpot
      simp [this, potC]
    | some p =>
      obtain ⟨p1, p2⟩ := p
      obtain ⟨b, e1, e2, e3⟩ := hpot
      simp [e1, potC]
  · cases n with
    | succ n => rw [keep e]; exact M.live _ _ e
    | zero =>
      have hP : P = some a := Option.some.inj (M.p0.symm.trans e)
      cases pt' with
      | none => rw [show P = none from hpot] at hP; cases hP
      | some p =>
        obtain ⟨b, e1, e2, e3⟩ := hpot
        rw [hP] at e1
        cases e1
        rw [e3]
        simp
  · cases pt' with
    | none => rw [show P = none from hpot] at e; cases e
    | some p =>
      obtain ⟨b, e1, e2, e3⟩ := hpot
      rw [e] at e1
      cases e1
      exact ⟨e2, _, e3⟩
  · cases n with
    | zero =>
      rw [setPot_0 hc0] at e
      cases e
      have hP : P = some a := Option.some.inj (M.p0.symm.trans ea)
      cases pt' with
      | none => trivial
      | some p =>
        obtain ⟨p1, p2⟩ := p
        obtain ⟨b, e1, e2, e3⟩ := hpot
        rw [hP] at e1
        cases e1
        exact ⟨e2, _, e3, .cons (Rp.int _) (.cons (Rp.int _) .nil)⟩
    | succ n =>
      rw [setPot_get] at e
      refine (M.cell _ _ _ e ea).mono hS List.prefix_rfl (fun h => F.no a (hSc a h (M.live _ _ ea)) (M.live _ _ ea)) (fun dx h h' => F.no dx (hSc dx h' (by rw [h]; simp)) (by rw [h]; simp)) (keep ea) fun dx h => ?_
      rw [F.hh dx _ h (notP h), h]

theorem inll_ok (S H : Hp) : ∀ (xss : List (List D)) (bs : List Addr) (m : Mem) (as : List (Option Addr)) (ws : List W) (m' : Mem), inll xss m = (ws, m') → MOk tb K H0 S0 P m as S H → Paired (fun (b : Addr) (xs : List D) => ∃ vs, H b = some (.lst vs) ∧ Rps tb K S vs xs) bs xss →
    bs.Nodup → (∀ b ∈ bs, some b ∉ as ∧ H0 b = none ∧ S b = none) → MOk tb K H0 S0 P m' (as ++ bs.map some) S H ∧ WOs tb K S (as ++ bs.map some) (bs.map .ref) ws ∧ (∀ (n : Nat) c, m[n]? = some c → m'[n]? = some c) ∧ m'.length = m.length + bs.length
  | [], bs, m, as, ws, m', h, M, r, _, _ => by
    cases r
    simp only [inll, Prod.mk.injEq] at h
    obtain ⟨rfl, rfl⟩ := h
    simp only [List.map_nil, List.append_nil]
    exact ⟨M, .nil, fun _ _ h => h, rfl⟩
  | xs :: xss, bs, m, as, ws, m', h, M, r, nd, fr => by
    cases r with
    | @cons b _ bs' _ r0 r1 =>
      obtain ⟨vs, hb, hr⟩ := r0
      obtain ⟨f1, f2, f3⟩ := fr b (List.mem_cons_self ..)
      rw [List.nodup_cons] at nd
      have M1 := M.adopt (c := .lst (xs.map .d)) f1 f2 (by rw [hb]; simp) ⟨f3, vs, hb, hr.ws⟩
      unfold inll at h
      cases e : inll xss (m ++ [.lst (xs.map .d)]) with
      | mk ws1 m1 =>
        rw [e] at h
        simp only [Prod.mk.injEq] at h
        obtain ⟨rfl, rfl⟩ := h
        obtain ⟨M2, w2, k2, l2⟩ := inll_ok S H xss bs' _ _ ws1 m1 e M1 r1 nd.2 fun c hc => by
          obtain ⟨g1, g2, g3⟩ := fr c (List.mem_cons_of_mem _ hc)
          refine ⟨fun z => ?_, g2, g3⟩
          rw [List.mem_append] at z
          rcases z with z | z
          · exact g1 z
          · simp at z; subst z; exact nd.1 hc
        have e1 : as ++ (b :: bs').map some = as ++ [some b] ++ bs'.map some := by simp
        rw [e1]
        refine ⟨M2, .cons ⟨b, ?_, rfl⟩ w2, fun n c hn => k2 n c (by rw [List.getElem?_append_left (List.getElem?_eq_some_iff.mp hn).1]; exact hn), by rw [l2]; simp; omega⟩
        rw [List.append_assoc, List.getElem?_append_right (by rw [M.len]; exact Nat.le_refl _), M.len]
        simp
/-- a call -/
theorem callF_ok {F : Fn} {ws : List W} {vs : List V} {o : Out W} (M : MOk tb K H0 S0 P m as S H) (hw : WOs tb K S as vs ws) (e : callF F ws m = some o) (p : Post tb K E (RW tb K) H0 S0 P m as S H Q o) : FSp tb K F vs H Q E := by
  unfold callF at e
  cases ea : argsv ws m with
  | none => rw [ea] at e; cases e
  | some q =>
    obtain ⟨ds, m1⟩ := q
    rw [ea] at e
    dsimp only at e
    cases ep : potOf m with
    | none => rw [ep] at e; cases e
    | some pt =>
      rw [ep] at e
      dsimp only at e
      obtain ⟨S1, M1, s1, ra⟩ := args_ok ws m ds m1 vs S ea M hw
      have hp1 : PotOk S1 H P pt := by
        have h := pot_ok M ep
        cases pt with
        | none => exact h
        | some pq =>
          obtain ⟨a, h1, h2, h3⟩ := h
          exact ⟨a, h1, (M1.pot a h1).1, h3⟩
      have nopin0 : ∀ ws, m[0]? ≠ some (.pin ws) := fun ws z => by
        unfold potOf at ep
        split at ep
        · simp at z
        · simp at z
        · cases ep
      have stp : ∀ {S' H' : Hp} {pt' : Pt} {mm : Mem}, Ex S S' → (∀ a o, H a = some o → P ≠ some a → H' a = some o) → (∀ (n : Nat) (us : List W) (a : Addr), m[n]? = some (.pin us) → as[n]? = some (some a) → mm[n]? = some (.pin us)) → Stp m as S H (setPot pt' mm) as S' H' := by
        intro S' H' pt' mm h1 h2 h3
        refine ⟨h1, List.prefix_rfl, fun n us a g1 g2 => ?_⟩
        cases n with
        | zero => exact absurd g1 (nopin0 us)
        | succ n =>
          rw [setPot_get]
          refine ⟨h3 _ us a g1 g2, ?_⟩
          cases q : H a with
          | none => exact absurd q (M.live _ _ g2)
          | some u =>
            refine h2 a u q fun z => ?_
            have e0 : as[0]? = some (some a) := by rw [M.p0, z]
            exact absurd (nodup_get M.nd g2 e0) (by omega)
      cases ef : F ds pt with
      | none => rw [ef] at e; cases e
      | some ans =>
        refine ⟨S1, P, ds, pt, ans, M1.sub, M.sys, hp1, ra, ef, ?_⟩
        rw [ef] at e
        cases ans with
        | exc c fs pt' =>
          simp only [Option.some.injEq] at e
          subst e
          intro od S' H' Fm hpot xd
          have M2 := M1.behind (Sc := S1) (fun _ h _ => h) Fm Fm.ss hpot
          exact p od S' H' as (stp (s1.ex.trans Fm.ss) Fm.hh fun n us a g1 g2 => (s1.pin n us a g1 g2).1) M2 xd
        | ok r pt' =>
          dsimp only at e
          intro v S' H' bs Fm hpot fr
          cases hfl : flatF r with
          | true =>
            rw [hfl] at e
            cases r with
            | d x =>
              simp only [if_true, innw, Option.some.injEq] at e
              subst e
              have Fm2 : Frm P S H S H' := ⟨(Evl.Ex.refl _), s1.ex.trans (Fm.ss.trans Fm.sh), Fm.hh, fun _ h _ => h⟩
              have hpot2 : PotOk S H' P pt' := by
                cases pt' with
                | none => exact hpot
                | some pq =>
                  obtain ⟨a, h1, h2, h3⟩ := hpot
                  exact ⟨a, h1, (M.pot a h1).1, h3⟩
              have M2 := M.behind (Sc := S) (fun _ h _ => h) Fm2 (Evl.Ex.refl _) hpot2
              refine p v S H' as (stp (Evl.Ex.refl _) Fm.hh fun n us a g1 g2 => g1) M2 ?_
              obtain ⟨_, hr⟩ := fr
              show Rp tb K S v x
              cases hr with
              | non => exact .non
              | bl b => exact .bl b
              | int i => exact .int i
              | str z => exact .str z
              | _ => cases hfl
            | _ => cases hfl
          | false =>
            rw [hfl] at e
            have M2 := M1.behind (Sc := S1) (fun _ h _ => h) Fm Fm.ss hpot
            have s2 := stp (pt' := pt') (mm := m1) (s1.ex.trans Fm.ss) Fm.hh fun n us a g1 g2 => (s1.pin n us a g1 g2).1
            have nin : ∀ {a : Addr}, H a = none → some a ∉ as := fun {a} ha z => by
              obtain ⟨n, hn, ez⟩ := List.getElem_of_mem z
              exact M.live n a (List.getElem?_eq_some_iff.mpr ⟨hn, ez⟩) ha
            have h0n : ∀ {a : Addr}, H a = none → H0 a = none := fun {a} ha => (M.fresh ha).1
            cases r with
            | d x =>
              simp only [Bool.false_eq_true, if_false, innw, Option.some.injEq] at e
              subst e
              exact p v S' H' as s2 M2 fr.2
            | l xs =>
              simp only [Bool.false_eq_true, if_false, innw, Option.some.injEq] at e
              subst e
              obtain ⟨a, us, rfl, rfl, g1, g2, g3, g4⟩ := fr
              have M3 := M2.adopt (c := .lst (xs.map .d)) (nin g1) (h0n g1) (by rw [g3]; simp) ⟨g2, us, g3, g4.ws⟩
              refine p _ S' H' (as ++ [some a]) ?_ M3 ⟨a, ?_, rfl⟩
              · refine ⟨s2.ex, List.prefix_append _ _, fun n us a' g1' g2' => ?_⟩
                obtain ⟨k1, k2⟩ := s2.pin n us a' g1' g2'
                exact ⟨by rw [List.getElem?_append_left (List.getElem?_eq_some_iff.mp k1).1]; exact k1, k2⟩
              · rw [← M2.len, List.getElem?_append_right (Nat.le_refl _)]
                simp
            | ll xss =>
              simp only [Bool.false_eq_true, if_false, innw] at e
              obtain ⟨a, cs, rfl, rfl, nd, g1, g2, g3⟩ := fr
              cases ei : inll xss (setPot pt' m1) with
              | mk ws1 m3 =>
                rw [ei] at e
                simp only [Option.some.injEq] at e
                subst e
                rw [List.nodup_append] at nd
                obtain ⟨M3, w3, k3, l3⟩ := inll_ok S' H' xss cs _ as ws1 m3 ei M2 g3 nd.1 fun c hc => by
                  obtain ⟨z1, z2⟩ := g1 c (List.mem_append_left _ hc)
                  exact ⟨nin z1, h0n z1, z2⟩
                obtain ⟨z1, z2⟩ := g1 a (List.mem_append_right _ (by simp))
                have hna : some a ∉ as ++ cs.map some := fun z => by
                  rw [List.mem_append] at z
                  rcases z with z | z
                  · exact nin z1 z
                  · rw [List.mem_map] at z
                    obtain ⟨c, hc, ec⟩ := z
                    cases ec
                    exact nd.2.2 a hc a (by simp) rfl
                have M4 := M3.adopt (c := .lst ws1) hna (h0n z1) (by rw [g2]; simp) ⟨z2, _, g2, WOs.mono (Evl.Ex.refl _) (List.prefix_append _ _) w3⟩
                refine p _ S' H' _ ?_ M4 ⟨a, ?_, rfl⟩
                · refine ⟨s2.ex, (List.prefix_append _ _).trans (List.prefix_append _ _), fun n us a' g1' g2' => ?_⟩
                  obtain ⟨q1, q2⟩ := s2.pin n us a' g1' g2'
                  have q3 := k3 n _ q1
                  exact ⟨by rw [List.getElem?_append_left (List.getElem?_eq_some_iff.mp q3).1]; exact q3, q2⟩
                · rw [← M3.len, List.getElem?_append_right (Nat.le_refl _)]
                  simp
end
end U
set_option Elab.async false
set_option linter.all false
set_option maxRecDepth 100000
set_option maxHeartbeats 4000000
set_option autoImplicit false
/-! U9: when a text of the little language is the form of an expression; contexts. -/
namespace U
open Evl (Ex)
open PySem L2

structure Ct where
  N : List Str
  sc : Scope
  bl : List Str
  co : Nat → Option (Str × D)
  /-- functions and classes by number: the name, the parameters, in which ways it is called (how many by place, which by name) -/
  fn : Nat → Option (Str × List Str × List (Nat × List Nat))
  k : Nat
  tys : List Ty
  tb : Tb
def gl (sc : Scope) (x : Str) : Bool := decide (sc.names.lookup x = some .globalImplicit) && !(x == ("__debug__" : Str)) && decide (x ≠ "__name__")
def vis (sc : Scope) (x : Str) : Bool := (decide (sc.names.lookup x = some .local) || decide (sc.names.lookup x = some .cell) || decide (sc.names.lookup x = some .free)) && !(x == ("__debug__" : Str)) && !(x == ("__classdict__" : Str))
def loc (sc : Scope) (x : Str) : Bool := decide (sc.names.lookup x = some .local) || decide (sc.names.lookup x = some .cell)
def cstD : D → Const → Bool
  | .non, .none => true
  | .bl a, .bool b => a == b
  | .int a, .int b => decide (a = b)
  | .str a, .str b => decide (a = b)
  | _, _ => false
def flatEq : D → D → Bool
  | .non, .non => true
  | .bl a, .bl b => a == b
  | .int a, .int b => decide (a = b)
  | .str a, .str b => decide (a = b)
  | _, _ => false
def nostar : Expr → Bool
  | .Starred _ _ => false
  | _ => true
def noSup : Expr → Bool
  | .Call (.Name _ _) [] [] _ => false
  | _ => true
def noSlice : Expr → Bool
  | .Slice _ _ _ _ => false
  | _ => true
def noSet : Expr → Bool
  | .Set _ _ _ => false
  | _ => true
def blName : Bl → Str
  | .len => "len"
  | .abs => "abs"
  | .max => "max"
  | .min => "min"
  | .int => "int"
  | .str => "str"
  | .repr => "repr"
  | .list => "list"
  | .tuple => "tuple"
  | .sorted => "sorted"
  | .sum => "sum"
  | .all => "all"
  | .any => "any"
  | .divmod => "divmod"
def lmName : LM → Str
  | .append => "append"
  | .extend => "extend"
  | .pop => "pop"
  | .get => "get"
  | .update => "update"
  | .reverse => "reverse"
  | .clear => "clear"
def lmOk : LM → Bool
  | .append => true
  | .extend => true
  | .pop => true
  | _ => false
/-- a comprehension's scope, as the frame around it makes it -/
def relab (scope sc : Scope) : Scope := { scope with names := scope.names.map fun (n, k) => if (k == .free && sc.kind == .function && sc.names.lookup n == some .cell) then (n, .cell) else (n, k) }
/-- the names of a target -/
def mtNames (ct : Ct) : List Nat → List Expr → Bool
  | [], [] => true
  | i :: is, .Name x _ :: es => decide (ct.N[i]? = some x) && loc ct.sc x && mtNames ct is es
  | _, _ => false
def mtTg (ct : Ct) : Tg → Expr → Bool
  | .nm i, .Name x _ => decide (ct.N[i]? = some x) && loc ct.sc x
  | .tp is, .Tuple es _ _ => mtNames ct is es
  | _, _ => false
def tyName (ct : Ct) : Ty → Option Str
  | .int => some "int"
  | .bool => some "bool"
  | .str => some "str"
  | .list => some "list"
  | .tuple => some "tuple"
  | .dict => some "dict"
  | .own c => some (ct.tb.cl c)
  | .bex x => some (Str.ofString x)
def mtTy (ct : Ct) (t : Ty) : Expr → Bool
  | .Name x _ => decide (tyName ct t = some x) && gl ct.sc x && ct.tys.contains t
  | _ => false
def mtTys (ct : Ct) : List Ty → List Expr → Bool
  | [], [] => true
  | t :: ts, e :: es => mtTy ct t e && mtTys ct ts es
  | _, _ => false
/-- the slots of a target -/
def tgIx : Tg → List Nat
  | .nm i => [i]
  | .tp is => is
/-- rows of constants, as keys, as values -/
def mtd : E → List (Option Expr) → Bool
  | .nil, [] => true
  | .cons (.cst d) r, some (.Constant c _ _) :: es => cstD d c && mtd r es
  | _, _ => false
def mtc : E → List Expr → Bool
  | .nil, [] => true
  | .cons (.cst d) r, .Constant c _ _ :: es => cstD d c && mtc r es
  | _, _ => false
/-- which slots a comprehension's names have -/
def ownOf (ct : Ct) (own : List Nat) : List (Str × Nat) := own.map fun i => (ct.N.getD i "", i)
mutual
def mt : E → Ct → Expr → Bool
  | .var i, ct, .Name x _ => decide (ct.N[i]? = some x) && vis ct.sc x
  | .cst d, _, .Constant c _ _ => cstD d c
  | .glo n d, ct, .Name x _ => gl ct.sc x && (match ct.co n with
    | some (y, d') => decide (y = x) && flatEq d' d
    | none => false)
  | .lst as, ct, .List es _ => mts as ct es
  | .tup as, ct, .Tuple es _ _ => mts as ct es
  | .dic ks vs, ct, .Dict es fs _ => mtd ks es && mtc vs fs && decide (es.length = fs.length) && decide (es.length ≤ 15)
  | .neg a, ct, .UnaryOp .USub x _ => mt a ct x
  | .not a, ct, .UnaryOp .Not x _ => mt a ct x
  | .bin o a b, ct, .BinOp x o' y _ => decide (o = o') && mt a ct x && mt b ct y
  | .and a b, ct, .BoolOp .And [x, y] _ => mt a ct x && mt b ct y
  | .and a b, ct, .BoolOp .And (x :: y :: z :: r) pos => mt a ct x && mt b ct (.BoolOp .And (y :: z :: r) pos)
  | .or a b, ct, .BoolOp .Or [x, y] _ => mt a ct x && mt b ct y
  | .or a b, ct, .BoolOp .Or (x :: y :: z :: r) pos => mt a ct x && mt b ct (.BoolOp .Or (y :: z :: r) pos)
  | .cmp o a b, ct, .Compare x [o'] [y] _ => decide (o = o') && mt a ct x && mt b ct y && noSet y
  | .chn o p a b c, ct, .Compare x [o', p'] [y, z] _ => decide (o = o') && decide (p = p') && mt a ct x && mt b ct y && mt c ct z && noSet z
  | .ife c a b, ct, .IfExp x y z _ => tstOk c && mt c ct x && mt a ct y && mt b ct z
  | .call f as ks kas, ct, .Call (.Name x _) es kws _ => gl ct.sc x && mts as ct es && mtk kas ct kws && (match ct.fn f with
    | some (nm, ps, kp) => decide (nm = x) && kp.contains (es.length, ks) && decide (kws.map (·.arg) = ks.map fun i => ps[i]?)
    | none => false)
  | .blt f as, ct, .Call (.Name x _) es [] _ => decide (blName f = x) && gl ct.sc x && ct.bl.contains x && !es.isEmpty && mts as ct es
  | .lmt f o as, ct, .Call (.Attribute y n ap) es [] cp => decide (lmName f = n) && lmOk f && mt o ct y && mts as ct es && (ap.endLine == cp.line) && decide (es.length < 20) && noSup y
  | .rev _, _, _ => false
  | .isi a [t], ct, .Call (.Name x _) [y, z] [] _ => decide (x = "isinstance") && gl ct.sc x && ct.bl.contains x && mt a ct y && nostar y && mtTy ct t z
  | .isi a (t :: t' :: ts), ct, .Call (.Name x _) [y, .Tuple es _ _] [] _ => decide (x = "isinstance") && gl ct.sc x && ct.bl.contains x && mt a ct y && nostar y && mtTys ct (t :: t' :: ts) es
  | .fld o f, ct, .Attribute y n _ => decide (ct.tb.fd f = n) && mt o ct y && noSup y
  | .idx a b, ct, .Subscript x y _ => mt a ct x && mt b ct y && noSlice y
  | .slc a lo hi, ct, .Subscript x (.Slice l h none _) _ => mt a ct x && mto lo ct l && mto hi ct h
  | .lc tg it cnd elt own, ct, .ListComp el [⟨tg', iter, ifs, 0⟩] scope _ => mti it ct iter && noSet iter && blkC ct.N ct.sc scope (ownOf ct own) && mtTg { ct with sc := scope } tg tg' && (tgIx tg).all (own.contains ·) &&
      mt elt { ct with sc := relab scope ct.sc } el && (match ifs with
        | [] => (match cnd with
          | .cst (.bl true) => true
          | _ => false)
        | [c] => tstOk cnd && mt cnd { ct with sc := relab scope ct.sc } c
        | _ => false)
  | _, _, _ => false
def mts : E → Ct → List Expr → Bool
  | .nil, _, [] => true
  | .cons a r, ct, e :: es => nostar e && mt a ct e && mts r ct es
  | _, _, _ => false
def mtk : E → Ct → List Keyword → Bool
  | .nil, _, [] => true
  | .cons a r, ct, ⟨some _, e, _⟩ :: es => mt a ct e && mtk r ct es
  | _, _, _ => false
def mto : E → Ct → Option Expr → Bool
  | .nil, _, none => true
  | .cons a .nil, ct, some e => mt a ct e
  | _, _, _ => false
def mti : E → Ct → Expr → Bool
  | .seq a, ct, e => mt a ct e
  | .rng1 a, ct, .Call (.Name x _) [e] [] _ => decide (x = "range") && gl ct.sc x && ct.bl.contains x && nostar e && mt a ct e
  | .rng2 a b, ct, .Call (.Name x _) [e, f] [] _ => decide (x = "range") && gl ct.sc x && ct.bl.contains x && nostar e && nostar f && mt a ct e && mt b ct f
  | .enu a, ct, .Call (.Name x _) [e] [] _ => decide (x = "enumerate") && gl ct.sc x && ct.bl.contains x && nostar e && mt a ct e
  | .zip a b, ct, .Call (.Name x _) [e, f] [] _ => decide (x = "zip") && gl ct.sc x && ct.bl.contains x && nostar e && nostar f && mt a ct e && mt b ct f
  | _, _, _ => false
end
end U
set_option Elab.async false
set_option linter.all false
set_option maxRecDepth 100000
set_option maxHeartbeats 4000000
set_option autoImplicit false
/-! U10: the world around a text; the readings; the rules without iteration. -/
namespace U
open Evl (Ex)
open PySem L2

/-! ### outcomes, one behind another -/
def Thn {α β : Type} (f : α → Ev β) (o : Out β) : Out α → Prop
  | .ok a m1 => f a m1 = some o
  | .exc c fs m1 => o = .exc c fs m1
theorem bnd_inv {α β : Type} {x : Ev α} {f : α → Ev β} {m : Mem} {o : Out β} (h : bnd x f m = some o) : ∃ o1, x m = some o1 ∧ Thn f o o1 := by
  unfold bnd at h
  split at h
  · cases h
  · rename_i e
    exact ⟨_, e, h⟩
  · rename_i e
    exact ⟨_, e, (Option.some.inj h).symm⟩
theorem bnd_assoc {α β γ : Type} (x : Ev α) (f : α → Ev β) (g : β → Ev γ) : bnd (bnd x f) g = bnd x fun a => bnd (f a) g := by
  funext m
  unfold bnd
  cases x m with
  | none => rfl
  | some o => cases o <;> rfl
theorem ask_inv {α : Type} {x : Option α} {m : Mem} {o : Out α} (h : ask x m = some o) : ∃ a, x = some a ∧ o = .ok a m := by
  unfold ask at h
  cases x with
  | none => cases h
  | some a => exact ⟨a, rfl, (Option.some.inj h).symm⟩
theorem rd_inv {α : Type} {f : Mem → Option α} {m : Mem} {o : Out α} (h : rd f m = some o) : ∃ a, f m = some a ∧ o = .ok a m := by
  unfold rd at h
  cases e : f m with
  | none => rw [e] at h; cases h
  | some a => rw [e] at h; exact ⟨a, rfl, (Option.some.inj h).symm⟩
theorem truth_inv {w : W} {b : Bool} (h : truth w = some b) : w = .d (.bl b) := by
  unfold truth at h
  split at h
  · cases h; rfl
  · cases h
section
variable {tb : Tb} {K : PySem.W.Frag} {E : XK} {α α' β β' : Type} {R1 : Hp → List (Option Addr) → α' → α → Prop} {R2 : Hp → List (Option Addr) → β' → β → Prop} {H0 S0 S H : Hp} {P : Option Addr} {m : Mem} {as : List (Option Addr)} {σ : St} {env : En} {Q : β' → Hp → Prop} {Q' : α' → Hp → Prop} {o : Out β} {o1 : Out α} {f : α → Ev β}
theorem Thn.go (t : Thn f o o1) (M : MOk tb K H0 S0 P m as S H) (EN : EnvOk tb K S as σ env) (p : Post tb K E R2 H0 S0 P m as S H Q o)
    (k : ∀ a m1 b S1 H1 as1, Stp m as S H m1 as1 S1 H1 → MOk tb K H0 S0 P m1 as1 S1 H1 → EnvOk tb K S1 as1 σ env → R1 S1 as1 b a → f a m1 = some o → Post tb K E R2 H0 S0 P m1 as1 S1 H1 Q o → Q' b H1) : tG tb K E R1 env m o1 σ H Q' := by
  refine ⟨H0, S0, P, S, as, M, EN, ?_⟩
  cases o1 with
  | ok a m1 => exact fun b S1 H1 as1 s1 M1 r => k a m1 b S1 H1 as1 s1 M1 (EN.mono s1.ex s1.pre) r t (p.shift s1)
  | exc c fs m1 => cases t; exact p
end

/-! ### the world -/
/-- a value that is called with n by place and some by name, as F tells -/
structure Cl (Pg : Program) (w : World) (K : PySem.W.Frag) (mg : Str → Option Value) (base : Heap) (k : Nat) (tb : Tb) (u : Value) (F : Fn) (n : Nat) (ks : List Nat) (names : List Str) : Prop where
  keep : PySem.W.keepIn K u = true
  run : ∀ (X : Cx) (E : XK), X.prog = Pg → X.w = w → X.K = K → X.mg = mg → X.base = base → X.calm = true → X.A.guards = some [] → Room k X.A → Passes (L2.CX Pg w) X E →
    ∀ (pins : List (Addr × Obj)) (s : Shared) (σ : St) (H : Hp) (us ws : List Value) (vs zs : List V) (Q : VK), Inv X pins σ H s → Vals vs us → Vals zs ws → us.length = n → ws.length = ks.length → FSp tb K F (placed vs ks zs) H Q E →
      wpAny (model Pg w) X.A (call u us (names.zip ws)) (EP X pins σ Q) X.xe s
def kdV (tb : Tb) (K : PySem.W.Frag) : Kd → Value
  | .non => .type "NoneType"
  | .bl => .type "bool"
  | .int => .type "int"
  | .str => .type "str"
  | .lst => .type "list"
  | .tup => .type "tuple"
  | .dic => .type "dict"
  | .ins c => .ref (He.ga K (tb.cl c))
  | .exc c => .ref (He.ga K (tb.cl c))
def tyV (tb : Tb) (K : PySem.W.Frag) : Ty → V
  | .own c => .ref (He.ga K (tb.cl c))
  | .int => .ty "int"
  | .bool => .ty "bool"
  | .str => .ty "str"
  | .list => .ty "list"
  | .tuple => .ty "tuple"
  | .dict => .ty "dict"
  | .bex x => .ty x
def tyU (tb : Tb) (K : PySem.W.Frag) : Ty → Value
  | .own c => .ref (He.ga K (tb.cl c))
  | .int => .type "int"
  | .bool => .type "bool"
  | .str => .type "str"
  | .list => .type "list"
  | .tuple => .type "tuple"
  | .dict => .type "dict"
  | .bex x => .type x
/-- instances of the class at C are told by it -/
def InC (K : PySem.W.Frag) (C : Addr) : Prop := ∀ (H : Hp) (p dx : Addr) (us : List (Str × V)), H p = some (.ins C dx us) → TyOf K H (.ref p) (.ref C)
def KdOk (tb : Tb) (K : PySem.W.Frag) : Kd → Prop
  | .ins c => InC K (He.ga K (tb.cl c))
  | .exc c => L2.ExcC K (He.ga K (tb.cl c))
  | _ => True
def FdOk (tb : Tb) (K : PySem.W.Frag) (k : Kd) (f : Nat) : Prop := (∀ g, tb.fd g = tb.fd f → g = f) ∧ match k with
  | .ins c => Cls K (He.ga K (tb.cl c)) ∧ NoAttr K (He.ga K (tb.cl c)) (tb.fd f)
  | .exc c => XfC K (He.ga K (tb.cl c)) ∧ PySem.W.findIn K (.ref (He.ga K (tb.cl c))) (tb.fd f) = some none
  | _ => True
structure Wd (X : Cx) (ct : Ct) (G : Gm) (E : XK) : Prop where
  N : X.N = ct.N
  nd : ct.N.Nodup
  sc : X.env.scope = ct.sc
  calm : X.calm = true
  guards : X.A.guards = some []
  room : Room ct.k X.A
  bl : ∀ x, ct.bl.contains x = true → X.mg x = none
  co : ∀ n x d, ct.co n = some (x, d) → ∃ u v, X.mg x = some u ∧ RelV v u ∧ ∀ S, Rp ct.tb X.K S v d
  fn : ∀ f F nm ps kp, G.fn f = some F → ct.fn f = some (nm, ps, kp) → ∃ u, X.mg nm = some u ∧ ∀ q ∈ kp, Cl X.prog X.w X.K X.mg X.base ct.k ct.tb u F q.1 q.2 (q.2.filterMap fun i => ps[i]?)
  ty : ∀ t x, ct.tys.contains t = true → tyName ct t = some x → X.mg x = some (tyU ct.tb X.K t) ∨ (X.mg x = none ∧ bootBuiltins x = some (tyU ct.tb X.K t))
  isi : ∀ k t b, G.sub k t = some b → KdOk ct.tb X.K k ∧ PySem.W.kitOne X.K (kdV ct.tb X.K k) (tyU ct.tb X.K t) = some b
  fld : ∀ k f, G.fd k f = true → FdOk ct.tb X.K k f
  ps : Passes (L2.CX X.prog X.w) X E

/-! ### the readings -/
section
variable (G : Gm) (tb : Tb) (K : PySem.W.Frag) (E : XK)
def tV (e : U.E) : TE := fun σ H Q => ∃ env m o, ev G e env m = some o ∧ tG tb K E (RW tb K) env m o σ H Q
def tVs (e : U.E) : TA := fun σ H Q => ∃ env m o, evs G e env m = some o ∧ tG tb K E (RWs tb K) env m o σ H Q
def RO : Hp → List (Option Addr) → Option Int → Option Int → Prop := fun _ _ a b => a = b
def tVo (e : U.E) : TO := fun σ H Q => ∃ env m o, evo G e env m = some o ∧ tG tb K E RO env m o σ H Q
def tVt (e : U.E) : TT := fun σ H Q => ∃ env m o, bnd (ev G e env) (fun w => ask (truth w)) m = some o ∧ tG tb K E RB env m o σ H Q
end
theorem _root_.L2.PE.imp {X : Cx} {e : Expr} {t u : TE} (h : PE X e t) (i : ∀ σ H Q, u σ H Q → t σ H Q) : PE X e u := ⟨fun pins s σ H Q I q => h.run pins s σ H Q I (i σ H Q q)⟩
theorem _root_.L2.PA.imp {X : Cx} {e : List Expr} {t u : TA} (h : PA X e t) (i : ∀ σ H Q, u σ H Q → t σ H Q) : PA X e u := ⟨fun pos pins s σ H Q I q => h.run pos pins s σ H Q I (i σ H Q q)⟩
theorem _root_.L2.PK.imp {X : Cx} {e : List Keyword} {t u : TA} (h : PK X e t) (i : ∀ σ H Q, u σ H Q → t σ H Q) : PK X e u := ⟨fun pos pins s σ H Q I q => h.run pos pins s σ H Q I (i σ H Q q)⟩
theorem _root_.L2.PO.imp {X : Cx} {e : Option Expr} {t u : TO} (h : PO X e t) (i : ∀ σ H Q, u σ H Q → t σ H Q) : PO X e u := ⟨fun pins s σ H Q I q => h.run pins s σ H Q I (i σ H Q q)⟩
theorem _root_.L2.PT.imp {X : Cx} {e : Expr} {t u : TT} (h : PT X e t) (i : ∀ σ H Q, u σ H Q → t σ H Q) : PT X e u := ⟨fun pins s σ H Q I q => h.run pins s σ H Q I (i σ H Q q)⟩
theorem _root_.L2.PG.imp {X : Cx} {e : Expr} {t u : TG} (h : PG X e t) (i : ∀ v σ H Q, u v σ H Q → t v σ H Q) : PG X e u := ⟨fun pins s σ H x v Q I r q => h.run pins s σ H x v Q I r (i x σ H Q q)⟩
theorem _root_.L2.PI.imp {X : Cx} {g e : Expr} {t u : TI} (h : PI X g e t) (i : ∀ σ H R, u σ H R → t σ H R) : PI X g e u := ⟨fun pins s σ H R I q => h.run pins s σ H R I (i σ H R q)⟩
theorem _root_.L2.PI.or {X : Cx} {g e : Expr} {t u : TI} (h : PI X g e t) (k : PI X g e u) : PI X g e (fun σ H R => t σ H R ∨ u σ H R) := ⟨fun pins s σ H R I q => q.elim (h.run pins s σ H R I) (k.run pins s σ H R I)⟩
theorem _root_.L2.PG.or {X : Cx} {e : Expr} {t u : TG} (h : PG X e t) (k : PG X e u) : PG X e (fun v σ H Q => t v σ H Q ∨ u v σ H Q) := ⟨fun pins s σ H x v Q I r q => q.elim (h.run pins s σ H x v Q I r) (k.run pins s σ H x v Q I r)⟩

/-! ### texts -/
theorem star_cons {e : Expr} {es : List Expr} {env : Env} (h : nostar e = true) : starEach (e :: es) env = (false, eval e env) :: starEach es env := by
  cases e <;> first | rfl | cases h
theorem star_any {pos : Pos} {env : Env} : ∀ {es : List Expr}, (∀ e ∈ es, nostar e = true) → (backTo pos (starEach es env)).any (·.1) = false
  | [], _ => rfl
  | e :: es, h => by
    rw [star_cons (h e (List.mem_cons_self ..))]
    show (false || (backTo pos (starEach es env)).any (·.1)) = false
    rw [star_any fun x hx => h x (List.mem_cons_of_mem _ hx)]
    rfl
theorem star_all {pos : Pos} {env : Env} : ∀ {es : List Expr}, (∀ e ∈ es, nostar e = true) → (backTo pos (starEach es env)).all (fun x => !x.1) = true
  | [], _ => rfl
  | e :: es, h => by
    rw [star_cons (h e (List.mem_cons_self ..))]
    show (true && (backTo pos (starEach es env)).all (fun x => !x.1)) = true
    rw [star_all fun x hx => h x (List.mem_cons_of_mem _ hx)]
    rfl
theorem mts_star {a : U.E} : ∀ {ct : Ct} {es : List Expr}, mts a ct es = true → ∀ e ∈ es, nostar e = true := by
  induction a with
  | nil =>
    intro ct es h e he
    cases es with
    | nil => cases he
    | cons _ _ => exact Bool.noConfusion h
  | cons a r _ ih =>
    intro ct es h e he
    cases es with
    | nil => cases he
    | cons x es =>
      simp only [mts, Bool.and_eq_true] at h
      rcases List.mem_cons.mp he with z | z
      · rw [z]; exact h.1.1
      · exact ih h.2 e z
  | _ => intro ct es h; exact Bool.noConfusion h
theorem noSup_base {o : Expr} {f : Str} {env : Env} (h : noSup o = true) (w : Sem Value) : attributeBase o f env w = w := by
  unfold attributeBase
  split
  · cases h
  · rfl
theorem noSlice_plain {b : Expr} (h : noSlice b = true) : PlainIx b := fun o i => by
  cases b <;> first | rfl | cases h
theorem noSet_marks {b : Expr} (h : noSet b = true) (op : CmpOp) : behindInMarks op b = false := by
  cases b <;> first | rfl | cases h
theorem noSet_fold {b : Expr} (h : noSet b = true) (env : Env) (x : Value) : foldedSetIterable b env x = pure x := by
  cases b <;> first | rfl | cases h
theorem kw_some {pos : Pos} {env : Env} : ∀ {kws : List Keyword}, (∀ k ∈ kws, k.arg.isSome = true) → (backToKw pos (keywordEach kws env)).all (·.1.isSome) = true
  | [], _ => rfl
  | ⟨n, v, p⟩ :: r, h => by
    show (n.isSome && (backToKw pos (keywordEach r env)).all (·.1.isSome)) = true
    rw [kw_some fun x hx => h x (List.mem_cons_of_mem _ hx), h _ (List.mem_cons_self ..)]
    rfl
theorem kw_none {pos : Pos} {env : Env} : ∀ {kws : List Keyword}, (∀ k ∈ kws, k.arg.isSome = true) → (backToKw pos (keywordEach kws env)).any (·.1.isNone) = false
  | [], _ => rfl
  | ⟨n, v, p⟩ :: r, h => by
    show (n.isNone || (backToKw pos (keywordEach r env)).any (·.1.isNone)) = false
    rw [kw_none fun x hx => h x (List.mem_cons_of_mem _ hx)]
    have := h _ (List.mem_cons_self ..)
    cases n with
    | none => cases this
    | some _ => rfl
theorem kw_names {pos : Pos} {env : Env} : ∀ {kws : List Keyword}, (backToKw pos (keywordEach kws env)).filterMap (·.1) = kws.filterMap (·.arg)
  | [] => rfl
  | ⟨n, v, p⟩ :: r => by
    show List.filterMap (·.1) ((n, _) :: backToKw pos (keywordEach r env)) = _
    rw [List.filterMap_cons, List.filterMap_cons, kw_names (pos := pos) (kws := r)]
theorem mtk_some {a : U.E} : ∀ {ct : Ct} {es : List Keyword}, mtk a ct es = true → ∀ e ∈ es, e.arg.isSome = true := by
  induction a with
  | nil =>
    intro ct es h e he
    cases es with
    | nil => cases he
    | cons _ _ => exact Bool.noConfusion h
  | cons a r _ ih =>
    intro ct es h e he
    cases es with
    | nil => cases he
    | cons x es =>
      obtain ⟨n, x, p⟩ := x
      cases n with
      | none => exact Bool.noConfusion h
      | some n =>
        simp only [mtk, Bool.and_eq_true] at h
        rcases List.mem_cons.mp he with z | z
        · rw [z]; rfl
        · exact ih h.2 e z
  | _ => intro ct es h; exact Bool.noConfusion h
theorem gl_ok {X : Cx} {ct : Ct} {x : Str} (hs : X.env.scope = ct.sc) (h : gl ct.sc x = true) : Gl X x ∧ (x == ("__debug__" : Str)) = false ∧ x ≠ "__name__" := by
  unfold gl at h
  simp only [Bool.and_eq_true, decide_eq_true_eq, Bool.not_eq_true'] at h
  exact ⟨by unfold Gl Env.kindOf; rw [hs]; exact h.1.1, h.1.2, h.2⟩
theorem vis_ok {X : Cx} {ct : Ct} {x : Str} (hs : X.env.scope = ct.sc) (h : vis ct.sc x = true) : Vis X.env.scope x ∧ (x == ("__debug__" : Str)) = false ∧ (x == ("__classdict__" : Str)) = false := by
  unfold vis at h
  simp only [Bool.and_eq_true, Bool.or_eq_true, decide_eq_true_eq, Bool.not_eq_true'] at h
  refine ⟨?_, h.1.2, h.2⟩
  rw [hs]
  rcases h.1.1 with (q | q) | q
  · exact .inl q
  · exact .inr (.inl q)
  · exact .inr (.inr q)
theorem flatEq_eq {a b : D} (h : flatEq a b = true) : a = b := by
  unfold flatEq at h
  split at h
  · rfl
  · rw [eq_of_beq h]
  · rw [of_decide_eq_true h]
  · rw [of_decide_eq_true h]
  · cases h
end U
set_option Elab.async false
set_option linter.all false
set_option maxRecDepth 100000
set_option maxHeartbeats 4000000
set_option autoImplicit false
/-! U11: expressions without iteration, form by form. -/
namespace U
open Evl (Ex)
open PySem L2

def SE (G : Gm) (e : U.E) : Prop := ∀ (ct : Ct) (x : Expr) (X : Cx) (E : XK), mt e ct x = true → Wd X ct G E → PE X x (tV G ct.tb X.K E e)
def SA (G : Gm) (e : U.E) : Prop := ∀ (ct : Ct) (x : List Expr) (X : Cx) (E : XK), mts e ct x = true → Wd X ct G E → PA X x (tVs G ct.tb X.K E e)
def SK (G : Gm) (e : U.E) : Prop := ∀ (ct : Ct) (x : List Keyword) (X : Cx) (E : XK), mtk e ct x = true → Wd X ct G E → PK X x (tVs G ct.tb X.K E e)
def SO (G : Gm) (e : U.E) : Prop := ∀ (ct : Ct) (x : Option Expr) (X : Cx) (E : XK), mto e ct x = true → Wd X ct G E → PO X x (tVo G ct.tb X.K E e)
def ST (G : Gm) (e : U.E) : Prop := ∀ (ct : Ct) (x : Expr) (X : Cx) (E : XK), tstOk e = true → mt e ct x = true → Wd X ct G E → PT X x (tVt G ct.tb X.K E e) ∧ ∀ op es p, x = .BoolOp op es p → PW X x (tVt G ct.tb X.K E e)

section
variable {G : Gm}
/-- a value as a test -/
theorem tst_of {tb : Tb} {K : PySem.W.Frag} {E : XK} {e : U.E} {σ : St} {H : Hp} {Q : Bool → Hp → Prop} (h : tVt G tb K E e σ H Q) : tB (tV G tb K E e) σ H Q := by
  obtain ⟨env, m, o, h1, H0, S0, P, S, as, M, EN, p⟩ := h
  obtain ⟨o1, e1, t1⟩ := bnd_inv h1
  refine ⟨env, m, o1, e1, t1.go M EN p fun w m1 v S1 H1 as1 s1 M1 EN1 r hf p1 => ?_⟩
  obtain ⟨b, hb, rfl⟩ := ask_inv hf
  cases truth_inv hb
  exact ⟨b, WOk.bl r, p1 b S1 H1 as1 Stp.rfl' M1 rfl⟩
theorem st_val {X : Cx} {x : Expr} {tb : Tb} {E : XK} {e : U.E} (h : PE X x (tV G tb X.K E e)) (hw : ∀ whole, isTrue x X.env whole = (do let v ← whole; standAt x.pos; holding [v] (truthy v))) : PT X x (tVt G tb X.K E e) :=
  (pt_val h hw).imp fun _ _ _ => tst_of

theorem se_var (i : Nat) : SE G (.var i) := by
  intro ct x X E hm W
  cases x with
  | Name y p =>
    have hm' : (decide (ct.N[i]? = some y) && vis ct.sc y) = true := hm
    simp only [Bool.and_eq_true, decide_eq_true_eq] at hm'
    obtain ⟨hv, h2, h3⟩ := vis_ok W.sc hm'.2
    refine PE.imp (pe_var (by rw [W.N]; exact hm'.1) hv h2 h3) fun σ H Q h => ?_
    obtain ⟨env, m, o, h1, H0, S0, P, S, as, M, EN, p⟩ := h
    unfold ev at h1
    obtain ⟨w, hw, rfl⟩ := ask_inv h1
    cases hi : env[i]? with
    | none => rw [hi] at hw; cases hw
    | some ow =>
      cases ow with
      | none => rw [hi] at hw; cases hw
      | some w' =>
        rw [hi] at hw
        cases hw
        obtain ⟨v, q1, q2⟩ := EN.2 i _ hi
        exact ⟨v, q1, p.val M q2⟩
  | _ => exact Bool.noConfusion hm
theorem cst_pe {X : Cx} {d : D} {c : Const} {k : Nat} {pos : Pos} (h : cstD d c = true) : ∃ v, PE X (.Constant c k pos) (tC v) ∧ ∀ tb K S, Rp tb K S v d := by
  cases d <;> cases c <;> first
    | exact Bool.noConfusion h
    | exact ⟨.non, pe_non, fun _ _ _ => .non⟩
    | (have h' := eq_of_beq (show (_ == _) = true from h); subst h'; exact ⟨.bl _, pe_bl, fun _ _ _ => .bl _⟩)
    | (have h' := of_decide_eq_true h; subst h'; exact ⟨.int _, pe_int, fun _ _ _ => .int _⟩)
    | (have h' := of_decide_eq_true h; subst h'; exact ⟨.str _, pe_str, fun _ _ _ => .str _⟩)
theorem se_cst (d : D) : SE G (.cst d) := by
  intro ct x X E hm W
  cases x with
  | Constant c k p =>
    obtain ⟨v, hp, hr⟩ := cst_pe (X := X) (k := k) (pos := p) (show cstD d c = true from hm)
    refine PE.imp hp fun σ H Q h => ?_
    obtain ⟨env, m, o, h1, H0, S0, P, S, as, M, EN, p⟩ := h
    unfold ev at h1
    cases h1
    exact p.val M (hr _ _ _)
  | _ => exact Bool.noConfusion hm
theorem se_glo (n : Nat) (d : D) : SE G (.glo n d) := by
  intro ct x X E hm W
  cases x with
  | Name y p =>
    have hm' : (gl ct.sc y && (match ct.co n with
      | some (z, d') => decide (z = y) && flatEq d' d
      | none => false)) = true := hm
    obtain ⟨h1, h2⟩ := Bool.and_eq_true_iff.mp hm'
    cases hc : ct.co n with
    | none => rw [hc] at h2; cases h2
    | some q =>
      obtain ⟨z, d'⟩ := q
      rw [hc] at h2
      simp only [Bool.and_eq_true, decide_eq_true_eq] at h2
      obtain ⟨rfl, hd⟩ := h2
      have hd := flatEq_eq hd
      subst hd
      obtain ⟨u, v, hu, ru, hr⟩ := W.co n z d' hc
      obtain ⟨g1, g2, _⟩ := gl_ok W.sc h1
      refine PE.imp (pe_glob g1 hu ru g2) fun σ H Q h => ?_
      obtain ⟨env, m, o, h1, H0, S0, P, S, as, M, EN, p⟩ := h
      unfold ev at h1
      cases h1
      exact p.val M (hr _)
  | _ => exact Bool.noConfusion hm
/-! ### rows -/
theorem sa_nil : SA G .nil := by
  intro ct x X E hm W
  cases x with
  | nil =>
    refine PA.imp pa_nil fun σ H Q h => ?_
    obtain ⟨env, m, o, h1, H0, S0, P, S, as, M, EN, p⟩ := h
    unfold evs at h1
    cases h1
    exact p [] S H as Stp.rfl' M .nil
  | cons _ _ => exact Bool.noConfusion hm
theorem rows_cons {a r : U.E} {tb : Tb} {K : PySem.W.Frag} {E : XK} {σ : St} {H : Hp} {Q : List V → Hp → Prop} (h : tVs G tb K E (.cons a r) σ H Q) : tCons (tV G tb K E a) (tVs G tb K E r) σ H Q := by
  obtain ⟨env, m, o, h1, H0, S0, P, S, as, M, EN, p⟩ := h
  unfold evs at h1
  obtain ⟨o1, e1, t1⟩ := bnd_inv h1
  refine ⟨env, m, o1, e1, t1.go M EN p fun w m1 v S1 H1 as1 s1 M1 EN1 r1 hf p1 => ?_⟩
  obtain ⟨o2, e2, t2⟩ := bnd_inv hf
  refine ⟨env, m1, o2, e2, t2.go M1 EN1 p1 fun ws m2 vs S2 H2 as2 s2 M2 EN2 r2 hf2 p2 => ?_⟩
  cases hf2
  exact p2 (v :: vs) S2 H2 as2 Stp.rfl' M2 (.cons (WOk.mono s2.ex s2.pre r1) r2)
theorem sa_cons {a r : U.E} (ha : SE G a) (hr : SA G r) : SA G (.cons a r) := by
  intro ct x X E hm W
  cases x with
  | nil => exact Bool.noConfusion hm
  | cons e es =>
    have hm' : (nostar e && mt a ct e && mts r ct es) = true := hm
    simp only [Bool.and_eq_true] at hm'
    exact PA.imp (pa_cons (ha ct e X E hm'.1.2 W) (hr ct es X E hm'.2 W) (star_cons hm'.1.1)) fun _ _ _ => rows_cons
theorem sk_nil : SK G .nil := by
  intro ct x X E hm W
  cases x with
  | nil =>
    refine PK.imp pk_nil fun σ H Q h => ?_
    obtain ⟨env, m, o, h1, H0, S0, P, S, as, M, EN, p⟩ := h
    unfold evs at h1
    cases h1
    exact p [] S H as Stp.rfl' M .nil
  | cons _ _ => exact Bool.noConfusion hm
theorem sk_cons {a r : U.E} (ha : SE G a) (hr : SK G r) : SK G (.cons a r) := by
  intro ct x X E hm W
  cases x with
  | nil => exact Bool.noConfusion hm
  | cons k es =>
    obtain ⟨n, e, pos⟩ := k
    cases n with
    | none => exact Bool.noConfusion hm
    | some n =>
      have hm' : (mt a ct e && mtk r ct es) = true := hm
      simp only [Bool.and_eq_true] at hm'
      exact PK.imp (pk_cons (ha ct e X E hm'.1 W) (hr ct es X E hm'.2 W)) fun _ _ _ => rows_cons
theorem so_nil : SO G .nil := by
  intro ct x X E hm W
  cases x with
  | none =>
    refine PO.imp po_none fun σ H Q h => ?_
    obtain ⟨env, m, o, h1, H0, S0, P, S, as, M, EN, p⟩ := h
    unfold evo at h1
    cases h1
    exact p none S H as Stp.rfl' M rfl
  | some _ => exact Bool.noConfusion hm
theorem so_cons {a r : U.E} (ha : SE G a) : SO G (.cons a r) := by
  intro ct x X E hm W
  cases x with
  | none => cases r <;> exact Bool.noConfusion hm
  | some e =>
    have hm' : mt a ct e = true := by cases r <;> first | exact hm | exact Bool.noConfusion hm
    refine PO.imp (po_some (ha ct e X E hm' W)) fun σ H Q h => ?_
    obtain ⟨env, m, o, h1, H0, S0, P, S, as, M, EN, p⟩ := h
    unfold evo at h1
    obtain ⟨o1, e1, t1⟩ := bnd_inv h1
    refine ⟨env, m, o1, e1, t1.go M EN p fun w m1 v S1 H1 as1 s1 M1 EN1 r1 hf p1 => ?_⟩
    obtain ⟨oi, hi, rfl⟩ := ask_inv hf
    cases w with
    | c _ => cases hi
    | d x =>
      cases x with
      | int i =>
        cases hi
        exact ⟨i, WOk.int r1, p1 (some i) S1 H1 as1 Stp.rfl' M1 rfl⟩
      | _ => cases hi
/-! ### displays -/
theorem se_lst {a : U.E} (ha : SA G a) : SE G (.lst a) := by
  intro ct x X E hm W
  cases x with
  | List es p =>
    refine PE.imp (pe_lst (ha ct es X E hm W)) fun σ H Q h => ?_
    obtain ⟨env, m, o, h1, H0, S0, P, S, as, M, EN, p⟩ := h
    unfold ev at h1
    obtain ⟨o1, e1, t1⟩ := bnd_inv h1
    refine ⟨env, m, o1, e1, t1.go M EN p fun ws m1 vs S1 H1 as1 s1 M1 EN1 r1 hf p1 => ?_⟩
    split at hf
    · rename_i hl
      simp only [newL, newC, Option.some.injEq] at hf
      subst hf
      exact ⟨by rw [r1.length]; exact big_le hl, fun q hq => p1.newL M1 r1 hq⟩
    · cases hf
  | _ => exact Bool.noConfusion hm
theorem se_tup {a : U.E} (ha : SA G a) : SE G (.tup a) := by
  intro ct x X E hm W
  cases x with
  | Tuple es k p =>
    refine PE.imp (pe_tup (ha ct es X E hm W)) fun σ H Q h => ?_
    obtain ⟨env, m, o, h1, H0, S0, P, S, as, M, EN, p⟩ := h
    unfold ev at h1
    obtain ⟨o1, e1, t1⟩ := bnd_inv h1
    refine ⟨env, m, o1, e1, t1.go M EN p fun ws m1 vs S1 H1 as1 s1 M1 EN1 r1 hf p1 => ?_⟩
    split at hf
    · rename_i hl
      obtain ⟨o2, e2, t2⟩ := bnd_inv hf
      unfold frzs at e2
      cases e3 : fzs (fz FZ) ws m1 with
      | none => rw [e3] at e2; cases e2
      | some q =>
        obtain ⟨xs, m2⟩ := q
        rw [e3] at e2
        cases e2
        cases t2
        obtain ⟨S2, M2, s2, r2⟩ := fzs_ok (fz_ok FZ) ws m1 xs m2 vs S1 e3 M1 r1
        refine ⟨by rw [r1.length]; exact big_le hl, fun q hq => ?_⟩
        obtain ⟨M3, s3⟩ := M2.newS (o := .tup vs) hq
        exact p1 _ _ _ _ (s2.trans s3) M3 (Rp.tup upd_same (Rps.mono s3.ex r2))
    · cases hf
  | _ => exact Bool.noConfusion hm
end
end U
set_option Elab.async false
set_option linter.all false
set_option maxRecDepth 100000
set_option maxHeartbeats 4000000
set_option autoImplicit false
/-! U12: operators, comparisons, truth, subscripts, attributes. -/
namespace U
open Evl (Ex)
open PySem L2
section
variable {G : Gm}
theorem se_neg {a : U.E} (ha : SE G a) : SE G (.neg a) := by
  intro ct x X E hm W
  cases x with
  | UnaryOp op e p =>
    cases op with
    | USub =>
      refine PE.imp (pe_un un_neg (ha ct e X E hm W)) fun σ H Q h => ?_
      obtain ⟨env, m, o, h1, H0, S0, P, S, as, M, EN, p⟩ := h
      unfold ev at h1
      obtain ⟨o1, e1, t1⟩ := bnd_inv h1
      refine ⟨env, m, o1, e1, t1.go M EN p fun w m1 v S1 H1 as1 s1 M1 EN1 r1 hf p1 => ?_⟩
      obtain ⟨oi, hi, rfl⟩ := ask_inv hf
      cases w with
      | c _ => cases hi
      | d x =>
        cases x with
        | int i =>
          cases hi
          exact ⟨i, WOk.int r1, p1.val M1 (Rp.int _)⟩
        | _ => cases hi
    | _ => exact Bool.noConfusion hm
  | _ => exact Bool.noConfusion hm
theorem se_not {a : U.E} (ha : SE G a) : SE G (.not a) := by
  intro ct x X E hm W
  cases x with
  | UnaryOp op e p =>
    cases op with
    | Not =>
      refine PE.imp (pe_not (ha ct e X E hm W)) fun σ H Q h => ?_
      obtain ⟨env, m, o, h1, H0, S0, P, S, as, M, EN, p⟩ := h
      unfold ev at h1
      obtain ⟨o1, e1, t1⟩ := bnd_inv h1
      refine ⟨env, m, o1, e1, t1.go M EN p fun w m1 v S1 H1 as1 s1 M1 EN1 r1 hf p1 => ?_⟩
      obtain ⟨oi, hi, rfl⟩ := ask_inv hf
      cases ht : truth w with
      | none => rw [ht] at hi; cases hi
      | some b =>
        rw [ht] at hi
        cases hi
        cases truth_inv ht
        exact ⟨b, WOk.bl r1, p1.val M1 (Rp.bl _)⟩
    | _ => exact Bool.noConfusion hm
  | _ => exact Bool.noConfusion hm
theorem st_not {a : U.E} (ha : ST G a) : ST G (.not a) := by
  intro ct x X E ht hm W
  cases x with
  | UnaryOp op e p =>
    cases op with
    | Not =>
      refine ⟨PT.imp (pt_not (ha ct e X E ht hm W).1) fun σ H Q h => ?_, fun _ _ _ z => nomatch z⟩
      obtain ⟨env, m, o, h1, H0, S0, P, S, as, M, EN, p⟩ := h
      unfold ev at h1
      rw [bnd_assoc] at h1
      have h2 : bnd (bnd (ev G a env) fun w => ask (truth w)) (fun b => ret (!b)) m = some o := by
        rw [bnd_assoc, ← h1]
        congr 1
        funext w
        cases hw : truth w <;> rfl
      obtain ⟨o1, e1, t1⟩ := bnd_inv h2
      refine ⟨env, m, o1, e1, t1.go M EN p fun b m1 v S1 H1 as1 s1 M1 EN1 r1 hf p1 => ?_⟩
      cases hf
      have e : v = b := r1
      subst e
      exact p1 (!v) S1 H1 as1 Stp.rfl' M1 rfl
    | _ => exact Bool.noConfusion hm
  | _ => exact Bool.noConfusion hm
theorem se_bin {op : Operator} {a b : U.E} (ha : SE G a) (hb : SE G b) : SE G (.bin op a b) := by
  intro ct x X E hm W
  cases x with
  | BinOp l op' r p =>
    have hm' : (decide (op = op') && mt a ct l && mt b ct r) = true := hm
    simp only [Bool.and_eq_true, decide_eq_true_eq] at hm'
    obtain ⟨⟨rfl, m1⟩, m2⟩ := hm'
    refine PE.imp (pe_op (op_bin (tb := ct.tb) (E := E) op) (ha ct l X E m1 W) (hb ct r X E m2 W)) fun σ H Q h => ?_
    obtain ⟨env, m, o, h1, H0, S0, P, S, as, M, EN, p⟩ := h
    unfold ev at h1
    obtain ⟨o1, e1, t1⟩ := bnd_inv h1
    refine ⟨env, m, o1, e1, t1.go M EN p fun w m1 v S1 H1 as1 s1 M1 EN1 r1 hf p1 => ?_⟩
    obtain ⟨o2, e2, t2⟩ := bnd_inv hf
    refine ⟨env, m1, o2, e2, t2.go M1 EN1 p1 fun w2 m2 v2 S2 H2 as2 s2 M2 EN2 r2 hf2 p2 => ?_⟩
    exact ⟨H0, S0, P, m2, as2, S2, w, w2, o, M2, WOk.mono s2.ex s2.pre r1, r2, hf2, p2⟩
  | _ => exact Bool.noConfusion hm
theorem cmp_rd {tb : Tb} {K : PySem.W.Frag} {E : XK} {op : CmpOp} {a b : U.E} {σ : St} {H : Hp} {Q : VK} (h : tV G tb K E (.cmp op a b) σ H Q) : tOp (rS tb K E (fun x y => rd fun m => (cmpop op x y m).map wbl)) (tV G tb K E a) (tV G tb K E b) σ H Q := by
  obtain ⟨env, m, o, h1, H0, S0, P, S, as, M, EN, p⟩ := h
  unfold ev at h1
  obtain ⟨o1, e1, t1⟩ := bnd_inv h1
  refine ⟨env, m, o1, e1, t1.go M EN p fun w m1 v S1 H1 as1 s1 M1 EN1 r1 hf p1 => ?_⟩
  obtain ⟨o2, e2, t2⟩ := bnd_inv hf
  refine ⟨env, m1, o2, e2, t2.go M1 EN1 p1 fun w2 m2 v2 S2 H2 as2 s2 M2 EN2 r2 hf2 p2 => ?_⟩
  exact ⟨H0, S0, P, m2, as2, S2, w, w2, o, M2, WOk.mono s2.ex s2.pre r1, r2, hf2, p2⟩
theorem se_cmp {op : CmpOp} {a b : U.E} (ha : SE G a) (hb : SE G b) : SE G (.cmp op a b) ∧ ST G (.cmp op a b) := by
  have key : ∀ (ct : Ct) (x : Expr) (X : Cx) (E : XK), mt (.cmp op a b) ct x = true → Wd X ct G E → ∃ l r p, x = .Compare l [op] [r] p ∧ PE X l (tV G ct.tb X.K E a) ∧ PE X r (tV G ct.tb X.K E b) ∧ behindInMarks op r = false := by
    intro ct x X E hm W
    cases x with
    | Compare l ops rs p =>
      cases ops with
      | nil => exact Bool.noConfusion hm
      | cons op' ops =>
        cases ops with
        | cons _ _ => exact Bool.noConfusion hm
        | nil =>
          cases rs with
          | nil => exact Bool.noConfusion hm
          | cons r rs =>
            cases rs with
            | cons _ _ => exact Bool.noConfusion hm
            | nil =>
              have hm' : (decide (op = op') && mt a ct l && mt b ct r && noSet r) = true := hm
              simp only [Bool.and_eq_true, decide_eq_true_eq] at hm'
              obtain ⟨⟨⟨rfl, m1⟩, m2⟩, m3⟩ := hm'
              exact ⟨l, r, p, rfl, ha ct l X E m1 W, hb ct r X E m2 W, noSet_marks m3 _⟩
    | _ => exact Bool.noConfusion hm
  refine ⟨fun ct x X E hm W => ?_, fun ct x X E _ hm W => ?_⟩
  · obtain ⟨l, r, p, rfl, h1, h2, h3⟩ := key ct x X E hm W
    exact PE.imp (pe_cmpR (op_cmp (tb := ct.tb) (E := E) W.room.units op) h1 h2 h3) fun _ _ _ => cmp_rd
  · obtain ⟨l, r, p, rfl, h1, h2, h3⟩ := key ct x X E hm W
    exact ⟨PT.imp (pt_cmpR (op_cmp (tb := ct.tb) (E := E) W.room.units op) h1 h2 h3) fun σ H Q h => cmp_rd (tst_of h), fun _ _ _ z => nomatch z⟩
theorem chn_rd {tb : Tb} {K : PySem.W.Frag} {E : XK} {op op' : CmpOp} {a b c : U.E} {σ : St} {H : Hp} {Q : VK} (h : tV G tb K E (.chn op op' a b c) σ H Q) :
    tChain (rS tb K E (fun x y => rd fun m => (cmpop op x y m).map wbl)) (rS tb K E (fun x y => rd fun m => (cmpop op' x y m).map wbl)) (tV G tb K E a) (tV G tb K E b) (tV G tb K E c) σ H Q := by
  obtain ⟨env, m, o, h1, H0, S0, P, S, as, M, EN, p⟩ := h
  unfold ev at h1
  obtain ⟨o1, e1, t1⟩ := bnd_inv h1
  refine ⟨env, m, o1, e1, t1.go M EN p fun w m1 v S1 H1 as1 s1 M1 EN1 r1 hf p1 => ?_⟩
  obtain ⟨o2, e2, t2⟩ := bnd_inv hf
  refine ⟨env, m1, o2, e2, t2.go M1 EN1 p1 fun w2 m2 v2 S2 H2 as2 s2 M2 EN2 r2 hf2 p2 => ?_⟩
  obtain ⟨o3, e3, t3⟩ := bnd_inv hf2
  obtain ⟨k, hk, rfl⟩ := rd_inv e3
  refine ⟨H0, S0, P, m2, as2, S2, w, w2, .ok (wbl k) m2, M2, WOk.mono s2.ex s2.pre r1, r2, by unfold rd; simp only [hk] <;> rfl, fun z S3 H3 as3 s3 M3 r3 => ⟨k, WOk.bl r3, ?_⟩⟩
  have hf3 : (if k = true then bnd (ev G c env) fun z => rd fun m => (cmpop op' w2 z m).map wbl else ret (wbl false)) m2 = some o := t3
  cases k with
  | false =>
    rw [if_neg Bool.false_ne_true]
    rw [if_neg Bool.false_ne_true] at hf3
    cases hf3
    exact (p2.shift s3).val M3 (Rp.bl _)
  | true =>
    rw [if_pos rfl] at hf3 ⊢
    obtain ⟨o4, e4, t4⟩ := bnd_inv hf3
    refine ⟨env, m2, o4, e4, t4.go M3 (EN2.mono s3.ex s3.pre) (p2.shift s3) fun w4 m4 v4 S4 H4 as4 s4 M4 EN4 r4 hf4 p4 => ?_⟩
    exact ⟨H0, S0, P, m4, as4, S4, w2, w4, o, M4, WOk.mono (s3.trans s4).ex (s3.trans s4).pre r2, r4, hf4, p4⟩
theorem se_chn {op op' : CmpOp} {a b c : U.E} (ha : SE G a) (hb : SE G b) (hc : SE G c) : SE G (.chn op op' a b c) ∧ ST G (.chn op op' a b c) := by
  have key : ∀ (ct : Ct) (x : Expr) (X : Cx) (E : XK), mt (.chn op op' a b c) ct x = true → Wd X ct G E → ∃ l r z p, x = .Compare l [op, op'] [r, z] p ∧ PE X l (tV G ct.tb X.K E a) ∧ PE X r (tV G ct.tb X.K E b) ∧ PE X z (tV G ct.tb X.K E c) ∧ lastMarks [op, op'] [r, z] = false := by
    intro ct x X E hm W
    cases x with
    | Compare l ops rs p =>
      rcases ops with _ | ⟨o1, _ | ⟨o2, _ | ⟨o3, os⟩⟩⟩ <;> try exact Bool.noConfusion hm
      rcases rs with _ | ⟨r1, _ | ⟨r2, _ | ⟨r3, rs⟩⟩⟩ <;> try exact Bool.noConfusion hm
      have hm' : (decide (op = o1) && decide (op' = o2) && mt a ct l && mt b ct r1 && mt c ct r2 && noSet r2) = true := hm
      simp only [Bool.and_eq_true, decide_eq_true_eq] at hm'
      obtain ⟨⟨⟨⟨⟨rfl, rfl⟩, m1⟩, m2⟩, m3⟩, m4⟩ := hm'
      exact ⟨l, r1, r2, p, rfl, ha ct l X E m1 W, hb ct r1 X E m2 W, hc ct r2 X E m3 W, noSet_marks m4 _⟩
    | _ => exact Bool.noConfusion hm
  refine ⟨fun ct x X E hm W => ?_, fun ct x X E _ hm W => ?_⟩
  · obtain ⟨l, r, z, p, rfl, h1, h2, h3, h4⟩ := key ct x X E hm W
    exact PE.imp (pe_chain (op_cmp (tb := ct.tb) (E := E) W.room.units op) (op_cmp (tb := ct.tb) (E := E) W.room.units op') h1 h2 h3 h4) fun _ _ _ => chn_rd
  · obtain ⟨l, r, z, p, rfl, h1, h2, h3, h4⟩ := key ct x X E hm W
    exact ⟨PT.imp (pt_chain (op_cmp (tb := ct.tb) (E := E) W.room.units op) (op_cmp (tb := ct.tb) (E := E) W.room.units op') h1 h2 h3 h4) fun σ H Q h => chn_rd (tst_of h), fun _ _ _ z => nomatch z⟩
/-! ### and, or -/
theorem and_rd {tb : Tb} {K : PySem.W.Frag} {E : XK} {a b : U.E} {σ : St} {H : Hp} {Q : VK} (h : tV G tb K E (.and a b) σ H Q) : tAndV (tV G tb K E a) (tV G tb K E b) σ H Q := by
  obtain ⟨env, m, o, h1, H0, S0, P, S, as, M, EN, p⟩ := h
  unfold ev at h1
  obtain ⟨o1, e1, t1⟩ := bnd_inv h1
  refine ⟨env, m, o1, e1, t1.go M EN p fun w m1 v S1 H1 as1 s1 M1 EN1 r1 hf p1 => ?_⟩
  obtain ⟨o2, e2, t2⟩ := bnd_inv hf
  obtain ⟨k, hk, rfl⟩ := ask_inv e2
  cases truth_inv hk
  refine ⟨k, WOk.bl r1, ?_⟩
  have t2' : (if k = true then ev G b env else ret (wbl false)) m1 = some o := t2
  cases k with
  | false =>
    rw [if_neg Bool.false_ne_true] at t2' ⊢
    cases t2'
    exact p1.val M1 (Rp.bl _)
  | true =>
    rw [if_pos rfl] at t2' ⊢
    exact ⟨env, m1, o, t2', H0, S0, P, S1, as1, M1, EN1, p1⟩
theorem or_rd {tb : Tb} {K : PySem.W.Frag} {E : XK} {a b : U.E} {σ : St} {H : Hp} {Q : VK} (h : tV G tb K E (.or a b) σ H Q) : tOrV (tV G tb K E a) (tV G tb K E b) σ H Q := by
  obtain ⟨env, m, o, h1, H0, S0, P, S, as, M, EN, p⟩ := h
  unfold ev at h1
  obtain ⟨o1, e1, t1⟩ := bnd_inv h1
  refine ⟨env, m, o1, e1, t1.go M EN p fun w m1 v S1 H1 as1 s1 M1 EN1 r1 hf p1 => ?_⟩
  obtain ⟨o2, e2, t2⟩ := bnd_inv hf
  obtain ⟨k, hk, rfl⟩ := ask_inv e2
  cases truth_inv hk
  refine ⟨k, WOk.bl r1, ?_⟩
  have t2' : (if k = true then ret (wbl true) else ev G b env) m1 = some o := t2
  cases k with
  | true =>
    rw [if_pos rfl] at t2' ⊢
    cases t2'
    exact p1.val M1 (Rp.bl _)
  | false =>
    rw [if_neg Bool.false_ne_true] at t2' ⊢
    exact ⟨env, m1, o, t2', H0, S0, P, S1, as1, M1, EN1, p1⟩
theorem and_tt {tb : Tb} {K : PySem.W.Frag} {E : XK} {a b : U.E} {σ : St} {H : Hp} {Q : Bool → Hp → Prop} (h : tVt G tb K E (.and a b) σ H Q) : tAnd (tVt G tb K E a) (tVt G tb K E b) σ H Q := by
  obtain ⟨env, m, o, h1, H0, S0, P, S, as, M, EN, p⟩ := h
  unfold ev at h1
  have h2 : bnd (bnd (ev G a env) fun w => ask (truth w)) (fun c => if c = true then bnd (ev G b env) (fun w => ask (truth w)) else ret false) m = some o := by
    rw [bnd_assoc] at h1 ⊢
    rw [← h1]
    congr 1
    funext w
    rw [bnd_assoc]
    congr 1
    funext c
    cases c <;> rfl
  obtain ⟨o1, e1, t1⟩ := bnd_inv h2
  refine ⟨env, m, o1, e1, t1.go M EN p fun c m1 v S1 H1 as1 s1 M1 EN1 r1 hf p1 => ?_⟩
  have e : v = c := r1
  subst e
  cases v with
  | false =>
    rw [if_neg Bool.false_ne_true] at hf ⊢
    cases hf
    exact p1 false S1 H1 as1 Stp.rfl' M1 rfl
  | true =>
    rw [if_pos rfl] at hf ⊢
    exact ⟨env, m1, o, hf, H0, S0, P, S1, as1, M1, EN1, p1⟩
theorem or_tt {tb : Tb} {K : PySem.W.Frag} {E : XK} {a b : U.E} {σ : St} {H : Hp} {Q : Bool → Hp → Prop} (h : tVt G tb K E (.or a b) σ H Q) : tOr (tVt G tb K E a) (tVt G tb K E b) σ H Q := by
  obtain ⟨env, m, o, h1, H0, S0, P, S, as, M, EN, p⟩ := h
  unfold ev at h1
  have h2 : bnd (bnd (ev G a env) fun w => ask (truth w)) (fun c => if c = true then ret true else bnd (ev G b env) (fun w => ask (truth w))) m = some o := by
    rw [bnd_assoc] at h1 ⊢
    rw [← h1]
    congr 1
    funext w
    rw [bnd_assoc]
    congr 1
    funext c
    cases c <;> rfl
  obtain ⟨o1, e1, t1⟩ := bnd_inv h2
  refine ⟨env, m, o1, e1, t1.go M EN p fun c m1 v S1 H1 as1 s1 M1 EN1 r1 hf p1 => ?_⟩
  have e : v = c := r1
  subst e
  cases v with
  | true =>
    rw [if_pos rfl] at hf ⊢
    cases hf
    exact p1 true S1 H1 as1 Stp.rfl' M1 rfl
  | false =>
    rw [if_neg Bool.false_ne_true] at hf ⊢
    exact ⟨env, m1, o, hf, H0, S0, P, S1, as1, M1, EN1, p1⟩
theorem se_and {a b : U.E} (ha : SE G a) (hb : SE G b) : SE G (.and a b) := by
  intro ct x X E hm W
  cases x with
  | BoolOp op es p =>
    cases op with
    | Or => rcases es with _ | ⟨e1, _ | ⟨e2, _ | ⟨e3, es⟩⟩⟩ <;> exact Bool.noConfusion hm
    | And =>
      rcases es with _ | ⟨e1, _ | ⟨e2, _ | ⟨e3, es⟩⟩⟩ <;> try exact Bool.noConfusion hm
      · have hm' : (mt a ct e1 && mt b ct e2) = true := hm
        simp only [Bool.and_eq_true] at hm'
        exact PE.imp (pe_and (ha ct e1 X E hm'.1 W) (pe_one (hb ct e2 X E hm'.2 W))) fun _ _ _ => and_rd
      · have hm' : (mt a ct e1 && mt b ct (.BoolOp .And (e2 :: e3 :: es) p)) = true := hm
        simp only [Bool.and_eq_true] at hm'
        exact PE.imp (pe_and (ha ct e1 X E hm'.1 W) (hb ct _ X E hm'.2 W)) fun _ _ _ => and_rd
  | _ => exact Bool.noConfusion hm
theorem se_or {a b : U.E} (ha : SE G a) (hb : SE G b) : SE G (.or a b) := by
  intro ct x X E hm W
  cases x with
  | BoolOp op es p =>
    cases op with
    | And => rcases es with _ | ⟨e1, _ | ⟨e2, _ | ⟨e3, es⟩⟩⟩ <;> exact Bool.noConfusion hm
    | Or =>
      rcases es with _ | ⟨e1, _ | ⟨e2, _ | ⟨e3, es⟩⟩⟩ <;> try exact Bool.noConfusion hm
      · have hm' : (mt a ct e1 && mt b ct e2) = true := hm
        simp only [Bool.and_eq_true] at hm'
        exact PE.imp (pe_or (ha ct e1 X E hm'.1 W) (pe_one (hb ct e2 X E hm'.2 W))) fun _ _ _ => or_rd
      · have hm' : (mt a ct e1 && mt b ct (.BoolOp .Or (e2 :: e3 :: es) p)) = true := hm
        simp only [Bool.and_eq_true] at hm'
        exact PE.imp (pe_or (ha ct e1 X E hm'.1 W) (hb ct _ X E hm'.2 W)) fun _ _ _ => or_rd
  | _ => exact Bool.noConfusion hm
theorem _root_.L2.PW.imp {X : Cx} {e : Expr} {t u : TT} (h : PW X e t) (i : ∀ σ H Q, u σ H Q → t σ H Q) : PW X e u := ⟨fun w pins s σ H Q I q => h.run w pins s σ H Q I (i σ H Q q)⟩
theorem st_and {a b : U.E} (ha : ST G a) (hb : ST G b) : ST G (.and a b) := by
  intro ct x X E ht hm W
  obtain ⟨ta, tb'⟩ := Bool.and_eq_true_iff.mp (show (tstOk a && tstOk b) = true from ht)
  suffices h : PW X x (tVt G ct.tb X.K E (.and a b)) from ⟨h.pt, fun _ _ _ _ => h⟩
  cases x with
  | BoolOp op es p =>
    cases op with
    | Or => rcases es with _ | ⟨e1, _ | ⟨e2, _ | ⟨e3, es⟩⟩⟩ <;> exact Bool.noConfusion hm
    | And =>
      rcases es with _ | ⟨e1, _ | ⟨e2, _ | ⟨e3, es⟩⟩⟩ <;> try exact Bool.noConfusion hm
      · have hm' : (mt a ct e1 && mt b ct e2) = true := hm
        simp only [Bool.and_eq_true] at hm'
        exact PW.imp (pw_and (ha ct e1 X E ta hm'.1 W).1 (pw_and1 (hb ct e2 X E tb' hm'.2 W).1)) fun _ _ _ => and_tt
      · have hm' : (mt a ct e1 && mt b ct (.BoolOp .And (e2 :: e3 :: es) p)) = true := hm
        simp only [Bool.and_eq_true] at hm'
        exact PW.imp (pw_and (ha ct e1 X E ta hm'.1 W).1 ((hb ct _ X E tb' hm'.2 W).2 _ _ _ rfl)) fun _ _ _ => and_tt
  | _ => exact Bool.noConfusion hm
theorem st_or {a b : U.E} (ha : ST G a) (hb : ST G b) : ST G (.or a b) := by
  intro ct x X E ht hm W
  obtain ⟨ta, tb'⟩ := Bool.and_eq_true_iff.mp (show (tstOk a && tstOk b) = true from ht)
  suffices h : PW X x (tVt G ct.tb X.K E (.or a b)) from ⟨h.pt, fun _ _ _ _ => h⟩
  cases x with
  | BoolOp op es p =>
    cases op with
    | And => rcases es with _ | ⟨e1, _ | ⟨e2, _ | ⟨e3, es⟩⟩⟩ <;> exact Bool.noConfusion hm
    | Or =>
      rcases es with _ | ⟨e1, _ | ⟨e2, _ | ⟨e3, es⟩⟩⟩ <;> try exact Bool.noConfusion hm
      · have hm' : (mt a ct e1 && mt b ct e2) = true := hm
        simp only [Bool.and_eq_true] at hm'
        exact PW.imp (pw_or (ha ct e1 X E ta hm'.1 W).1 (pw_or1 (hb ct e2 X E tb' hm'.2 W).1)) fun _ _ _ => or_tt
      · have hm' : (mt a ct e1 && mt b ct (.BoolOp .Or (e2 :: e3 :: es) p)) = true := hm
        simp only [Bool.and_eq_true] at hm'
        exact PW.imp (pw_or (ha ct e1 X E ta hm'.1 W).1 ((hb ct _ X E tb' hm'.2 W).2 _ _ _ rfl)) fun _ _ _ => or_tt
  | _ => exact Bool.noConfusion hm
theorem se_ife {c a b : U.E} (hc : ST G c) (ha : SE G a) (hb : SE G b) : SE G (.ife c a b) := by
  intro ct x X E hm W
  cases x with
  | IfExp t y z p =>
    have hm' : (tstOk c && mt c ct t && mt a ct y && mt b ct z) = true := hm
    simp only [Bool.and_eq_true] at hm'
    obtain ⟨⟨⟨m0, m1⟩, m2⟩, m3⟩ := hm'
    refine PE.imp (pe_ifExp (hc ct t X E m0 m1 W).1 (ha ct y X E m2 W) (hb ct z X E m3 W)) fun σ H Q h => ?_
    obtain ⟨env, m, o, h1, H0, S0, P, S, as, M, EN, p⟩ := h
    unfold ev at h1
    have h2 : bnd (bnd (ev G c env) fun w => ask (truth w)) (fun k => if k = true then ev G a env else ev G b env) m = some o := by
      rw [bnd_assoc, ← h1]
    obtain ⟨o1, e1, t1⟩ := bnd_inv h2
    refine ⟨env, m, o1, e1, t1.go M EN p fun k m1 v S1 H1 as1 s1 M1 EN1 r1 hf p1 => ?_⟩
    have e : v = k := r1
    subst e
    cases v with
    | true =>
      rw [if_pos rfl] at hf ⊢
      exact ⟨env, m1, o, hf, H0, S0, P, S1, as1, M1, EN1, p1⟩
    | false =>
      rw [if_neg Bool.false_ne_true] at hf ⊢
      exact ⟨env, m1, o, hf, H0, S0, P, S1, as1, M1, EN1, p1⟩
  | _ => exact Bool.noConfusion hm
/-! ### subscripts and slices -/
theorem se_idx {a b : U.E} (ha : SE G a) (hb : SE G b) : SE G (.idx a b) := by
  intro ct x X E hm W
  cases x with
  | Subscript l r p =>
    have hm' : (mt a ct l && mt b ct r && noSlice r) = true := by
      cases r <;> exact hm
    simp only [Bool.and_eq_true] at hm'
    obtain ⟨⟨m1, m2⟩, m3⟩ := hm'
    refine PE.imp (pe_ix (ix_D (tb := ct.tb) (E := E) W.room.units) (ha ct l X E m1 W) (hb ct r X E m2 W) (noSlice_plain m3)) fun σ H Q h => ?_
    obtain ⟨env, m, o, h1, H0, S0, P, S, as, M, EN, p⟩ := h
    unfold ev at h1
    obtain ⟨o1, e1, t1⟩ := bnd_inv h1
    refine ⟨env, m, o1, e1, t1.go M EN p fun w m1 v S1 H1 as1 s1 M1 EN1 r1 hf p1 => ?_⟩
    obtain ⟨o2, e2, t2⟩ := bnd_inv hf
    refine ⟨env, m1, o2, e2, t2.go M1 EN1 p1 fun w2 m2 v2 S2 H2 as2 s2 M2 EN2 r2 hf2 p2 => ?_⟩
    exact ⟨H0, S0, P, m2, as2, S2, w, w2, o, M2, WOk.mono s2.ex s2.pre r1, r2, hf2, p2⟩
  | _ => exact Bool.noConfusion hm
theorem se_slc {a lo hi : U.E} (ha : SE G a) (hl : SO G lo) (hh : SO G hi) : SE G (.slc a lo hi) := by
  intro ct x X E hm W
  cases x with
  | Subscript l r p =>
    cases r with
    | Slice l1 h1 s1 p1 =>
      cases s1 with
      | some _ => exact Bool.noConfusion hm
      | none =>
        have hm' : (mt a ct l && mto lo ct l1 && mto hi ct h1) = true := hm
        simp only [Bool.and_eq_true] at hm'
        obtain ⟨⟨m1, m2⟩, m3⟩ := hm'
        refine PE.imp (pe_slice sl_list (ha ct l X E m1 W) (hl ct l1 X E m2 W) (hh ct h1 X E m3 W)) fun σ H Q h => ?_
        obtain ⟨env, m, o, h1, H0, S0, P, S, as, M, EN, p⟩ := h
        unfold ev at h1
        obtain ⟨o1, e1, t1⟩ := bnd_inv h1
        refine ⟨env, m, o1, e1, t1.go M EN p fun w m1 v S1 H1 as1 s1 M1 EN1 r1 hf p1 => ?_⟩
        obtain ⟨o2, e2, t2⟩ := bnd_inv hf
        refine ⟨env, m1, o2, e2, t2.go M1 EN1 p1 fun w2 m2 v2 S2 H2 as2 s2 M2 EN2 r2 hf2 p2 => ?_⟩
        obtain ⟨o3, e3, t3⟩ := bnd_inv hf2
        refine ⟨env, m2, o3, e3, t3.go M2 EN2 p2 fun w3 m3 v3 S3 H3 as3 s3 M3 EN3 r3 hf3 p3 => ?_⟩
        have ev2 : v2 = w2 := r2
        have ev3 : v3 = w3 := r3
        subst ev2 ev3
        unfold slcW at hf3
        cases hq : seqOf w m3 with
        | none => rw [hq] at hf3; cases hf3
        | some q =>
          obtain ⟨b, ws⟩ := q
          rw [hq] at hf3
          cases b with
          | false => cases hf3
          | true =>
            simp only [newL, newC, Option.some.injEq] at hf3
            subst hf3
            obtain ⟨q, vs, rfl, q1, q2⟩ := seq_ok M3 (WOk.mono (s2.trans s3).ex (s2.trans s3).pre r1) hq
            rw [if_pos rfl] at q1
            exact ⟨q, vs, rfl, .of q1, fun z hz => p3.newL M3 (wos_cut q2 _ _) hz⟩
    | _ => exact Bool.noConfusion hm
  | _ => exact Bool.noConfusion hm
end
end U
set_option Elab.async false
set_option linter.all false
set_option maxRecDepth 100000
set_option maxHeartbeats 4000000
set_option autoImplicit false
/-! U13: dict displays, attributes, calls. -/
namespace U
open Evl (Ex)
open PySem L2
section
variable {tb : Tb} {K : PySem.W.Frag} {S : Hp} {as : List (Option Addr)}
theorem getK_zip (k : Nat) : ∀ {ks : List Nat} {zs : List V} {ws : List W}, WOs tb K S as zs ws → (getK k (ks.zip zs) = none ∧ getK k (ks.zip ws) = none) ∨ ∃ v w, getK k (ks.zip zs) = some v ∧ getK k (ks.zip ws) = some w ∧ WOk tb K S as v w
  | [], _, _, _ => .inl ⟨rfl, rfl⟩
  | q :: ks, _, _, .nil => .inl ⟨rfl, rfl⟩
  | q :: ks, _, _, .cons h t => by
    simp only [List.zip_cons_cons, getK]
    by_cases e : q = k
    · rw [if_pos e, if_pos e]
      exact .inr ⟨_, _, rfl, rfl, h⟩
    · rw [if_neg e, if_neg e]
      exact getK_zip k t
theorem wos_fm {ks : List Nat} {zs : List V} {ws : List W} (h : WOs tb K S as zs ws) (n : Nat) : ∀ l : List Nat, WOs tb K S as (l.filterMap fun j => getK (n + j) (ks.zip zs)) (l.filterMap fun j => getK (n + j) (ks.zip ws))
  | [] => .nil
  | j :: l => by
    rw [List.filterMap_cons, List.filterMap_cons]
    rcases getK_zip (n + j) (ks := ks) h with ⟨e1, e2⟩ | ⟨v, w, e1, e2, r⟩
    · rw [e1, e2]
      exact wos_fm h n l
    · rw [e1, e2]
      exact .cons r (wos_fm h n l)
theorem wos_placed {ks : List Nat} {vs zs : List V} {us ws : List W} (h1 : WOs tb K S as vs us) (h2 : WOs tb K S as zs ws) : WOs tb K S as (placed vs ks zs) (placed us ks ws) := by
  unfold placed
  cases ks with
  | nil => exact h1
  | cons k ks =>
    have e : vs.length = us.length := h1.length
    refine h1.app ?_
    rw [e]
    exact wos_fm h2 us.length _
end
section
variable {G : Gm}
/-! ### built-in functions -/
theorem boot_bl (f : Bl) : bootBuiltins (blName f) = some (bltV f) := by cases f <;> decide +kernel
theorem blt_rd {tb : Tb} {K : PySem.W.Frag} {E : XK} {f : Bl} {a : U.E} {σ : St} {H : Hp} {Q : VK} (h : tV G tb K E (.blt f a) σ H Q) : tCB (cS tb K E (blt f)) (tVs G tb K E a) σ H Q := by
  obtain ⟨env, m, o, h1, H0, S0, P, S, as, M, EN, p⟩ := h
  unfold ev at h1
  obtain ⟨o1, e1, t1⟩ := bnd_inv h1
  refine ⟨env, m, o1, e1, t1.go M EN p fun ws m1 vs S1 H1 as1 s1 M1 EN1 r1 hf p1 => ?_⟩
  exact ⟨H0, S0, P, m1, as1, S1, ws, o, M1, r1, hf, p1⟩
theorem se_blt {f : Bl} {a : U.E} (ha : SA G a) : SE G (.blt f a) := by
  intro ct x X E hm W
  cases x with
  | Call fn es kws p =>
    cases fn with
    | Name y p' =>
      cases kws with
      | cons _ _ => exact Bool.noConfusion hm
      | nil =>
        have hm' : (decide (blName f = y) && gl ct.sc y && ct.bl.contains y && !es.isEmpty && mts a ct es) = true := hm
        simp only [Bool.and_eq_true, decide_eq_true_eq] at hm'
        obtain ⟨⟨⟨⟨rfl, m1⟩, m2⟩, m3⟩, m4⟩ := hm'
        obtain ⟨g1, g2, g3⟩ := gl_ok W.sc m1
        have hs := mts_star m4
        cases es with
        | nil => cases m3
        | cons e es =>
          have he := star_cons (es := es) (env := X.env) (hs e (List.mem_cons_self ..))
          have hp := star_any (pos := p) (env := X.env) fun z hz => hs z (List.mem_cons_of_mem _ hz)
          have hA := ha ct (e :: es) X E m4 W
          refine PE.imp ?_ fun _ _ _ => blt_rd
          have hc := call_blt (tb := ct.tb) (E := E) W.calm W.room.units W.guards f
          have hb := boot_bl f
          cases f <;> first
            | exact pe_callB hc g1 (W.bl _ m2) hb hA g3 g2 he hp
            | exact pe_callTy hc g1 (W.bl _ m2) hb hA g3 g2 he hp
    | _ => exact Bool.noConfusion hm
  | _ => exact Bool.noConfusion hm
/-! ### methods of lists -/
theorem lmt_rd {tb : Tb} {K : PySem.W.Frag} {E : XK} {f : LM} {b a : U.E} {σ : St} {H : Hp} {Q : VK} (h : tV G tb K E (.lmt f b a) σ H Q) : tBM K "list" (mS tb K E (lmt f)) (tV G tb K E b) (tVs G tb K E a) σ H Q := by
  obtain ⟨env, m, o, h1, H0, S0, P, S, as, M, EN, p⟩ := h
  unfold ev at h1
  obtain ⟨o1, e1, t1⟩ := bnd_inv h1
  refine ⟨env, m, o1, e1, t1.go M EN p fun w m1 v S1 H1 as1 s1 M1 EN1 r1 hf p1 => ?_⟩
  obtain ⟨o2, e2, t2⟩ := bnd_inv hf
  obtain ⟨u, hu, rfl⟩ := rd_inv e2
  have t2' : bnd (evs G a env) (fun ws => lmt f w ws) m1 = some o := t2
  have ty : L2.tyV K "list" v H1 := by
    unfold lstAt at hu
    cases w with
    | d _ => cases hu
    | c k =>
      obtain ⟨q, hq, rfl⟩ := r1
      cases hc : m1[k]? with
      | none => simp only [hc] at hu; cases hu
      | some c =>
        simp only [hc] at hu
        cases c with
        | lst us =>
          obtain ⟨_, vs, h2, _⟩ := M1.cell _ _ _ hc hq
          exact .inl ⟨rfl, vs, .of h2⟩
        | _ => cases hu
  refine ⟨ty, ?_⟩
  obtain ⟨o3, e3, t3⟩ := bnd_inv t2'
  refine ⟨env, m1, o3, e3, t3.go M1 EN1 p1 fun ws m2 vs S2 H2 as2 s2 M2 EN2 r2 hf2 p2 => ?_⟩
  exact ⟨H0, S0, P, m2, as2, S2, w, ws, o, M2, WOk.mono s2.ex s2.pre r1, r2, hf2, p2⟩
theorem lmt_nil {tb : Tb} {K : PySem.W.Frag} {E : XK} {f : LM} {b : U.E} {σ : St} {H : Hp} {Q : VK} (h : tV G tb K E (.lmt f b .nil) σ H Q) : tBM0 K "list" (mS tb K E (lmt f)) (tV G tb K E b) σ H Q := by
  obtain ⟨env, m, o, h1, H0, S0, P, S, as, M, EN, p⟩ := h
  unfold ev at h1
  obtain ⟨o1, e1, t1⟩ := bnd_inv h1
  refine ⟨env, m, o1, e1, t1.go M EN p fun w m1 v S1 H1 as1 s1 M1 EN1 r1 hf p1 => ?_⟩
  obtain ⟨o2, e2, t2⟩ := bnd_inv hf
  obtain ⟨u, hu, rfl⟩ := rd_inv e2
  have t2' : bnd (evs G .nil env) (fun ws => lmt f w ws) m1 = some o := t2
  have ty : L2.tyV K "list" v H1 := by
    unfold lstAt at hu
    cases w with
    | d _ => cases hu
    | c k =>
      obtain ⟨q, hq, rfl⟩ := r1
      cases hc : m1[k]? with
      | none => simp only [hc] at hu; cases hu
      | some c =>
        simp only [hc] at hu
        cases c with
        | lst us =>
          obtain ⟨_, vs, h2, _⟩ := M1.cell _ _ _ hc hq
          exact .inl ⟨rfl, vs, .of h2⟩
        | _ => cases hu
  refine ⟨ty, ?_⟩
  unfold evs at t2'
  exact ⟨H0, S0, P, m1, as1, S1, w, [], o, M1, r1, .nil, t2', p1⟩
theorem se_lmt {f : LM} {b a : U.E} (hb : SE G b) (ha : SA G a) : SE G (.lmt f b a) := by
  intro ct x X E hm W
  cases x with
  | Call fn es kws p =>
    cases fn with
    | Attribute y n ap =>
      cases kws with
      | cons _ _ => exact Bool.noConfusion hm
      | nil =>
        have hm' : (decide (lmName f = n) && lmOk f && mt b ct y && mts a ct es && (ap.endLine == p.line) && decide (es.length < 20) && noSup y) = true := hm
        simp only [Bool.and_eq_true, decide_eq_true_eq] at hm'
        obtain ⟨⟨⟨⟨⟨⟨rfl, m1⟩, m2⟩, m3⟩, m4⟩, m5⟩, m6⟩ := hm'
        have hs := mts_star m3
        have hbase := noSup_base (f := lmName f) (env := X.env) m6 (eval y X.env)
        have hB := hb ct y X E m2 W
        cases es with
        | nil =>
          cases a with
          | nil =>
            refine PE.imp ?_ fun _ _ _ => lmt_nil
            cases f <;> first
              | exact Bool.noConfusion m1
              | exact pe_bm0 PySem.F.plainAttrs_list PySem.F.slot_list_append PySem.F.type_list_append (mt_D (tb := ct.tb) (E := E) .append _ (.inl ⟨rfl, rfl⟩)) hB hbase m4
              | exact pe_bm0 PySem.F.plainAttrs_list PySem.F.slot_list_extend PySem.F.type_list_extend (mt_D (tb := ct.tb) (E := E) .extend _ (.inr (.inl ⟨rfl, rfl⟩))) hB hbase m4
              | exact pe_bm0 PySem.F.plainAttrs_list PySem.F.slot_list_pop PySem.F.type_list_pop (mt_D (tb := ct.tb) (E := E) .pop _ (.inr (.inr ⟨rfl, rfl⟩))) hB hbase m4
          | _ => exact Bool.noConfusion m3
        | cons e es =>
          have he := star_cons (es := es) (env := X.env) (hs e (List.mem_cons_self ..))
          have hp := star_any (pos := p) (env := X.env) fun z hz => hs z (List.mem_cons_of_mem _ hz)
          have hA := ha ct (e :: es) X E m3 W
          have hfew : ((backTo p (starEach (e :: es) X.env)).all (fun x => !x.1) && (backToKw p (keywordEach [] X.env)).all (fun x => x.1.isSome)
            && decide ((e :: es).length + ([] : List Keyword).length + (if ([] : List Keyword).isEmpty then 0 else 1) < 30)) = true := by
            rw [star_all hs]
            simp only [List.length_cons, List.length_nil] at m5 ⊢
            have : decide (es.length + 1 + 0 + (if ([] : List Keyword).isEmpty = true then 0 else 1) < 30) = true := decide_eq_true (by simp; omega)
            rw [this]
            rfl
          refine PE.imp ?_ fun _ _ _ => lmt_rd
          cases f <;> first
            | exact Bool.noConfusion m1
            | exact pe_bm PySem.F.plainAttrs_list PySem.F.slot_list_append PySem.F.type_list_append (mt_D (tb := ct.tb) (E := E) .append _ (.inl ⟨rfl, rfl⟩)) hB hA hbase hfew m4 he hp
            | exact pe_bm PySem.F.plainAttrs_list PySem.F.slot_list_extend PySem.F.type_list_extend (mt_D (tb := ct.tb) (E := E) .extend _ (.inr (.inl ⟨rfl, rfl⟩))) hB hA hbase hfew m4 he hp
            | exact pe_bm PySem.F.plainAttrs_list PySem.F.slot_list_pop PySem.F.type_list_pop (mt_D (tb := ct.tb) (E := E) .pop _ (.inr (.inr ⟨rfl, rfl⟩))) hB hA hbase hfew m4 he hp
    | _ => exact Bool.noConfusion hm
  | _ => exact Bool.noConfusion hm
/-! ### calls of the program's functions -/
def cnt : U.E → Nat
  | .cons _ r => cnt r + 1
  | _ => 0
theorem evs_len : ∀ (e : U.E) (env : En) (m m' : Mem) (ws : List W), evs G e env m = some (.ok ws m') → ws.length = cnt e := by
  intro e
  induction e with
  | nil => intro env m m' ws h; unfold evs at h; cases h; rfl
  | cons a r iha ihr =>
    intro env m m' ws h
    unfold evs at h
    obtain ⟨o1, e1, t1⟩ := bnd_inv h
    cases o1 with
    | exc c fs m1 => cases t1
    | ok w m1 =>
      obtain ⟨o2, e2, t2⟩ := bnd_inv (show bnd (evs G r env) (fun ws => ret (w :: ws)) m1 = _ from t1)
      cases o2 with
      | exc c fs m2 => cases t2
      | ok us m2 =>
        cases t2
        rw [List.length_cons, ihr env m1 _ us e2]
        rfl
  | _ => intro env m m' ws h; unfold evs at h; cases h
theorem mts_len {a : U.E} : ∀ {ct : Ct} {es : List Expr}, mts a ct es = true → es.length = cnt a := by
  induction a with
  | nil =>
    intro ct es h
    cases es with
    | nil => rfl
    | cons _ _ => exact Bool.noConfusion h
  | cons a r _ ih =>
    intro ct es h
    cases es with
    | nil => exact Bool.noConfusion h
    | cons x es =>
      simp only [mts, Bool.and_eq_true] at h
      rw [List.length_cons, ih h.2]
      rfl
  | _ => intro ct es h; exact Bool.noConfusion h
theorem mtk_len {a : U.E} : ∀ {ct : Ct} {es : List Keyword}, mtk a ct es = true → es.length = cnt a := by
  induction a with
  | nil =>
    intro ct es h
    cases es with
    | nil => rfl
    | cons _ _ => exact Bool.noConfusion h
  | cons a r _ ih =>
    intro ct es h
    cases es with
    | nil => exact Bool.noConfusion h
    | cons x es =>
      obtain ⟨n, x, p⟩ := x
      cases n with
      | none => exact Bool.noConfusion h
      | some n =>
        simp only [mtk, Bool.and_eq_true] at h
        rw [List.length_cons, ih h.2]
        rfl
  | _ => intro ct es h; exact Bool.noConfusion h
theorem vs_nil {tb : Tb} {K : PySem.W.Frag} {E : XK} {σ : St} {H : Hp} {Q : List V → Hp → Prop} (h : tVs G tb K E .nil σ H Q) : Q [] H := by
  obtain ⟨env, m, o, h1, H0, S0, P, S, as, M, EN, p⟩ := h
  unfold evs at h1
  cases h1
  exact p [] S H as Stp.rfl' M .nil
theorem call_rd {f : Nat} {as' kas : U.E} {ks : List Nat} {tb : Tb} {K : PySem.W.Frag} {E : XK} {σ : St} {H : Hp} {Q : VK} (h : tV G tb K E (.call f as' ks kas) σ H Q) :
    ∃ F, G.fn f = some F ∧ tVs G tb K E as' σ H fun vs H1 => tVs G tb K E kas σ H1 fun zs H2 => vs.length = cnt as' ∧ zs.length = cnt kas ∧ FSp tb K F (placed vs ks zs) H2 Q E := by
  obtain ⟨env, m, o, h1, H0, S0, P, S, as, M, EN, p⟩ := h
  unfold ev at h1
  cases hF : G.fn f with
  | none => rw [hF] at h1; cases h1
  | some F =>
    rw [hF] at h1
    refine ⟨F, rfl, ?_⟩
    obtain ⟨o1, e1, t1⟩ := bnd_inv h1
    refine ⟨env, m, o1, e1, ?_⟩
    have k1 : ∀ ws m1, o1 = .ok ws m1 → ws.length = cnt as' := fun ws m1 z => evs_len _ _ _ _ _ (z ▸ e1)
    cases o1 with
    | exc c fs m1 => cases t1; exact ⟨H0, S0, P, S, as, M, EN, p⟩
    | ok ws m1 =>
      refine ⟨H0, S0, P, S, as, M, EN, fun vs S1 H1 as1 s1 M1 r1 => ?_⟩
      obtain ⟨o2, e2, t2⟩ := bnd_inv (show bnd (evs G kas env) _ m1 = some o from t1)
      refine ⟨env, m1, o2, e2, ?_⟩
      cases o2 with
      | exc c fs m2 => cases t2; exact ⟨H0, S0, P, S1, as1, M1, EN.mono s1.ex s1.pre, p.shift s1⟩
      | ok us m2 =>
        refine ⟨H0, S0, P, S1, as1, M1, EN.mono s1.ex s1.pre, fun zs S2 H2 as2 s2 M2 r2 => ⟨?_, ?_, ?_⟩⟩
        · rw [r1.length]; exact k1 _ _ rfl
        · rw [r2.length]; exact evs_len _ _ _ _ _ e2
        · exact callF_ok M2 (wos_placed (WOs.mono s2.ex s2.pre r1) r2) t2 (p.shift (s1.trans s2))
theorem se_call {f : Nat} {as' kas : U.E} {ks : List Nat} (ha : SA G as') (hk : SK G kas) : SE G (.call f as' ks kas) := by
  intro ct x X E hm W
  cases x with
  | Call fn es kws p =>
    cases fn with
    | Name y p' =>
      have hm' : (gl ct.sc y && mts as' ct es && mtk kas ct kws && (match ct.fn f with
        | some (nm, ps, kp) => decide (nm = y) && kp.contains (es.length, ks) && decide (kws.map (·.arg) = ks.map fun i => ps[i]?)
        | none => false)) = true := hm
      simp only [Bool.and_eq_true] at hm'
      obtain ⟨⟨⟨m1, m2⟩, m3⟩, m4⟩ := hm'
      cases hfn : ct.fn f with
      | none => rw [hfn] at m4; cases m4
      | some q =>
        obtain ⟨nm, ps, kp⟩ := q
        rw [hfn] at m4
        simp only [Bool.and_eq_true, decide_eq_true_eq] at m4
        obtain ⟨⟨rfl, m5⟩, m6⟩ := m4
        have m5 : (es.length, ks) ∈ kp := by simpa using m5
        obtain ⟨g1, g2, g3⟩ := gl_ok W.sc m1
        have hA := ha ct es X E m2 W
        have hK := hk ct kws X E m3 W
        have hs := mts_star m2
        have hn := mtk_some m3
        have hnames : kws.filterMap (·.arg) = ks.filterMap fun i => ps[i]? := by
          have : (kws.map (·.arg)).filterMap id = (ks.map fun i => ps[i]?).filterMap id := by rw [m6]
          simpa [List.filterMap_map, Function.comp_def] using this
        have hkl : kws.length = ks.length := by
          have := congrArg List.length m6
          simpa using this
        refine ⟨fun pins s σ H Q I h => ?_⟩
        obtain ⟨F, hF, h⟩ := call_rd h
        obtain ⟨u, hu, h2⟩ := W.fn f F nm ps kp hF hfn
        have C := h2 _ m5
        refine wpAny_Call_Name_kw (ld_glob I g1 hu ?_ g2)
        have hall := kw_some (pos := p) (env := X.env) hn
        have hnone := kw_none (pos := p) (env := X.env) hn
        have fin : ∀ (us ws : List Value) (s2 : Shared) (vs zs : List V) (H2 : Hp), Inv X pins σ H2 s2 → Vals vs us → Vals zs ws → (vs.length = cnt as' ∧ zs.length = cnt kas ∧ FSp ct.tb X.K F (placed vs ks zs) H2 Q E) →
            wpAny (model X.prog X.w) X.A (call u us (((backToKw p (keywordEach kws X.env)).filterMap (·.1)).zip ws)) (EP X pins σ Q) X.xe s2 := fun us ws s2 vs zs H2 I2 rv rz q => by
          rw [kw_names, hnames]
          exact C.run X E rfl rfl rfl rfl rfl W.calm W.guards W.room W.ps pins s2 σ H2 us ws vs zs Q I2 rv rz (by rw [← rv.length, q.1, mts_len m2]) (by rw [← rz.length, q.2.1, ← hkl, mtk_len m3]) q.2.2
        cases es with
        | nil =>
          refine PySem.W.callWith_KW0 (h₀ := X.base) I.ok.mod.kin C.keep hall ?_ (by rw [hnone]; rfl)
          cases as' with
          | nil =>
            have h0 := vs_nil h
            exact thn (hK.run p pins s σ H _ I h0) fun ws s2 ⟨zs, H2, I2, rz, q2⟩ => ⟨I2.kIn, fin [] ws s2 [] zs H2 I2 .nil rz q2⟩
          | _ => exact Bool.noConfusion m2
        | cons e es =>
          have he := star_cons (es := es) (env := X.env) (hs e (List.mem_cons_self ..))
          refine PySem.W.callWith_KW (h₀ := X.base) I.ok.mod.kin C.keep hall (thn (hA.run p pins s σ H _ I h) fun us s1 ⟨vs, H1, I1, r1, q1⟩ => ?_) (by rw [hnone, star_any hs]; rfl) he
          exact thn (hK.run p pins s1 σ H1 _ I1 q1) fun ws s2 ⟨zs, H2, I2, rz, q2⟩ => ⟨I2.kIn, fin us ws s2 vs zs H2 I2 r1 rz q2⟩
    | _ => exact Bool.noConfusion hm
  | _ => exact Bool.noConfusion hm
/-! ### isinstance -/
theorem has_cls {K : PySem.W.Frag} {C : Addr} (h : PySem.W.hasDictIn K C = true) : (PySem.W.clsIn K C).isSome = true := by
  cases e : PySem.W.clsIn K C with
  | some _ => rfl
  | none => simp [PySem.W.hasDictIn, e] at h
/-- what isinstance asks of a value, by its kind -/
theorem kit_kd {X : Cx} {tb : Tb} {H0 S0 S H : Hp} {P : Option Addr} {m : Mem} {as : List (Option Addr)} {pins : List (Addr × Obj)} {σ : St} {s : Shared} {w : W} {v : V} {u : Value} {k : Kd} (M : MOk tb X.K H0 S0 P m as S H) (hw : WOk tb X.K S as v w)
    (hk : kindW w m = some k) (ok : KdOk tb X.K k) (I : Inv X pins σ H s) (rv : RelV v u) : ∃ Z : Heap → Prop, PySem.W.KitX X.K u (kdV tb X.K k) Z ∧ Z s.heap ∧ u ≠ .builtin "__main__.__loader__#opaque" := by
  have data : ∀ x : D, kindD x = some k → Rp tb X.K S v x → ∃ Z : Heap → Prop, PySem.W.KitX X.K u (kdV tb X.K k) Z ∧ Z s.heap ∧ u ≠ .builtin "__main__.__loader__#opaque" := by
    intro x hx r
    cases r with
    | non => cases hx; exact kit_of I rv (.base .non)
    | bl b => cases hx; exact kit_of I rv (.base (.bl b))
    | int i => cases hx; exact kit_of I rv (.base (.int i))
    | str z => cases hx; exact kit_of I rv (.base (.str z))
    | lst h1 h2 => cases hx; exact kit_of I rv (.base (.lst (M.sub _ _ h1)))
    | tup h1 h2 => cases hx; exact kit_of I rv (.base (.tup (M.sub _ _ h1)))
    | dic h1 h2 => cases hx; exact kit_of I rv (.base (.dK (M.sub _ _ h1)))
    | dct h1 h2 => cases hx; exact kit_of I rv (.base (.dT (M.sub _ _ h1)))
    | ins h1 h2 h3 =>
      cases hx
      exact kit_of I rv (.base ((show InC _ _ from ok) _ _ _ _ (M.sub _ _ h1)))
    | exc0 h1 =>
      cases hx
      have T : L2.ExcC _ _ := ok
      have hcl : (PySem.W.clsIn X.K _).isSome = true := has_cls T.hd
      cases rv
      obtain ⟨t1, e⟩ := exo_at I.hok (M.sub _ _ h1)
      refine ⟨_, PySem.W.kitx_exc (od := none) (ox := _) hcl T.hg T.hk T.hs T.ha T.hn T.ht T.hm, ⟨e, rfl, rfl, trivial⟩, fun z => nomatch z⟩
    | exc h1 h2 h3 =>
      cases hx
      have T : L2.ExcC _ _ := ok
      have hcl : (PySem.W.clsIn X.K _).isSome = true := has_cls T.hd
      cases rv
      obtain ⟨t1, e⟩ := exo_at I.hok (M.sub _ _ h1)
      obtain ⟨mA, hns, rel⟩ := exd_at I.hok (M.sub _ _ h2)
      obtain ⟨oD, _, _, hoD, _⟩ := hns
      refine ⟨_, PySem.W.kitx_exc (od := some oD) (ox := _) hcl T.hg T.hk T.hs T.ha T.hn T.ht T.hm, ⟨e, rfl, rfl, hoD⟩, fun z => nomatch z⟩
  cases w with
  | d x => exact data x hk hw
  | c n =>
    obtain ⟨a, ha, rfl⟩ := hw
    unfold kindW at hk
    cases hc : m[n]? with
    | none => simp only [hc] at hk; cases hk
    | some c =>
      simp only [hc] at hk
      have hcell := M.cell _ _ _ hc ha
      cases c with
      | lst us => obtain ⟨_, vs, h2, _⟩ := hcell; cases hk; exact kit_of I rv (.base (.lst h2))
      | pin us => obtain ⟨_, vs, h2, _⟩ := hcell; cases hk; exact kit_of I rv (.base (.lst h2))
      | dic us => obtain ⟨_, vs, h2, _⟩ := hcell; cases hk; exact kit_of I rv (.base (.dK h2))
      | dct us => obtain ⟨_, vs, h2, _⟩ := hcell; cases hk; exact kit_of I rv (.base (.dT h2))
      | ins c us =>
        obtain ⟨_, dx, vs, h2, _⟩ := hcell
        cases hk
        exact kit_of I rv (.base ((show InC _ _ from ok) _ _ _ _ h2))
      | frz x => exact data x hk hcell
      | gone => cases hk
def KitR (X : Cx) (v : V) (H : Hp) (t : Value) : Prop := ∀ (pins : List (Addr × Obj)) (σ : St) (s : Shared) (u : Value), Inv X pins σ H s → RelV v u → ∃ Z : Heap → Prop, PySem.W.KitX X.K u t Z ∧ Z s.heap ∧ u ≠ .builtin "__main__.__loader__#opaque"
def rK1 (X : Cx) : List V → Hp → VK → Prop := fun xs H Q => ∃ (x c : V) (t u : Value) (b : Bool), xs = [x, c] ∧ ClsV c u ∧ KitR X x H t ∧ PySem.W.kitOne X.K t u = some b ∧ Q (.bl b) H
def rKT (X : Cx) : List V → Hp → VK → Prop := fun xs H Q => ∃ (x : V) (tp : Addr) (cs : List V) (t : Value) (us : List Value) (b : Bool), xs = [x, .ref tp] ∧ H tp = some (.tup cs) ∧ Paired ClsV cs us ∧ KitR X x H t ∧ PySem.W.kitAny X.K t us = some b ∧ Q (.bl b) H
theorem call_k1 {X : Cx} : CallR X (.builtin "isinstance") (rK1 X) := by
  rintro pins s σ H _ us Q I rel ⟨v, cl, kind, cu, ans, rfl, hcl, hkit, told, done⟩
  match us, rel with
  | [a, b], .cons ra (.cons rb .nil) =>
    obtain rfl := hcl.eq rb
    obtain ⟨_, kx, here, ne⟩ := hkit pins σ s a I ra
    exact PySem.W.kia_one kx I.kIn here told ne (fun tk => ⟨V.bl ans, H, I.tok tk, rfl, done⟩)
theorem call_kT {X : Cx} : CallR X (.builtin "isinstance") (rKT X) := by
  rintro pins s σ H _ us Q I rel ⟨v, tp, cs, kind, cus, ans, rfl, htp, hcs, hkit, told, done⟩
  match us, rel with
  | [a, b], .cons ra (.cons rb .nil) =>
    obtain rfl : b = Value.ref tp := rb
    obtain ⟨_, kx, here, ne⟩ := hkit pins σ s a I ra
    have tup : ObjOk X.prog X.w H s.heap tp (.tup cs) := I.hok tp _ htp
    obtain ⟨-, items, ritems, ⟨ocls, odict, odata, oslots⟩, get, isT, size, data⟩ := tup
    obtain rfl := ClsV.all hcs ritems
    dsimp only at isT data
    subst isT
    subst data
    exact PySem.W.kia_tup kx I.kIn here get told ne (fun tk => ⟨V.bl ans, H, I.tok tk, rfl, done⟩)
theorem tyV_cls (tb : Tb) (K : PySem.W.Frag) (t : Ty) : ClsV (tyV tb K t) (tyU tb K t) ∧ RelV (tyV tb K t) (tyU tb K t) := by
  cases t <;> first | exact ⟨.own _, rfl⟩ | exact ⟨.ty _, rfl⟩
theorem ty_pe {X : Cx} {ct : Ct} {E : XK} {t : Ty} {x : Expr} (W : Wd X ct G E) (h : mtTy ct t x = true) : ∃ y p, x = .Name y p ∧ PE X x (tC (tyV ct.tb X.K t)) := by
  cases x with
  | Name y p =>
    have h' : (decide (tyName ct t = some y) && gl ct.sc y && ct.tys.contains t) = true := h
    simp only [Bool.and_eq_true, decide_eq_true_eq] at h'
    obtain ⟨⟨h1, h2⟩, h3⟩ := h'
    obtain ⟨g1, g2, g3⟩ := gl_ok W.sc h2
    refine ⟨y, p, rfl, ?_⟩
    rcases W.ty t y h3 h1 with q | ⟨q1, q2⟩
    · exact pe_glob g1 q (tyV_cls _ _ t).2 g2
    · exact pe_bltn g1 q1 q2 (tyV_cls _ _ t).2 g3 g2
  | _ => exact Bool.noConfusion h
def tTys (tb : Tb) (K : PySem.W.Frag) (ts : List Ty) : TA := fun _ H Q => Q (ts.map (tyV tb K)) H
theorem tys_pa {X : Cx} {ct : Ct} {E : XK} (W : Wd X ct G E) : ∀ {ts : List Ty} {es : List Expr}, mtTys ct ts es = true → PA X es (tTys ct.tb X.K ts)
  | [], [], _ => pa_nil.imp fun _ _ _ h => h
  | [], _ :: _, h => Bool.noConfusion h
  | _ :: _, [], h => Bool.noConfusion h
  | t :: ts, e :: es, h => by
    have h' : (mtTy ct t e && mtTys ct ts es) = true := h
    simp only [Bool.and_eq_true] at h'
    obtain ⟨y, p, rfl, hp⟩ := ty_pe W h'.1
    exact (pa_cons hp (tys_pa W h'.2) rfl).imp fun _ _ _ h => h
theorem any_kit {X : Cx} {ct : Ct} {E : XK} {k : Kd} (W : Wd X ct G E) : ∀ {ts : List Ty} {b : Bool}, anyTy G.sub k ts = some b → (ts ≠ [] → KdOk ct.tb X.K k) ∧ PySem.W.kitAny X.K (kdV ct.tb X.K k) (ts.map (tyU ct.tb X.K)) = some b
  | [], b, h => by cases h; exact ⟨fun z => absurd rfl z, kitAny_nil⟩
  | t :: ts, b, h => by
    unfold anyTy at h
    cases hs : G.sub k t with
    | none => rw [hs] at h; cases h
    | some c =>
      obtain ⟨h1, h2⟩ := W.isi k t c hs
      rw [hs] at h
      refine ⟨fun _ => h1, ?_⟩
      cases c with
      | true => cases h; exact kitAny_cons h2 (fun z => by cases z) fun _ => rfl
      | false => exact kitAny_cons h2 (fun _ => (any_kit W h).2) fun z => by cases z
theorem paired_cls (tb : Tb) (K : PySem.W.Frag) : ∀ ts : List Ty, Paired ClsV (ts.map (tyV tb K)) (ts.map (tyU tb K))
  | [] => .nil
  | t :: ts => .cons (tyV_cls tb K t).1 (paired_cls tb K ts)
theorem se_isi {a : U.E} {ts : List Ty} (ha : SE G a) : SE G (.isi a ts) := by
  intro ct x X E hm W
  cases x with
  | Call fn es kws p =>
    cases fn with
    | Name y p' =>
      cases kws with
      | cons _ _ =>
        rcases es with _ | ⟨e1, _ | ⟨e2, _ | ⟨e3, es⟩⟩⟩ <;> rcases ts with _ | ⟨t, _ | ⟨t', ts⟩⟩ <;> first
          | exact Bool.noConfusion hm
          | (cases e2 <;> exact Bool.noConfusion hm)
      | nil =>
        rcases es with _ | ⟨e1, _ | ⟨e2, _ | ⟨e3, es⟩⟩⟩
        · rcases ts with _ | ⟨t, _ | ⟨t', ts⟩⟩ <;> exact Bool.noConfusion hm
        · rcases ts with _ | ⟨t, _ | ⟨t', ts⟩⟩ <;> exact Bool.noConfusion hm
        rotate_left
        · rcases ts with _ | ⟨t, _ | ⟨t', ts⟩⟩
          · exact Bool.noConfusion hm
          · exact Bool.noConfusion hm
          · cases e2 <;> exact Bool.noConfusion hm
        rcases ts with _ | ⟨t, _ | ⟨t', ts⟩⟩
        · exact Bool.noConfusion hm
        · have hm' : (decide (y = "isinstance") && gl ct.sc y && ct.bl.contains y && mt a ct e1 && nostar e1 && mtTy ct t e2) = true := hm
          simp only [Bool.and_eq_true, decide_eq_true_eq] at hm'
          obtain ⟨⟨⟨⟨⟨rfl, m1⟩, m2⟩, m3⟩, m4⟩, m5⟩ := hm'
          obtain ⟨g1, g2, g3⟩ := gl_ok W.sc m1
          obtain ⟨z, q, rfl, hp⟩ := ty_pe W m5
          refine PE.imp (pe_callB (call_k1 (X := X)) g1 (W.bl _ m2) PyProof.Rows.boot_isinstance (pa_cons (ha ct e1 X E m3 W) (pa_cons hp pa_nil rfl) (star_cons m4)) g3 g2 (star_cons m4) rfl) fun σ H Q h => ?_
          obtain ⟨env, m, o, h1, H0, S0, P, S, as, M, EN, p⟩ := h
          unfold ev at h1
          rw [if_pos (show small [t].length = true from rfl)] at h1
          obtain ⟨o1, e1, t1⟩ := bnd_inv h1
          refine ⟨env, m, o1, e1, t1.go M EN p fun w m1 v S1 H1 as1 s1 M1 EN1 r1 hf p1 => ?_⟩
          obtain ⟨w', hw', rfl⟩ := rd_inv hf
          cases hk : kindW w m1 with
          | none => rw [hk] at hw'; cases hw'
          | some k =>
            rw [hk] at hw'
            cases hb : anyTy G.sub k [t] with
            | none => simp only [hb] at hw'; cases hw'
            | some b =>
              simp only [hb] at hw'
              cases hw'
              have hsub : G.sub k t = some b := by
                unfold anyTy at hb
                cases hs : G.sub k t with
                | none => rw [hs] at hb; cases hb
                | some c =>
                  rw [hs] at hb
                  cases c <;> cases hb <;> rfl
              obtain ⟨i1, i2⟩ := W.isi k t b hsub
              exact ⟨v, _, _, _, b, rfl, (tyV_cls _ _ t).1, fun pins σ s u I rv => kit_kd M1 r1 hk i1 I rv, i2, p1.val M1 (Rp.bl _)⟩
        · cases e2 with
          | Tuple es k2 p2 =>
            have hm' : (decide (y = "isinstance") && gl ct.sc y && ct.bl.contains y && mt a ct e1 && nostar e1 && mtTys ct (t :: t' :: ts) es) = true := hm
            simp only [Bool.and_eq_true, decide_eq_true_eq] at hm'
            obtain ⟨⟨⟨⟨⟨rfl, m1⟩, m2⟩, m3⟩, m4⟩, m5⟩ := hm'
            obtain ⟨g1, g2, g3⟩ := gl_ok W.sc m1
            have hp := pe_tup (x1 := k2) (pos := p2) (tys_pa W m5)
            refine PE.imp (pe_callB (call_kT (X := X)) g1 (W.bl _ m2) PyProof.Rows.boot_isinstance (pa_cons (ha ct e1 X E m3 W) (pa_cons hp pa_nil rfl) (star_cons m4)) g3 g2 (star_cons m4) rfl) fun σ H Q h => ?_
            obtain ⟨env, m, o, h1, H0, S0, P, S, as, M, EN, p⟩ := h
            unfold ev at h1
            split at h1
            · rename_i hl
              obtain ⟨o1, e1, t1⟩ := bnd_inv h1
              refine ⟨env, m, o1, e1, t1.go M EN p fun w m1 v S1 H1 as1 s1 M1 EN1 r1 hf p1 => ?_⟩
              obtain ⟨w', hw', rfl⟩ := rd_inv hf
              cases hk : kindW w m1 with
              | none => rw [hk] at hw'; cases hw'
              | some k =>
                rw [hk] at hw'
                cases hb : anyTy G.sub k (t :: t' :: ts) with
                | none => simp only [hb] at hw'; cases hw'
                | some b =>
                  simp only [hb] at hw'
                  cases hw'
                  obtain ⟨i1, i2⟩ := any_kit W hb
                  refine ⟨by rw [List.length_map]; exact big_le hl, fun q hq => ?_⟩
                  obtain ⟨M2, s2⟩ := M1.newS (o := .tup ((t :: t' :: ts).map (tyV ct.tb X.K))) hq
                  exact ⟨v, q, _, _, _, b, rfl, upd_same, paired_cls _ _ _, fun pins σ s u I rv => kit_kd M2 (WOk.mono s2.ex s2.pre r1) hk (i1 (by simp)) I rv, i2, (p1.shift s2).val M2 (Rp.bl _)⟩
            · cases h1
          | _ => exact Bool.noConfusion hm
    | _ => rcases ts with _ | ⟨t, _ | ⟨t', ts⟩⟩ <;> exact Bool.noConfusion hm
  | _ => rcases ts with _ | ⟨t, _ | ⟨t', ts⟩⟩ <;> exact Bool.noConfusion hm
end
end U
set_option Elab.async false
set_option linter.all false
set_option maxRecDepth 100000
set_option maxHeartbeats 4000000
set_option autoImplicit false
/-! U14: attributes, dict displays. -/
namespace U
open Evl (Ex)
open PySem L2
section
variable {tb : Tb} {K : PySem.W.Frag} {S : Hp} {as : List (Option Addr)}
theorem kos_lookup {f : Nat} (hi : ∀ g, tb.fd g = tb.fd f → g = f) : ∀ {us : List (Str × V)} {fs : List (Nat × W)} {w : W}, KOs tb K S as us (fldW' tb fs) → getK f fs = some w → ∃ v, us.lookup (tb.fd f) = some v ∧ WOk tb K S as v w
  | _, [], _, _, h => by cases h
  | us, (g, x) :: fs, w, r, h => by
    cases us with
    | nil => cases r
    | cons u us =>
      obtain ⟨n, v⟩ := u
      cases r with
      | cons hd tl =>
        obtain ⟨h1, h2⟩ := hd
        have h1 : n = tb.fd g := h1
        subst h1
        unfold getK at h
        by_cases e : g = f
        · rw [if_pos e] at h
          cases h
          refine ⟨v, ?_, h2⟩
          rw [e]
          simp [List.lookup]
        · rw [if_neg e] at h
          obtain ⟨v', q1, q2⟩ := kos_lookup hi tl h
          refine ⟨v', ?_, q2⟩
          have ne : (tb.fd f == tb.fd g) = false := by
            rw [beq_eq_false_iff_ne]
            exact fun z => e (hi g z.symm)
          simp only [List.lookup, ne]
          exact q1
theorem rkv_lookup {f : Nat} (hi : ∀ g, tb.fd g = tb.fd f → g = f) {us : List (Str × V)} {ds : List (Nat × D)} {d : D} (r : Rkv tb K S Str us (fldS tb ds)) (h : getK f ds = some d) : ∃ v, us.lookup (tb.fd f) = some v ∧ Rp tb K S v d := by
  have r' : KOs tb K S [] us (fldW' tb (ds.map fun p => (p.1, W.d p.2))) := by
    have := rkv_kos (as := []) r
    simpa [fldS, fldW', List.map_map, Function.comp_def] using this
  have h' : getK f (ds.map fun p => (p.1, W.d p.2)) = some (.d d) := by
    clear r r'
    induction ds with
    | nil => cases h
    | cons p ds ih =>
      obtain ⟨g, x⟩ := p
      unfold getK at h
      simp only [List.map_cons, getK]
      by_cases e : g = f
      · rw [if_pos e] at h ⊢; cases h; rfl
      · rw [if_neg e] at h ⊢; exact ih h
  exact kos_lookup hi r' h'
end
/-- an attribute of an instance, or of an exception -/
def rFld (K : PySem.W.Frag) (f : Str) : V → Hp → VK → Prop := fun x H Q => ∃ a C dx fs v, x = .ref a ∧ fs.lookup f = some v ∧ Q v H ∧
  ((H a = some (.ins C dx fs) ∧ Cls K C ∧ NoAttr K C f) ∨ (H a = some (exo a C (some dx)) ∧ H dx = some (exd dx fs) ∧ XfC K C ∧ PySem.W.findIn K (.ref C) f = some none))
/-- an exception's attribute is read -/
theorem xattr {X : Cx} {pins : List (Addr × Obj)} {σ : St} {H : Hp} {s : Shared} {a C dx : Addr} {fs : List (Str × V)} {f : Str} {v : V} {Q : VK} {b : Bool} (I : Inv X pins σ H s) (ea : H a = some (exo a C (some dx))) (ed : H dx = some (exd dx fs)) (T : XfC X.K C) (hno : PySem.W.findIn X.K (.ref C) f = some none)
    (l : fs.lookup f = some v) (q : Q v H) : wpAny (model X.prog X.w) X.A (getAttr (.ref a) f b) (EP X pins σ Q) X.xe s := by
  obtain ⟨_, obj⟩ := exo_at I.hok ea
  obtain ⟨m, ns, rel⟩ := exd_at I.hok ed
  obtain ⟨od, hod, look⟩ := lookIn_ns ns
  have := rel f
  rw [l] at this
  obtain ⟨u, hu, ru⟩ := RelO.some_of this
  exact HandSPX.exc_get (od := some od) I.kIn ⟨obj, rfl, rfl, hod⟩ T.ga T.gg T.exC (PySem.W.findObj_own T.hdC hno rfl ((look f).trans (congrArg some hu))) (handed_of ru) ⟨_, H, I.tok _, ru, q⟩
theorem pe_fldR {X : Cx} {e : Expr} {f : Str} {pos : Pos} {te : TE} (he : PE X e te) (hb : attributeBase e f X.env (eval e X.env) = eval e X.env) : PE X (.Attribute e f pos) (tUn (rFld X.K f) te) := by
  constructor
  intro pins s σ H Q I h
  refine attr_of hb (thn (he.run pins s σ H _ I h) ?_)
  rintro _ s1 ⟨_, H1, I1, rx, a, C, dx, fs, v, rfl, l, q, c⟩
  cases rx
  rcases c with ⟨ea, c, n⟩ | ⟨ea, ed, T, hno⟩
  · exact getattr_ok I1 ea c n l fun _ _ I2 ru => ⟨v, H1, I2, ru, q⟩
  · exact xattr I1 ea ed T hno l q
section
variable {G : Gm}
theorem fld_ok {tb : Tb} {K : PySem.W.Frag} {H0 S0 S H : Hp} {P : Option Addr} {m : Mem} {as : List (Option Addr)} {w w' : W} {v : V} {k : Kd} {f : Nat} {Q : VK} {E : XK} (M : MOk tb K H0 S0 P m as S H) (hw : WOk tb K S as v w) (hk : kindW w m = some k) (ok : FdOk tb K k f) (h : fldW w f m = some w')
    (p : Post tb K E (RW tb K) H0 S0 P m as S H Q (.ok w' m)) : rFld K (tb.fd f) v H Q := by
  obtain ⟨hi, hc⟩ := ok
  have data : ∀ x : D, kindD x = some k → Rp tb K S v x → (match x with
      | .ins _ fs => (getK f fs).map W.d
      | .exc _ fs => (getK f fs).map W.d
      | _ => none) = some w' → rFld K (tb.fd f) v H Q := by
    intro x hx r hf
    cases r with
    | @ins a dx c fs ds h1 h2 h3 =>
      cases hx
      cases hg : getK f ds with
      | none => simp only [hg] at hf; cases hf
      | some d =>
        simp only [hg] at hf
        cases hf
        obtain ⟨v', q1, q2⟩ := rkv_lookup hi h3 hg
        exact ⟨_, _, _, _, v', rfl, q1, p.val M q2, .inl ⟨M.sub _ _ h1, hc.1, hc.2⟩⟩
    | exc0 h1 => cases hx; simp only [getK] at hf; cases hf
    | @exc a dx c fs ds h1 h2 h3 =>
      cases hx
      cases hg : getK f ds with
      | none => simp only [hg] at hf; cases hf
      | some d =>
        simp only [hg] at hf
        cases hf
        obtain ⟨v', q1, q2⟩ := rkv_lookup hi h3 hg
        exact ⟨_, _, _, _, v', rfl, q1, p.val M q2, .inr ⟨M.sub _ _ h1, M.sub _ _ h2, hc.1, hc.2⟩⟩
    | _ => cases hf
  cases w with
  | d x =>
    refine data x hk hw ?_
    cases x <;> exact h
  | c n =>
    obtain ⟨a, ha, rfl⟩ := hw
    unfold kindW at hk
    unfold fldW at h
    cases hcl : m[n]? with
    | none => simp only [hcl] at hk; cases hk
    | some c =>
      simp only [hcl] at hk h
      have hcell := M.cell _ _ _ hcl ha
      cases c with
      | ins c us =>
        obtain ⟨_, dx, vs, h2, _, _, _, h3⟩ := hcell
        cases hk
        obtain ⟨v', q1, q2⟩ := kos_lookup hi h3 h
        exact ⟨_, _, _, _, v', rfl, q1, p.val M q2, .inl ⟨h2, hc.1, hc.2⟩⟩
      | frz x =>
        refine data x hk hcell ?_
        cases x with
        | ins c fs => exact h
        | _ => cases h
      | _ => cases h
theorem se_fld {o : U.E} {f : Nat} (ho : SE G o) : SE G (.fld o f) := by
  intro ct x X E hm W
  cases x with
  | Attribute y n p =>
    have hm' : (decide (ct.tb.fd f = n) && mt o ct y && noSup y) = true := hm
    simp only [Bool.and_eq_true, decide_eq_true_eq] at hm'
    obtain ⟨⟨rfl, m1⟩, m2⟩ := hm'
    refine PE.imp (pe_fldR (ho ct y X E m1 W) (noSup_base m2 _)) fun σ H Q h => ?_
    obtain ⟨env, m, out, h1, H0, S0, P, S, as, M, EN, p⟩ := h
    unfold ev at h1
    obtain ⟨o1, e1, t1⟩ := bnd_inv h1
    refine ⟨env, m, o1, e1, t1.go M EN p fun w m1 v S1 H1 as1 s1 M1 EN1 r1 hf p1 => ?_⟩
    obtain ⟨w', hw', rfl⟩ := rd_inv hf
    cases hk : kindW w m1 with
    | none => rw [hk] at hw'; cases hw'
    | some k =>
      simp only [hk] at hw'
      split at hw'
      · rename_i hfd
        exact fld_ok M1 r1 hk (W.fld k f hfd) hw' p1
      · cases hw'
  | _ => exact Bool.noConfusion hm
/-! ### dict displays of constants -/
theorem dkeys_pp {X : Cx} {pos : Pos} : ∀ {ks vs : U.E} {es : List (Option Expr)} {fs : List Expr} {ds us : List D}, mtd ks es = true → mtc vs fs = true → csts ks = some ds → csts vs = some us → ds.length = us.length →
    ∃ trs : List (TE × TE), PPs X pos es fs trs ∧ ∃ cs : List (V × V), (∀ σ H Q, tPairs trs σ H Q ↔ Q cs H) ∧ Paired (fun p d => ∀ tb K S, Rp tb K S p.1 d) cs ds ∧ Paired (fun p d => ∀ tb K S, Rp tb K S p.2 d) cs us := by
  intro ks
  induction ks with
  | nil =>
    intro vs es fs ds us h1 h2 h3 h4 hl
    cases h3
    cases es with
    | cons _ _ => exact Bool.noConfusion h1
    | nil =>
      cases us with
      | cons _ _ => cases hl
      | nil =>
        cases vs with
        | nil =>
          cases fs with
          | cons _ _ => exact Bool.noConfusion h2
          | nil => exact ⟨[], pps_nil, [], fun σ H Q => Iff.rfl, .nil, .nil⟩
        | cons a r =>
          cases a with
          | cst d =>
            cases hc : csts r with
            | none => simp [csts, hc] at h4
            | some q => simp [csts, hc] at h4
          | _ => cases h4
        | _ => cases h4
  | cons a r iha ihr =>
    intro vs es fs ds us h1 h2 h3 h4 hl
    cases a with
    | cst d =>
      cases hc : csts r with
      | none => simp [csts, hc] at h3
      | some ds' =>
        simp [csts, hc] at h3
        subst h3
        cases us with
        | nil => cases hl
        | cons u us =>
          cases vs with
          | cons b r2 =>
            cases b with
            | cst d2 =>
              cases hc2 : csts r2 with
              | none => simp [csts, hc2] at h4
              | some us' =>
                simp [csts, hc2] at h4
                obtain ⟨rfl, rfl⟩ := h4
                rcases es with _ | ⟨e, es⟩
                · exact Bool.noConfusion h1
                rcases e with _ | e
                · exact Bool.noConfusion h1
                cases e with
                | Constant c k p =>
                  rcases fs with _ | ⟨g, fs⟩
                  · exact Bool.noConfusion h2
                  cases g with
                  | Constant c2 k2 p2 =>
                    have h1' : (cstD d c && mtd r es) = true := h1
                    have h2' : (cstD d2 c2 && mtc r2 fs) = true := h2
                    simp only [Bool.and_eq_true] at h1' h2'
                    obtain ⟨trs, hp, cs, q1, q2, q3⟩ := ihr h1'.2 h2'.2 hc hc2 (by simpa using hl)
                    obtain ⟨v1, p1, r1⟩ := cst_pe (X := X) (k := k) (pos := p) h1'.1
                    obtain ⟨v2, p2, r2⟩ := cst_pe (X := X) (k := k2) (pos := p2) h2'.1
                    refine ⟨(tC v1, tC v2) :: trs, pps_cons p1 p2 hp, (v1, v2) :: cs, fun σ H Q => ?_, .cons r1 q2, .cons r2 q3⟩
                    exact q1 σ H _
                  | _ => exact Bool.noConfusion h2
                | _ => exact Bool.noConfusion h1
            | _ => cases h4
          | nil => cases h4
          | _ => cases h4
    | _ => cases h3
  | _ => intro vs es fs ds us h1 h2 h3; cases h3
theorem upd_upd {H : Hp} {p : Addr} {o u : HO} : upd (upd H p o) p u = upd H p u := by
  funext b
  by_cases z : b = p
  · rw [z, upd_same, upd_same]
  · rw [upd_ne z, upd_ne z, upd_ne z]
theorem se_dic {ks vs : U.E} : SE G (.dic ks vs) := by
  intro ct x X E hm W
  cases x with
  | Dict es fs pos =>
    have hm' : (mtd ks es && mtc vs fs && decide (es.length = fs.length) && decide (es.length ≤ 15)) = true := hm
    simp only [Bool.and_eq_true, decide_eq_true_eq] at hm'
    obtain ⟨⟨⟨m1, m2⟩, m3⟩, m4⟩ := hm'
    have hall : ∀ {ks : U.E} {es : List (Option Expr)}, mtd ks es = true → es.all (·.isSome) = true := by
      intro ks
      induction ks with
      | nil => intro es h; cases es with
        | nil => rfl
        | cons _ _ => exact Bool.noConfusion h
      | cons a r _ ih =>
        intro es h
        cases a with
        | cst d =>
          rcases es with _ | ⟨e, es⟩
          · exact Bool.noConfusion h
          rcases e with _ | e
          · exact Bool.noConfusion h
          cases e with
          | Constant c k p =>
            have h' : (cstD d c && mtd r es) = true := h
            simp only [Bool.and_eq_true] at h'
            simp [ih h'.2]
          | _ => exact Bool.noConfusion h
        | _ => rcases es with _ | ⟨_ | e, es⟩ <;> first | exact Bool.noConfusion h | (cases e <;> exact Bool.noConfusion h)
      | _ => intro es h; rcases es with _ | ⟨_ | e, es⟩ <;> first | exact Bool.noConfusion h | (cases e <;> exact Bool.noConfusion h)
    cases hk : csts ks with
    | none => exact ⟨fun pins s σ H Q I h => by
        obtain ⟨env, m, o, h1, _⟩ := h
        unfold ev at h1
        rw [hk] at h1
        cases h1⟩
    | some ds =>
      cases hv : csts vs with
      | none => exact ⟨fun pins s σ H Q I h => by
          obtain ⟨env, m, o, h1, _⟩ := h
          unfold ev at h1
          rw [hk, hv] at h1
          cases h1⟩
      | some us =>
        cases hq : keysD ds with
        | none => exact ⟨fun pins s σ H Q I h => by
            obtain ⟨env, m, o, h1, _⟩ := h
            unfold ev at h1
            simp only [hk, hv, hq] at h1
            cases h1⟩
        | some qs =>
          by_cases hc : qs.length = us.length ∧ qs.length ≤ 1
          · have hlen : ∀ {xs : List D} {ks : List Ky}, keysD xs = some ks → xs.length = ks.length := by
              intro xs
              induction xs with
              | nil => intro ks h; cases h; rfl
              | cons x xs ih =>
                intro ks h
                unfold keysD at h
                split at h
                · rename_i k ks' e1 e2
                  cases h
                  rw [List.length_cons, List.length_cons, ih e2]
                · cases h
            obtain ⟨trs, hp, cs, q1, q2, q3⟩ := dkeys_pp (X := X) (pos := pos) m1 m2 hk hv ((hlen hq).trans hc.1)
            have last : ∀ {σ : St} {H : Hp} {Q : VK}, tV G ct.tb X.K E (.dic ks vs) σ H Q → ∃ kvs : List (Key × V), cs = kvs.map (fun kv => (kV kv.1, kv.2)) ∧ kvs.length ≤ 1 ∧ ∀ p, H p = none → Q (.ref p) (upd H p (.dK kvs)) := by
              intro σ H Q h
              obtain ⟨env, m, o, h1, H0, S0, P, S, as, M, EN, p⟩ := h
              unfold ev at h1
              simp only [hk, hv, hq] at h1
              rw [if_pos hc] at h1
              have hm0 : m ≠ [] := fun z => by
                have h0 := M.p0
                have hl := M.len
                rw [z] at hl
                rw [List.eq_nil_of_length_eq_zero hl] at h0
                cases h0
              rcases qs with _ | ⟨q, _ | ⟨q', qs⟩⟩
              · rcases us with _ | ⟨u, us⟩
                · have hds := hlen hq
                  rcases ds with _ | ⟨d, ds⟩
                  · cases q2
                    refine ⟨[], rfl, Nat.zero_le _, fun a ha => ?_⟩
                    simp only [newC, Option.some.injEq] at h1
                    subst h1
                    obtain ⟨f1, f2, f3⟩ := M.fresh ha
                    obtain ⟨M', s'⟩ := M.alloc (p := a) (o := .dK []) (c := .dic []) ha ⟨f2, [], upd_same, .nil⟩ hm0
                    exact p _ _ _ _ s' M' ⟨a, by rw [← M.len, List.getElem?_append_right (Nat.le_refl _)]; simp, rfl⟩
                  · cases hds
                · cases hc.1
              · rcases us with _ | ⟨u, _ | ⟨u', us⟩⟩
                · cases hc.1
                · have hds := hlen hq
                  rcases ds with _ | ⟨d, _ | ⟨d', ds⟩⟩
                  · cases hds
                  · cases q2 with
                    | @cons c _ _ _ a1 a2 =>
                      cases a2
                      cases q3 with
                      | cons b1 b2 =>
                        obtain ⟨c1, c2⟩ := c
                        have hkey : keyD d = some q := by
                          unfold keysD at hq
                          split at hq
                          · rename_i k ks' e1 e2
                            cases hq
                            exact e1
                          · cases hq
                        have ek := keyD_ok hkey (a1 ct.tb X.K H)
                        dsimp only at ek
                        subst ek
                        refine ⟨[(q, c2)], rfl, Nat.le_refl _, fun a ha => ?_⟩
                        simp only [newC, Option.some.injEq] at h1
                        subst h1
                        obtain ⟨f1, f2, f3⟩ := M.fresh ha
                        obtain ⟨M', s'⟩ := M.alloc (p := a) (o := .dK [(q, c2)]) (c := .dic [(q, .d u)]) ha ⟨f2, _, upd_same, .cons ⟨rfl, b1 _ _ _⟩ .nil⟩ hm0
                        exact p _ _ _ _ s' M' ⟨a, by rw [← M.len, List.getElem?_append_right (Nat.le_refl _)]; simp, rfl⟩
                  · cases hds
                · cases hc.1
              · have := hc.2; simp at this
            cases es with
            | nil =>
              cases fs with
              | cons _ _ => cases m3
              | nil =>
                refine PE.imp pe_dnewK fun σ H Q h => ?_
                obtain ⟨kvs, e1, e2, e3⟩ := last h
                have : kvs = [] := by
                  cases hp
                  have hx : cs = [] := by
                    cases ks with
                    | nil =>
                      cases hk
                      cases q2
                      rfl
                    | cons a r => cases a <;> exact Bool.noConfusion m1
                    | _ => exact Bool.noConfusion m1
                  rw [hx] at e1
                  cases kvs with
                  | nil => rfl
                  | cons _ _ => cases e1
                subst this
                exact e3
            | cons e es =>
              refine PE.imp (pe_disp hp (hall m1) m3 (by simp) m4) fun σ H Q h p hp' => ?_
              obtain ⟨kvs, e1, e2, e3⟩ := last h
              refine (q1 _ _ _).mpr ⟨upd_same, kvs, e1, by omega, ?_⟩
              rw [upd_upd]
              rcases kvs with _ | ⟨kv, _ | ⟨kv', kvs⟩⟩
              · exact e3 p hp'
              · exact e3 p hp'
              · simp at e2
          · exact ⟨fun pins s σ H Q I h => by
              obtain ⟨env, m, o, h1, _⟩ := h
              unfold ev at h1
              simp only [hk, hv, hq] at h1
              rw [if_neg hc] at h1
              cases h1⟩
  | _ => exact Bool.noConfusion hm
end
end U
set_option Elab.async false
set_option linter.all false
set_option maxRecDepth 100000
set_option maxHeartbeats 4000000
set_option autoImplicit false
/-! U15: targets; what is walked. -/
namespace U
open Evl (Ex)
open PySem L2

/-! ### targets -/
def gNames : List Nat → TGs
  | [] => gNil
  | i :: is => gCons (gName i) (gNames is)
def gT (K : PySem.W.Frag) : Tg → TG
  | .nm i => gName i
  | .tp is => fun v σ H Q => gTup K is.length (gNames is) v σ H Q ∨ gLst K is.length (gNames is) v σ H Q
def setV : List Nat → List V → St → St
  | i :: is, w :: ws, σ => setV is ws (σ.set i (some w))
  | _, _, σ => σ
def RowV (K : PySem.W.Frag) (H : Hp) (x : V) (vs : List V) : Tg → Prop
  | .nm _ => vs = [x]
  | .tp is => ∃ a, x = .ref a ∧ (SqT K H a vs ∨ SqL K H a vs) ∧ vs.length = is.length
theorem gNames_of : ∀ {is : List Nat} {vs : List V} {σ : St} {H : Hp} {Q : St → Hp → Prop}, vs.length = is.length → Q (setV is vs σ) H → gNames is vs σ H Q
  | [], [], σ, H, Q, _, q => ⟨rfl, q⟩
  | i :: is, v :: vs, σ, H, Q, hl, q => ⟨v, vs, rfl, gNames_of (by simpa using hl) q⟩
theorem gT_of {K : PySem.W.Frag} {tg : Tg} {x : V} {vs : List V} {σ : St} {H : Hp} {Q : St → Hp → Prop} (h : RowV K H x vs tg) (q : Q (setV (tgIx tg) vs σ) H) : gT K tg x σ H Q := by
  cases tg with
  | nm i =>
    cases (show vs = [x] from h)
    exact q
  | tp is =>
    obtain ⟨a, rfl, hs, hl⟩ := h
    rcases hs with hs | hs
    · exact .inl ⟨a, vs, rfl, hs, hl, gNames_of hl q⟩
    · exact .inr ⟨a, vs, rfl, hs, hl, gNames_of hl q⟩
/-- what must be so of a frame, for its names to be stored -/
def StO (X : Cx) (sc : Scope) : Prop := ∀ x, loc sc x = true → Loc X.env.scope x ∧ (X.fn x = true ∨ X.env.scope.names.lookup x = some .local)
theorem asg_cons {e : Expr} {es : List Expr} {env : Env} (h : nostar e = true) : assignEach (e :: es) env = (false, assign e env) :: assignEach es env := by
  cases e <;> first | rfl | cases h
theorem names_pgs {X : Cx} {ct : Ct} {sc : Scope} (hN : X.N = ct.N) (nd : ct.N.Nodup) (hl : StO X sc) : ∀ {is : List Nat} {es : List Expr}, mtNames { ct with sc := sc } is es = true → PGs X es (gNames is) ∧ (assignEach es X.env).length = is.length ∧ (assignEach es X.env).findIdx? (·.1) = none
  | [], [], _ => ⟨pgs_nil, rfl, rfl⟩
  | [], _ :: _, h => Bool.noConfusion h
  | _ :: _, [], h => Bool.noConfusion h
  | i :: is, e :: es, h => by
    cases e with
    | Name y p =>
      have h' : (decide (ct.N[i]? = some y) && loc sc y && mtNames { ct with sc := sc } is es) = true := h
      simp only [Bool.and_eq_true, decide_eq_true_eq] at h'
      obtain ⟨⟨h1, h2⟩, h3⟩ := h'
      obtain ⟨q1, q2, q3⟩ := names_pgs hN nd hl h3
      obtain ⟨l1, l2⟩ := hl y h2
      refine ⟨pgs_cons (pg_name (by rw [hN]; exact nd) (by rw [hN]; exact h1) l1 l2) q1 rfl, ?_, ?_⟩
      · rw [asg_cons rfl, List.length_cons, q2]; rfl
      · rw [asg_cons rfl]
        simp only [List.findIdx?_cons, q3] <;> rfl
    | _ => exact Bool.noConfusion h
theorem tg_pg {X : Cx} {ct : Ct} {sc : Scope} {tg : Tg} {e : Expr} (hN : X.N = ct.N) (nd : ct.N.Nodup) (hc : X.calm = true) (hl : StO X sc) (h : mtTg { ct with sc := sc } tg e = true) : PG X e (gT X.K tg) := by
  cases tg with
  | nm i =>
    cases e with
    | Name y p =>
      have h' : (decide (ct.N[i]? = some y) && loc sc y) = true := h
      simp only [Bool.and_eq_true, decide_eq_true_eq] at h'
      obtain ⟨l1, l2⟩ := hl y h'.2
      exact pg_name (by rw [hN]; exact nd) (by rw [hN]; exact h'.1) l1 l2
    | _ => exact Bool.noConfusion h
  | tp is =>
    cases e with
    | Tuple es k p =>
      obtain ⟨q1, q2, q3⟩ := names_pgs hN nd hl (show mtNames { ct with sc := sc } is es = true from h)
      exact PG.or (pg_tup hc q1 q2 q3) (pg_lst hc q1 q2 q3)
    | _ => exact Bool.noConfusion h
/-! ### slots -/
section
variable {tb : Tb} {K : PySem.W.Frag} {S : Hp} {as : List (Option Addr)}
theorem EnvOk.set {σ : St} {env : En} {i : Nat} {v : V} {w : W} (EN : EnvOk tb K S as σ env) (h : WOk tb K S as v w) : EnvOk tb K S as (σ.set i (some v)) (env.set i (some w)) := by
  refine ⟨by rw [List.length_set, List.length_set]; exact EN.1, fun j w' hj => ?_⟩
  by_cases e : i = j
  · subst e
    have hi : i < env.length := by
      have := (List.getElem?_eq_some_iff.mp hj).1
      rwa [List.length_set] at this
    rw [List.getElem?_set_self hi] at hj
    cases hj
    exact ⟨v, List.getElem?_set_self (by rw [← EN.1]; exact hi), h⟩
  · rw [List.getElem?_set_ne e] at hj
    obtain ⟨v', h1, h2⟩ := EN.2 j w' hj
    exact ⟨v', by rw [List.getElem?_set_ne e]; exact h1, h2⟩
theorem EnvOk.setT : ∀ {is : List Nat} {σ : St} {env : En} {vs : List V} {ws : List W}, EnvOk tb K S as σ env → WOs tb K S as vs ws → EnvOk tb K S as (setV is vs σ) (setT is ws env)
  | [], _, _, _, _, EN, _ => by unfold setV U.setT; exact EN
  | i :: is, _, _, _, _, EN, .nil => by unfold setV U.setT; exact EN
  | i :: is, _, _, _, _, EN, .cons h t => by
    unfold setV U.setT
    exact (EN.set h).setT t
theorem setRow_eq (tg : Tg) (ws : List W) (env : En) : setRow tg ws env = setT (tgIx tg) ws env := by cases tg <;> rfl
theorem wipeE_len : ∀ (own : List Nat) (env : En), (wipeE own env).length = env.length
  | [], _ => rfl
  | i :: own, env => by
    show ((wipeE own env).set i none).length = _
    rw [List.length_set, wipeE_len own env]
theorem EnvOk.wipe {σ : St} {env : En} (EN : EnvOk tb K S as σ env) : ∀ (own : List Nat), EnvOk tb K S as (L2.wipe σ own) (wipeE own env)
  | [] => EN
  | i :: own => by
    have ih := EN.wipe own
    refine ⟨?_, fun j w hj => ?_⟩
    · rw [wipe_length, wipeE_len]; exact EN.1
    · have hj' : ((wipeE own env).set i none)[j]? = some (some w) := hj
      by_cases e : i = j
      · subst e
        have hi : i < (wipeE own env).length := by
          have := (List.getElem?_eq_some_iff.mp hj').1
          rwa [List.length_set] at this
        rw [List.getElem?_set_self hi] at hj'
        cases hj'
      · rw [List.getElem?_set_ne e] at hj'
        obtain ⟨v, h1, h2⟩ := ih.2 j w hj'
        refine ⟨v, ?_, h2⟩
        show ((L2.wipe σ own).set i none)[j]? = _
        rw [List.getElem?_set_ne e]
        exact h1
/-- slots of the block's own names do not count -/
theorem wipe_at {σ σ' : St} {own : List Nat} (hl : σ.length = σ'.length) (h : ∀ j, j ∉ own → σ[j]? = σ'[j]?) : L2.wipe σ own = L2.wipe σ' own := by
  have key : ∀ (own : List Nat) (σ : St) (j : Nat), (L2.wipe σ own)[j]? = if j ∈ own ∧ j < σ.length then some none else σ[j]? := by
    intro own
    induction own with
    | nil => intro σ j; simp [L2.wipe]
    | cons i own ih =>
      intro σ j
      show ((L2.wipe σ own).set i none)[j]? = _
      by_cases e : i = j
      · subst e
        by_cases hi : i < σ.length
        · rw [List.getElem?_set_self (by rw [wipe_length]; exact hi), if_pos ⟨List.mem_cons_self .., hi⟩]
        · rw [List.getElem?_eq_none (by rw [List.length_set, wipe_length]; omega), if_neg (fun z => hi z.2), List.getElem?_eq_none (by omega)]
      · rw [List.getElem?_set_ne e, ih]
        by_cases hj : j ∈ own ∧ j < σ.length
        · rw [if_pos hj, if_pos ⟨List.mem_cons_of_mem _ hj.1, hj.2⟩]
        · rw [if_neg hj, if_neg]
          rintro ⟨h1, h2⟩
          rcases List.mem_cons.mp h1 with z | z
          · exact e z.symm
          · exact hj ⟨z, h2⟩
  apply List.ext_getElem?
  intro j
  rw [key, key, ← hl]
  by_cases hj : j ∈ own
  · by_cases hlt : j < σ.length
    · rw [if_pos ⟨hj, hlt⟩, if_pos ⟨hj, hlt⟩]
    · rw [if_neg (fun z => hlt z.2), if_neg (fun z => hlt z.2), List.getElem?_eq_none (by omega), List.getElem?_eq_none (by omega)]
  · rw [if_neg (fun z => hj z.1), if_neg (fun z => hj z.1)]
    exact h j hj
theorem setV_len : ∀ (is : List Nat) (vs : List V) (σ : St), (setV is vs σ).length = σ.length
  | [], _, _ => by unfold setV; rfl
  | _ :: _, [], _ => by unfold setV; rfl
  | i :: is, v :: vs, σ => by
    unfold setV
    rw [setV_len is vs, List.length_set]
theorem setV_out {j : Nat} : ∀ (is : List Nat) (vs : List V) (σ : St), j ∉ is → (setV is vs σ)[j]? = σ[j]?
  | [], _, _, _ => by unfold setV; rfl
  | _ :: _, [], _, _ => by unfold setV; rfl
  | i :: is, v :: vs, σ, h => by
    unfold setV
    rw [setV_out is vs _ fun z => h (List.mem_cons_of_mem _ z), List.getElem?_set_ne fun z => h (by rw [z]; exact List.mem_cons_self ..)]
theorem wipe_wipe (σ : St) (own : List Nat) : L2.wipe (L2.wipe σ own) own = L2.wipe σ own := wipe_at (wipe_length σ own) fun j hj => wipe_out hj
end
/-! ### the memory: a cell told otherwise -/
section
variable {tb : Tb} {K : PySem.W.Frag} {S H H0 S0 : Hp} {as : List (Option Addr)} {P : Option Addr} {m : Mem}
theorem MOk.recell (M : MOk tb K H0 S0 P m as S H) {n : Nat} {c c' : Cell} (hm : m[n]? = some c) (hg : c ≠ .gone) (hg' : c' ≠ .gone) (hc : ∀ a, CellOk tb K H0 S as H a c → CellOk tb K H0 S as H a c') : MOk tb K H0 S0 P (m.set n c') as S H := by
  have hn : n < m.length := (List.getElem?_eq_some_iff.mp hm).1
  refine ⟨M.sub, M.sys, M.s0, M.h0, M.base, M.sbase, M.nd, by rw [List.length_set]; exact M.len, M.p0, ?_, M.live, M.pot, fun k d a e ea => ?_, M.new, M.some_⟩
  · by_cases z : n = 0
    · subst z
      rw [List.getElem?_set_self hn]
      constructor
      · intro h
        have := M.pz.mp h
        rw [hm] at this
        exact absurd (Option.some.inj this) hg
      · intro h
        exact absurd (Option.some.inj h) hg'
    · rw [List.getElem?_set_ne z]
      exact M.pz
  · by_cases z : n = k
    · subst z
      rw [List.getElem?_set_self hn] at e
      cases e
      exact hc a (M.cell n c a hm ea)
    · rw [List.getElem?_set_ne z] at e
      exact M.cell k d a e ea
theorem MOk.pinC (M : MOk tb K H0 S0 P m as S H) (k : Option Nat) : MOk tb K H0 S0 P (U.pinC k m) as S H := by
  unfold U.pinC
  cases k with
  | none => exact M
  | some k =>
    dsimp only
    cases hm : m[k]? with
    | none => exact M
    | some c =>
      cases c with
      | lst ws => exact M.recell hm (by simp) (by simp) fun a h => h
      | _ => exact M
theorem MOk.unpin (M : MOk tb K H0 S0 P m as S H) {k : Option Nat} {m' : Mem} (h : U.unpin k m = some m') : MOk tb K H0 S0 P m' as S H := by
  unfold U.unpin at h
  cases k with
  | none => cases h; exact M
  | some k =>
    dsimp only at h
    cases hm : m[k]? with
    | none => rw [hm] at h; cases h
    | some c =>
      rw [hm] at h
      cases c with
      | pin ws => cases h; exact M.recell hm (by simp) (by simp) fun a h => h
      | _ => cases h
/-- the pin of a walk is no pin of before -/
theorem pinC_stp (k : Option Nat) : Stp m as S H (U.pinC k m) as S H := by
  refine ⟨(Evl.Ex.refl _), List.prefix_rfl, fun n ws a e ea => ⟨?_, rfl⟩⟩
  unfold U.pinC
  cases k with
  | none => exact e
  | some k =>
    dsimp only
    cases hm : m[k]? with
    | none => exact e
    | some c =>
      cases c with
      | lst us =>
        dsimp only
        rw [List.getElem?_set_ne]
        · exact e
        · rintro rfl
          rw [hm] at e
          cases e
      | _ => exact e
theorem unpin_stp {w : W} {m1 m2 : Mem} {as1 : List (Option Addr)} {S1 H1 : Hp} (s : Stp (U.pinC (pinned w m) m) as S H m1 as1 S1 H1) (h : U.unpin (pinned w m) m1 = some m2) : Stp m as S H m2 as1 S1 H1 := by
  have s' := (pinC_stp (m := m) (as := as) (S := S) (H := H) (pinned w m)).trans s
  unfold U.unpin at h
  cases hp : pinned w m with
  | none => rw [hp] at h; cases h; exact s'
  | some k =>
    rw [hp] at h
    dsimp only at h
    cases hm : m1[k]? with
    | none => rw [hm] at h; cases h
    | some c =>
      rw [hm] at h
      cases c with
      | pin us =>
        cases h
        refine ⟨s'.ex, s'.pre, fun n ws a e ea => ?_⟩
        obtain ⟨q1, q2⟩ := s'.pin n ws a e ea
        refine ⟨?_, q2⟩
        rw [List.getElem?_set_ne]
        · exact q1
        · rintro rfl
          unfold pinned at hp
          split at hp
          · split at hp
            · rename_i e'
              cases hp
              rw [e'] at e
              cases e
            · cases hp
          · cases hp
      | _ => cases h
end
end U
set_option Elab.async false
set_option linter.all false
set_option maxRecDepth 100000
set_option maxHeartbeats 4000000
set_option autoImplicit false
/-! U16: what is walked. -/
namespace U
open Evl (Ex)
open PySem L2

def WkOk (tb : Tb) (K : PySem.W.Frag) (H0 S0 : Hp) (P : Option Addr) (tg : Tg) (rs : List (List W)) (m : Mem) (as : List (Option Addr)) (S H : Hp) (J : It) : Prop :=
  ∃ (n : Nat) (Gd : Hp → Prop) (Y : Nat → Hp → V → Hp → Prop), Walk J n Gd Y ∧ n = rs.length ∧
    (∀ m' as' S' H', Stp m as S H m' as' S' H' → MOk tb K H0 S0 P m' as' S' H' → Gd H') ∧
    ∀ i r x m' as' S' H' H'', rs[i]? = some r → Stp m as S H m' as' S' H' → MOk tb K H0 S0 P m' as' S' H' → Y i H' x H'' →
      ∃ S'' vs, MOk tb K H0 S0 P m' as' S'' H'' ∧ Stp m' as' S' H' m' as' S'' H'' ∧ RowV K H'' x vs tg ∧ WOs tb K S'' as' vs r
def PostI (tb : Tb) (K : PySem.W.Frag) (E : XK) (tg : Tg) (H0 S0 : Hp) (P : Option Addr) (m : Mem) (as : List (Option Addr)) (S H : Hp) (R : It → Hp → Prop) : Out (Option Nat × List (List W)) → Prop
  | .ok p m' => ∀ J S' H' as' m1 w, p.1 = pinned w m1 → m' = pinC p.1 m1 → Stp m as S H m1 as' S' H' → MOk tb K H0 S0 P m1 as' S' H' → WkOk tb K H0 S0 P tg p.2 m' as' S' H' J → R J H'
  | .exc c fs m' => ∀ od S' H' as', Stp m as S H m' as' S' H' → MOk tb K H0 S0 P m' as' S' H' → XdOk tb K S' H' fs od → E (.ref (He.ga K (tb.cl c))) od H'
def tI (G : Gm) (tb : Tb) (K : PySem.W.Frag) (E : XK) (it : U.E) (tg : Tg) : TI := fun σ H R => ∃ env m o H0 S0 P S as, rows G it tg env m = some o ∧ MOk tb K H0 S0 P m as S H ∧ EnvOk tb K S as σ env ∧ PostI tb K E tg H0 S0 P m as S H R o
def SI (G : Gm) (e : U.E) : Prop := ∀ (ct : Ct) (x : Expr) (X : Cx) (E : XK) (tg : Tg) (e' : Expr), mti e ct x = true → Wd X ct G E → (∀ is, tg = .tp is → ∃ es k p, e' = .Tuple es k p) → PI X e' x (tI G ct.tb X.K E e tg)

section
variable {tb : Tb} {K : PySem.W.Frag} {S H H0 S0 : Hp} {as : List (Option Addr)} {P : Option Addr} {m : Mem} {E : XK}
theorem PostI.go {α : Type} {f : α → Ev (Option Nat × List (List W))} {α' : Type} {R1 : Hp → List (Option Addr) → α' → α → Prop} {o : Out (Option Nat × List (List W))} {o1 : Out α} {σ : St} {env : En} {tg : Tg} {R : It → Hp → Prop} {Q' : α' → Hp → Prop} (t : Thn f o o1) (M : MOk tb K H0 S0 P m as S H) (EN : EnvOk tb K S as σ env)
    (p : PostI tb K E tg H0 S0 P m as S H R o)
    (k : ∀ a m1 b S1 H1 as1, Stp m as S H m1 as1 S1 H1 → MOk tb K H0 S0 P m1 as1 S1 H1 → EnvOk tb K S1 as1 σ env → R1 S1 as1 b a → f a m1 = some o → PostI tb K E tg H0 S0 P m1 as1 S1 H1 R o → Q' b H1) : tG tb K E R1 env m o1 σ H Q' := by
  refine ⟨H0, S0, P, S, as, M, EN, ?_⟩
  cases o1 with
  | ok a m1 =>
    intro b S1 H1 as1 s1 M1 r
    refine k a m1 b S1 H1 as1 s1 M1 (EN.mono s1.ex s1.pre) r t ?_
    cases o with
    | ok q m' => exact fun J S' H' as' m2 w e1 e2 s2 M2 wk => p J S' H' as' m2 w e1 e2 (s1.trans s2) M2 wk
    | exc c fs m' => exact fun od S' H' as' s2 M2 x => p od S' H' as' (s1.trans s2) M2 x
  | exc c fs m1 => cases t; exact p
/-- a sequence that is walked stays -/
theorem seq_stay (M : MOk tb K H0 S0 P m as S H) {w : W} {v : V} (h : WOk tb K S as v w) {b : Bool} {ws : List W} (e : seqOf w m = some (b, ws)) : ∃ a vs, v = .ref a ∧ H a = some (if b then .lst vs else .tup vs) ∧ WOs tb K S as vs ws ∧
    ∀ m2 as2 S2 H2, Stp (pinC (pinned w m) m) as S H m2 as2 S2 H2 → MOk tb K H0 S0 P m2 as2 S2 H2 → H2 a = some (if b then .lst vs else .tup vs) := by
  obtain ⟨a, vs, rfl, h1, h2⟩ := seq_ok M h e
  refine ⟨a, vs, rfl, h1, h2, fun m2 as2 S2 H2 s M2 => ?_⟩
  have shared : S a ≠ none → H2 a = some (if b then .lst vs else .tup vs) := fun hs => by
    cases q : S a with
    | none => exact absurd q hs
    | some o =>
      have := M.sub a o q
      rw [h1] at this
      cases this
      exact M2.sub _ _ (s.ex _ _ q)
  cases w with
  | d x =>
    apply shared
    cases (show Rp tb K S (.ref a) x from h) with
    | lst q _ => rw [q]; simp
    | tup q _ => rw [q]; simp
    | dic q _ => rw [q]; simp
    | dct q _ => rw [q]; simp
    | ins q _ _ => rw [q]; simp
    | exc0 q => rw [q]; simp
    | exc q _ _ => rw [q]; simp
  | c k =>
    obtain ⟨a', ha, e'⟩ := h
    cases e'
    unfold seqOf at e
    cases hc : m[k]? with
    | none => simp only [hc] at e; cases e
    | some c =>
      have hpin : ∀ ws' : List W, (pinC (pinned (.c k) m) m)[k]? = some (.pin ws') → H2 a = some (if b then .lst vs else .tup vs) := fun ws' hp => by
        rw [(s.pin k ws' a hp ha).2]
        exact h1
      have hk : k < m.length := (List.getElem?_eq_some_iff.mp hc).1
      cases c with
      | lst us =>
        refine hpin us ?_
        have e1 : pinned (.c k) m = some k := by unfold pinned; simp only [hc]
        rw [e1]
        unfold pinC
        simp only [hc]
        exact List.getElem?_set_self hk
      | pin us =>
        refine hpin us ?_
        have e1 : pinned (.c k) m = none := by unfold pinned; simp only [hc]
        rw [e1]
        exact hc
      | frz x =>
        apply shared
        have hcell := M.cell _ _ _ hc ha
        cases (show Rp tb K S (.ref a) x from hcell) with
        | lst q _ => rw [q]; simp
        | tup q _ => rw [q]; simp
        | dic q _ => rw [q]; simp
        | dct q _ => rw [q]; simp
        | ins q _ _ => rw [q]; simp
        | exc0 q => rw [q]; simp
        | exc q _ _ => rw [q]; simp
      | _ => simp only [hc] at e; cases e
theorem rowsOf_len {tg : Tg} : ∀ {ws : List W} {rs : List (List W)}, rowsOf tg m ws = some rs → ws.length = rs.length
  | [], _, h => by cases h; rfl
  | w :: ws, rs, h => by
    unfold rowsOf at h
    split at h
    · rename_i x xs e1 e2
      cases h
      rw [List.length_cons, List.length_cons, rowsOf_len e2]
    · cases h
theorem rowsOf_at {tg : Tg} : ∀ {ws : List W} {rs : List (List W)} {i : Nat} {r : List W}, rowsOf tg m ws = some rs → rs[i]? = some r → ∃ w, ws[i]? = some w ∧ rowOf tg w m = some r
  | [], _, i, r, h, hi => by cases h; cases i <;> cases hi
  | w :: ws, rs, i, r, h, hi => by
    unfold rowsOf at h
    split at h
    · rename_i x xs e1 e2
      cases h
      cases i with
      | zero => cases hi; exact ⟨w, rfl, e1⟩
      | succ i => exact rowsOf_at (i := i) e2 hi
    · cases h
/-- one item as the target has it, later on -/
theorem row_ok {tg : Tg} {w : W} {r : List W} {v : V} (M : MOk tb K H0 S0 P m as S H) {m0 : Mem} (h : rowOf tg w m0 = some r) (hw : WOk tb K S as v w) : ∃ vs, RowV K H v vs tg ∧ WOs tb K S as vs r := by
  unfold rowOf at h
  cases tg with
  | nm i => cases h; exact ⟨[v], rfl, .cons hw .nil⟩
  | tp is =>
    dsimp only at h
    cases w with
    | c _ => cases h
    | d x =>
      dsimp only at h
      cases hs : seqOf (.d x) m0 with
      | none => rw [hs] at h; cases h
      | some q =>
        obtain ⟨b, us⟩ := q
        rw [hs] at h
        dsimp only at h
        split at h
        · rename_i hl
          cases h
          have hs' : seqOf (.d x) m = some (b, r) := by
            cases x <;> exact hs
          obtain ⟨a, vs, rfl, h1, h2⟩ := seq_ok M hw hs'
          refine ⟨vs, ⟨a, rfl, ?_, by rw [h2.length]; exact hl⟩, h2⟩
          cases b with
          | true => exact .inr (.of h1)
          | false => exact .inl (.of h1)
        · cases h
theorem wk_list {a : Addr} {vs : List V} {ws : List W} {rs : List (List W)} {tg : Tg} {m0 : Mem} {m1 : Mem} (hr : rowsOf tg m0 ws = some rs) (r : WOs tb K S as vs ws) (stay : ∀ m2 as2 S2 H2, Stp m1 as S H m2 as2 S2 H2 → MOk tb K H0 S0 P m2 as2 S2 H2 → H2 a = some (.lst vs)) :
    WkOk tb K H0 S0 P tg rs m1 as S H (Itl K a) := by
  refine ⟨vs.length, _, _, walk_list (xs := vs), by rw [← rowsOf_len hr, r.length], fun m' as' S' H' s M => .of (stay m' as' S' H' s M), fun i rr x m' as' S' H' H'' hi s M y => ?_⟩
  obtain ⟨rfl, hx⟩ := y
  obtain ⟨w, hw, hrow⟩ := rowsOf_at hr hi
  obtain ⟨v, hv, hvw⟩ := wos_get r hw
  rw [hx] at hv
  cases hv
  obtain ⟨us, q1, q2⟩ := row_ok M hrow (WOk.mono s.ex s.pre hvw)
  exact ⟨S', us, M, Stp.rfl', q1, q2⟩
theorem wk_tup {a : Addr} {vs : List V} {ws : List W} {rs : List (List W)} {tg : Tg} {m0 : Mem} {m1 : Mem} (hr : rowsOf tg m0 ws = some rs) (r : WOs tb K S as vs ws) (stay : ∀ m2 as2 S2 H2, Stp m1 as S H m2 as2 S2 H2 → MOk tb K H0 S0 P m2 as2 S2 H2 → H2 a = some (.tup vs)) :
    WkOk tb K H0 S0 P tg rs m1 as S H (Itt K a) := by
  refine ⟨vs.length, _, _, walk_tup (xs := vs), by rw [← rowsOf_len hr, r.length], fun m' as' S' H' s M => .of (stay m' as' S' H' s M), fun i rr x m' as' S' H' H'' hi s M y => ?_⟩
  obtain ⟨rfl, hx⟩ := y
  obtain ⟨w, hw, hrow⟩ := rowsOf_at hr hi
  obtain ⟨v, hv, hvw⟩ := wos_get r hw
  rw [hx] at hv
  cases hv
  obtain ⟨us, q1, q2⟩ := row_ok M hrow (WOk.mono s.ex s.pre hvw)
  exact ⟨S', us, M, Stp.rfl', q1, q2⟩
theorem rangeR_len : ∀ (n : Nat) (lo : Int), (rangeR lo n).length = n
  | 0, _ => rfl
  | n + 1, lo => by unfold rangeR; rw [List.length_cons, rangeR_len n]
theorem rangeR_at : ∀ (n : Nat) (lo : Int) (i : Nat) (r : List W), (rangeR lo n)[i]? = some r → r = [wint (lo + i)]
  | 0, _, i, r, h => by unfold rangeR at h; cases i <;> cases h
  | n + 1, lo, 0, r, h => by unfold rangeR at h; cases h; simp
  | n + 1, lo, i + 1, r, h => by
    unfold rangeR at h
    rw [rangeR_at n (lo + 1) i r h, show lo + 1 + (i : Int) = lo + ((i + 1 : Nat) : Int) by push_cast; omega]
theorem wk_range {lo : Int} {n : Nat} {i : Nat} : WkOk tb K H0 S0 P (.nm i) (rangeR lo n) m as S H (Itr lo n) := by
  refine ⟨n, _, _, walk_range, (rangeR_len n lo).symm, fun _ _ _ _ _ _ => trivial, fun j rr x m' as' S' H' H'' hi s M y => ?_⟩
  obtain ⟨rfl, rfl⟩ := y
  cases rangeR_at _ _ _ _ hi
  exact ⟨S', [_], M, Stp.rfl', rfl, .cons (Rp.int _) .nil⟩
theorem wk_str {z : Str} {i : Nat} : WkOk tb K H0 S0 P (.nm i) (z.cps.toList.map fun c => [wstr ⟨#[c]⟩]) m as S H (Its z) := by
  refine ⟨z.cps.size, _, _, walk_str, by simp, fun _ _ _ _ _ _ => trivial, fun j rr x m' as' S' H' H'' hi s M y => ?_⟩
  obtain ⟨rfl, c, hc, rfl⟩ := y
  rw [List.getElem?_map, Array.getElem?_toList, hc] at hi
  cases hi
  exact ⟨S', [_], M, Stp.rfl', rfl, .cons (Rp.str _) .nil⟩
theorem enumR_len : ∀ (ws : List W) (k : Nat), (enumR k ws).length = ws.length
  | [], _ => rfl
  | w :: ws, k => by unfold enumR; rw [List.length_cons, List.length_cons, enumR_len ws]
theorem enumR_at : ∀ (ws : List W) (k i : Nat) (r : List W), (enumR k ws)[i]? = some r → ∃ w, ws[i]? = some w ∧ r = [wint ((k + i : Nat) : Int), w]
  | [], _, i, r, h => by unfold enumR at h; cases i <;> cases h
  | w :: ws, k, 0, r, h => by unfold enumR at h; cases h; exact ⟨w, rfl, rfl⟩
  | w :: ws, k, i + 1, r, h => by
    unfold enumR at h
    obtain ⟨w', h1, h2⟩ := enumR_at ws (k + 1) i r h
    exact ⟨w', h1, by rw [h2, show k + 1 + i = k + (i + 1) by omega]⟩
theorem zipR_len : ∀ (xs ys : List W), (zipR xs ys).length = min xs.length ys.length
  | [], _ => by simp [zipR]
  | _ :: _, [] => by simp [zipR]
  | x :: xs, y :: ys => by unfold zipR; rw [List.length_cons, List.length_cons, List.length_cons, zipR_len]; omega
theorem zipR_at : ∀ (xs ys : List W) (i : Nat) (r : List W), (zipR xs ys)[i]? = some r → ∃ x y, xs[i]? = some x ∧ ys[i]? = some y ∧ r = [x, y]
  | [], _, i, r, h => by unfold zipR at h; cases i <;> cases h
  | _ :: _, [], i, r, h => by unfold zipR at h; cases i <;> cases h
  | x :: xs, y :: ys, 0, r, h => by unfold zipR at h; cases h; exact ⟨x, y, rfl, rfl, rfl⟩
  | x :: xs, y :: ys, i + 1, r, h => by
    unfold zipR at h
    exact zipR_at xs ys i r h
theorem wk_pair {J : It} {n : Nat} {Gd : Hp → Prop} {xs ys : Nat → Option V} {p q : Nat} {rs : List (List W)} (wk : Walk J n Gd (YPair xs ys)) (hn : n = rs.length) (hG : ∀ m' as' S' H', Stp m as S H m' as' S' H' → MOk tb K H0 S0 P m' as' S' H' → Gd H')
    (hr : ∀ i r x y, rs[i]? = some r → xs i = some x → ys i = some y → ∃ w u, r = [w, u] ∧ WOk tb K S as x w ∧ WOk tb K S as y u) : WkOk tb K H0 S0 P (.tp [p, q]) rs m as S H J := by
  refine ⟨n, Gd, _, wk, hn, hG, fun i rr v m' as' S' H' H'' hi s M y => ?_⟩
  obtain ⟨T, x, z, rfl, hT, rfl, hx, hz⟩ := y
  obtain ⟨w, u, rfl, r1, r2⟩ := hr i rr x z hi hx hz
  obtain ⟨M', s'⟩ := M.newS (o := .tup [x, z]) hT
  exact ⟨_, [x, z], M', s', ⟨T, rfl, .inl (.of upd_same), rfl⟩, .cons (WOk.mono (s.trans s').ex (s.trans s').pre r1) (.cons (WOk.mono (s.trans s').ex (s.trans s').pre r2) .nil)⟩
end
end U
set_option Elab.async false
set_option linter.all false
set_option maxRecDepth 100000
set_option maxHeartbeats 4000000
set_option autoImplicit false
/-! U17: iterations. -/
namespace U
open Evl (Ex)
open PySem L2
section
variable {G : Gm}
theorem none_pin {m : Mem} : (none : Option Nat) = pinned (.d .non) m := rfl
theorem pa_one {X : Cx} {e : Expr} {t : TE} (h : PE X e t) (hs : nostar e = true) : PA X [e] (tCons t tNil) := pa_cons h pa_nil (star_cons hs)
theorem pa_two {X : Cx} {e f : Expr} {t u : TE} (h : PE X e t) (k : PE X f u) (hs : nostar e = true) (hs2 : nostar f = true) : PA X [e, f] (tCons t (tCons u tNil)) := pa_cons h (pa_one k hs2) (star_cons hs)
theorem si_seq {a : U.E} (ha : SE G a) : SI G (.seq a) := by
  intro ct x X E tg e' hm W he
  have hP := ha ct x X E hm W
  refine PI.imp (PI.or (pi_list hP) (PI.or (pi_tup hP) (pi_str hP))) fun σ H R h => ?_
  obtain ⟨env, m, o, H0, S0, P, S, as, h1, M, EN, p⟩ := h
  unfold rows at h1
  obtain ⟨o1, e1, t1⟩ := bnd_inv h1
  cases o1 with
  | exc c fs m1 =>
    cases t1
    exact .inl ⟨env, m, _, e1, H0, S0, P, S, as, M, EN, p⟩
  | ok w m1 =>
    have t1' : rowsW tg w m1 = some o := t1
    unfold rowsW at t1'
    cases hs : seqOf w m1 with
    | some q =>
      obtain ⟨b, ws⟩ := q
      simp only [hs] at t1'
      split at t1'
      · cases hr : rowsOf tg m1 ws with
        | none => rw [hr] at t1'; cases t1'
        | some rs =>
          rw [hr] at t1'
          cases t1'
          cases b with
          | true =>
            refine .inl ⟨env, m, _, e1, H0, S0, P, S, as, M, EN, fun v S1 H1 as1 s1 M1 r1 => ?_⟩
            obtain ⟨q, vs, rfl, q1, q2, stay⟩ := seq_stay M1 r1 hs
            exact ⟨q, rfl, ⟨vs, .of q1⟩, p _ S1 H1 as1 m1 w rfl rfl s1 M1 (wk_list hr q2 stay)⟩
          | false =>
            refine .inr (.inl ⟨env, m, _, e1, H0, S0, P, S, as, M, EN, fun v S1 H1 as1 s1 M1 r1 => ?_⟩)
            obtain ⟨q, vs, rfl, q1, q2, stay⟩ := seq_stay M1 r1 hs
            exact ⟨q, rfl, ⟨vs, .of q1⟩, p _ S1 H1 as1 m1 w rfl rfl s1 M1 (wk_tup hr q2 stay)⟩
      · cases t1'
    | none =>
      simp only [hs] at t1'
      cases w with
      | c _ => cases t1'
      | d x =>
        cases x with
        | str z =>
          dsimp only at t1'
          split at t1'
          · rename_i hc
            cases t1'
            cases tg with
            | tp is => cases hc
            | nm i =>
              refine .inr (.inr ⟨env, m, _, e1, H0, S0, P, S, as, M, EN, fun v S1 H1 as1 s1 M1 r1 => ?_⟩)
              exact ⟨z, WOk.str r1, p _ S1 H1 as1 m1 (.d .non) rfl rfl s1 M1 wk_str⟩
          · cases t1'
        | _ => cases t1'
theorem si_rng1 {a : U.E} (ha : SE G a) : SI G (.rng1 a) := by
  intro ct x X E tg e' hm W he
  cases x with
  | Call fn es kws p =>
    cases fn with
    | Name y p' =>
      rcases es with _ | ⟨e1, _ | ⟨e2, es⟩⟩ <;> rcases kws with _ | ⟨k, kws⟩ <;> try exact Bool.noConfusion hm
      have hm' : (decide (y = "range") && gl ct.sc y && ct.bl.contains y && nostar e1 && mt a ct e1) = true := hm
      simp only [Bool.and_eq_true, decide_eq_true_eq] at hm'
      obtain ⟨⟨⟨⟨rfl, m1⟩, m2⟩, m3⟩, m4⟩ := hm'
      obtain ⟨g1, g2, g3⟩ := gl_ok W.sc m1
      refine PI.imp (pi_range1 g1 (W.bl _ m2) (pa_one (ha ct e1 X E m4 W) m3) (star_cons m3)) fun σ H R h => ?_
      obtain ⟨env, m, o, H0, S0, P, S, as, h1, M, EN, p⟩ := h
      unfold rows at h1
      obtain ⟨i, rfl⟩ : ∃ i, tg = .nm i := by
        cases tg with
        | nm i => exact ⟨i, rfl⟩
        | tp is => cases h1
      rw [if_pos (show tgN (.nm i) = true from rfl)] at h1
      obtain ⟨o1, e1, t1⟩ := bnd_inv h1
      refine ⟨env, m, o1, e1, PostI.go t1 M EN p fun w m1 v S1 H1 as1 s1 M1 EN1 r1 hf p1 => ?_⟩
      obtain ⟨q, hq, rfl⟩ := ask_inv hf
      cases w with
      | c _ => cases hq
      | d x =>
        cases x with
        | int n =>
          dsimp only at hq
          split at hq
          · rename_i hn
            cases hq
            refine ⟨n, by rw [WOk.int r1], ?_, ?_, p1 _ S1 H1 as1 m1 (.d .non) rfl rfl Stp.rfl' M1 wk_range⟩
            · have := hn.1; unfold BIG at this; omega
            · have := hn.2; unfold BIG at this; omega
          · cases hq
        | _ => cases hq
    | _ => exact Bool.noConfusion hm
  | _ => exact Bool.noConfusion hm
theorem si_rng2 {a b : U.E} (ha : SE G a) (hb : SE G b) : SI G (.rng2 a b) := by
  intro ct x X E tg e' hm W he
  cases x with
  | Call fn es kws p =>
    cases fn with
    | Name y p' =>
      rcases es with _ | ⟨e1, _ | ⟨e2, _ | ⟨e3, es⟩⟩⟩ <;> rcases kws with _ | ⟨k, kws⟩ <;> try exact Bool.noConfusion hm
      have hm' : (decide (y = "range") && gl ct.sc y && ct.bl.contains y && nostar e1 && nostar e2 && mt a ct e1 && mt b ct e2) = true := hm
      simp only [Bool.and_eq_true, decide_eq_true_eq] at hm'
      obtain ⟨⟨⟨⟨⟨⟨rfl, m1⟩, m2⟩, m3⟩, m4⟩, m5⟩, m6⟩ := hm'
      obtain ⟨g1, g2, g3⟩ := gl_ok W.sc m1
      have s2 : starEach [e2] X.env = [(false, eval e2 X.env)] := star_cons m4
      refine PI.imp (pi_range2 g1 (W.bl _ m2) (pa_two (ha ct e1 X E m5 W) (hb ct e2 X E m6 W) m3 m4) (by rw [star_cons m3, s2]) s2) fun σ H R h => ?_
      obtain ⟨env, m, o, H0, S0, P, S, as, h1, M, EN, p⟩ := h
      unfold rows at h1
      obtain ⟨i, rfl⟩ : ∃ i, tg = .nm i := by
        cases tg with
        | nm i => exact ⟨i, rfl⟩
        | tp is => cases h1
      rw [if_pos (show tgN (.nm i) = true from rfl)] at h1
      obtain ⟨o1, e1, t1⟩ := bnd_inv h1
      refine ⟨env, m, o1, e1, PostI.go t1 M EN p fun w m1 v S1 H1 as1 s1 M1 EN1 r1 hf p1 => ?_⟩
      obtain ⟨o2, e2, t2⟩ := bnd_inv hf
      refine ⟨env, m1, o2, e2, PostI.go t2 M1 EN1 p1 fun w2 m2 v2 S2 H2 as2 s2 M2 EN2 r2 hf2 p2 => ?_⟩
      obtain ⟨q, hq, rfl⟩ := ask_inv hf2
      cases w with
      | c _ => cases hq
      | d x =>
        cases x with
        | int n =>
          cases w2 with
          | c _ => cases hq
          | d x2 =>
            cases x2 with
            | int n2 =>
              dsimp only at hq
              split at hq
              · rename_i hn
                cases hq
                refine ⟨n, n2, by rw [WOk.int r1, WOk.int r2], ?_, p2 _ S2 H2 as2 m2 (.d .non) rfl rfl Stp.rfl' M2 wk_range⟩
                unfold BIG at hn
                omega
              · cases hq
            | _ => cases hq
        | _ => cases hq
    | _ => exact Bool.noConfusion hm
  | _ => exact Bool.noConfusion hm
theorem si_enu {a : U.E} (ha : SE G a) : SI G (.enu a) := by
  intro ct x X E tg e' hm W he
  cases x with
  | Call fn es kws p =>
    cases fn with
    | Name y p' =>
      rcases es with _ | ⟨e1, _ | ⟨e2, es⟩⟩ <;> rcases kws with _ | ⟨k, kws⟩ <;> try exact Bool.noConfusion hm
      have hm' : (decide (y = "enumerate") && gl ct.sc y && ct.bl.contains y && nostar e1 && mt a ct e1) = true := hm
      simp only [Bool.and_eq_true, decide_eq_true_eq] at hm'
      obtain ⟨⟨⟨⟨rfl, m1⟩, m2⟩, m3⟩, m4⟩ := hm'
      obtain ⟨g1, g2, g3⟩ := gl_ok W.sc m1
      by_cases ht : tgP tg = true
      · obtain ⟨i, j, rfl⟩ : ∃ i j, tg = .tp [i, j] := by
          unfold tgP at ht
          split at ht
          · exact ⟨_, _, rfl⟩
          · cases ht
        obtain ⟨es, kk, pp, rfl⟩ := he _ rfl
        refine PI.imp (pi_enum g1 (W.bl _ m2) (pa_one (ha ct e1 X E m4 W) m3) (star_cons m3)) fun σ H R h => ?_
        obtain ⟨env, m, o, H0, S0, P, S, as, h1, M, EN, p⟩ := h
        unfold rows at h1
        rw [if_pos ht] at h1
        obtain ⟨o1, e1, t1⟩ := bnd_inv h1
        refine ⟨env, m, o1, e1, PostI.go t1 M EN p fun w m1 v S1 H1 as1 s1 M1 EN1 r1 hf p1 => ?_⟩
        cases hs : seqOf w m1 with
        | none => simp only [hs] at hf; cases hf
        | some q =>
          obtain ⟨b, ws⟩ := q
          simp only [hs] at hf
          cases b with
          | false => cases hf
          | true =>
            dsimp only at hf
            split at hf
            · cases hf
              obtain ⟨q, vs, rfl, q1, q2, stay⟩ := seq_stay M1 r1 hs
              refine ⟨q, vs, rfl, .of q1, p1 _ S1 H1 as1 m1 w rfl rfl Stp.rfl' M1 ?_⟩
              refine wk_pair (walk_enum (xs := vs)) (by rw [enumR_len, q2.length]) (fun m' as' S' H' s M' => .of (stay m' as' S' H' s M')) fun i r x y hi hx hy => ?_
              obtain ⟨w', hw', rfl⟩ := enumR_at _ _ _ _ hi
              obtain ⟨v', hv', hvw⟩ := wos_get q2 hw'
              rw [hy] at hv'
              cases hv'
              cases hx
              exact ⟨_, _, rfl, by rw [Nat.zero_add]; exact Rp.int _, hvw⟩
            · cases hf
      · refine ⟨fun pins s σ H R I h => ?_⟩
        obtain ⟨env, m, o, H0, S0, P, S, as, h1, M, EN, p⟩ := h
        unfold rows at h1
        rw [if_neg ht] at h1
        cases h1
    | _ => exact Bool.noConfusion hm
  | _ => exact Bool.noConfusion hm
theorem frz1_inv {w : W} {m : Mem} {o : Out D} (h : frz1 w m = some o) : ∃ x m1, fz FZ w m = some (x, m1) ∧ o = .ok x m1 := by
  unfold frz1 at h
  cases e : fz FZ w m with
  | none => rw [e] at h; cases h
  | some q =>
    obtain ⟨x, m1⟩ := q
    rw [e] at h
    cases h
    exact ⟨x, m1, rfl, rfl⟩
theorem si_zip {a b : U.E} (ha : SE G a) (hb : SE G b) : SI G (.zip a b) := by
  intro ct x X E tg e' hm W he
  cases x with
  | Call fn es kws p =>
    cases fn with
    | Name y p' =>
      rcases es with _ | ⟨e1, _ | ⟨e2, _ | ⟨e3, es⟩⟩⟩ <;> rcases kws with _ | ⟨k, kws⟩ <;> try exact Bool.noConfusion hm
      have hm' : (decide (y = "zip") && gl ct.sc y && ct.bl.contains y && nostar e1 && nostar e2 && mt a ct e1 && mt b ct e2) = true := hm
      simp only [Bool.and_eq_true, decide_eq_true_eq] at hm'
      obtain ⟨⟨⟨⟨⟨⟨rfl, m1⟩, m2⟩, m3⟩, m4⟩, m5⟩, m6⟩ := hm'
      obtain ⟨g1, g2, g3⟩ := gl_ok W.sc m1
      have s2 : starEach [e2] X.env = [(false, eval e2 X.env)] := star_cons m4
      by_cases ht : tgP tg = true
      · obtain ⟨i, j, rfl⟩ : ∃ i j, tg = .tp [i, j] := by
          unfold tgP at ht
          split at ht
          · exact ⟨_, _, rfl⟩
          · cases ht
        obtain ⟨es, kk, pp, rfl⟩ := he _ rfl
        refine PI.imp (pi_zip g1 (W.bl _ m2) (pa_two (ha ct e1 X E m5 W) (hb ct e2 X E m6 W) m3 m4) (star_cons m3) (by rw [s2]; rfl)) fun σ H R h => ?_
        obtain ⟨env, m, o, H0, S0, P, S, as, h1, M, EN, p⟩ := h
        unfold rows at h1
        rw [if_pos ht] at h1
        obtain ⟨o1, e1, t1⟩ := bnd_inv h1
        refine ⟨env, m, o1, e1, PostI.go t1 M EN p fun w m1 v S1 H1 as1 s1 M1 EN1 r1 hf p1 => ?_⟩
        obtain ⟨o2, e2, t2⟩ := bnd_inv hf
        refine ⟨env, m1, o2, e2, PostI.go t2 M1 EN1 p1 fun w2 m2 v2 S2 H2 as2 s2 M2 EN2 r2 hf2 p2 => ?_⟩
        obtain ⟨o3, e3, t3⟩ := bnd_inv hf2
        obtain ⟨x', m3, f3, rfl⟩ := frz1_inv e3
        obtain ⟨S3, M3, s3, r3⟩ := fz_ok FZ _ _ _ _ _ _ _ _ _ _ _ f3 M2 (WOk.mono s2.ex s2.pre r1)
        obtain ⟨o4, e4, t4⟩ := bnd_inv (show bnd (frz1 w2) _ m3 = some o from t3)
        obtain ⟨y', m4, f4, rfl⟩ := frz1_inv e4
        obtain ⟨S4, M4, s4, r4⟩ := fz_ok FZ _ _ _ _ _ _ _ _ _ _ _ f4 M3 (WOk.mono s3.ex s3.pre r2)
        obtain ⟨q, hq, rfl⟩ := ask_inv (show ask _ m4 = some o from t4)
        split at hq
        · rename_i xs ys
          split at hq
          · cases hq
            cases (Rp.mono s4.ex r3) with
            | @lst qa vsa _ h1 h2 =>
              cases r4 with
              | @lst qb vsb _ h3 h4 =>
                refine ⟨qa, qb, vsa, vsb, rfl, .of (M4.sub _ _ h1), .of (M4.sub _ _ h3), p2 _ S4 H2 as2 m4 (.d .non) rfl rfl (s3.trans s4) M4 ?_⟩
                have l1 : vsa.length = xs.length := (Rps.len h2).symm
                have l2 : vsb.length = ys.length := (Rps.len h4).symm
                refine wk_pair (walk_zip (xs := vsa) (ys := vsb) (n := (zipR (xs.map .d) (ys.map .d)).length) (by rw [zipR_len, List.length_map, List.length_map, l1, l2])) rfl (fun m' as' S' H' s M' => ⟨.of (M'.sub _ _ (s.ex _ _ h1)), .of (M'.sub _ _ (s.ex _ _ h3))⟩) fun i r x y hi hx hy => ?_
                obtain ⟨wx, wy, g1, g2, rfl⟩ := zipR_at _ _ _ _ hi
                obtain ⟨v1, q1, q2⟩ := wos_get (Rps.ws (as := as2) h2) g1
                obtain ⟨v2, q3, q4⟩ := wos_get (Rps.ws (as := as2) h4) g2
                rw [hx] at q1
                rw [hy] at q3
                cases q1
                cases q3
                exact ⟨_, _, rfl, q2, q4⟩
          · cases hq
        · cases hq
      · refine ⟨fun pins s σ H R I h => ?_⟩
        obtain ⟨env, m, o, H0, S0, P, S, as, h1, M, EN, p⟩ := h
        unfold rows at h1
        rw [if_neg ht] at h1
        cases h1
    | _ => exact Bool.noConfusion hm
  | _ => exact Bool.noConfusion hm
end
end U
set_option Elab.async false
set_option linter.all false
set_option maxRecDepth 100000
set_option maxHeartbeats 4000000
set_option autoImplicit false
/-! U18: comprehensions; every expression. -/
namespace U
open Evl (Ex)
open PySem L2
theorem bnd_ok {α β : Type} {x : Ev α} {f : α → Ev β} {m m2 : Mem} {b : β} (h : bnd x f m = some (.ok b m2)) : ∃ a m1, x m = some (.ok a m1) ∧ f a m1 = some (.ok b m2) := by
  obtain ⟨o1, e1, t1⟩ := bnd_inv h
  cases o1 with
  | ok a m1 => exact ⟨a, m1, e1, t1⟩
  | exc c fs m1 => cases t1
theorem relab_at {scope sc : Scope} {x : Str} {k : NameKind} (h : scope.names.lookup x = some k) (hk : k ≠ .free) : (relab scope sc).names.lookup x = some k := by
  unfold relab
  dsimp only
  have key : ∀ l : List (Str × NameKind), l.lookup x = some k → (l.map fun (n, k) => if (k == .free && sc.kind == .function && sc.names.lookup n == some .cell) then (n, .cell) else (n, k)).lookup x = some k := by
    intro l
    induction l with
    | nil => intro h; cases h
    | cons p l ih =>
      obtain ⟨n, q⟩ := p
      intro h
      rw [List.map_cons]
      simp only [List.lookup] at h
      cases e : x == n with
      | true =>
        rw [e] at h
        have h : q = k := Option.some.inj h
        subst h
        have : (q == NameKind.free) = false := by cases q <;> first | rfl | exact absurd rfl hk
        simp [this, List.lookup, e]
      | false =>
        rw [e] at h
        have hh := ih h
        dsimp only
        split
        · simp only [List.lookup, e]; exact hh
        · simp only [List.lookup, e]; exact hh
  exact key _ h
theorem blk_sto {X : Cx} {s : Shared} {H : Hp} {scope : Scope} {C : Addr} {cl : List (Str × Addr)} {fp : List Addr} : StO (X.blk s H scope (compEnvC scope cl C X.env) fp) scope := by
  intro x h
  unfold loc at h
  simp only [Bool.or_eq_true, decide_eq_true_eq] at h
  have e : (X.blk s H scope (compEnvC scope cl C X.env) fp).env.scope = relab scope X.env.scope := rfl
  rcases h with h | h
  · have q := relab_at (sc := X.env.scope) h (by simp)
    exact ⟨.inl (by rw [e]; exact q), .inr (by rw [e]; exact q)⟩
  · have q := relab_at (sc := X.env.scope) h (by simp)
    refine ⟨.inr (by rw [e]; exact q), .inl ?_⟩
    show (scope.names.lookup x == some .cell) = true
    rw [h]
    rfl
theorem Wd.blk {X : Cx} {ct : Ct} {G : Gm} {E : XK} (W : Wd X ct G E) (s : Shared) (H : Hp) (scope : Scope) (C : Addr) (cl : List (Str × Addr)) (fp : List Addr) : Wd (X.blk s H scope (compEnvC scope cl C X.env) fp) { ct with sc := relab scope ct.sc } G (fun _ _ _ => False) where
  N := W.N
  nd := W.nd
  sc := by rw [← W.sc]; rfl
  calm := W.calm
  guards := W.guards
  room := W.room
  bl := W.bl
  co := W.co
  fn := W.fn
  ty := fun t x h1 h2 => W.ty t x h1 (by cases t <;> exact h2)
  isi := W.isi
  fld := W.fld
  ps := fun pins σ H s e s' I h => by
    obtain ⟨_, _, _, _, _, _, _, _, _, _, _, _, z⟩ := h
    exact z.elim
section
variable {G : Gm}
/-- the turn of a comprehension -/
def lcTurn (G : Gm) (tg : Tg) (cnd elt : U.E) (own : List Nat) (env : En) : List W → Ev (Option W) := fun r => bnd (ev G cnd (setRow tg r (wipeE own env))) fun t => bnd (ask (truth t)) fun b =>
  if b then bnd (ev G elt (setRow tg r (wipeE own env))) fun w => ret (some w) else ret none
/-- at n, behind all that was: the list that is made -/
structure LcAt (tb : Tb) (K : PySem.W.Frag) (H0 S0 : Hp) (P : Option Addr) (m1 : Mem) (as1 : List (Option Addr)) (S1 H1 : Hp) (D : Addr) (m : Mem) (as : List (Option Addr)) (S H : Hp) : Prop where
  M : MOk tb K H0 S0 P m as S H
  s : Stp m1 as1 S1 H1 m as S H
  at_ : as[m1.length]? = some (some D)
theorem LcAt.step {tb : Tb} {K : PySem.W.Frag} {H0 S0 S1 H1 S H S' H' : Hp} {P : Option Addr} {m1 m m' : Mem} {as1 as as' : List (Option Addr)} {D : Addr} (L : LcAt tb K H0 S0 P m1 as1 S1 H1 D m as S H) (s : Stp m as S H m' as' S' H') (M : MOk tb K H0 S0 P m' as' S' H') :
    LcAt tb K H0 S0 P m1 as1 S1 H1 D m' as' S' H' := ⟨M, L.s.trans s, pre_get s.pre L.at_⟩
theorem LcAt.push {tb : Tb} {K : PySem.W.Frag} {H0 S0 S1 H1 S H : Hp} {P : Option Addr} {m1 m m' : Mem} {as1 as : List (Option Addr)} {D : Addr} {w : W} {v : V} (L : LcAt tb K H0 S0 P m1 as1 S1 H1 D m as S H) (l1 : as1.length = m1.length) (h : pushC m1.length w m = some (.ok () m')) (hw : WOk tb K S as v w) :
    ∃ acc, H D = some (.lst acc) ∧ acc.length < sizeLine ∧ LcAt tb K H0 S0 P m1 as1 S1 H1 D m' as S (upd H D (.lst (acc ++ [v]))) := by
  unfold pushC at h
  cases hm : m[m1.length]? with
  | none => rw [hm] at h; cases h
  | some c =>
    rw [hm] at h
    cases c with
    | pin ws =>
      dsimp only at h
      split at h
      · rename_i hs
        cases h
        obtain ⟨hS, acc, hH, r⟩ := L.M.cell _ _ _ hm L.at_
        refine ⟨acc, hH, ?_, ?_⟩
        · have := big_le hs
          rw [r.length]
          omega
        · have hlt : m1.length < m.length := (List.getElem?_eq_some_iff.mp hm).1
          have M1 := L.M.recell (c' := .lst ws) hm (by simp) (by simp) fun a h => h
          have e1 : (m.set m1.length (.lst ws))[m1.length]? = some (.lst ws) := List.getElem?_set_self hlt
          obtain ⟨M2, s2⟩ := M1.write (c' := .lst (ws ++ [w])) (o' := .lst (acc ++ [v])) e1 L.at_ hS (fun b z => by rw [hH] at z; cases z) (fun q b z => by rw [hH] at z; cases z) (fun _ z => by cases z) (fun _ => ⟨⟨_, rfl⟩, fun z => by cases z⟩)
            ⟨hS, _, upd_same, r.app (.cons hw .nil)⟩
          rw [List.set_set] at M2
          have e2 : (m.set m1.length (.lst (ws ++ [w])))[m1.length]? = some (.lst (ws ++ [w])) := List.getElem?_set_self hlt
          have M3 := M2.recell (c' := .pin (ws ++ [w])) e2 (by simp) (by simp) fun a h => h
          rw [List.set_set] at M3
          refine ⟨M3, ⟨L.s.ex, L.s.pre, fun n us a e ea => ?_⟩, L.at_⟩
          obtain ⟨q1, q2⟩ := L.s.pin n us a e ea
          have hn : n < m1.length := (List.getElem?_eq_some_iff.mp e).1
          refine ⟨?_, ?_⟩
          · rw [List.getElem?_set_ne (by omega)]
            exact q1
          · rw [upd_ne]
            · exact q2
            · rintro rfl
              have := nodup_get L.M.nd (pre_get L.s.pre ea) L.at_
              omega
      · cases h
    | _ => cases h
theorem lc_parts {tg : Tg} {it cnd elt : U.E} {own : List Nat} (hi : SI G it) (hc : ST G cnd) (he : SE G elt) (ct : Ct) (x : Expr) (X : Cx) (E : XK) (hm : mt (.lc tg it cnd elt own) ct x = true) (W : Wd X ct G E) :
    ∃ (el tg' iter : Expr) (ifs : List Expr) (scope : Scope) (pos : Pos), x = .ListComp el [⟨tg', iter, ifs, 0⟩] scope pos ∧ PI X tg' iter (tI G ct.tb X.K E it tg) ∧ BlkOk X.N X.env.scope scope (ownOf ct own) ∧
      (∀ (s : Shared) (H : Hp) (C : Addr) (cl : List (Str × Addr)) (fp : List Addr), PG (X.blk s H scope (compEnvC scope cl C X.env) fp) tg' (gT X.K tg)) ∧
      (∀ (s : Shared) (H : Hp) (C : Addr) (cl : List (Str × Addr)) (fp : List Addr), PTs (X.blk s H scope (compEnvC scope cl C X.env) fp) ifs (tVt G ct.tb X.K (fun _ _ _ => False) cnd)) ∧
      (∀ (s : Shared) (H : Hp) (C : Addr) (cl : List (Str × Addr)) (fp : List Addr), PE (X.blk s H scope (compEnvC scope cl C X.env) fp) el (tV G ct.tb X.K (fun _ _ _ => False) elt)) ∧ (∀ z, foldedSetIterable iter X.env z = pure z) ∧
      ∀ σ H Q, tV G ct.tb X.K E (.lc tg it cnd elt own) σ H Q → tLc (tI G ct.tb X.K E it tg) (gT X.K tg) (tVt G ct.tb X.K (fun _ _ _ => False) cnd) (tV G ct.tb X.K (fun _ _ _ => False) elt) ((ownOf ct own).map (·.2)) σ H Q := by
  cases x with
  | ListComp el gs scope pos =>
    rcases gs with _ | ⟨⟨tg', iter, ifs, as⟩, _ | ⟨g2, gs⟩⟩ <;> try exact Bool.noConfusion hm
    rotate_left
    · rcases as with (_ | n) | n <;> exact Bool.noConfusion hm
    rcases as with (_ | n) | n
    rotate_left
    · exact Bool.noConfusion hm
    · exact Bool.noConfusion hm
    · have hm' : (mti it ct iter && noSet iter && blkC ct.N ct.sc scope (ownOf ct own) && mtTg { ct with sc := scope } tg tg' && (tgIx tg).all (own.contains ·) && mt elt { ct with sc := relab scope ct.sc } el) = true ∧
          ((ifs = [] ∧ cnd = .cst (.bl true)) ∨ ∃ c, ifs = [c] ∧ tstOk cnd = true ∧ mt cnd { ct with sc := relab scope ct.sc } c = true) := by
        rcases ifs with _ | ⟨c, _ | ⟨c2, ifs⟩⟩
        · obtain ⟨h1, h2⟩ := Bool.and_eq_true_iff.mp (show (_ && _) = true from hm)
          refine ⟨h1, .inl ⟨rfl, ?_⟩⟩
          dsimp only at h2
          split at h2
          · rfl
          · cases h2
        · obtain ⟨h1, h2⟩ := Bool.and_eq_true_iff.mp (show (_ && (tstOk cnd && mt cnd { ct with sc := relab scope ct.sc } c)) = true from hm)
          obtain ⟨h3, h4⟩ := Bool.and_eq_true_iff.mp h2
          exact ⟨h1, .inr ⟨c, rfl, h3, h4⟩⟩
        · obtain ⟨h1, h2⟩ := Bool.and_eq_true_iff.mp (show (_ && false) = true from hm)
          cases h2
      obtain ⟨hm', m7⟩ := hm'
      simp only [Bool.and_eq_true] at hm'
      obtain ⟨⟨⟨⟨⟨m1, m2⟩, m3⟩, m4⟩, hix⟩, m6⟩ := hm'
      have hok : BlkOk X.N X.env.scope scope (ownOf ct own) := by rw [W.N, W.sc]; exact blkOk_by m3
      have hown : (ownOf ct own).map (·.2) = own := by unfold ownOf; rw [List.map_map]; simp [Function.comp_def]
      have htg : ∀ is, tg = .tp is → ∃ es k p, tg' = .Tuple es k p := by
        intro is e
        subst e
        cases tg' with
        | Tuple es k p => exact ⟨es, k, p, rfl⟩
        | _ => exact Bool.noConfusion m4
      have hI := hi ct iter X E tg tg' m1 W htg
      have hg : ∀ (s : Shared) (H : Hp) (C : Addr) (cl : List (Str × Addr)) (fp : List Addr), PG (X.blk s H scope (compEnvC scope cl C X.env) fp) tg' (gT X.K tg) := fun s H C cl fp =>
        tg_pg (X := X.blk s H scope (compEnvC scope cl C X.env) fp) (ct := ct) W.N W.nd W.calm blk_sto m4
      have hE : ∀ (s : Shared) (H : Hp) (C : Addr) (cl : List (Str × Addr)) (fp : List Addr), PE (X.blk s H scope (compEnvC scope cl C X.env) fp) el (tV G ct.tb X.K (fun _ _ _ => False) elt) := fun s H C cl fp =>
        he { ct with sc := relab scope ct.sc } el _ _ m6 (W.blk s H scope C cl fp)
      have hT : ∀ (s : Shared) (H : Hp) (C : Addr) (cl : List (Str × Addr)) (fp : List Addr), PTs (X.blk s H scope (compEnvC scope cl C X.env) fp) ifs (tVt G ct.tb X.K (fun _ _ _ => False) cnd) := by
        intro s H C cl fp
        rcases m7 with ⟨rfl, rfl⟩ | ⟨c, rfl, h3, h4⟩
        · refine ⟨fun pins s σ H Q I h => (pts_nil).run pins s σ H Q I ?_⟩
          obtain ⟨env, m, o, h1, H0, S0, P, S, as, M, EN, p⟩ := h
          unfold ev at h1
          cases h1
          exact p true S H as Stp.rfl' M rfl
        · exact pts_one (hc _ c _ _ h3 h4 (W.blk s H scope C cl fp)).1
      refine ⟨el, tg', iter, ifs, scope, pos, rfl, hI, hok, hg, hT, hE, fun z => noSet_fold m2 _ z, fun σ H Q h => ?_⟩
      rw [hown]
      obtain ⟨env, m, o, h1, H0, S0, P, S, as, M, EN, p⟩ := h
      unfold ev at h1
      obtain ⟨o1, e1, t1⟩ := bnd_inv h1
      refine ⟨env, m, o1, H0, S0, P, S, as, e1, M, EN, ?_⟩
      cases o1 with
      | exc c fs m1 => cases t1; exact p
      | ok q m' =>
        obtain ⟨kp, rs⟩ := q
        intro J S1 H1 as1 m1 w hk hm1 s1 M1 wk D hD
        have t1' : lcRun (lcTurn G tg cnd elt own env) kp rs m' = some o := t1
        dsimp only at hk hm1
        have hMp : MOk ct.tb X.K H0 S0 P m' as1 S1 H1 := by rw [hm1]; exact M1.pinC kp
        obtain ⟨n, Gd, Y, wk0, hn, hG, hY⟩ := wk
        -- the loop's own end
        unfold lcRun at t1'
        cases hl : lcLoop m'.length (lcTurn G tg cnd elt own env) rs (m' ++ [.pin []]) with
        | none => rw [hl] at t1'; cases t1'
        | some ol =>
          rw [hl] at t1'
          cases ol with
          | exc c fs ml => cases t1'
          | ok u mf =>
            dsimp only at t1'
            cases hf : mf[m'.length]? with
            | none => rw [hf] at t1'; cases t1'
            | some cf =>
              rw [hf] at t1'
              cases cf with
              | pin wf =>
                dsimp only at t1'
                cases hu : unpin kp (mf.set m'.length (.lst wf)) with
                | none => rw [hu] at t1'; cases t1'
                | some m2 =>
                  rw [hu] at t1'
                  cases t1'
                  have l1 : as1.length = m'.length := hMp.len
                  have hm0 : m' ≠ [] := fun z => by
                    have h0 := hMp.p0
                    rw [z] at l1
                    rw [List.eq_nil_of_length_eq_zero l1] at h0
                    cases h0
                  refine lc_it wk0 (fun i H => ∃ m as S, LcAt ct.tb X.K H0 S0 P m' as1 S1 H1 D m as S H ∧ lcLoop m'.length (lcTurn G tg cnd elt own env) (rs.drop i) m = some (.ok () mf)) ?_ ?_ ?_ ?_
                  · obtain ⟨f1, f2, f3⟩ := hMp.fresh hD
                    obtain ⟨MD, sD⟩ := hMp.alloc (p := D) (o := .lst []) (c := .pin []) hD ⟨f2, [], upd_same, .nil⟩ hm0
                    exact ⟨_, _, _, ⟨MD, sD, by rw [← l1, List.getElem?_append_right (Nat.le_refl _)]; simp⟩, hl⟩
                  · rintro i H2 hi ⟨m3, as3, S3, L, _⟩
                    exact hG _ _ _ _ L.s L.M
                  · rintro i x H2 H3 hi ⟨m3, as3, S3, L, hloop⟩ y
                    have hir : i < rs.length := by rw [← hn]; exact hi
                    have hri : rs[i]? = some rs[i] := List.getElem?_eq_getElem hir
                    obtain ⟨S4, vs, M4, s4, rv, rw4⟩ := hY i rs[i] x m3 as3 S3 H2 H3 hri L.s L.M y
                    have L4 := L.step s4 M4
                    rw [List.drop_eq_getElem_cons hir] at hloop
                    unfold lcLoop at hloop
                    obtain ⟨ow, m5, h5, h6⟩ := bnd_ok hloop
                    obtain ⟨⟨⟩, m6, h7, h8⟩ := bnd_ok h6
                    refine gT_of rv ⟨?_, ?_⟩
                    · refine (wipe_at (by rw [setV_len]) fun j hj => setV_out _ _ _ fun z => hj ?_).trans (wipe_wipe σ own)
                      have := List.all_eq_true.mp hix j z
                      simpa using this
                    · -- the turn
                      have EN4 : EnvOk ct.tb X.K S4 as3 (setV (tgIx tg) vs (L2.wipe σ own)) (setRow tg rs[i] (wipeE own env)) := by
                        rw [setRow_eq]
                        exact (((EN.mono s1.ex s1.pre).mono L4.s.ex L4.s.pre).wipe own).setT rw4
                      unfold lcTurn at h5
                      have h5' : bnd (bnd (ev G cnd (setRow tg rs[i] (wipeE own env))) fun w => ask (truth w)) (fun b => if b = true then bnd (ev G elt (setRow tg rs[i] (wipeE own env))) fun w => ret (some w) else ret none) m3 = some (.ok ow m5) := by
                        rw [bnd_assoc]
                        exact h5
                      obtain ⟨b, m7, h9, h10⟩ := bnd_ok h5'
                      refine ⟨_, m3, _, h9, H0, S0, P, S4, as3, M4, EN4, fun b' S5 H5 as5 s5 M5 r5 => ?_⟩
                      have r5 : b' = b := r5
                      subst r5
                      have L5 := L4.step s5 M5
                      cases b' with
                      | false =>
                        dsimp only
                        rw [if_neg Bool.false_ne_true] at h10 ⊢
                        cases h10
                        cases h7
                        exact ⟨_, _, _, L5, h8⟩
                      | true =>
                        dsimp only
                        rw [if_pos rfl] at h10 ⊢
                        obtain ⟨we, m8, h11, h12⟩ := bnd_ok h10
                        cases h12
                        refine ⟨_, _, _, h11, H0, S0, P, S5, as5, M5, EN4.mono s5.ex s5.pre, fun ve S6 H6 as6 s6 M6 r6 => ?_⟩
                        have L6 := L5.step s6 M6
                        obtain ⟨acc, a1, a2, a3⟩ := L6.push l1 h7 r6
                        exact ⟨acc, a1, a2, _, _, _, a3, h8⟩
                  · rintro H2 ⟨m3, as3, S3, L, hloop⟩
                    rw [hn, List.drop_length] at hloop
                    cases hloop
                    have M2 := L.M.recell (c' := .lst wf) hf (by simp) (by simp) fun a h => h
                    have M3 := M2.unpin hu
                    have s3 : Stp m' as1 S1 H1 (mf.set m'.length (.lst wf)) as3 S3 H2 := ⟨L.s.ex, L.s.pre, fun n us a e ea => by
                      obtain ⟨q1, q2⟩ := L.s.pin n us a e ea
                      have hn : n < m'.length := (List.getElem?_eq_some_iff.mp e).1
                      exact ⟨by rw [List.getElem?_set_ne (by omega)]; exact q1, q2⟩⟩
                    have s4 : Stp m1 as1 S1 H1 m2 as3 S3 H2 := by
                      rw [hm1, hk] at s3
                      rw [hm1, hk] at hu
                      refine unpin_stp s3 hu
                    exact p _ _ _ _ (s1.trans s4) M3 ⟨D, L.at_, rfl⟩
              | _ => cases t1'
  | _ => exact Bool.noConfusion hm
theorem se_lc {tg : Tg} {it cnd elt : U.E} {own : List Nat} (hi : SI G it) (hc : ST G cnd) (he : SE G elt) : SE G (.lc tg it cnd elt own) := by
  intro ct x X E hm W
  obtain ⟨el, tg', iter, ifs, scope, pos, rfl, hI, hok, hg, hT, hE, hs, k⟩ := lc_parts hi hc he ct x X E hm W
  exact PE.imp (pe_lc W.calm (by rw [W.N]; exact W.nd) hI hok hg hT hE hs) k
/-! ### every expression -/
def plainT : Expr → Bool
  | .BoolOp _ _ _ => false
  | .UnaryOp .Not _ _ => false
  | .Compare _ _ _ _ => false
  | .IfExp _ _ _ _ => false
  | .NamedExpr _ _ _ => false
  | _ => true
theorem plainT_ok {x : Expr} (h : plainT x = true) (env : Env) (whole : Sem Value) : isTrue x env whole = (do let v ← whole; standAt x.pos; holding [v] (truthy v)) := by
  cases x with
  | UnaryOp op a p => cases op <;> first | rfl | exact Bool.noConfusion h
  | _ => first | rfl | exact Bool.noConfusion h
theorem st_of {e : U.E} (h : SE G e) (hx : ∀ ct x, mt e ct x = true → plainT x = true) : ST G e := by
  intro ct x X E _ hm W
  have hp := hx ct x hm
  refine ⟨st_val (h ct x X E hm W) fun whole => plainT_ok hp _ whole, fun op es p z => ?_⟩
  subst z
  exact Bool.noConfusion hp
structure All (G : Gm) (e : U.E) : Prop where
  se : SE G e
  sa : SA G e
  sk : SK G e
  so : SO G e
  st : ST G e
  si : SI G e
theorem no_sa {e : U.E} (h : ∀ ct x, mts e ct x = false) : SA G e := fun ct x X E hm W => by rw [h] at hm; cases hm
theorem no_sk {e : U.E} (h : ∀ ct x, mtk e ct x = false) : SK G e := fun ct x X E hm W => by rw [h] at hm; cases hm
theorem no_so {e : U.E} (h : ∀ ct x, mto e ct x = false) : SO G e := fun ct x X E hm W => by rw [h] at hm; cases hm
theorem no_si {e : U.E} (h : ∀ ct x, mti e ct x = false) : SI G e := fun ct x X E tg e' hm W => by rw [h] at hm; cases hm
theorem no_se {e : U.E} (h : ∀ ct x, mt e ct x = false) : SE G e ∧ ST G e := by
  refine ⟨fun ct x X E hm W => ?_, fun ct x X E _ hm W => ?_⟩
  · rw [h] at hm; cases hm
  · rw [h] at hm; cases hm
/-- a form that is neither a row nor a walk -/
theorem all_of {e : U.E} (h : SE G e) (k : ST G e) (h1 : ∀ ct x, mts e ct x = false) (h2 : ∀ ct x, mtk e ct x = false) (h3 : ∀ ct x, mto e ct x = false) (h4 : ∀ ct x, mti e ct x = false) : All G e := ⟨h, no_sa h1, no_sk h2, no_so h3, k, no_si h4⟩
theorem sound : ∀ e : U.E, All G e := by
  intro e
  induction e with
  | var i => exact all_of (se_var i) (st_of (se_var i) fun ct x hm => by cases x <;> first | rfl | exact Bool.noConfusion hm) (fun _ x => by cases x <;> rfl) (fun _ x => by cases x <;> rfl) (fun _ x => by cases x <;> rfl) (fun _ _ => rfl)
  | cst d => exact all_of (se_cst d) (st_of (se_cst d) fun ct x hm => by cases x <;> first | rfl | exact Bool.noConfusion hm) (fun _ x => by cases x <;> rfl) (fun _ x => by cases x <;> rfl) (fun _ x => by cases x <;> rfl) (fun _ _ => rfl)
  | glo n d => exact all_of (se_glo n d) (st_of (se_glo n d) fun ct x hm => by cases x <;> first | rfl | exact Bool.noConfusion hm) (fun _ x => by cases x <;> rfl) (fun _ x => by cases x <;> rfl) (fun _ x => by cases x <;> rfl) (fun _ _ => rfl)
  | nil => exact ⟨(no_se fun _ _ => rfl).1, sa_nil, sk_nil, so_nil, (no_se fun _ _ => rfl).2, no_si fun _ _ => rfl⟩
  | cons a r ha hr => exact ⟨(no_se fun _ _ => rfl).1, sa_cons ha.se hr.sa, sk_cons ha.se hr.sk, so_cons ha.se, (no_se fun _ _ => rfl).2, no_si fun _ _ => rfl⟩
  | lst a ha => exact all_of (se_lst ha.sa) (st_of (se_lst ha.sa) fun ct x hm => by cases x <;> first | rfl | exact Bool.noConfusion hm) (fun _ x => by cases x <;> rfl) (fun _ x => by cases x <;> rfl) (fun _ x => by cases x <;> rfl) (fun _ _ => rfl)
  | tup a ha => exact all_of (se_tup ha.sa) (st_of (se_tup ha.sa) fun ct x hm => by cases x <;> first | rfl | exact Bool.noConfusion hm) (fun _ x => by cases x <;> rfl) (fun _ x => by cases x <;> rfl) (fun _ x => by cases x <;> rfl) (fun _ _ => rfl)
  | dic ks vs _ _ => exact all_of se_dic (st_of se_dic fun ct x hm => by cases x <;> first | rfl | exact Bool.noConfusion hm) (fun _ x => by cases x <;> rfl) (fun _ x => by cases x <;> rfl) (fun _ x => by cases x <;> rfl) (fun _ _ => rfl)
  | neg a ha => exact all_of (se_neg ha.se) (st_of (se_neg ha.se) fun ct x hm => by
      cases x with
      | UnaryOp op _ _ => cases op <;> first | rfl | exact Bool.noConfusion hm
      | _ => first | rfl | exact Bool.noConfusion hm) (fun _ x => by cases x <;> rfl) (fun _ x => by cases x <;> rfl) (fun _ x => by cases x <;> rfl) (fun _ _ => rfl)
  | not a ha => exact all_of (se_not ha.se) (st_not ha.st) (fun _ x => by cases x <;> rfl) (fun _ x => by cases x <;> rfl) (fun _ x => by cases x <;> rfl) (fun _ _ => rfl)
  | inv a _ => exact all_of (no_se fun _ _ => rfl).1 (no_se fun _ _ => rfl).2 (fun _ x => by cases x <;> rfl) (fun _ x => by cases x <;> rfl) (fun _ x => by cases x <;> rfl) (fun _ _ => rfl)
  | bin o a b ha hb => exact all_of (se_bin ha.se hb.se) (st_of (se_bin ha.se hb.se) fun ct x hm => by cases x <;> first | rfl | exact Bool.noConfusion hm) (fun _ x => by cases x <;> rfl) (fun _ x => by cases x <;> rfl) (fun _ x => by cases x <;> rfl) (fun _ _ => rfl)
  | and a b ha hb => exact all_of (se_and ha.se hb.se) (st_and ha.st hb.st) (fun _ x => by cases x <;> rfl) (fun _ x => by cases x <;> rfl) (fun _ x => by cases x <;> rfl) (fun _ _ => rfl)
  | or a b ha hb => exact all_of (se_or ha.se hb.se) (st_or ha.st hb.st) (fun _ x => by cases x <;> rfl) (fun _ x => by cases x <;> rfl) (fun _ x => by cases x <;> rfl) (fun _ _ => rfl)
  | cmp o a b ha hb => exact all_of (se_cmp ha.se hb.se).1 (se_cmp ha.se hb.se).2 (fun _ x => by cases x <;> rfl) (fun _ x => by cases x <;> rfl) (fun _ x => by cases x <;> rfl) (fun _ _ => rfl)
  | chn o o' a b c ha hb hc => exact all_of (se_chn ha.se hb.se hc.se).1 (se_chn ha.se hb.se hc.se).2 (fun _ x => by cases x <;> rfl) (fun _ x => by cases x <;> rfl) (fun _ x => by cases x <;> rfl) (fun _ _ => rfl)
  | ife c a b hc ha hb => exact all_of (se_ife hc.st ha.se hb.se) (fun ct x X E ht hm W => Bool.noConfusion ht) (fun _ x => by cases x <;> rfl) (fun _ x => by cases x <;> rfl) (fun _ x => by cases x <;> rfl) (fun _ _ => rfl)
  | call f as ks kas ha hk => exact all_of (se_call ha.sa hk.sk) (st_of (se_call ha.sa hk.sk) fun ct x hm => by cases x <;> first | rfl | exact Bool.noConfusion hm) (fun _ x => by cases x <;> rfl) (fun _ x => by cases x <;> rfl) (fun _ x => by cases x <;> rfl) (fun _ _ => rfl)
  | blt f as ha => exact all_of (se_blt ha.sa) (st_of (se_blt ha.sa) fun ct x hm => by cases x <;> first | rfl | exact Bool.noConfusion hm) (fun _ x => by cases x <;> rfl) (fun _ x => by cases x <;> rfl) (fun _ x => by cases x <;> rfl) (fun _ _ => rfl)
  | lmt f o as ho ha => exact all_of (se_lmt ho.se ha.sa) (st_of (se_lmt ho.se ha.sa) fun ct x hm => by cases x <;> first | rfl | exact Bool.noConfusion hm) (fun _ x => by cases x <;> rfl) (fun _ x => by cases x <;> rfl) (fun _ x => by cases x <;> rfl) (fun _ _ => rfl)
  | mth f o as ks kas _ _ _ => exact all_of (no_se fun _ _ => rfl).1 (no_se fun _ _ => rfl).2 (fun _ x => by cases x <;> rfl) (fun _ x => by cases x <;> rfl) (fun _ x => by cases x <;> rfl) (fun _ _ => rfl)
  | isi a ts ha => exact all_of (se_isi ha.se) (st_of (se_isi ha.se) fun ct x hm => by
      cases x <;> first | rfl | exact Bool.noConfusion hm | (rcases ts with _ | ⟨t, _ | ⟨t', ts⟩⟩ <;> exact Bool.noConfusion hm)) (fun _ x => by cases x <;> rfl) (fun _ x => by cases x <;> rfl) (fun _ x => by cases x <;> rfl) (fun _ _ => rfl)
  | fld o f ho => exact all_of (se_fld ho.se) (st_of (se_fld ho.se) fun ct x hm => by cases x <;> first | rfl | exact Bool.noConfusion hm) (fun _ x => by cases x <;> rfl) (fun _ x => by cases x <;> rfl) (fun _ x => by cases x <;> rfl) (fun _ _ => rfl)
  | idx a b ha hb => exact all_of (se_idx ha.se hb.se) (st_of (se_idx ha.se hb.se) fun ct x hm => by cases x <;> first | rfl | exact Bool.noConfusion hm) (fun _ x => by cases x <;> rfl) (fun _ x => by cases x <;> rfl) (fun _ x => by cases x <;> rfl) (fun _ _ => rfl)
  | slc a lo hi ha hl hh => exact all_of (se_slc ha.se hl.so hh.so) (st_of (se_slc ha.se hl.so hh.so) fun ct x hm => by cases x <;> first | rfl | exact Bool.noConfusion hm) (fun _ x => by cases x <;> rfl) (fun _ x => by cases x <;> rfl) (fun _ x => by cases x <;> rfl) (fun _ _ => rfl)
  | rev a _ => exact all_of (no_se fun _ _ => rfl).1 (no_se fun _ _ => rfl).2 (fun _ x => by cases x <;> rfl) (fun _ x => by cases x <;> rfl) (fun _ x => by cases x <;> rfl) (fun _ _ => rfl)
  | seq a ha => exact ⟨(no_se fun _ _ => rfl).1, no_sa fun _ x => by cases x <;> rfl, no_sk fun _ x => by cases x <;> rfl, no_so fun _ x => by cases x <;> rfl, (no_se fun _ _ => rfl).2, si_seq ha.se⟩
  | rng1 a ha => exact ⟨(no_se fun _ _ => rfl).1, no_sa fun _ x => by cases x <;> rfl, no_sk fun _ x => by cases x <;> rfl, no_so fun _ x => by cases x <;> rfl, (no_se fun _ _ => rfl).2, si_rng1 ha.se⟩
  | rng2 a b ha hb => exact ⟨(no_se fun _ _ => rfl).1, no_sa fun _ x => by cases x <;> rfl, no_sk fun _ x => by cases x <;> rfl, no_so fun _ x => by cases x <;> rfl, (no_se fun _ _ => rfl).2, si_rng2 ha.se hb.se⟩
  | enu a ha => exact ⟨(no_se fun _ _ => rfl).1, no_sa fun _ x => by cases x <;> rfl, no_sk fun _ x => by cases x <;> rfl, no_so fun _ x => by cases x <;> rfl, (no_se fun _ _ => rfl).2, si_enu ha.se⟩
  | zip a b ha hb => exact ⟨(no_se fun _ _ => rfl).1, no_sa fun _ x => by cases x <;> rfl, no_sk fun _ x => by cases x <;> rfl, no_so fun _ x => by cases x <;> rfl, (no_se fun _ _ => rfl).2, si_zip ha.se hb.se⟩
  | lc tg it cnd elt own hi hc he => exact all_of (se_lc hi.si hc.st he.se) (st_of (se_lc hi.si hc.st he.se) fun ct x hm => by cases x <;> first | rfl | exact Bool.noConfusion hm) (fun _ x => by cases x <;> rfl) (fun _ x => by cases x <;> rfl) (fun _ x => by cases x <;> rfl) (fun _ _ => rfl)
  | fst ps _ => exact all_of (no_se fun _ _ => rfl).1 (no_se fun _ _ => rfl).2 (fun _ x => by cases x <;> rfl) (fun _ x => by cases x <;> rfl) (fun _ x => by cases x <;> rfl) (fun _ _ => rfl)
end
end U
set_option Elab.async false
set_option linter.all false
set_option maxRecDepth 100000
set_option maxHeartbeats 4000000
set_option autoImplicit false
/-! U19: statements: the matcher, the readings. -/
namespace U
open Evl (Ex)
open PySem L2

def nolc : Expr → Bool
  | .ListComp _ _ _ _ => false
  | .SetComp _ _ _ _ => false
  | .DictComp _ _ _ _ _ => false
  | _ => true
def noTup : Expr → Bool
  | .Tuple _ _ _ => false
  | _ => true
/-- a comprehension that is put into a name at once -/
def swY (sc : Scope) (y : Str) (py : Pos) : Expr → Bool
  | .ListComp _ _ scope pos => (match sc.kind with | .function => true | _ => false) && decide (sc.names.lookup y = some .local) && (py.line == pos.line) && !(scope.names.any fun (n, k) => n == y && (k == .local || k == .cell))
  | _ => false
def swN (py : Pos) : Expr → Bool
  | .ListComp _ _ _ pos => !(py.line == pos.line)
  | .SetComp _ _ _ _ => false
  | .DictComp _ _ _ _ _ => false
  | _ => true
/-- two names, two values, put in crosswise -/
def swP (sc : Scope) (x y : Str) (px py : Pos) (a b : Expr) : Bool := (match sc.kind with | .function => true | _ => false) && decide (sc.names.lookup x = some .local) && decide (sc.names.lookup y = some .local) && (py.line == px.line) && !(x == y) && nostar a && nostar b &&
  !(foldedForSure 8 a && foldedForSure 8 b) && !(constantsAlone 8 a && constantsAlone 8 b)
def mbPar (is : List Nat) (es : U.E) (ct : Ct) (sts : List Stmt) : Bool := match is, es, sts with
  | [i, j], .cons a (.cons b .nil), [.Assign [.Tuple [.Name x px, .Name y py] _ _] (.Tuple [u, v] _ _) _] => decide (ct.N[i]? = some x) && decide (ct.N[j]? = some y) && !(i == j) && mt a ct u && mt b ct v && swP ct.sc x y px py u v
  | _, _, _ => false
def mb : T → Ct → List Stmt → Bool
  | .skip, _, [] => true
  | .skip, _, [.Pass _] => true
  | .seq a b, ct, st :: s2 :: r => mb a ct [st] && mb b ct (s2 :: r)
  | .set i e, ct, [.Assign [.Name y py] v _] => decide (ct.N[i]? = some y) && loc ct.sc y && mt e ct v && (swY ct.sc y py v || swN py v)
  | .unp is e, ct, [.Assign [.Tuple es _ _] v _] => mtNames ct is es && mt e ct v && nolc v && noTup v
  | .par is es, ct, sts => mbPar is es ct sts
  | .sub o i e, ct, [.Assign [.Subscript x y _] v _] => mt o ct x && mt i ct y && mt e ct v && nolc v && noSlice y
  | .subn o i j e, ct, [.Assign [.Tuple [.Subscript x y _, .Name z _] _ _] v _] => mt o ct x && mt i ct y && decide (ct.N[j]? = some z) && loc ct.sc z && mt e ct v && nolc v && noTup v && noSlice y
  | .aug i op e, ct, [.AugAssign (.Name y _) op' v _] => decide (ct.N[i]? = some y) && loc ct.sc y && decide (op = op') && mt e ct v && (decide (op = .Add) || decide (op = .Sub))
  | .iff c a b, ct, [.If t x y _] => tstOk c && mt c ct t && mb a ct x && mb b ct y
  | .for_ tg it body, ct, [.For tg' iter x [] _] => mti it ct iter && noSet iter && mtTg ct tg tg' && mb body ct x
  | .whl _ c body, ct, [.While t x [] _] => tstOk c && mt c ct t && mb body ct x
  | .ret e, ct, [.Return (some v) _] => mt e ct v
  | .retN, _, [.Return none _] => true
  | .exp e, ct, [.Expr v _] => mt e ct v && nolc v
  | .brk, _, [.Break _] => true
  | .cont, _, [.Continue _] => true
  | .never, _, _ => true
  | _, _, _ => false

/-! ### the readings -/
inductive FV where
  | next | ret (v : V) | brk | cont
def RS (tb : Tb) (K : PySem.W.Frag) : Hp → List (Option Addr) → FV × St → Fl × En → Prop := fun S as b a => EnvOk tb K S as b.2 a.2 ∧ match b.1, a.1 with
  | .next, .next => True
  | .ret v, .ret w => WOk tb K S as v w
  | .brk, .brk => True
  | .cont, .cont => True
  | _, _ => False
def QD (D : Ends) : FV × St → Hp → Prop := fun b H => match b.1 with
  | .next => D.nx b.2 H
  | .ret v => D.rt v H
  | .brk => D.bk b.2 H
  | .cont => D.ct b.2 H
def tS (G : Gm) (tb : Tb) (K : PySem.W.Frag) (E : XK) (t : T) : TS := fun D σ H => ∃ env m o, ex G t env m = some o ∧ tG tb K E (RS tb K) env m o σ H (QD D)
theorem _root_.L2.PS.imp {X : Cx} {e : Stmt} {t u : TS} (h : PS X e t) (i : ∀ D σ H, u D σ H → t D σ H) : PS X e u := ⟨fun pins s σ H D I q => h.run pins s σ H D I (i D σ H q)⟩
theorem _root_.L2.PSs.imp {X : Cx} {e : List Stmt} {t u : TS} (h : PSs X e t) (i : ∀ D σ H, u D σ H → t D σ H) : PSs X e u := ⟨fun pins s σ H D I q => h.run pins s σ H D I (i D σ H q)⟩
theorem _root_.L2.PS.or {X : Cx} {e : Stmt} {t u : TS} (h : PS X e t) (k : PS X e u) : PS X e (fun D σ H => t D σ H ∨ u D σ H) := ⟨fun pins s σ H D I q => q.elim (h.run pins s σ H D I) (k.run pins s σ H D I)⟩
def SS (G : Gm) (t : T) : Prop := ∀ (ct : Ct) (sts : List Stmt) (X : Cx) (E : XK), mb t ct sts = true → Wd X ct G E → StO X ct.sc → PassesOwn (model X.prog X.w) X.A X.env X.xe → PSs X sts (tS G ct.tb X.K E t) ∧ ∀ st, sts = [st] → PS X st (tS G ct.tb X.K E t)
theorem ss_one {X : Cx} {st : Stmt} {t : TS} (h : PS X st t) : PSs X [st] t ∧ ∀ st', [st] = [st'] → PS X st' t := ⟨pss_one h, fun st' e => by cases e; exact h⟩
theorem nolc_sw {v : Expr} {tgt : Option Expr} {l : Nat} {env : Env} (h : nolc v = true) : swapsWith v tgt l env = pure false := by
  cases v <;> first | rfl | cases h
section
variable {G : Gm}
theorem nx_of {tb : Tb} {K : PySem.W.Frag} {E : XK} {H0 S0 S H : Hp} {P : Option Addr} {m : Mem} {as : List (Option Addr)} {D : Ends} {env : En} {σ : St} (M : MOk tb K H0 S0 P m as S H) (EN : EnvOk tb K S as σ env) (p : Post tb K E (RS tb K) H0 S0 P m as S H (QD D) (.ok (.next, env) m)) : D.nx σ H :=
  p (.next, σ) S H as Stp.rfl' M ⟨EN, trivial⟩
theorem ss_skip : SS G .skip := by
  intro ct sts X E hm W hs hp
  have key : ∀ D σ H, tS G ct.tb X.K E .skip D σ H → tNext D σ H := fun D σ H h => by
    obtain ⟨env, m, o, h1, H0, S0, P, S, as, M, EN, p⟩ := h
    unfold ex at h1
    cases h1
    exact nx_of M EN p
  rcases sts with _ | ⟨st, _ | ⟨s2, r⟩⟩
  · exact ⟨pss_nil.imp key, fun st z => by cases z⟩
  · cases st with
    | Pass p => exact ss_one (ps_pass.imp key)
    | _ => exact Bool.noConfusion hm
  · cases st <;> exact Bool.noConfusion hm
theorem ss_never : SS G .never := by
  intro ct sts X E hm W hs hp
  have key : ∀ D σ H, tS G ct.tb X.K E .never D σ H → tNever D σ H := fun D σ H h => by
    obtain ⟨env, m, o, h1, _⟩ := h
    unfold ex at h1
    cases h1
  exact ⟨pss_never.imp key, fun st _ => ps_never.imp key⟩
theorem ss_seq {a b : T} (ha : SS G a) (hb : SS G b) : SS G (.seq a b) := by
  intro ct sts X E hm W hs hp
  rcases sts with _ | ⟨st, _ | ⟨s2, r⟩⟩
  · exact Bool.noConfusion hm
  · cases st <;> exact Bool.noConfusion hm
  · have hm' : (mb a ct [st] && mb b ct (s2 :: r)) = true := hm
    simp only [Bool.and_eq_true] at hm'
    have h1 := (ha ct [st] X E hm'.1 W hs hp).2 st rfl
    have h2 := (hb ct (s2 :: r) X E hm'.2 W hs hp).1
    refine ⟨(pss_cons h1 h2).imp fun D σ H h => ?_, fun st' z => by cases z⟩
    obtain ⟨env, m, o, h1, H0, S0, P, S, as, M, EN, p⟩ := h
    unfold ex at h1
    obtain ⟨o1, e1, t1⟩ := bnd_inv h1
    refine ⟨env, m, o1, e1, t1.go M EN p fun q m1 b' S1 H1 as1 s1 M1 EN1 r1 hf p1 => ?_⟩
    obtain ⟨fl, env1⟩ := q
    obtain ⟨fb, σ1⟩ := b'
    obtain ⟨EN2, hfl⟩ := r1
    cases fl with
    | next =>
      cases fb with
      | next => exact ⟨env1, m1, o, hf, H0, S0, P, S1, as1, M1, EN2, p1⟩
      | _ => exact hfl.elim
    | ret w =>
      cases fb with
      | ret v => cases hf; exact p1 (.ret v, σ1) S1 H1 as1 Stp.rfl' M1 ⟨EN2, hfl⟩
      | _ => exact hfl.elim
    | brk =>
      cases fb with
      | brk => cases hf; exact p1 (.brk, σ1) S1 H1 as1 Stp.rfl' M1 ⟨EN2, hfl⟩
      | _ => exact hfl.elim
    | cont =>
      cases fb with
      | cont => cases hf; exact p1 (.cont, σ1) S1 H1 as1 Stp.rfl' M1 ⟨EN2, hfl⟩
      | _ => exact hfl.elim
theorem set_rd {tb : Tb} {K : PySem.W.Frag} {E : XK} {i : Nat} {e : U.E} {D : Ends} {σ : St} {H : Hp} (h : tS G tb K E (.set i e) D σ H) : tAsg (tV G tb K E e) (gName i) D σ H := by
  obtain ⟨env, m, o, h1, H0, S0, P, S, as, M, EN, p⟩ := h
  unfold ex at h1
  obtain ⟨o1, e1, t1⟩ := bnd_inv h1
  refine ⟨env, m, o1, e1, t1.go M EN p fun w m1 v S1 H1 as1 s1 M1 EN1 r1 hf p1 => ?_⟩
  cases hf
  exact nx_of M1 (EN1.set r1) p1
theorem swN_ok {v : Expr} {y : Str} {py : Pos} {l : Nat} {env : Env} (h : swN py v = true) : swapsWith v (some (.Name y py)) l env = pure false := by
  cases v with
  | ListComp el gs scope pos =>
    have h' : (py.line == pos.line) = false := by simpa [swN] using h
    unfold swapsWith
    simp only [Expr.pos, h', Bool.and_false, Bool.false_and]
    try rfl
  | _ => first | rfl | cases h
theorem ss_set {i : Nat} {e : U.E} : SS G (.set i e) := by
  intro ct sts X E hm W hs hp
  rcases sts with _ | ⟨st, _ | ⟨s2, r⟩⟩
  · exact Bool.noConfusion hm
  · cases st with
    | Assign tgs v pos =>
      rcases tgs with _ | ⟨tg, _ | ⟨tg2, tgs⟩⟩
      · exact Bool.noConfusion hm
      · cases tg with
        | Name y py =>
          have hm' : (decide (ct.N[i]? = some y) && loc ct.sc y && mt e ct v && (swY ct.sc y py v || swN py v)) = true := hm
          simp only [Bool.and_eq_true, decide_eq_true_eq] at hm'
          obtain ⟨⟨⟨m1, m2⟩, m3⟩, m4⟩ := hm'
          obtain ⟨l1, l2⟩ := hs y m2
          rcases Bool.or_eq_true_iff.mp m4 with q | q
          · -- put in at once
            cases v with
            | ListComp el gs scope vp =>
              simp only [swY, Bool.and_eq_true, decide_eq_true_eq] at q
              obtain ⟨⟨⟨q1, q2⟩, q3⟩, q4⟩ := q
              have hk : X.env.scope.kind = .function := by
                rw [W.sc]
                split at q1
                · assumption
                · cases q1
              have hy : X.env.scope.names.lookup y = some .local := by rw [W.sc]; exact q2
              cases e with
              | lc tg it cnd elt own =>
                obtain ⟨el', tg', iter, ifs, scope', pos', hx, hI, hok, hg, hT, hE, hs', k⟩ := lc_parts (sound it).si (sound cnd).st (sound elt).se ct _ X E m3 W
                cases hx
                refine ss_one ((ps_setLc W.calm (by rw [W.N]; exact W.nd) (by rw [W.N]; exact m1) hy (sw_true hk hy q3 (by simpa using q4)) hI hok hg hT hE hs').imp fun D σ H h => ?_)
                exact k _ _ _ (set_rd h)
              | isi a ts => rcases ts with _ | ⟨t, _ | ⟨t', ts⟩⟩ <;> exact Bool.noConfusion m3
              | _ => exact Bool.noConfusion m3
            | _ => cases q
          · exact ss_one ((ps_set (by rw [W.N]; exact W.nd) (by rw [W.N]; exact m1) l1 ((sound e).se ct v X E m3 W) (swN_ok q) l2).imp fun D σ H h => set_rd h)
        | _ => exact Bool.noConfusion hm
      · cases tg <;> exact Bool.noConfusion hm
    | _ => exact Bool.noConfusion hm
  · simp [mb] at hm
theorem ss_ret {e : U.E} : SS G (.ret e) := by
  intro ct sts X E hm W hs hp
  rcases sts with _ | ⟨st, _ | ⟨s2, r⟩⟩
  · exact Bool.noConfusion hm
  · cases st with
    | Return v pos =>
      cases v with
      | none => exact Bool.noConfusion hm
      | some v =>
        refine ss_one ((ps_ret ((sound e).se ct v X E hm W)).imp fun D σ H h => ?_)
        obtain ⟨env, m, o, h1, H0, S0, P, S, as, M, EN, p⟩ := h
        unfold ex at h1
        obtain ⟨o1, e1, t1⟩ := bnd_inv h1
        refine ⟨env, m, o1, e1, t1.go M EN p fun w m1 v S1 H1 as1 s1 M1 EN1 r1 hf p1 => ?_⟩
        cases hf
        exact p1 (.ret v, σ) S1 H1 as1 Stp.rfl' M1 ⟨EN1, r1⟩
    | _ => exact Bool.noConfusion hm
  · cases st <;> first | exact Bool.noConfusion hm | (rename_i v _; cases v <;> exact Bool.noConfusion hm)
theorem ss_retN : SS G .retN := by
  intro ct sts X E hm W hs hp
  rcases sts with _ | ⟨st, _ | ⟨s2, r⟩⟩
  · exact Bool.noConfusion hm
  · cases st with
    | Return v pos =>
      cases v with
      | some v => exact Bool.noConfusion hm
      | none =>
        refine ss_one (ps_retN.imp fun D σ H h => ?_)
        obtain ⟨env, m, o, h1, H0, S0, P, S, as, M, EN, p⟩ := h
        unfold ex at h1
        cases h1
        exact p (.ret .non, σ) S H as Stp.rfl' M ⟨EN, Rp.non⟩
    | _ => exact Bool.noConfusion hm
  · cases st <;> first | exact Bool.noConfusion hm | (rename_i v _; cases v <;> exact Bool.noConfusion hm)
theorem ss_exp {e : U.E} : SS G (.exp e) := by
  intro ct sts X E hm W hs hp
  rcases sts with _ | ⟨st, _ | ⟨s2, r⟩⟩
  · exact Bool.noConfusion hm
  · cases st with
    | Expr v pos =>
      have hm' : (mt e ct v && nolc v) = true := hm
      simp only [Bool.and_eq_true] at hm'
      refine ss_one ((ps_expr ((sound e).se ct v X E hm'.1 W) (nolc_sw hm'.2)).imp fun D σ H h => ?_)
      obtain ⟨env, m, o, h1, H0, S0, P, S, as, M, EN, p⟩ := h
      unfold ex at h1
      obtain ⟨o1, e1, t1⟩ := bnd_inv h1
      refine ⟨env, m, o1, e1, t1.go M EN p fun w m1 v S1 H1 as1 s1 M1 EN1 r1 hf p1 => ?_⟩
      cases hf
      exact nx_of M1 EN1 p1
    | _ => exact Bool.noConfusion hm
  · cases st <;> exact Bool.noConfusion hm
theorem ss_brk : SS G .brk := by
  intro ct sts X E hm W hs hp
  rcases sts with _ | ⟨st, _ | ⟨s2, r⟩⟩
  · exact Bool.noConfusion hm
  · cases st with
    | Break pos =>
      refine ss_one (ps_break.imp fun D σ H h => ?_)
      obtain ⟨env, m, o, h1, H0, S0, P, S, as, M, EN, p⟩ := h
      unfold ex at h1
      cases h1
      exact p (.brk, σ) S H as Stp.rfl' M ⟨EN, trivial⟩
    | _ => exact Bool.noConfusion hm
  · cases st <;> exact Bool.noConfusion hm
theorem ss_cont : SS G .cont := by
  intro ct sts X E hm W hs hp
  rcases sts with _ | ⟨st, _ | ⟨s2, r⟩⟩
  · exact Bool.noConfusion hm
  · cases st with
    | Continue pos =>
      refine ss_one (ps_continue.imp fun D σ H h => ?_)
      obtain ⟨env, m, o, h1, H0, S0, P, S, as, M, EN, p⟩ := h
      unfold ex at h1
      cases h1
      exact p (.cont, σ) S H as Stp.rfl' M ⟨EN, trivial⟩
    | _ => exact Bool.noConfusion hm
  · cases st <;> exact Bool.noConfusion hm
theorem ss_iff {c : U.E} {a b : T} (ha : SS G a) (hb : SS G b) : SS G (.iff c a b) := by
  intro ct sts X E hm W hs hp
  rcases sts with _ | ⟨st, _ | ⟨s2, r⟩⟩
  · exact Bool.noConfusion hm
  · cases st with
    | If t x y pos =>
      have hm' : (tstOk c && mt c ct t && mb a ct x && mb b ct y) = true := hm
      simp only [Bool.and_eq_true] at hm'
      obtain ⟨⟨⟨m0, m1⟩, m2⟩, m3⟩ := hm'
      refine ss_one ((ps_if ((sound c).st ct t X E m0 m1 W).1 (ha ct x X E m2 W hs hp).1 (hb ct y X E m3 W hs hp).1).imp fun D σ H h => ?_)
      obtain ⟨env, m, o, h1, H0, S0, P, S, as, M, EN, p⟩ := h
      unfold ex at h1
      have h2 : bnd (bnd (ev G c env) fun w => ask (truth w)) (fun k => if k = true then ex G a env else ex G b env) m = some o := by
        rw [bnd_assoc, ← h1]
      obtain ⟨o1, e1, t1⟩ := bnd_inv h2
      refine ⟨env, m, o1, e1, t1.go M EN p fun k m1 v S1 H1 as1 s1 M1 EN1 r1 hf p1 => ?_⟩
      have e : v = k := r1
      subst e
      cases v with
      | true =>
        rw [if_pos rfl] at hf ⊢
        exact ⟨env, m1, o, hf, H0, S0, P, S1, as1, M1, EN1, p1⟩
      | false =>
        rw [if_neg Bool.false_ne_true] at hf ⊢
        exact ⟨env, m1, o, hf, H0, S0, P, S1, as1, M1, EN1, p1⟩
    | _ => exact Bool.noConfusion hm
  · cases st <;> exact Bool.noConfusion hm
end
end U
set_option Elab.async false
set_option linter.all false
set_option maxRecDepth 100000
set_option maxHeartbeats 4000000
set_option autoImplicit false
/-! U20: loops. -/
namespace U
open Evl (Ex)
open PySem L2
section
variable {G : Gm}
theorem unp_inv {α : Type} {k : Option Nat} {x : Ev α} {m : Mem} {o : Out α} (h : unpinned k x m = some o) : ∃ oF, x m = some oF ∧ match oF with
    | .ok a m1 => ∃ m2, unpin k m1 = some m2 ∧ o = .ok a m2
    | .exc c fs m1 => o = .exc c fs m1 := by
  unfold unpinned at h
  cases e : x m with
  | none => rw [e] at h; cases h
  | some oF =>
    rw [e] at h
    cases oF with
    | ok a m1 =>
      dsimp only at h
      cases hu : unpin k m1 with
      | none => rw [hu] at h; cases h
      | some m2 => rw [hu] at h; cases h; exact ⟨_, rfl, m2, hu, rfl⟩
    | exc c fs m1 => cases h; exact ⟨_, rfl, rfl⟩
theorem ss_for {tg : Tg} {it : U.E} {body : T} (hb : SS G body) : SS G (.for_ tg it body) := by
  intro ct sts X E hm W hs hp
  rcases sts with _ | ⟨st, _ | ⟨s2, r⟩⟩
  · exact Bool.noConfusion hm
  · cases st with
    | For tg' iter x orelse pos =>
      cases orelse with
      | cons _ _ => exact Bool.noConfusion hm
      | nil =>
        have hm' : (mti it ct iter && noSet iter && mtTg ct tg tg' && mb body ct x) = true := hm
        simp only [Bool.and_eq_true] at hm'
        obtain ⟨⟨⟨m1, m2⟩, m3⟩, m4⟩ := hm'
        have htg : ∀ is, tg = .tp is → ∃ es k p, tg' = .Tuple es k p := by
          intro is e
          subst e
          cases tg' with
          | Tuple es k p => exact ⟨es, k, p, rfl⟩
          | _ => exact Bool.noConfusion m3
        have hI := (sound it).si ct iter X E tg tg' m1 W htg
        have hG := tg_pg (ct := ct) (sc := ct.sc) W.N W.nd W.calm hs (show mtTg { ct with sc := ct.sc } tg tg' = true from m3)
        have hB := (hb ct x X E m4 W hs hp).1
        refine ss_one ((ps_for hp W.calm hI hG hB (fun z => noSet_fold m2 _ z)).imp fun D σ H h => ?_)
        obtain ⟨env, m, o, h1, H0, S0, P, S, as, M, EN, p⟩ := h
        unfold ex at h1
        obtain ⟨o1, e1, t1⟩ := bnd_inv h1
        refine ⟨env, m, o1, H0, S0, P, S, as, e1, M, EN, ?_⟩
        cases o1 with
        | exc c fs m1 => cases t1; exact p
        | ok q m' =>
          obtain ⟨kp, rs⟩ := q
          intro J S1 H1 as1 m1 w hk hm1 s1 M1 wk
          dsimp only at hk hm1
          have hMp : MOk ct.tb X.K H0 S0 P m' as1 S1 H1 := by rw [hm1]; exact M1.pinC kp
          obtain ⟨n, Gd, Y, wk0, hn, hGd, hY⟩ := wk
          obtain ⟨oF, hF, hO⟩ := unp_inv (show unpinned kp (forLoop (fun r env => ex G body (setRow tg r env)) rs env) m' = some o from t1)
          -- what the loop's outcome gives
          have fin : ∀ (fl : Fl) (env2 : En) (m3 : Mem) (fb : FV) (σ3 : St) (as3 : List (Option Addr)) (S3 H3 : Hp), oF = .ok (fl, env2) m3 → Stp m' as1 S1 H1 m3 as3 S3 H3 → MOk ct.tb X.K H0 S0 P m3 as3 S3 H3 → RS ct.tb X.K S3 as3 (fb, σ3) (fl, env2) → QD D (fb, σ3) H3 := by
            intro fl env2 m3 fb σ3 as3 S3 H3 e s3 M3 r
            subst e
            obtain ⟨m4, hu, rfl⟩ := hO
            have s4 : Stp m1 as1 S1 H1 m4 as3 S3 H3 := by
              rw [hm1, hk] at s3
              rw [hk] at hu
              exact unpin_stp s3 hu
            exact p (fb, σ3) S3 H3 as3 (s1.trans s4) (M3.unpin hu) r
          have finX : ∀ (c : Nat) (fs : List (Nat × U.D)) (m3 : Mem), oF = .exc c fs m3 → ∀ od S3 H3 as3, Stp m' as1 S1 H1 m3 as3 S3 H3 → MOk ct.tb X.K H0 S0 P m3 as3 S3 H3 → XdOk ct.tb X.K S3 H3 fs od → E (.ref (He.ga X.K (ct.tb.cl c))) od H3 := by
            intro c fs m3 e od S3 H3 as3 s3 M3 x
            subst e
            cases hO
            refine p od S3 H3 as3 (s1.trans ?_) M3 x
            rw [hm1] at s3
            exact (pinC_stp kp).trans s3
          refine for_it wk0 (fun i σ H => ∃ env m as S, MOk ct.tb X.K H0 S0 P m as S H ∧ Stp m' as1 S1 H1 m as S H ∧ EnvOk ct.tb X.K S as σ env ∧ forLoop (fun r env => ex G body (setRow tg r env)) (rs.drop i) env m = some oF) ?_ ?_ ?_ ?_
          · exact ⟨env, m', as1, S1, hMp, Stp.rfl', EN.mono s1.ex s1.pre, hF⟩
          · rintro i σ2 H2 hi ⟨env2, m2, as2, S2, M2, s2, EN2, _⟩
            exact hGd _ _ _ _ s2 M2
          · rintro i x σ2 H2 H3 hi ⟨env2, m2, as2, S2, M2, s2, EN2, hloop⟩ y
            have hir : i < rs.length := by rw [← hn]; exact hi
            have hri : rs[i]? = some rs[i] := List.getElem?_eq_getElem hir
            obtain ⟨S3, vs, M3, s3, rv, rw3⟩ := hY i rs[i] x m2 as2 S2 H2 H3 hri s2 M2 y
            rw [List.drop_eq_getElem_cons hir] at hloop
            unfold forLoop at hloop
            refine gT_of rv ?_
            have EN3 : EnvOk ct.tb X.K S3 as2 (setV (tgIx tg) vs σ2) (setRow tg rs[i] env2) := by
              rw [setRow_eq]
              exact (EN2.mono s3.ex s3.pre).setT rw3
            obtain ⟨o2, e2, t2⟩ := bnd_inv hloop
            refine ⟨_, m2, o2, e2, H0, S0, P, S3, as2, M3, EN3, ?_⟩
            cases o2 with
            | exc c fs m4 =>
              exact fun od S4 H4 as4 s4 M4 x => finX c fs m4 t2 od S4 H4 as4 ((s2.trans s3).trans s4) M4 x
            | ok q m4 =>
              obtain ⟨fl, env4⟩ := q
              rintro ⟨fb, σ4⟩ S4 H4 as4 s4 M4 r4
              have s5 := (s2.trans s3).trans s4
              obtain ⟨EN4, hfl⟩ := r4
              cases fl with
              | next =>
                cases fb with
                | next => exact ⟨env4, m4, as4, S4, M4, s5, EN4, t2⟩
                | _ => exact hfl.elim
              | cont =>
                cases fb with
                | cont => exact ⟨env4, m4, as4, S4, M4, s5, EN4, t2⟩
                | _ => exact hfl.elim
              | brk =>
                cases fb with
                | brk =>
                  have t2' : oF = .ok (.next, env4) m4 := (Option.some.inj t2).symm
                  exact fin .next env4 m4 .next σ4 as4 S4 H4 t2' s5 M4 ⟨EN4, trivial⟩
                | _ => exact hfl.elim
              | ret w' =>
                cases fb with
                | ret v' =>
                  have t2' : oF = .ok (.ret w', env4) m4 := (Option.some.inj t2).symm
                  exact fin (.ret w') env4 m4 (.ret v') σ4 as4 S4 H4 t2' s5 M4 ⟨EN4, hfl⟩
                | _ => exact hfl.elim
          · rintro σ2 H2 ⟨env2, m2, as2, S2, M2, s2, EN2, hloop⟩
            rw [hn, List.drop_length] at hloop
            have e : oF = .ok (.next, env2) m2 := (Option.some.inj hloop).symm
            exact fin .next env2 m2 .next σ2 as2 S2 H2 e s2 M2 ⟨EN2, trivial⟩
    | _ => exact Bool.noConfusion hm
  · simp [mb] at hm
theorem ss_whl {n : Nat} {c : U.E} {body : T} (hb : SS G body) : SS G (.whl n c body) := by
  intro ct sts X E hm W hs hp
  rcases sts with _ | ⟨st, _ | ⟨s2, r⟩⟩
  · exact Bool.noConfusion hm
  · cases st with
    | While t x orelse pos =>
      cases orelse with
      | cons _ _ => exact Bool.noConfusion hm
      | nil =>
        have hm' : (tstOk c && mt c ct t && mb body ct x) = true := hm
        simp only [Bool.and_eq_true] at hm'
        obtain ⟨⟨m0, m1⟩, m2⟩ := hm'
        refine ss_one ((ps_while hp ((sound c).st ct t X E m0 m1 W).1 (hb ct x X E m2 W hs hp).1).imp fun D σ H h => ?_)
        obtain ⟨env, m, o, h1, H0, S0, P, S, as, M, EN, p⟩ := h
        unfold ex at h1
        refine ⟨fun k σ H => ∃ env m as S, MOk ct.tb X.K H0 S0 P m as S H ∧ EnvOk ct.tb X.K S as σ env ∧ whLoop (ev G c) (ex G body) k env m = some o ∧ Post ct.tb X.K E (RS ct.tb X.K) H0 S0 P m as S H (QD D) o, ⟨n, env, m, as, S, M, EN, h1, p⟩, ?_⟩
        rintro k σ2 H2 ⟨env2, m2, as2, S2, M2, EN2, hl, p2⟩
        cases k with
        | zero => cases hl
        | succ k =>
          unfold whLoop at hl
          have hl2 : bnd (bnd (ev G c env2) fun w => ask (truth w)) (fun b => if b = true then bnd (ex G body env2) fun p => (match p.1 with
              | .next => whLoop (ev G c) (ex G body) k p.2
              | .cont => whLoop (ev G c) (ex G body) k p.2
              | .brk => U.ret (.next, p.2)
              | .ret w => U.ret (.ret w, p.2)) else U.ret (.next, env2)) m2 = some o := by
            rw [bnd_assoc]
            exact hl
          obtain ⟨o1, e1, t1⟩ := bnd_inv hl2
          refine ⟨env2, m2, o1, e1, t1.go M2 EN2 p2 fun b m3 v S3 H3 as3 s3 M3 EN3 r3 hf p3 => ?_⟩
          have e : v = b := r3
          subst e
          cases v with
          | false =>
            rw [if_neg Bool.false_ne_true] at hf ⊢
            cases hf
            exact nx_of M3 EN3 p3
          | true =>
            rw [if_pos rfl] at hf ⊢
            refine ⟨fun σ H => ∃ env m as S, MOk ct.tb X.K H0 S0 P m as S H ∧ EnvOk ct.tb X.K S as σ env ∧ whLoop (ev G c) (ex G body) k env m = some o ∧ Post ct.tb X.K E (RS ct.tb X.K) H0 S0 P m as S H (QD D) o, fun σ' H' q => ⟨k, Nat.lt_succ_self k, q⟩, ?_⟩
            obtain ⟨o2, e2, t2⟩ := bnd_inv hf
            refine ⟨env2, m3, o2, e2, t2.go M3 EN3 p3 fun q m4 b' S4 H4 as4 s4 M4 EN4 r4 hf4 p4 => ?_⟩
            obtain ⟨fl, env4⟩ := q
            obtain ⟨fb, σ4⟩ := b'
            obtain ⟨EN5, hfl⟩ := r4
            cases fl with
            | next =>
              cases fb with
              | next => exact ⟨env4, m4, as4, S4, M4, EN5, hf4, p4⟩
              | _ => exact hfl.elim
            | cont =>
              cases fb with
              | cont => exact ⟨env4, m4, as4, S4, M4, EN5, hf4, p4⟩
              | _ => exact hfl.elim
            | brk =>
              cases fb with
              | brk => cases hf4; exact nx_of M4 EN5 p4
              | _ => exact hfl.elim
            | ret w' =>
              cases fb with
              | ret v' => cases hf4; exact p4 (.ret v', σ4) S4 H4 as4 Stp.rfl' M4 ⟨EN5, hfl⟩
              | _ => exact hfl.elim
    | _ => exact Bool.noConfusion hm
  · simp [mb] at hm
end
end U
set_option Elab.async false
set_option linter.all false
set_option maxRecDepth 100000
set_option maxHeartbeats 4000000
set_option autoImplicit false
/-! U21: the other stores. -/
namespace U
open Evl (Ex)
open PySem L2
section
variable {G : Gm}
theorem noTup_sw {es : List Expr} {k : Nat} {p : Pos} {v : Expr} {env : Env} (h : noTup v = true) : swappedStores [.Tuple es k p] v env = pure none := by
  cases v <;> first | rfl | exact Bool.noConfusion h
theorem unp_ok {tb : Tb} {K : PySem.W.Frag} {H0 S0 S H : Hp} {P : Option Addr} {m : Mem} {as : List (Option Addr)} {w : W} {v : V} {n : Nat} {ws : List W} (M : MOk tb K H0 S0 P m as S H) (hw : WOk tb K S as v w) (h : unpW n w m = some ws) :
    ∃ a vs, v = .ref a ∧ (SqT K H a vs ∨ SqL K H a vs) ∧ vs.length = n ∧ WOs tb K S as vs ws := by
  unfold unpW at h
  cases hs : seqOf w m with
  | none => rw [hs] at h; cases h
  | some q =>
    obtain ⟨b, us⟩ := q
    rw [hs] at h
    dsimp only at h
    split at h
    · rename_i hl
      cases h
      obtain ⟨a, vs, rfl, h1, h2⟩ := seq_ok M hw hs
      refine ⟨a, vs, rfl, ?_, by rw [h2.length]; exact hl, h2⟩
      cases b with
      | true => exact .inr (.of h1)
      | false => exact .inl (.of h1)
    · cases h
theorem ss_unp {is : List Nat} {e : U.E} : SS G (.unp is e) := by
  intro ct sts X E hm W hs hp
  rcases sts with _ | ⟨st, _ | ⟨s2, r⟩⟩
  · exact Bool.noConfusion hm
  · cases st with
    | Assign tgs v pos =>
      rcases tgs with _ | ⟨tg, _ | ⟨tg2, tgs⟩⟩
      · exact Bool.noConfusion hm
      · cases tg with
        | Tuple es k p =>
          have hm' : (mtNames ct is es && mt e ct v && nolc v && noTup v) = true := hm
          simp only [Bool.and_eq_true] at hm'
          obtain ⟨⟨⟨m1, m2⟩, m3⟩, m4⟩ := hm'
          have hG := tg_pg (tg := .tp is) (e := .Tuple es k p) (ct := ct) (sc := ct.sc) W.N W.nd W.calm hs m1
          refine ss_one ((ps_asg (pos := pos) ((sound e).se ct v X E m2 W) hG (show swapsWith v (some (.Tuple es k p)) pos.line X.env = pure false from nolc_sw m3) (noTup_sw m4) rfl).imp fun D σ H h => ?_)
          obtain ⟨env, m, o, h1, H0, S0, P, S, as, M, EN, p⟩ := h
          unfold ex at h1
          obtain ⟨o1, e1, t1⟩ := bnd_inv h1
          refine ⟨env, m, o1, e1, t1.go M EN p fun w m1 v S1 H1 as1 s1 M1 EN1 r1 hf p1 => ?_⟩
          obtain ⟨o2, e2, t2⟩ := bnd_inv hf
          obtain ⟨ws, hws, rfl⟩ := rd_inv e2
          cases t2
          obtain ⟨a, vs, rfl, q1, q2, q3⟩ := unp_ok M1 r1 hws
          refine gT_of (tg := .tp is) (vs := vs) ⟨a, rfl, q1, q2⟩ ?_
          exact nx_of M1 (EN1.setT q3) p1
        | _ => exact Bool.noConfusion hm
      · cases tg <;> exact Bool.noConfusion hm
    | _ => exact Bool.noConfusion hm
  · simp [mb] at hm
theorem swP_ok {sc : Scope} {x y : Str} {px py : Pos} {a b : Expr} {env : Env} {kt k2 : Nat} {pt pt2 : Pos} (he : env.scope = sc) (h : swP sc x y px py a b = true) :
    env.scope.names.lookup x = some .local ∧ env.scope.names.lookup y = some .local ∧ nostar a = true ∧ nostar b = true ∧ swappedStores [.Tuple [.Name x px, .Name y py] kt pt] (.Tuple [a, b] k2 pt2) env = pure (some [x, y]) := by
  subst he
  unfold swP at h
  simp only [Bool.and_eq_true, decide_eq_true_eq, Bool.not_eq_true'] at h
  obtain ⟨⟨⟨⟨⟨⟨⟨⟨h1, h2⟩, h3⟩, h4⟩, h5⟩, h6⟩, h7⟩, h8⟩, h9⟩ := h
  have hk : env.scope.kind = .function := by
    split at h1
    · assumption
    · cases h1
  have hb : env.blockKind = .function := by unfold Env.blockKind; rw [hk]; rfl
  have kx : env.kindOf x = some .local := h2
  have ky : env.kindOf y = some .local := h3
  refine ⟨h2, h3, h6, h7, ?_⟩
  have hst : ([a, b].any fun | .Starred .. => true | _ => false) = false := by
    cases a <;> first | exact Bool.noConfusion h6 | (cases b <;> first | exact Bool.noConfusion h7 | rfl)
  have hyx : (y == x) = false := by
    cases q : y == x with
    | false => rfl
    | true => rw [eq_of_beq q] at h5; simp at h5
  unfold swappedStores
  simp only [hst, hb, List.length_cons, List.length_nil, List.head?_cons, Option.map_some, Option.getD_some, Expr.pos, List.filterMap_cons, kx, ky, h4, List.filterMap_nil, List.all_cons, List.all_nil, Bool.and_true, h8, h9]
  simp [hyx, List.eraseDups, List.eraseDupsBy, List.eraseDupsBy.loop, h4, h5]
  intro z
  exfalso
  simp only [List.any_cons, List.any_nil, Bool.or_false, Bool.or_eq_false_iff] at hst
  rcases z with z | z
  · exact Bool.noConfusion (hst.1.symm.trans z)
  · exact Bool.noConfusion (hst.2.symm.trans z)
theorem ss_par {is : List Nat} {es : U.E} : SS G (.par is es) := by
  intro ct sts X E hm W hs hp
  have hm1 : mbPar is es ct sts = true := hm
  unfold mbPar at hm1
  split at hm1
  · rename_i i j a b x px y py kt pt u v k2 pt2 pos
    simp only [Bool.and_eq_true, decide_eq_true_eq, Bool.not_eq_true'] at hm1
    obtain ⟨⟨⟨⟨⟨m1, m2⟩, m3⟩, m4⟩, m5⟩, m6⟩ := hm1
    have hij : i ≠ j := by simpa using m3
    obtain ⟨h1, h2, h3, h4, h5⟩ := swP_ok (kt := kt) (pt := pt) (k2 := k2) (pt2 := pt2) W.sc m6
    have hA : PA X [u, v] (tVs G ct.tb X.K E (.cons a (.cons b .nil))) := (sound _).sa ct [u, v] X E (by
      show (nostar u && mt a ct u && (nostar v && mt b ct v && true)) = true
      rw [h3, h4, m4, m5]
      rfl) W
    refine ss_one ((ps_par (pos := pos) W.calm (by rw [W.N]; exact W.nd) (by rw [W.N]; exact m1) (by rw [W.N]; exact m2) hij h1 h2 hA h5 rfl).imp fun D σ H h => ?_)
    obtain ⟨env, m, o, h1, H0, S0, P, S, as, M, EN, p⟩ := h
    unfold ex at h1
    obtain ⟨o1, e1, t1⟩ := bnd_inv h1
    refine ⟨env, m, o1, e1, t1.go M EN p fun ws m1 vs S1 H1 as1 s1 M1 EN1 r1 hf p1 => ?_⟩
    split at hf
    · rename_i hl
      cases hf
      have hl2 : vs.length = 2 := by rw [r1.length]; exact hl
      rcases vs with _ | ⟨v1, _ | ⟨v2, _ | ⟨v3, vs⟩⟩⟩ <;> simp at hl2
      exact ⟨v1, v2, rfl, nx_of M1 (EnvOk.setT (is := [i, j]) EN1 r1) p1⟩
    · cases hf
  · cases hm1
/-! ### into a list -/
theorem setIdx_ok {tb : Tb} {K : PySem.W.Frag} {H0 S0 S H : Hp} {P : Option Addr} {m m' : Mem} {as : List (Option Addr)} {x y w : W} {o i v : V} (M : MOk tb K H0 S0 P m as S H) (hx : WOk tb K S as o x) (hy : WOk tb K S as i y) (hw : WOk tb K S as v w) {u : Unit} (h : setIdx x y w m = some (.ok u m')) {Q : Hp → Prop}
    (k : ∀ H', Stp m as S H m' as S H' → MOk tb K H0 S0 P m' as S H' → Q H') : rSetL o i v H Q := by
  unfold setIdx at h
  split at h
  · rename_i n j
    obtain ⟨a, ha, rfl⟩ := hx
    cases WOk.int hy
    cases hc : m[n]? with
    | none => rw [hc] at h; cases h
    | some c =>
      rw [hc] at h
      cases c with
      | lst ws =>
        dsimp only at h
        split at h
        · rename_i hj
          cases h
          obtain ⟨hS, vs, hH, r⟩ := M.cell _ _ _ hc ha
          obtain ⟨M', s'⟩ := M.write (c' := .lst (ws.set j.toNat w)) (o' := .lst (vs.set j.toNat v)) hc ha hS (fun b z => by rw [hH] at z; cases z) (fun q b z => by rw [hH] at z; cases z) (fun _ z => by cases z) (fun _ => ⟨⟨_, rfl⟩, fun z => by cases z⟩) ⟨hS, _, upd_same, wos_set r hw _⟩
          refine ⟨a, vs, j, j.toNat, rfl, rfl, hH, ?_, k _ s' M'⟩
          unfold ixN
          rw [if_pos hj.1, if_pos]
          have := r.length
          omega
        · cases h
      | _ => cases h
  · cases h
theorem setIdx_ex {x y w : W} {m : Mem} {o : Out Unit} (h : setIdx x y w m = some o) : ∃ m', o = .ok () m' := by
  unfold setIdx at h
  split at h
  · split at h
    · split at h
      · cases h; exact ⟨_, rfl⟩
      · cases h
    · cases h
  · cases h
theorem ss_sub {o i e : U.E} : SS G (.sub o i e) := by
  intro ct sts X E hm W hs hp
  rcases sts with _ | ⟨st, _ | ⟨s2, r⟩⟩
  · exact Bool.noConfusion hm
  · cases st with
    | Assign tgs v pos =>
      rcases tgs with _ | ⟨tg, _ | ⟨tg2, tgs⟩⟩
      · exact Bool.noConfusion hm
      · cases tg with
        | Subscript x y sp =>
          have hm' : (mt o ct x && mt i ct y && mt e ct v && nolc v && noSlice y) = true := hm
          simp only [Bool.and_eq_true] at hm'
          obtain ⟨⟨⟨⟨m1, m2⟩, m3⟩, m4⟩, m5⟩ := hm'
          have hG : PG X (.Subscript x y sp) (gSub (tV G ct.tb X.K E o) (tV G ct.tb X.K E i) rSetL) := pg_sub ((sound o).se ct x X E m1 W) ((sound i).se ct y X E m2 W) set_list (by
            intro z
            cases y <;> first | rfl | exact Bool.noConfusion m5)
          refine ss_one ((ps_asg (pos := pos) ((sound e).se ct v X E m3 W) hG (show swapsWith v (some (.Subscript x y sp)) pos.line X.env = pure false from nolc_sw m4) rfl rfl).imp fun D σ H h => ?_)
          obtain ⟨env, m, out, h1, H0, S0, P, S, as, M, EN, p⟩ := h
          unfold ex at h1
          obtain ⟨o1, e1, t1⟩ := bnd_inv h1
          refine ⟨env, m, o1, e1, t1.go M EN p fun w m1 v S1 H1 as1 s1 M1 EN1 r1 hf p1 => ?_⟩
          obtain ⟨o2, e2, t2⟩ := bnd_inv hf
          refine ⟨env, m1, o2, e2, t2.go M1 EN1 p1 fun w2 m2 v2 S2 H2 as2 s2 M2 EN2 r2 hf2 p2 => ?_⟩
          obtain ⟨o3, e3, t3⟩ := bnd_inv hf2
          refine ⟨env, m2, o3, e3, t3.go M2 EN2 p2 fun w3 m3 v3 S3 H3 as3 s3 M3 EN3 r3 hf3 p3 => ?_⟩
          obtain ⟨o4, e4, t4⟩ := bnd_inv hf3
          obtain ⟨m4, rfl⟩ := setIdx_ex e4
          cases t4
          exact setIdx_ok M3 (WOk.mono s3.ex s3.pre r2) r3 (WOk.mono (s2.trans s3).ex (s2.trans s3).pre r1) e4 fun H' s' M' => nx_of M' (EN3.mono s'.ex s'.pre) (p3.shift s')
        | _ => exact Bool.noConfusion hm
      · cases tg <;> exact Bool.noConfusion hm
    | _ => exact Bool.noConfusion hm
  · simp [mb] at hm
theorem ss_subn {o i e : U.E} {j : Nat} : SS G (.subn o i j e) := by
  intro ct sts X E hm W hs hp
  rcases sts with _ | ⟨st, _ | ⟨s2, r⟩⟩
  · exact Bool.noConfusion hm
  · cases st with
    | Assign tgs v pos =>
      rcases tgs with _ | ⟨tg, _ | ⟨tg2, tgs⟩⟩
      · exact Bool.noConfusion hm
      · cases tg with
        | Tuple es kt pt =>
          rcases es with _ | ⟨e1, _ | ⟨e2, _ | ⟨e3, es⟩⟩⟩
          · exact Bool.noConfusion hm
          · cases e1 <;> exact Bool.noConfusion hm
          · cases e1 with
            | Subscript x y sp =>
              cases e2 with
              | Name z zp =>
                have hm' : (mt o ct x && mt i ct y && decide (ct.N[j]? = some z) && loc ct.sc z && mt e ct v && nolc v && noTup v && noSlice y) = true := hm
                simp only [Bool.and_eq_true, decide_eq_true_eq] at hm'
                obtain ⟨⟨⟨⟨⟨⟨⟨m1, m2⟩, m3⟩, m4⟩, m5⟩, m6⟩, m7⟩, m8⟩ := hm'
                obtain ⟨l1, l2⟩ := hs z m4
                have hG1 : PG X (.Subscript x y sp) (gSub (tV G ct.tb X.K E o) (tV G ct.tb X.K E i) rSetL) := pg_sub ((sound o).se ct x X E m1 W) ((sound i).se ct y X E m2 W) set_list (by
                  intro q
                  cases y <;> first | rfl | exact Bool.noConfusion m8)
                have hG2 : PG X (.Name z zp) (gName j) := pg_name (by rw [W.N]; exact W.nd) (by rw [W.N]; exact m3) l1 l2
                have hGs : PGs X [.Subscript x y sp, .Name z zp] (gCons (gSub (tV G ct.tb X.K E o) (tV G ct.tb X.K E i) rSetL) (gCons (gName j) gNil)) := pgs_cons hG1 (pgs_cons hG2 pgs_nil rfl) rfl
                have hG : PG X (.Tuple [.Subscript x y sp, .Name z zp] kt pt) _ := PG.or (pg_tup (n := 2) W.calm hGs rfl rfl) (pg_lst (n := 2) W.calm hGs rfl rfl)
                refine ss_one ((ps_asg (pos := pos) ((sound e).se ct v X E m5 W) hG (show swapsWith v (some (.Tuple [.Subscript x y sp, .Name z zp] kt pt)) pos.line X.env = pure false from nolc_sw m6) (noTup_sw m7) rfl).imp fun D σ H h => ?_)
                obtain ⟨env, m, out, h1, H0, S0, P, S, as, M, EN, p⟩ := h
                unfold ex at h1
                obtain ⟨o1, e1, t1⟩ := bnd_inv h1
                refine ⟨env, m, o1, e1, t1.go M EN p fun w m1 v S1 H1 as1 s1 M1 EN1 r1 hf p1 => ?_⟩
                obtain ⟨o2, e2, t2⟩ := bnd_inv hf
                obtain ⟨ws, hws, rfl⟩ := rd_inv e2
                obtain ⟨a, vs, rfl, q1, q2, q3⟩ := unp_ok M1 r1 hws
                rcases vs with _ | ⟨va, _ | ⟨vb, _ | ⟨vc, vs⟩⟩⟩ <;> simp at q2
                cases q3 with
                | @cons _ wa _ _ ra q3 =>
                  cases q3 with
                  | @cons _ wb _ _ rb q3 =>
                    cases q3
                    have t2' : (bnd (ev G o env) fun x => bnd (ev G i env) fun y => bnd (setIdx x y wa) fun _ => U.ret (Fl.next, env.set j (some wb))) m1 = some out := t2
                    have body : gCons (gSub (tV G ct.tb X.K E o) (tV G ct.tb X.K E i) rSetL) (gCons (gName j) gNil) [va, vb] σ H1 D.nx := by
                      refine ⟨va, [vb], rfl, ?_⟩
                      obtain ⟨o3, e3, t3⟩ := bnd_inv t2'
                      refine ⟨env, m1, o3, e3, t3.go M1 EN1 p1 fun w2 m2 v2 S2 H2 as2 s2 M2 EN2 r2 hf2 p2 => ?_⟩
                      obtain ⟨o4, e4, t4⟩ := bnd_inv hf2
                      refine ⟨env, m2, o4, e4, t4.go M2 EN2 p2 fun w3 m3 v3 S3 H3 as3 s3 M3 EN3 r3 hf3 p3 => ?_⟩
                      obtain ⟨o5, e5, t5⟩ := bnd_inv hf3
                      obtain ⟨m4, rfl⟩ := setIdx_ex e5
                      cases t5
                      refine setIdx_ok M3 (WOk.mono s3.ex s3.pre r2) r3 (WOk.mono (s2.trans s3).ex (s2.trans s3).pre ra) e5 fun H' s' M' => ⟨vb, [], rfl, rfl, ?_⟩
                      exact nx_of M' ((EN3.mono s'.ex s'.pre).set (WOk.mono ((s2.trans s3).trans s').ex ((s2.trans s3).trans s').pre rb)) (p3.shift s')
                    rcases q1 with q1 | q1
                    · exact .inl ⟨a, [va, vb], rfl, q1, rfl, body⟩
                    · exact .inr ⟨a, [va, vb], rfl, q1, rfl, body⟩
              | _ => exact Bool.noConfusion hm
            | _ => exact Bool.noConfusion hm
          · cases e1 <;> first | exact Bool.noConfusion hm | (cases e2 <;> exact Bool.noConfusion hm)
        | _ => exact Bool.noConfusion hm
      · cases tg with
        | Tuple es kt pt =>
          rcases es with _ | ⟨e1, _ | ⟨e2, _ | ⟨e3, es⟩⟩⟩ <;> simp [mb] at hm
        | _ => exact Bool.noConfusion hm
    | _ => exact Bool.noConfusion hm
  · simp [mb] at hm
theorem ss_aug {i : Nat} {op : Operator} {e : U.E} : SS G (.aug i op e) := by
  intro ct sts X E hm W hs hp
  rcases sts with _ | ⟨st, _ | ⟨s2, r⟩⟩
  · exact Bool.noConfusion hm
  · cases st with
    | AugAssign tg op' v pos =>
      cases tg with
      | Name y py =>
        have hm' : (decide (ct.N[i]? = some y) && loc ct.sc y && decide (op = op') && mt e ct v && (decide (op = .Add) || decide (op = .Sub))) = true := hm
        simp only [Bool.and_eq_true, decide_eq_true_eq, Bool.or_eq_true] at hm'
        obtain ⟨⟨⟨⟨m1, m2⟩, rfl⟩, m4⟩, m5⟩ := hm'
        obtain ⟨l1, l2⟩ := hs y m2
        have hop : ∃ f : Int → Int → Int, PIp X op (ipI f) ∧ ∀ (x y : U.W) (m : Mem) (o : Out U.W), augop op x y m = some o → ∃ a b, x = .d (.int a) ∧ y = .d (.int b) ∧ o = .ok (wint (f a b)) m := by
          rcases m5 with rfl | rfl
          · refine ⟨_, ip_add, fun x y m o h => ?_⟩
            unfold augop at h
            split at h <;> first
              | contradiction
              | (cases h; done)
              | (cases h; exact ⟨_, _, rfl, rfl, rfl⟩)
          · refine ⟨_, ip_sub, fun x y m o h => ?_⟩
            unfold augop at h
            split at h <;> first
              | contradiction
              | (cases h; done)
              | (cases h; exact ⟨_, _, rfl, rfl, rfl⟩)
        obtain ⟨f, hp', hf'⟩ := hop
        refine ss_one ((ps_aug (pos := pos) (by rw [W.N]; exact W.nd) (by rw [W.N]; exact m1) l1 ((sound e).se ct v X E m4 W) hp' l2).imp fun D σ H h => ?_)
        obtain ⟨env, m, o, h1, H0, S0, P, S, as, M, EN, p⟩ := h
        unfold ex at h1
        obtain ⟨o1, e1, t1⟩ := bnd_inv h1
        obtain ⟨w0, hw0, rfl⟩ := ask_inv e1
        have hi : env[i]? = some (some w0) := by
          cases q : env[i]? with
          | none => rw [q] at hw0; cases hw0
          | some q2 =>
            rw [q] at hw0
            cases q2 with
            | none => cases hw0
            | some q3 => cases hw0; rfl
        obtain ⟨x0, hx0, rx0⟩ := EN.2 i w0 hi
        refine ⟨x0, hx0, ?_⟩
        obtain ⟨o2, e2, t2⟩ := bnd_inv (show bnd (ev G e env) _ m = some o from t1)
        refine ⟨env, m, o2, e2, t2.go M EN p fun w2 m2 v2 S2 H2 as2 s2 M2 EN2 r2 hf2 p2 => ?_⟩
        obtain ⟨o3, e3, t3⟩ := bnd_inv hf2
        obtain ⟨a, b, rfl, rfl, rfl⟩ := hf' _ _ _ _ e3
        cases t3
        exact ⟨a, b, WOk.int rx0, WOk.int r2, nx_of M2 (EN2.set (show WOk ct.tb X.K S2 as2 (.int (f a b)) (wint (f a b)) from Rp.int _)) p2⟩
      | _ => exact Bool.noConfusion hm
    | _ => exact Bool.noConfusion hm
  · simp [mb] at hm
theorem ss_fld {o e : U.E} {f : Nat} : SS G (.fld o f e) := by
  intro ct sts X E hm W hs hp
  simp [mb] at hm
theorem sounds : ∀ t : T, SS G t := by
  intro t
  induction t with
  | skip => exact ss_skip
  | seq a b ha hb => exact ss_seq ha hb
  | set i e => exact ss_set
  | unp is e => exact ss_unp
  | par is es => exact ss_par
  | sub o i e => exact ss_sub
  | subn o i j e => exact ss_subn
  | fld o f e => exact ss_fld
  | aug i op e => exact ss_aug
  | iff c a b ha hb => exact ss_iff ha hb
  | for_ tg it body hb => exact ss_for hb
  | whl n c body hb => exact ss_whl hb
  | ret e => exact ss_ret
  | retN => exact ss_retN
  | exp e => exact ss_exp
  | brk => exact ss_brk
  | cont => exact ss_cont
  | never => exact ss_never
end
end U
set_option Elab.async false
set_option linter.all false
set_option maxRecDepth 100000
set_option maxHeartbeats 4000000
set_option autoImplicit false
/-! U22: a def keeps what its text tells. -/
namespace U
open Evl (Ex)
open PySem L2 PySem.Spec PyProof.Rows

/-- what is so of the program, wherever one stands -/
structure Wl (Pg : Program) (w : World) (K : PySem.W.Frag) (mg : Str → Option Value) (base : Heap) (ct : Ct) (G : Gm) : Prop where
  bl : ∀ x, ct.bl.contains x = true → mg x = none
  co : ∀ n x d, ct.co n = some (x, d) → ∃ u v, mg x = some u ∧ RelV v u ∧ ∀ S, Rp ct.tb K S v d
  fn : ∀ f F nm ps kp, G.fn f = some F → ct.fn f = some (nm, ps, kp) → ∃ u, mg nm = some u ∧ ∀ q ∈ kp, Cl Pg w K mg base ct.k ct.tb u F q.1 q.2 (q.2.filterMap fun i => ps[i]?)
  ty : ∀ t x, ct.tys.contains t = true → tyName ct t = some x → mg x = some (tyU ct.tb K t) ∨ (mg x = none ∧ bootBuiltins x = some (tyU ct.tb K t))
  isi : ∀ k t b, G.sub k t = some b → KdOk ct.tb K k ∧ PySem.W.kitOne K (kdV ct.tb K k) (tyU ct.tb K t) = some b
  fld : ∀ k f, G.fd k f = true → FdOk ct.tb K k f
theorem Wl.wd {Pg : Program} {w : World} {K : PySem.W.Frag} {mg : Str → Option Value} {base : Heap} {ct : Ct} {G : Gm} {N : List Str} {qual : Str} {scope : Scope} {f : Addr} {cdv : Value} {A : Around} {outer : List Env} {s : Shared} {H : Hp} {E : XK}
    (L : Wl Pg w K mg base ct G) (hN : N = ct.N) (hsc : scope = ct.sc) (nd : N.Nodup) (hg : A.guards = some []) (hr : Room ct.k (A.deeper (envOfC qual scope s.heap.objs.size f cdv))) : Wd (cxOf (L2.CX Pg w) Pg w K mg base N qual scope f cdv A outer s H E) ct G E where
  N := hN
  nd := by rw [← hN]; exact nd
  sc := hsc
  calm := rfl
  guards := hg
  room := hr
  bl := L.bl
  co := L.co
  fn := L.fn
  ty := L.ty
  isi := L.isi
  fld := L.fld
  ps := passes_call (X := cxOf (L2.CX Pg w) Pg w K mg base N qual scope f cdv A outer s H E) (takes_of rfl rfl rfl rfl) fun _ _ _ _ h => h
section
variable {tb : Tb} {K : PySem.W.Frag} {E : XK} {S H : Hp} {P : Option Addr}
/-- the memory at a def's start: the pot alone -/
theorem start_mok {pt : Pt} (e : Ex S H) (hs : ∃ u : Obj × Addr, H sysModules = some (.frz u.1 (.own u.2))) (hp : PotOk S H P pt) : MOk tb K H S P [potC pt] [P] S H where
  sub := e
  sys := hs
  s0 := (Evl.Ex.refl _)
  h0 := e
  base := fun _ _ h _ => h
  sbase := fun _ h _ => h
  nd := by simp
  len := rfl
  p0 := rfl
  pz := by
    cases pt with
    | none => exact ⟨fun _ => rfl, fun _ => hp⟩
    | some q =>
      obtain ⟨p, q⟩ := q
      obtain ⟨a, rfl, _⟩ := hp
      exact ⟨fun z => (by cases z), fun z => (by cases z)⟩
  live := fun n a h => by
    cases n with
    | succ n => cases h
    | zero =>
      cases pt with
      | none => cases (show P = none from hp); cases h
      | some q =>
        obtain ⟨p, q⟩ := q
        obtain ⟨b, rfl, h1, h2⟩ := hp
        cases h
        rw [h2]; simp
  pot := fun a h => by
    cases pt with
    | none => rw [show P = none from hp] at h; cases h
    | some q =>
      obtain ⟨p, q⟩ := q
      obtain ⟨b, rfl, h1, h2⟩ := hp
      cases h
      exact ⟨h1, _, h2⟩
  cell := fun n c a hc ha => by
    cases n with
    | succ n => cases hc
    | zero =>
      cases hc
      cases pt with
      | none => exact trivial
      | some q =>
        obtain ⟨p, q⟩ := q
        obtain ⟨b, rfl, h1, h2⟩ := hp
        cases ha
        exact ⟨h1, _, h2, .cons (Rp.int _) (.cons (Rp.int _) .nil)⟩
  new := fun n a h => by cases h
  some_ := fun n h => by simp at h
theorem start_env : ∀ {vs : List V} {ds : List D} {k : Nat}, Paired (AOk tb K S P) vs ds → EnvOk tb K S [P] (vs.map some ++ List.replicate k none) (ds.map argW ++ List.replicate k none) := by
  intro vs ds k h
  refine ⟨?_, fun i w hi => ?_⟩
  · rw [List.length_append, List.length_append, List.length_map, List.length_map, h.length, List.length_replicate, List.length_replicate]
  · rcases Nat.lt_or_ge i ds.length with hlt | hge
    · rw [List.getElem?_append_left (by rw [List.length_map]; exact hlt), List.getElem?_map] at hi
      have hv : i < vs.length := by rw [h.length]; exact hlt
      rw [List.getElem?_append_left (by rw [List.length_map]; exact hv), List.getElem?_map]
      have key : ∀ {vs : List V} {ds : List D} {i : Nat}, Paired (AOk tb K S P) vs ds → ∀ d, ds[i]? = some d → ∃ v, vs[i]? = some v ∧ AOk tb K S P v d := by
        intro vs ds i h
        induction h generalizing i with
        | nil => intro d hd; cases i <;> cases hd
        | cons a t ih =>
          intro d hd
          cases i with
          | zero => cases hd; exact ⟨_, rfl, a⟩
          | succ i => exact ih d hd
      cases hd : ds[i]? with
      | none => rw [hd] at hi; cases hi
      | some d =>
        rw [hd] at hi
        obtain ⟨v, e1, e2⟩ := key h d hd
        rw [e1]
        refine ⟨v, rfl, ?_⟩
        have hi : argW d = some w := Option.some.inj hi
        rcases e2 with r | ⟨rfl, a, rfl, rfl⟩
        · cases d with
          | pot => cases r
          | _ => cases hi; exact r
        · cases hi
          exact ⟨a, rfl, rfl⟩
    · rw [List.getElem?_append_right (by rw [List.length_map]; exact hge), List.getElem?_replicate] at hi
      split at hi <;> cases hi
theorem MOk.frm {H0 S0 : Hp} {m : Mem} {as : List (Option Addr)} (M : MOk tb K H0 S0 P m as S H) : Frm P S0 H0 S H := ⟨M.s0, M.sub, M.base, M.sbase⟩
/-- what a def hands back -/
theorem fin_ok {H0 S0 : Hp} {m : Mem} {as : List (Option Addr)} {rk : Rk} {w : W} {v : V} {o : Ans} {Q : VK} (M : MOk tb K H0 S0 P m as S H) (hw : WOk tb K S as v w) (h : fin rk w m = some o) (p : FPost tb K P S0 H0 Q E o) : Q v H := by
  unfold fin at h
  cases ho : outW rk w m with
  | none => rw [ho] at h; cases h
  | some q =>
    obtain ⟨r, m1⟩ := q
    rw [ho] at h
    dsimp only at h
    cases hp : potOf m1 with
    | none => rw [hp] at h; cases h
    | some pt =>
      rw [hp] at h
      cases h
      unfold outW at ho
      split at ho
      · cases hf : fz FZ w m with
        | none => simp only [hf] at ho; cases ho
        | some q =>
          obtain ⟨x, m2⟩ := q
          simp only [hf] at ho
          cases ho
          obtain ⟨S1, M1, s1, r1⟩ := fz_ok FZ _ _ _ _ _ _ _ _ _ _ _ hf M hw
          exact p v S1 H [] M1.frm (pot_ok M1 hp) ⟨rfl, r1⟩
      · rename_i k
        cases hc : m[k + 1]? with
        | none => rw [hc] at ho; cases ho
        | some c =>
          rw [hc] at ho
          cases c with
          | lst us =>
            dsimp only at ho
            cases hf : fzs (fz FZ) us (m.set (k + 1) (.pin us)) with
            | none => rw [hf] at ho; cases ho
            | some q =>
              obtain ⟨xs, m2⟩ := q
              rw [hf] at ho
              cases ho
              obtain ⟨a, ha, rfl⟩ := hw
              have Mp := M.recell (c' := .pin us) hc (by simp) (by simp) fun a h => h
              have hlt : k + 1 < m.length := (List.getElem?_eq_some_iff.mp hc).1
              have hpin : (m.set (k + 1) (.pin us))[k + 1]? = some (.pin us) := List.getElem?_set_self hlt
              obtain ⟨hS, vs, hH, r⟩ := Mp.cell _ _ _ hpin ha
              obtain ⟨S1, M1, s1, r1⟩ := fzs_ok (fz_ok FZ) us _ xs _ vs S hf Mp r
              obtain ⟨g1, g2⟩ := s1.pin _ _ _ hpin ha
              obtain ⟨hS1, _⟩ := M1.cell _ _ _ g1 ha
              exact p _ S1 H [a] M1.frm (pot_ok M1 hp) ⟨a, vs, rfl, rfl, M1.new _ _ ha, hS1, hH, r1⟩
          | _ => cases ho
      · cases ho
end
/-- a def keeps what its text tells -/
theorem run_ok {Pg : Program} {w : World} {K : PySem.W.Frag} {mg : Str → Option Value} {base : Heap} {ct : Ct} {G : Gm} {f : Addr} {name qual : Str} {params : Arguments} {body : List Stmt} {scope : Scope} {dvs : List V} {kws : List (Str × V)} {fd : FuncData} {ps : List Str} {t : T} {rk : Rk} {n : Nat}
    (L : Wl Pg w K mg base ct G) (F : FunD K name qual params body scope dvs kws f fd) (S : FnScope ct.N ps scope) (hsc : scope = ct.sc) (hm : mb t ct body = true) (hn : n = ct.N.length) :
    FnG Pg w K mg base (L2.CX Pg w) (ct.k + 1) f fd ps (FSp ct.tb K (run G ps.length n t rk)) := by
  have len : ∀ vs H Q E, FSp ct.tb K (run G ps.length n t rk) vs H Q E → vs.length = ps.length := by
    rintro vs H Q E ⟨S', P, ds, pt, o, _, _, _, h4, h5, _⟩
    unfold run at h5
    split at h5
    · rename_i hl
      rw [h4.length]; exact hl
    · cases h5
  refine fnG_of F S len fun cdv A outer s H vs Q E hg hr hsp => ?_
  have hlen := len vs H Q E hsp
  obtain ⟨S', P, ds, pt, o, h1, h2, h3, h4, h5, h6⟩ := hsp
  have W := Wl.wd (E := E) (qual := qual) (f := f) (cdv := cdv) (outer := outer) (s := s) (H := H) L rfl hsc S.nd hg hr
  refine ⟨tS G ct.tb K E t, ((sounds t) ct body _ E hm W ?_ (passes_of rfl)).1, ?_⟩
  · intro x hx
    unfold loc at hx
    simp only [Bool.or_eq_true, decide_eq_true_eq] at hx
    refine ⟨?_, .inl rfl⟩
    show Loc scope x
    rw [hsc]
    exact hx
  · unfold run at h5
    split at h5
    · rename_i hl
      have hk : ct.N.length - vs.length = n - ps.length := by rw [hn, hlen]
      cases hex : ex G t (ds.map argW ++ List.replicate (n - ps.length) none) [potC pt] with
      | none => rw [hex] at h5; cases h5
      | some out =>
        rw [hex] at h5
        refine ⟨_, _, out, hex, H, S', P, S', [P], start_mok h1 h2 h3, ?_, ?_⟩
        · unfold L2.start
          rw [hk]
          exact start_env h4
        · cases out with
          | ok q m =>
            obtain ⟨fl, env'⟩ := q
            rintro ⟨fb, σ'⟩ S1 H1 as1 s1 M1 ⟨EN1, r1⟩
            cases fl with
            | ret w' =>
              cases fb with
              | ret v => exact fin_ok M1 r1 h5 h6
              | _ => exact r1.elim
            | next =>
              cases fb with
              | next => exact fin_ok (w := .d .non) M1 Rp.non h5 h6
              | _ => exact r1.elim
            | brk => cases h5
            | cont => cases h5
          | exc c fs m =>
            dsimp only at h5
            cases hp : potOf m with
            | none => rw [hp] at h5; cases h5
            | some pt' =>
              rw [hp] at h5
              cases h5
              exact fun od S1 H1 as1 s1 M1 x => h6 od S1 H1 M1.frm (pot_ok M1 hp) x
    · cases h5
end U
set_option Elab.async false
set_option linter.all false
set_option maxRecDepth 100000
set_option maxHeartbeats 4000000
set_option autoImplicit false
/-! U23: defs as values that are called. -/
namespace U
open Evl (Ex)
open PySem L2 PySem.Spec PyProof.Rows
theorem paired_getK {α β : Type} {R : α → β → Prop} (k : Nat) : ∀ {ks : List Nat} {zs : List α} {ws : List β}, Paired R zs ws → (getK k (ks.zip zs) = none ∧ getK k (ks.zip ws) = none) ∨ ∃ v w, getK k (ks.zip zs) = some v ∧ getK k (ks.zip ws) = some w ∧ R v w
  | [], _, _, _ => .inl ⟨rfl, rfl⟩
  | q :: ks, _, _, .nil => .inl ⟨rfl, rfl⟩
  | q :: ks, _, _, .cons h t => by
    simp only [List.zip_cons_cons, getK]
    by_cases e : q = k
    · rw [if_pos e, if_pos e]
      exact .inr ⟨_, _, rfl, rfl, h⟩
    · rw [if_neg e, if_neg e]
      exact paired_getK k t
theorem paired_fm {α β : Type} {R : α → β → Prop} {ks : List Nat} {zs : List α} {ws : List β} (h : Paired R zs ws) (n : Nat) : ∀ l : List Nat, Paired R (l.filterMap fun j => getK (n + j) (ks.zip zs)) (l.filterMap fun j => getK (n + j) (ks.zip ws))
  | [] => .nil
  | j :: l => by
    rw [List.filterMap_cons, List.filterMap_cons]
    rcases paired_getK (n + j) (ks := ks) h with ⟨e1, e2⟩ | ⟨v, w, e1, e2, r⟩
    · rw [e1, e2]
      exact paired_fm h n l
    · rw [e1, e2]
      exact .cons r (paired_fm h n l)
theorem paired_placed {α β : Type} {R : α → β → Prop} {ks : List Nat} {vs zs : List α} {us ws : List β} (h1 : Paired R vs us) (h2 : Paired R zs ws) : Paired R (placed vs ks zs) (placed us ks ws) := by
  unfold placed
  cases ks with
  | nil => exact h1
  | cons k ks =>
    have e : vs.length = us.length := h1.length
    refine h1.app ?_
    rw [e]
    exact paired_fm h2 us.length _
/-- a def, called in one way -/
theorem cl_fn {Pg : Program} {w : World} {K : PySem.W.Frag} {mg : Str → Option Value} {base : Heap} {k : Nat} {tb : Tb} {f : Addr} {fd : FuncData} {ps : List Str} {F : Fn} {n : Nat} {ks : List Nat} {names : List Str} (P : FnG Pg w K mg base (L2.CX Pg w) k f fd ps (FSp tb K F)) (hk : PySem.W.keepIn K (.ref f) = true)
    (hb : ∀ us ws : List Value, us.length = n → ws.length = ks.length → bindArgs fd ⟨us, names.zip ws⟩ = pure (ps.zip (placed us ks ws))) : Cl Pg w K mg base k tb (.ref f) F n ks names where
  keep := hk
  run := fun X E h1 h2 h3 h4 h5 hc hg hr hx pins s σ H us ws vs zs Q I rv rz l1 l2 hsp => by
    obtain ⟨Xprog, Xw, XK, Xmg, Xbase, XA, XN, Xs, XH, Xenv, Xouter, Xstack, Xex, Xfn, Xcalm, Xpn, Xxe⟩ := X
    dsimp only at h1 h2 h3 h4 h5
    subst h1 h2 h3 h4 h5
    exact callG (args := ⟨us, names.zip ws⟩) P hg hr hx I (.of_eq (hb us ws l1 l2)) (paired_placed rv rz) hsp
end U
set_option Elab.async false
set_option linter.all false
set_option maxRecDepth 100000
set_option maxHeartbeats 4000000
set_option autoImplicit false
/-! V1: own exception classes that are called, by place and by name, over any built-in base. -/
namespace U
open Evl (Ex)
open PySem L2 PySem.Spec PyProof.Rows
section
variable {Pg : Program} {w : World} {A : Around} {E : Value → Shared → Prop} {R : Result → Shared → Prop} {h : Heap} {g : Array GenState} {dr : Drawn} {tk : Nat} {os : OsState}
variable {nm qn : Str} {C N : Addr} {bs bm bB : List Value} {hd : Bool} {sl : List Str} {sb : List Value} {ab : Bool} {co : Option Bool} {dd : Option Addr} {k0 k1 k2 k3 k5 : Option Value} {B nid iid : String} {us : List Value} {kw : List (Str × Value)}
/-- keywords are nothing to a signature that takes all -/
theorem any_kw {id a b : String} {r : Manifest.Receiver} {ps : List Manifest.Param} {xs : List Value} : Bind.checkArgs id ⟨.any, a, b, r, ps⟩ ⟨xs, kw⟩ = Bind.checkArgs id ⟨.any, a, b, r, ps⟩ ⟨xs, []⟩ := rfl
/-- so the look ahead of BaseException's making is the same with them -/
theorem look_kw (F : ExcBaseFacts B nid iid bB) {xs : List Value} : checkBuiltinCall nid ⟨xs, kw⟩ = checkBuiltinCall nid ⟨xs, []⟩ := by
  simp only [checkBuiltinCall, F.newRow, F.newKind, F.newSplit, any_kw (kw := kw)]
theorem xk_look {M : Model} {Q : Unit → Shared → Prop} (F : ExcBaseFacts B nid iid bB) (hT : ∀ Y : String, bm.contains (.type Y) = bB.contains (.type Y))
    (hC : h.get? C = some (excClassObj nm qn C N bs bm hd sl sb ab co dd k0 k1 k2 k3 k5 nid)) (z : Q () ⟨h, g, dr, tk, os⟩) :
    wpAny M A (checkBuiltinCall nid ⟨.ref C :: us, kw⟩) Q E ⟨h, g, dr, tk, os⟩ := by
  rw [look_kw F]
  exact PySem.HandSPX.check_new_own F hT hC z
/-- two objects more, nothing lost -/
theorem kept2 {x y : Obj} : ∀ b o, h.get? b = some o → ((h.push x).push y).get? b = some o := by
  intro b o e
  exact Heap.get?_push_of_some y (Heap.get?_push_of_some x e)
/-- BaseException.__new__: the args and the object are laid -/
theorem xk_new (F : ExcBaseFacts B nid iid bB) (hT : ∀ Y : String, bm.contains (.type Y) = bB.contains (.type Y))
    (hC : h.get? C = some (excClassObj nm qn C N bs bm hd sl sb ab co dd k0 k1 k2 k3 k5 nid)) (hz : us.length ≤ sizeLine)
    (z : R (.ok (.ret (.ref (h.objs.size + 1)))) ⟨(h.push (PySem.W.kdv_tup us)).push (PySem.HandSPX.excO C h.objs.size), g, dr, tk, os⟩) :
    codeAny (model Pg w) A (.builtin nid ⟨.ref C :: us, kw⟩) R ⟨h, g, dr, tk, os⟩ := by
  have fe := F.ends
  have c1 : (Value.ref C :: bm).contains (.type B) = true := by
    rw [List.contains_cons, hT, F.hasB]
    exact Bool.or_true _
  have c2 : (Value.ref C :: bm).contains (.type "AttributeError") = false := by
    rw [List.contains_cons, hT, F.noAttr]
    rfl
  have c3 : (Value.ref C :: bm).contains (.type "NameError") = false := by
    rw [List.contains_cons, hT, F.noName]
    rfl
  refine codeAny_builtinAt F.entry ?_
  unfold Builtin.«BaseException.__new__»
  refine PySem.wpAt_bind ?_
  show PySem.wpAt _ _ _ (PySem.stack >>= _) _ _ _
  refine PySem.wpAt_bind (PySem.wpAt_stack fun _ _ => PySem.wpAt_of_wpAny ?_)
  wp_walk
  refine PySem.wpAt_of_wpAny ?_
  rw [F.owner]
  repeat (first
    | with_reducible refine wpAny_madeHere_exc F.canon hC ?_
    | with_reducible refine wpAny_loadPart_at hC ?_
    | (with_reducible refine wpAny_isSubtype_exc hC ?_
       first | rw [c1] | rw [c2] | rw [c3])
    | wp_step)
  show R _ _
  rw [Heap.size_push]
  exact z
/-- C(.., k = ..): the object is laid, then its __init__ runs -/
theorem xk_call {fI : Addr} (F : ExcBaseFacts B nid iid bB) (hT : ∀ Y : String, bm.contains (.type Y) = bB.contains (.type Y))
    (hC : h.get? C = some (excClassObj nm qn C N bs bm hd sl sb ab co dd k0 k1 k2 k3 k5 nid)) (hz : us.length ≤ sizeLine)
    (hi : PySem.W.Looks (model Pg w) h (typeLookup (.ref C) "__init__") (some (.ref fI))) (hb : ∀ o, PySem.W.Looks (model Pg w) h (bindSpecial (.ref fI) o) (.ref fI, [o]))
    (z : codeAny (model Pg w) (A.under (.builtin "type.__call__" ⟨.ref C :: us, kw⟩)) (.call (.ref fI) ⟨.ref (h.objs.size + 1) :: us, kw⟩) (PySem.W.InitBack (h.objs.size + 1) R) ⟨(h.push (PySem.W.kdv_tup us)).push (PySem.HandSPX.excO C h.objs.size), g, dr, tk, os⟩) :
    codeAny (model Pg w) A (.call (.ref C) ⟨us, kw⟩) R ⟨h, g, dr, tk, os⟩ := by
  have f1 := tc_lookup
  have f2 := tc_bind (.ref C)
  have ty : (⟨h, g, dr, tk, os⟩ : Shared).TypeIs (.ref C) "type" := ⟨_, hC, rfl⟩
  have inT : PySem.W.Looks (model Pg w) h (isInstance (.ref C) (.type "type")) true := by
    unfold isInstance
    exact (PySem.W.Looks.ld (part := none) hC).andThen .now
  refine codeAny_of_tree (show wpAny _ _ (callAny (.ref C) _) _ _ _ from ?_)
  have ld : ∀ {pt : Option Value} {Q : Obj → Shared → Prop} {A' : Around} {E' : Value → Shared → Prop}, Q _ ⟨h, g, dr, tk, os⟩ → wpAny (model Pg w) A' (loadPart C pt) Q E' ⟨h, g, dr, tk, os⟩ := fun z => wpAny_loadPart_at hC z
  repeat any_goals first
    | assumption
    | with_reducible refine ld ?_
    | wp_step
  refine ⟨rfl, ?_⟩
  show codeAny (model Pg w) A (.call (.builtin "type.__call__") ⟨.ref C :: us, kw⟩) _ _
  refine codeAny_call_builtin_at (Code.quiet_builtin _ (by decide +kernel)) entry_typeCall (PySem.W.check_slot tc_kind tc_split inT (PySem.W.tc_args _ _ _) ?_)
  unfold Builtin.«type.__call__»
  repeat first
    | with_reducible refine ld ?_
    | with_reducible refine wpAny_madeBy_exc hC ?_
    | wp_step
  refine codeAny_call_builtin_code (Code.quiet_builtin _ F.quiet) (xk_look F hT hC (xk_new F hT hC hz ?_))
  have hN : ((h.push (PySem.W.kdv_tup us)).push (PySem.HandSPX.excO C h.objs.size)).get? (h.objs.size + 1) = some (PySem.HandSPX.excO C h.objs.size) := by heap_get
  have hC2 := kept2 (x := PySem.W.kdv_tup us) (y := PySem.HandSPX.excO C h.objs.size) _ _ hC
  have hi2 := hi.keeps (kept2 (x := PySem.W.kdv_tup us) (y := PySem.HandSPX.excO C h.objs.size))
  have hb2 := (hb (.ref (h.objs.size + 1))).keeps (kept2 (x := PySem.W.kdv_tup us) (y := PySem.HandSPX.excO C h.objs.size))
  have cC : (Value.ref C :: bm).contains (.ref C) = true := by simp
  show wpAny _ _ _ _ _ _
  unfold isInstance
  repeat (first
    | with_reducible refine wpAny_loadPart_at hN ?_
    | (show wpAny _ _ (isSubtype (.ref C) (.ref C)) _ _ _
       refine wpAny_isSubtype_exc hC2 ?_
       rw [cC])
    | wp_step)
  refine hi2.at ?_
  refine wpAny_holding (wpAny_bind (hb2.at (wpAny_bind (wpAny_call (codeAny_mono z fun r s' y => ?_)))))
  cases r with
  | error e => exact y
  | ok fl =>
    cases fl with
    | ret v =>
      obtain ⟨rfl, y⟩ := y
      first
        | exact wpAny_pure (wpAny_pure y)
        | (wp_walk; exact y)
    | next => exact False.elim y
    | brk => exact False.elim y
    | cont => exact False.elim y
end
end U
set_option Elab.async false
set_option linter.all false
set_option maxRecDepth 100000
set_option maxHeartbeats 4000000
set_option autoImplicit false
/-! V2: stores into an exception that is being made; its constructor as a function of trees. -/
namespace U
open Evl (Ex)
open PySem L2 PySem.Spec PyProof.Rows
/-- what is so of an own exception class over the built-in B -/
structure XC (K : PySem.W.Frag) (C : Addr) (B nid iid : String) (bB : List Value) : Prop where
  fb : ExcBaseFacts B nid iid bB
  sf : StoreFacts B bB "object.__setattr__" "object"
  ini : PySem.W.excInitIn K C bB nid = true
  ov : PySem.W.excOver K C bB = true
  dct : PySem.W.hasDictIn K C = true
  sa : PySem.W.findIn K (.ref C) "__setattr__" = some (some (.builtin "object.__setattr__"))
  kp : PySem.W.keepIn K (.ref C) = true
section
variable {X : Cx} {pins : List (Addr × Obj)} {σ : L2.St} {H : Hp} {s : Shared} {a C dx : Addr} {f : Str} {y : V} {u : Value} {fs : List (Str × V)} {Q : Unit → Shared → Prop} {E : Value → Shared → Prop} {A : Around} {B nid iid : String} {bB : List Value}
/-- the first attribute: the dict is made -/
theorem xst_new (T : XC X.K C B nid iid bB) (I : Inv X pins σ H s) (e : H a = some (exo a C none)) (hno : PySem.W.takerIn X.K C f = some none) (ry : RelV y u)
    (z : ∀ d s', H d = none → d ≠ a → Inv X pins σ (upd (upd H d (exd d [(f, y)])) a (exo a C (some d))) s' → Q () s') : wpAny (model X.prog X.w) A (setAttr (.ref a) f u) Q E s := by
  obtain ⟨t1, ho⟩ := exo_at I.hok e
  obtain ⟨cd, hc, hd⟩ := PySem.W.any_some T.dct
  obtain ⟨hp, g, dr, tk, os⟩ := s
  have hlt : a < hp.objs.size := Heap.lt_size ho
  refine PySem.W.set_plain I.kIn (od := none) ⟨ho, rfl, rfl, trivial⟩ T.sa ?_
  refine PySem.W.osa_openX (od := none) T.sf I.kIn ⟨ho, rfl, rfl, trivial⟩ T.ov hno fun b => ?_
  refine wpAny_bind (wpAny_pure (wpAny_bind (PySem.W.instanceDict_exc ho (PySem.W.looks_clsIn I.kIn hc) hd ?_)))
  have ne : hp.objs.size ≠ a := Ne.symm (Nat.ne_of_lt hlt)
  refine PySem.HandSPX.store_in_new (dx := hp.objs.size) ?_ fun h' tk' hn hs => ?_
  · refine ⟨PySem.W.dictOf [] 0, #[], 0, ?_, rfl, fun x hx => absurd hx (by simp), fun _ => rfl⟩
    rw [Heap.get?_update_ne _ _ _ _ ne]
    exact Heap.get?_push_size hp rfl
  · have fresh : H hp.objs.size = none := I.hok.fresh (Nat.le_refl _)
    obtain ⟨od, es, ep, hod, dod, rest⟩ := hn
    have gp : (hp.push od).get? hp.objs.size = some od := Heap.get?_push_size hp (Heap.get?_some_iff.mp hod).2
    have J : Inv X pins σ (upd H hp.objs.size (exd hp.objs.size [(f, y)])) ⟨hp.push od, g, dr, tk', os⟩ := I.laid (t' := tk') (fun b o q => Heap.get?_push_of_some od q) (Nat.le_refl _)
      (exd_ok ⟨od, es, ep, gp, dod, rest⟩ (relO_put (fs := []) ry fun _ => True.intro))
    have ha' : h'.get? a = some ({ cls := .ref C, dict := some hp.objs.size, data := .fields #[.ref t1, .none, .none, .none, .bool false, .none] } : Obj) := by
      rw [hs.2 a (Ne.symm ne)]
      exact Heap.get?_update_self _ (Heap.get?_push_of_some _ ho) rfl
    refine z hp.objs.size _ fresh ne (J.write (t' := tk') (x := a) (e := a) (o := exo a C (some hp.objs.size)) (by rw [upd_ne (Ne.symm ne), e]; exact True.intro) (.inl rfl) (fun b o hb q => ?_) ⟨_, ha'⟩ (exo_ok ha'))
    rcases Heap.get?_push_cases q with ⟨rfl, rfl⟩ | q
    · exact hod
    · rw [hs.2 b (Nat.ne_of_lt (Heap.lt_size q)), Heap.get?_update_ne _ _ _ _ hb]
      exact Heap.get?_push_of_some _ q
/-- a further one -/
theorem xst_old (T : XC X.K C B nid iid bB) (I : Inv X pins σ H s) (e : H a = some (exo a C (some dx))) (ed : H dx = some (exd dx fs)) (hl : fs.length ≤ 900) (hno : PySem.W.takerIn X.K C f = some none) (ry : RelV y u)
    (z : ∀ s', Inv X pins σ (upd H dx (exd dx ((f, y) :: fs))) s' → Q () s') : wpAny (model X.prog X.w) A (setAttr (.ref a) f u) Q E s := by
  obtain ⟨t1, ho⟩ := exo_at I.hok e
  obtain ⟨mA, hns, rel⟩ := exd_at I.hok ed
  have hw := within_of rel
  obtain ⟨cd, hc, hd⟩ := PySem.W.any_some T.dct
  obtain ⟨hp, g, dr, tk, os⟩ := s
  obtain ⟨oD, _, _, hoD, _, _⟩ := hns.count hw
  refine PySem.W.set_plain I.kIn (od := some oD) ⟨ho, rfl, rfl, hoD⟩ T.sa ?_
  refine PySem.W.osa_openX (od := some oD) T.sf I.kIn ⟨ho, rfl, rfl, hoD⟩ T.ov hno fun b => ?_
  refine wpAny_bind (wpAny_pure (wpAny_bind (wpAny_bind (wpAny_loadPart ho (wpAny_bind ((PySem.W.looks_clsIn I.kIn hc).at ?_))))))
  rw [hd]
  refine wpAny_pure (a := some dx) ?_
  refine PySem.OEX.store_in_old hns hw (by rw [List.length_map]; omega) fun h' tk' hn hs => ?_
  have there : ∃ o, h'.get? dx = some o := by
    obtain ⟨o, _, _, q, _⟩ := hn
    exact ⟨o, q⟩
  exact z _ (I.write (t' := tk') (x := dx) (e := dx) (o := exd dx ((f, y) :: fs)) (by rw [ed]; exact True.intro) (.inl rfl) (fun b o hb q => (hs.2 b hb).trans q) there (exd_ok hn (relO_put ry rel)))
end

/-! ### self.f = v as a statement of an exception's __init__ -/
/-- what stands behind it -/
def xput (H : Hp) (a C : Addr) (f : Str) (y : V) (k : Hp → Prop) : Prop :=
  (H a = some (exo a C none) ∧ ∀ d, H d = none → d ≠ a → k (upd (upd H d (exd d [(f, y)])) a (exo a C (some d)))) ∨
  ∃ d fs, H a = some (exo a C (some d)) ∧ H d = some (exd d fs) ∧ fs.length ≤ 900 ∧ k (upd H d (exd d ((f, y) :: fs)))
/-- o.f = e -/
def tXst (K : PySem.W.Frag) (f : Str) (to te : TE) : TS := fun D σ H => te σ H fun y H1 => to σ H1 fun x H2 => ∃ a C B nid iid bB, x = .ref a ∧ XC K C B nid iid bB ∧ PySem.W.takerIn K C f = some none ∧ xput H2 a C f y fun H' => D.nx σ H'
theorem ps_xst {X : Cx} {o e : Expr} {to te : TE} {f : Str} {p' pos : Pos} (ho : PE X o to) (he : PE X e te) (hs : swapsWith e (some (.Attribute o f p')) pos.line X.env = pure false := by rfl) : PS X (.Assign [.Attribute o f p'] e pos) (tXst X.K f to te) := by
  constructor
  intro pins s σ H D I h
  refine plainObj_wpAny_Assign_Attribute (thn (he.run pins s σ H _ I h) ?_) hs
  rintro v s1 ⟨y, H1, I1, r1, q1⟩
  refine thn (ho.run pins s1 σ H1 _ I1 q1) ?_
  rintro u s2 ⟨x, H2, I2, r2, a, C, B, nid, iid, bB, rfl, T, hno, q⟩
  obtain rfl : u = Value.ref a := r2
  rcases q with ⟨ea, q⟩ | ⟨d, fs, ea, ed, hl, q⟩
  · exact xst_new T I2 ea hno r1 fun d s' n ne J => ⟨σ, _, J, q d n ne⟩
  · exact xst_old T I2 ea ed hl hno r1 fun s' J => ⟨σ, _, J, q⟩

/-! ### __init__ -/
/-- self and some values: each is stored under its name -/
def spX (K : PySem.W.Frag) (fs : List Str) : Sp := fun vs H Q _ => ∃ a C B nid iid bB ys, vs = .ref a :: ys ∧ ys.length = fs.length ∧ XC K C B nid iid bB ∧ (∀ f ∈ fs, PySem.W.takerIn K C f = some none) ∧ H a = some (exo a C none) ∧
  ∀ d, H d = none → d ≠ a → Q .non (upd (upd H d (exd d (fs.zip ys).reverse)) a (exo a C (some d)))
section
variable {Pg : Program} {w : World} {K : PySem.W.Frag} {mg : Str → Option Value} {base : Heap} {fI : Addr} {name qual x0 x1 x2 f1 f2 : Str} {params : Arguments} {scope : Scope} {dvs : List V} {kws : List (Str × V)} {fd : FuncData} {p p1 p2 pos q q1 q2 qos : Pos}
theorem vis0 {N : List Str} {i : Nat} {x : Str} (h : N[i]? = some x) {X : Cx} (hN : X.N = N) (hv : Vis X.env.scope x) (h1 : (x == ("__debug__" : Str)) = false) (h2 : (x == ("__classdict__" : Str)) = false) {pos : Pos} : PE X (.Name x pos) (tVar i) := pe_var (by rw [hN]; exact h) hv h1 h2
/-- one attribute -/
theorem fnX1 (F : FunD K name qual params [.Assign [.Attribute (.Name x0 p) f1 p1] (.Name x1 p2) pos] scope dvs kws fI fd) (S : FnScope [x0, x1] [x0, x1] scope) (v0 : Vis scope x0) (v1 : Vis scope x1)
    (a1 : (x0 == ("__debug__" : Str)) = false) (a2 : (x0 == ("__classdict__" : Str)) = false) (b1 : (x1 == ("__debug__" : Str)) = false) (b2 : (x1 == ("__classdict__" : Str)) = false) :
    FnG Pg w K mg base (L2.CX Pg w) 1 fI fd [x0, x1] (spX K [f1]) := by
  refine fnG_of F S ?_ ?_
  · rintro vs H Q E ⟨a, C, B, nid, iid, bB, ys, rfl, hl, _⟩
    simp only [List.length_cons, List.length_nil] at hl ⊢
    omega
  · rintro cdv A outer s H vs Q E hg hr ⟨a, C, B, nid, iid, bB, ys, rfl, hl, T, tk, ha, hq⟩
    obtain ⟨y, rfl⟩ : ∃ y, ys = [y] := by
      match ys, hl with
      | [y], _ => exact ⟨y, rfl⟩
    refine ⟨_, pss_one (ps_xst (vis0 (i := 0) rfl rfl v0 a1 a2) (vis0 (i := 1) rfl rfl v1 b1 b2)), ?_⟩
    refine ⟨y, rfl, .ref a, rfl, a, C, B, nid, iid, bB, rfl, T, tk _ (by simp), .inl ⟨ha, fun d n ne => ?_⟩⟩
    exact hq d n ne
/-- two attributes -/
theorem fnX2 (F : FunD K name qual params [.Assign [.Attribute (.Name x0 p) f1 p1] (.Name x1 p2) pos, .Assign [.Attribute (.Name x0 q) f2 q1] (.Name x2 q2) qos] scope dvs kws fI fd) (S : FnScope [x0, x1, x2] [x0, x1, x2] scope) (v0 : Vis scope x0) (v1 : Vis scope x1) (v2 : Vis scope x2)
    (a1 : (x0 == ("__debug__" : Str)) = false) (a2 : (x0 == ("__classdict__" : Str)) = false) (b1 : (x1 == ("__debug__" : Str)) = false) (b2 : (x1 == ("__classdict__" : Str)) = false) (c1 : (x2 == ("__debug__" : Str)) = false) (c2 : (x2 == ("__classdict__" : Str)) = false) :
    FnG Pg w K mg base (L2.CX Pg w) 1 fI fd [x0, x1, x2] (spX K [f1, f2]) := by
  refine fnG_of F S ?_ ?_
  · rintro vs H Q E ⟨a, C, B, nid, iid, bB, ys, rfl, hl, _⟩
    simp only [List.length_cons, List.length_nil] at hl ⊢
    omega
  · rintro cdv A outer s H vs Q E hg hr ⟨a, C, B, nid, iid, bB, ys, rfl, hl, T, tk, ha, hq⟩
    obtain ⟨y, z, rfl⟩ : ∃ y z, ys = [y, z] := by
      match ys, hl with
      | [y, z], _ => exact ⟨y, z, rfl⟩
    refine ⟨_, pss_cons (ps_xst (vis0 (i := 0) rfl rfl v0 a1 a2) (vis0 (i := 1) rfl rfl v1 b1 b2)) (pss_one (ps_xst (vis0 (i := 0) rfl rfl v0 a1 a2) (vis0 (i := 2) rfl rfl v2 c1 c2))), ?_⟩
    refine ⟨y, rfl, .ref a, rfl, a, C, B, nid, iid, bB, rfl, T, tk _ (by simp), .inl ⟨ha, fun d n ne => ?_⟩⟩
    refine ⟨z, rfl, .ref a, rfl, a, C, B, nid, iid, bB, rfl, T, tk _ (by simp), .inr ⟨d, [(f1, y)], upd_same, ?_, by simp, ?_⟩⟩
    · rw [upd_ne ne, upd_same]
    · have e : upd (upd (upd H d (exd d [(f1, y)])) a (exo a C (some d))) d (exd d [(f2, z), (f1, y)]) = upd (upd H d (exd d [(f2, z), (f1, y)])) a (exo a C (some d)) := by
        funext b
        by_cases h1 : b = d
        · subst h1; rw [upd_same, upd_ne ne, upd_same]
        · rw [upd_ne h1]
          by_cases h2 : b = a
          · subst h2; rw [upd_same, upd_same]
          · rw [upd_ne h2, upd_ne h2, upd_ne h1, upd_ne h1]
      exact e ▸ hq d n ne
end

/-! ### the constructor -/
def notPot : D → Bool
  | .pot => false
  | _ => true
/-- an exception of the class c, its attributes as they were stored -/
def mkX (c : Nat) (fns : List Nat) : Fn := fun ds pt => if ds.length = fns.length ∧ ds.all notPot = true then some (.ok (.d (.exc c (fns.zip ds).reverse)) pt) else none
section
variable {tb : Tb} {K : PySem.W.Frag} {S H : Hp} {P : Option Addr}
theorem rkv_app {κ : Type} : ∀ {vs vs' : List (κ × V)} {ds ds' : List (κ × D)}, Rkv tb K S κ vs ds → Rkv tb K S κ vs' ds' → Rkv tb K S κ (vs ++ vs') (ds ++ ds')
  | _, _, _, _, .nil, h => h
  | _, _, _, _, .cons a r, h => .cons a (rkv_app r h)
theorem rkv_zip : ∀ (fns : List Nat) {ys : List V} {ds : List D}, Paired (AOk tb K S P) ys ds → ds.all notPot = true → Rkv tb K S Str ((fns.map tb.fd).zip ys).reverse (fldS tb (fns.zip ds).reverse)
  | [], _, _, _, _ => .nil
  | _ :: _, _, _, .nil, _ => .nil
  | f :: fns, _, _, .cons (b := d) r t, h => by
    simp only [List.all_cons, Bool.and_eq_true] at h
    have ih := rkv_zip fns t h.2
    simp only [List.map_cons, List.zip_cons_cons, List.reverse_cons, fldS, List.map_append, List.map_nil]
    refine rkv_app ih (.cons ?_ .nil)
    rcases r with r | ⟨rfl, _⟩
    · exact r
    · exact absurd h.1 (by simp [notPot])
/-- two new objects that nobody changes -/
theorem new2 {a d : Addr} {o1 o2 : HO} {pt : Pt} (ex : Ex S H) (hp : PotOk S H P pt) (ha : H a = none) (hd : H d = none) : Frm P S H (upd (upd S d o1) a o2) (upd (upd H d o1) a o2) ∧ PotOk (upd (upd S d o1) a o2) (upd (upd H d o1) a o2) P pt := by
  have na : ∀ {b : Addr} {u : HO}, H b = some u → b ≠ a ∧ b ≠ d := fun {b u} e => ⟨ne_of_none e ha, ne_of_none e hd⟩
  have kH : ∀ {b : Addr} {u : HO}, H b = some u → upd (upd H d o1) a o2 b = some u := fun {b u} e => by rw [upd_ne (na e).1, upd_ne (na e).2]; exact e
  refine ⟨⟨fun b u e => ?_, fun b u e => ?_, fun b u e _ => kH e, fun b e n => ?_⟩, ?_⟩
  · have e' := ex b u e
    rw [upd_ne (na e').1, upd_ne (na e').2]
    exact e
  · by_cases h1 : b = a
    · subst h1; rw [upd_same] at e ⊢; exact e
    · rw [upd_ne h1] at e ⊢
      by_cases h2 : b = d
      · subst h2; rw [upd_same] at e ⊢; exact e
      · rw [upd_ne h2] at e ⊢; exact ex b u e
  · have h1 : b ≠ a := fun z => n (by rw [z]; exact ha)
    have h2 : b ≠ d := fun z => n (by rw [z]; exact hd)
    rw [upd_ne h1, upd_ne h2]
    exact e
  · cases pt with
    | none => exact hp
    | some pq =>
      obtain ⟨x, rfl, e1, e2⟩ := hp
      exact ⟨x, rfl, by rw [upd_ne (na e2).1, upd_ne (na e2).2]; exact e1, kH e2⟩
end
theorem pushG_type {A : Around} {C : Addr} {us : List Value} {kw : List (Str × Value)} (h : A.guards = some []) : (A.under (.builtin "type.__call__" ⟨.ref C :: us, kw⟩)).guards = some [] := by
  first
    | exact h
    | simpa [Around.under, pushGuards, Code.guards] using h
section
variable {Pg : Program} {w : World} {K : PySem.W.Frag} {mg : Str → Option Value} {base : Heap} {k n c : Nat} {tb : Tb} {C fI : Addr} {fd : FuncData} {ps : List Str} {ks fns : List Nat} {names : List Str} {B nid iid : String} {bB : List Value}
theorem cl_exc (T : XC K C B nid iid bB) (hC : He.ga K (tb.cl c) = C) (hi : PySem.W.findIn K (.ref C) "__init__" = some (some (.ref fI))) (tI : PySem.W.typeIn K (.ref fI) = some (.type "function")) (P : FnG Pg w K mg base (L2.CX Pg w) k fI fd ps (spX K (fns.map tb.fd)))
    (tk : ∀ f ∈ fns, PySem.W.takerIn K C (tb.fd f) = some none) (hn : n ≤ 1000) (hb : ∀ (a : Addr) (us ws : List Value), us.length = n → ws.length = ks.length → bindArgs fd ⟨.ref a :: us, names.zip ws⟩ = pure (ps.zip (.ref a :: placed us ks ws))) :
    Cl Pg w K mg base (k + 1) tb (.ref C) (mkX c fns) n ks names where
  keep := T.kp
  run := fun X E h1 h2 h3 h4 h5 hc hg hr hx pins s σ H us ws vs zs Q I rv rz l1 l2 hsp => by
    obtain ⟨Xprog, Xw, XK, Xmg, Xbase, XA, XN, Xs, XH, Xenv, Xouter, Xstack, Xex, Xfn, Xcalm, Xpn, Xxe⟩ := X
    dsimp only at h1 h2 h3 h4 h5
    subst h1 h2 h3 h4 h5
    obtain ⟨S, Pa, ds, pt, o, ex, sys, hpt, hargs, hF, hpost⟩ := hsp
    unfold mkX at hF
    split at hF
    · rename_i hlen
      cases hF
      obtain ⟨nm, N, qn, bs, bm, hd, sl, sb, ab, co, dd, k0, k1, k2, k3, k5, hCo, hT⟩ := PySem.W.excInit_of I.kIn T.ini
      obtain ⟨hp, g, dr, tok, os⟩ := s
      have fr : H (hp.objs.size + 1) = none := I.hok.fresh (Nat.le_succ _)
      have hg2 : ((hp.push (PySem.W.kdv_tup us)).push (PySem.HandSPX.excO C hp.objs.size)).get? (hp.objs.size + 1) = some (PySem.HandSPX.excO C hp.objs.size) := by heap_get
      have I2 := I.laid (t' := tok) (o := exo (hp.objs.size + 1) C none) kept2 (Nat.le_succ _) (exo_ok hg2)
      refine wpAny_call (xk_call T.fb hT hCo (by rw [l1, sizeLine_eq]; omega) (PySem.W.looks_findIn I.kIn hi) (fun o => PySem.W.bind_fn I.kIn o tI)
        (codeAny_mono (P.run _ Xstack _ _ ⟨Value.ref (hp.objs.size + 1) :: us, names.zip ws⟩ (Value.ref (hp.objs.size + 1) :: placed us ks ws) (V.ref (hp.objs.size + 1) :: placed vs ks zs) (fun v H3 => v = .non ∧ Q (.ref (hp.objs.size + 1)) H3) E
          (pushG_type hg) (hr.make C us (names.zip ws)) (I2.env0.make C us (names.zip ws)) (.of_eq (hb _ us ws l1 l2)) (.cons rfl (paired_placed rv rz)) ?_) fun r s' hq => ?_))
      · refine ⟨_, C, B, nid, iid, bB, _, rfl, ?_, T, fun f hf => ?_, upd_same, fun d hd ne => ⟨rfl, ?_⟩⟩
        · rw [hargs.length, hlen.1, List.length_map]
        · obtain ⟨f', m', rfl⟩ := List.mem_map.mp hf
          exact tk f' m'
        · rw [upd_ne ne] at hd
          obtain ⟨Fr1, Pt1⟩ := new2 (o1 := exd d ((fns.map tb.fd).zip (placed vs ks zs)).reverse) (o2 := exo (hp.objs.size + 1) C (some d)) ex hpt fr hd
          have eu : upd (upd (upd H (hp.objs.size + 1) (exo (hp.objs.size + 1) C none)) d (exd d ((fns.map tb.fd).zip (placed vs ks zs)).reverse)) (hp.objs.size + 1) (exo (hp.objs.size + 1) C (some d)) = upd (upd H d (exd d ((fns.map tb.fd).zip (placed vs ks zs)).reverse)) (hp.objs.size + 1) (exo (hp.objs.size + 1) C (some d)) := by
            funext b
            by_cases h1 : b = hp.objs.size + 1
            · subst h1; rw [upd_same, upd_same]
            · rw [upd_ne h1, upd_ne h1]
              by_cases h2 : b = d
              · subst h2; rw [upd_same, upd_same]
              · rw [upd_ne h2, upd_ne h2, upd_ne h1]
          rw [eu]
          refine hpost _ _ _ [] Fr1 Pt1 ⟨rfl, ?_⟩
          refine Rp.exc (dx := d) (fs := ((fns.map tb.fd).zip (placed vs ks zs)).reverse) (by rw [upd_same, hC]) (by rw [upd_ne ne, upd_same]) ?_
          exact Rkv.mono Fr1.ss (rkv_zip fns hargs hlen.2)
      · cases r with
        | error er => exact hx pins σ _ _ er s' I2 hq
        | ok fl =>
          cases fl with
          | ret u =>
            obtain ⟨v, H', I3, rv3, rfl, q3⟩ := I2.after hq
            exact ⟨rv3, ⟨V.ref (hp.objs.size + 1), H', I3, rfl, q3⟩⟩
          | next => exact False.elim hq
          | brk => exact False.elim hq
          | cont => exact False.elim hq
    · cases hF
/-- a class without an __init__ of its own, called with nothing -/
theorem cl_exc0 (T : XC K C B nid iid bB) (hC : He.ga K (tb.cl c) = C) (hi : PySem.W.findIn K (.ref C) "__init__" = some (some (.builtin iid))) : Cl Pg w K mg base k tb (.ref C) (mkX c []) 0 [] [] where
  keep := T.kp
  run := fun X E h1 h2 h3 h4 h5 hc hg hr hx pins s σ H us ws vs zs Q I rv rz l1 l2 hsp => by
    obtain ⟨Xprog, Xw, XK, Xmg, Xbase, XA, XN, Xs, XH, Xenv, Xouter, Xstack, Xex, Xfn, Xcalm, Xpn, Xxe⟩ := X
    dsimp only at h1 h2 h3 h4 h5
    subst h1 h2 h3 h4 h5
    obtain ⟨S, Pa, ds, pt, o, ex, sys, hpt, hargs, hF, hpost⟩ := hsp
    obtain rfl : us = [] := List.length_eq_zero_iff.mp l1
    unfold mkX at hF
    split at hF
    · rename_i hlen
      cases hF
      obtain ⟨nm, N, qn, bs, bm, hd, sl, sb, ab, co, dd, k0, k1, k2, k3, k5, hCo, hT⟩ := PySem.W.excInit_of I.kIn T.ini
      obtain ⟨hp, g, dr, tok, os⟩ := s
      have fr : H (hp.objs.size + 1) = none := I.hok.fresh (Nat.le_succ _)
      refine PySem.W.call_B T.fb hT hCo (PySem.W.looks_findIn I.kIn hi) (by rw [sizeLine_eq]; exact Nat.zero_le _) fun h' kk he ht => ?_
      have I2 := I.laid (t' := tok) (o := exo (hp.objs.size + 1) C none) kk (Nat.le_succ _) (exo_ok he)
      refine ⟨V.ref (hp.objs.size + 1), _, I2, rfl, ?_⟩
      refine hpost _ (upd S (hp.objs.size + 1) (exo (hp.objs.size + 1) C none)) _ [] ?_ ?_ ⟨rfl, .exc0 (by rw [upd_same, hC])⟩
      · have Sn : S (hp.objs.size + 1) = none := by
          cases q : S (hp.objs.size + 1) with
          | none => rfl
          | some u => rw [ex _ _ q] at fr; cases fr
        refine ⟨Evl.Ex.new Sn, fun b u e => ?_, fun b u e _ => ?_, fun b e n => ?_⟩
        · by_cases h1 : b = hp.objs.size + 1
          · subst h1; rw [upd_same] at e ⊢; exact e
          · rw [upd_ne h1] at e ⊢; exact ex b u e
        · rw [upd_ne (ne_of_none e fr)]; exact e
        · rw [upd_ne fun z => n (by rw [z]; exact fr)]; exact e
      · cases pt with
        | none => exact hpt
        | some pq =>
          obtain ⟨x, rfl, e1, e2⟩ := hpt
          have hne := ne_of_none e2 fr
          exact ⟨x, rfl, by rw [upd_ne hne]; exact e1, by rw [upd_ne hne]; exact e2⟩
    · cases hF
end
end U
set_option Elab.async false
set_option linter.all false
set_option maxRecDepth 100000
set_option maxHeartbeats 4000000
set_option autoImplicit false
/-! V3: a law's tables; what the head tells; the world of the defs. -/
namespace U
open Evl (Ex)
open PySem L2 PySem.Spec PyProof.Rows
def Ws.tb (t : Ws) : Tb := ⟨t.cln, t.fdm⟩
def Ws.ct (t : Ws) (N : List Str) (sc : Scope) (k : Nat) : Ct := { N := N, sc := sc, bl := t.bl, co := fun n => t.cons[n]?, fn := fun f => t.fnn[f]?, k := k, tys := t.tys, tb := t.tb }
def isBE (x : String) : Bool := x == "ValueError" || x == "LookupError" || x == "RuntimeError" || x == "ArithmeticError"
def kdN : Kd → Option String
  | .non => some "NoneType"
  | .bl => some "bool"
  | .int => some "int"
  | .str => some "str"
  | .lst => some "list"
  | .tup => some "tuple"
  | .dic => some "dict"
  | _ => none
def tyN : Ty → Option String
  | .int => some "int"
  | .bool => some "bool"
  | .str => some "str"
  | .list => some "list"
  | .tuple => some "tuple"
  | .dict => some "dict"
  | _ => none
def subN (a b : String) : Bool := a == b || (a == "bool" && b == "int")
def Ws.sub (t : Ws) (k : Kd) (y : Ty) : Option Bool := match k with
  | .exc c => (match t.ec[c]?, y with
    | some e, .own d => (match t.ec[d]? with
      | some _ => some (e.anc.contains d)
      | none => none)
    | some e, .bex x => if isBE x then some (e.b.B == x) else none
    | _, _ => none)
  | k => (match kdN k, tyN y with
    | some a, some b => some (subN a b)
    | _, _ => none)
def Ws.fd (t : Ws) (k : Kd) (f : Nat) : Bool := match k with
  | .exc c => (match t.ec[c]? with
    | some e => e.fds.contains f && decide (f < t.fdn.length)
    | none => false)
  | _ => false
/-- what the functions are, as far as they are known -/
def Ws.gm (t : Ws) (fs : List (Nat × Fn)) : Gm := ⟨fun f => fs.lookup f, t.sub, t.fd⟩

/-- what is so of the tables themselves -/
structure Ws.Ok (t : Ws) : Prop where
  anc : ∀ (c : Nat) (e : EC), t.ec[c]? = some e → e.anc.contains c = true ∧ e.anc.all (fun d => decide (d < t.ec.length)) = true
  fdn : t.fdn.Nodup ∧ ("" : Str) ∉ t.fdn
  tyB : ∀ y, t.tys.contains y = true → match y with
    | .own d => d < t.ec.length
    | .bex x => t.bl.contains (Str.ofString x) = true ∧ bootBuiltins (Str.ofString x) = some (.type x)
    | y => ∀ x, tyN y = some x → t.bl.contains (Str.ofString x) = true ∧ bootBuiltins (Str.ofString x) = some (.type x)
structure EcF (t : Ws) (K : PySem.W.Frag) (e : EC) : Prop where
  glo : PySem.W.nsIn K mainGlobals e.nm = some (some (.ref (He.ga K e.nm)))
  xc : XC K (He.ga K e.nm) e.b.B e.b.nid e.b.iid e.b.tail
  gat : PySem.W.findIn K (.ref (He.ga K e.nm)) "__getattribute__" = some (some (.builtin "BaseException.__getattribute__"))
  gtt : PySem.W.findIn K (.ref (He.ga K e.nm)) "__getattr__" = some none
  gcl : PySem.W.findIn K (.ref (He.ga K e.nm)) "__class__" = some (some (.builtin "object.__class__"))
  mro : ∃ cd, PySem.W.clsIn K (He.ga K e.nm) = some cd ∧ cd.mro = (e.anc.map fun d => Value.ref (He.ga K (t.tb.cl d))) ++ e.b.tail
  typ : PySem.W.typeIn K (.ref (He.ga K e.nm)) = some (.type "type")
  init : e.ini = true → PySem.W.findIn K (.ref (He.ga K e.nm)) "__init__" = some (some (.ref (He.ma K (He.ga K e.nm) "__init__"))) ∧ PySem.W.typeIn K (.ref (He.ma K (He.ga K e.nm) "__init__")) = some (.type "function")
  init0 : e.ini = false → PySem.W.findIn K (.ref (He.ga K e.nm)) "__init__" = some (some (.builtin e.b.iid))
  fds : ∀ f ∈ e.fds, PySem.W.findIn K (.ref (He.ga K e.nm)) (t.tb.fd f) = some none
theorem ecB_ok {t : Ws} {K : PySem.W.Frag} {e : EC} (h : ecB t K e = true) : EcF t K e := by
  unfold ecB at h
  simp only [Bool.and_eq_true] at h
  obtain ⟨⟨⟨⟨⟨⟨⟨⟨⟨⟨⟨⟨h1, h2⟩, h3⟩, h4⟩, h5⟩, h6⟩, h7⟩, h8⟩, h9⟩, h10⟩, h11⟩, h12⟩, h13⟩ := h
  refine ⟨He.eqO_ok h1, ⟨e.b.facts, e.b.store, h2, h3, h4, He.eqO_ok h5, h6⟩, He.eqO_ok h7, He.eqO_ok h8, He.eqO_ok h9, ?_, of_decide_eq_true h11, fun q => ?_, fun q => ?_, fun f hf => He.eqO_ok (List.all_eq_true.mp h13 f hf)⟩
  · cases hc : PySem.W.clsIn K (He.ga K e.nm) with
    | none => rw [hc] at h10; cases h10
    | some cd => rw [hc] at h10; exact ⟨cd, rfl, of_decide_eq_true h10⟩
  · rw [if_pos q, Bool.and_eq_true] at h12
    exact ⟨He.eqO_ok h12.1, of_decide_eq_true h12.2⟩
  · rw [if_neg (by rw [q]; decide)] at h12
    exact He.eqO_ok h12
structure Ft (t : Ws) (K : PySem.W.Frag) : Prop where
  ec : ∀ (c : Nat) (e : EC), t.ec[c]? = some e → EcF t K e
  inj : ∀ (c d : Nat) (e f : EC), t.ec[c]? = some e → t.ec[d]? = some f → He.ga K e.nm = He.ga K f.nm → c = d
  bl : ∀ x, t.bl.contains x = true → PySem.W.nsIn K mainGlobals x = some none
  co : ∀ (n : Nat) (p : Str × D), t.cons[n]? = some p → coB K p = true
  glo : ∀ (f : Nat) (p : Str × List Str × List (Nat × List Nat)), t.fnn[f]? = some p → PySem.W.nsIn K mainGlobals p.1 = some (some (.ref (He.ga K p.1)))
  get : PySem.W.specialIn K (.builtin "object.__class__") "__get__" = some (some (.builtin "getset_descriptor.__get__"))
  tak : PySem.W.takesIn K (.builtin "object.__class__") = some true
  nsy : K.lookup sysModules = none
  gl2 : ∀ x ∈ t.glo, PySem.W.nsIn K mainGlobals x = some (some (.ref (He.ga K x)))
theorem nodupB_ok : ∀ {l : List Addr}, nodupB l = true → l.Nodup
  | [], _ => .nil
  | a :: r, h => by
    simp only [nodupB, Bool.and_eq_true, Bool.not_eq_true'] at h
    refine List.nodup_cons.mpr ⟨fun m => ?_, nodupB_ok h.2⟩
    have := List.contains_iff_mem.mpr m
    rw [h.1] at this
    cases this
theorem ft_of {t : Ws} {K : PySem.W.Frag} (h : t.xb K = true) : Ft t K := by
  unfold Ws.xb at h
  simp only [Bool.and_eq_true] at h
  obtain ⟨⟨⟨⟨⟨⟨⟨⟨h1, h2⟩, h3⟩, h4⟩, h5⟩, h6⟩, h7⟩, h8⟩, h9⟩ := h
  refine ⟨fun c e hc => ecB_ok (List.all_eq_true.mp h1 e (List.mem_of_getElem? hc)), fun c d e f hc hd q => ?_, fun x hx => He.eqO_ok (List.all_eq_true.mp h3 x (List.contains_iff_mem.mp hx)),
    fun n p hn => List.all_eq_true.mp h4 p (List.mem_of_getElem? hn), fun f p hf => He.eqO_ok (List.all_eq_true.mp h5 p (List.mem_of_getElem? hf)), He.eqO_ok h6, of_decide_eq_true h7, Option.isNone_iff_eq_none.mp h8, fun x hx => He.eqO_ok (List.all_eq_true.mp h9 x hx)⟩
  refine nodup_get (nodupB_ok h2) (x := He.ga K e.nm) ?_ ?_
  · rw [List.getElem?_map, hc]; rfl
  · rw [List.getElem?_map, hd, q]; rfl
section
variable {t : Ws} {K : PySem.W.Frag}
theorem Ws.tb_cl {t : Ws} {c : Nat} {e : EC} (h : t.ec[c]? = some e) : t.tb.cl c = e.nm := by
  show t.cln c = e.nm
  unfold Ws.cln
  rw [h]
theorem Ft.excC (T : Ft t K) {c : Nat} {e : EC} (h : t.ec[c]? = some e) : L2.ExcC K (He.ga K e.nm) := by
  have E := T.ec c e h
  obtain ⟨cd, h1, h2⟩ := E.mro
  have hb : ∀ x : Value, x ∈ e.b.tail → PySem.W.mroIn K (He.ga K e.nm) x = some true := fun x hx => by
    unfold PySem.W.mroIn
    rw [h1, Option.bind_some, if_neg, h2]
    · rw [List.contains_iff_mem.mpr (List.mem_append_right _ hx)]
    · rw [h2]; simp [BE.tail]
  exact ⟨E.gat, E.gtt, hb _ (by simp [BE.tail]), E.xc.dct, E.gcl, T.get, T.tak, hb _ (by simp [BE.tail])⟩
theorem Ft.xfC (T : Ft t K) {c : Nat} {e : EC} (h : t.ec[c]? = some e) : XfC K (He.ga K e.nm) := by
  have E := T.ec c e h
  exact ⟨E.gat, E.gtt, (T.excC h).hs, E.xc.dct⟩
theorem kit_blt : ∀ (k : Kd) (y : Ty) (a b : String), kdN k = some a → tyN y = some b → PySem.W.kitOne K (kdV t.tb K k) (tyU t.tb K y) = some (subN a b) := by
  intro k y a b hk hy
  cases k <;> (try (exact nomatch (show (none : Option String) = some a from hk))) <;> cases y <;> (try (exact nomatch (show (none : Option String) = some b from hy)))
  all_goals
    cases hk
    cases hy
    kernel_rfl
theorem Ft.sub (T : Ft t K) (W : t.Ok) : ∀ (k : Kd) (y : Ty) (b : Bool), t.sub k y = some b → KdOk t.tb K k ∧ PySem.W.kitOne K (kdV t.tb K k) (tyU t.tb K y) = some b := by
  intro k y b h
  have blt : ∀ (k' : Kd) (a : String), kdN k' = some a → (match kdN k', tyN y with
      | some a, some b => some (subN a b)
      | _, _ => none) = some b → KdOk t.tb K k' → KdOk t.tb K k' ∧ PySem.W.kitOne K (kdV t.tb K k') (tyU t.tb K y) = some b := by
    intro k' a ha h hk
    refine ⟨hk, ?_⟩
    rw [ha] at h
    cases hb : tyN y with
    | none => rw [hb] at h; cases h
    | some x =>
      rw [hb] at h
      rw [← Option.some.inj h]
      exact kit_blt _ _ _ _ ha hb
  cases k with
  | exc c =>
    unfold Ws.sub at h
    dsimp only at h
    cases hc : t.ec[c]? with
    | none => rw [hc] at h; cases h
    | some e =>
      rw [hc] at h
      have E := T.ec c e hc
      obtain ⟨cd, m1, m2⟩ := E.mro
      have tc := Ws.tb_cl hc
      have kd : kdV t.tb K (.exc c) = .ref (He.ga K e.nm) := by show Value.ref (He.ga K (t.tb.cl c)) = _; rw [tc]
      have anc := W.anc c e hc
      refine ⟨by show L2.ExcC K (He.ga K (t.tb.cl c)); rw [tc]; exact T.excC hc, ?_⟩
      have ne : ¬ (cd.mro.isEmpty = true) := by rw [m2]; simp [BE.tail]
      have mem : ∀ z, PySem.W.mroIn K (He.ga K e.nm) z = some (cd.mro.contains z) := fun z => by
        unfold PySem.W.mroIn
        rw [m1, Option.bind_some, if_neg ne]
      rw [kd]
      cases y with
      | own d =>
        dsimp only at h
        cases hd : t.ec[d]? with
        | none => rw [hd] at h; cases h
        | some f =>
          rw [hd] at h
          obtain rfl := Option.some.inj h
          have td := Ws.tb_cl hd
          have Fd := T.ec d f hd
          have inM : cd.mro.contains (.ref (He.ga K f.nm)) = e.anc.contains d := by
            rw [m2]
            rw [Bool.eq_iff_iff, List.contains_iff_mem, List.contains_iff_mem, List.mem_append, List.mem_map]
            constructor
            · rintro (⟨d', hd', q⟩ | q)
              · have lt := of_decide_eq_true (List.all_eq_true.mp anc.2 d' hd')
                obtain ⟨f', hf'⟩ : ∃ f', t.ec[d']? = some f' := ⟨_, List.getElem?_eq_getElem lt⟩
                rw [Ws.tb_cl hf'] at q
                have := T.inj d' d f' f hf' hd (by injection q)
                rw [← this]
                exact hd'
              · simp [BE.tail] at q
            · intro q
              exact .inl ⟨d, q, by rw [td]⟩
          show PySem.W.kitOne K _ (.ref (He.ga K (t.tb.cl d))) = _
          rw [td]
          unfold PySem.W.kitOne
          by_cases q : He.ga K e.nm = He.ga K f.nm
          · rw [if_pos (by rw [q]; simp)]
            have := T.inj c d e f hc hd q
            rw [← this, anc.1]
          · rw [if_neg (by simpa using q)]
            obtain ⟨cf, f1, _⟩ := Fd.mro
            unfold PySem.W.kitCls
            dsimp only
            rw [f1, Fd.typ, if_pos (by simp)]
            show PySem.W.mroIn K _ _ = _
            rw [mem, inM]
      | bex x =>
        dsimp only at h
        split at h
        · rename_i hx
          obtain rfl := Option.some.inj h
          have inM : cd.mro.contains (.type x) = (e.b.B == x) := by
            rw [m2, Bool.eq_iff_iff, List.contains_iff_mem, List.mem_append, List.mem_map, beq_iff_eq]
            constructor
            · rintro (⟨d', _, q⟩ | q)
              · cases q
              · simp only [BE.tail, List.mem_cons, List.not_mem_nil, or_false] at q
                rcases q with q | q | q | q
                · injection q with q; exact q.symm
                all_goals (injection q with q; subst q; exact absurd hx (by decide))
            · rintro rfl
              exact .inr (by simp [BE.tail])
          have mt : PySem.W.kitMeta x = true := by
            simp only [isBE, Bool.or_eq_true, beq_iff_eq] at hx
            rcases hx with ((rfl | rfl) | rfl) | rfl <;> decide +kernel
          show PySem.W.kitOne K _ (.type x) = _
          unfold PySem.W.kitOne
          rw [if_neg (by simp)]
          unfold PySem.W.kitCls
          dsimp only
          rw [if_pos mt]
          show PySem.W.mroIn K _ _ = _
          rw [mem, inM]
        · cases h
      | _ => cases h
  | ins c => cases h
  | non => exact blt .non _ rfl h trivial
  | bl => exact blt .bl _ rfl h trivial
  | int => exact blt .int _ rfl h trivial
  | str => exact blt .str _ rfl h trivial
  | lst => exact blt .lst _ rfl h trivial
  | tup => exact blt .tup _ rfl h trivial
  | dic => exact blt .dic _ rfl h trivial
theorem Ft.fld (T : Ft t K) (W : t.Ok) : ∀ (k : Kd) (f : Nat), t.fd k f = true → FdOk t.tb K k f := by
  intro k f h
  cases k with
  | exc c =>
    unfold Ws.fd at h
    dsimp only at h
    cases hc : t.ec[c]? with
    | none => rw [hc] at h; cases h
    | some e =>
      rw [hc] at h
      simp only [Bool.and_eq_true, decide_eq_true_eq] at h
      refine ⟨fun g q => ?_, ?_⟩
      · have ef : t.fdn[f]? = some (t.tb.fd f) := by
          show _ = some (t.fdn.getD f "")
          rw [List.getD_eq_getElem?_getD, List.getElem?_eq_getElem h.2]
          rfl
        by_cases hg : g < t.fdn.length
        · have eg : t.fdn[g]? = some (t.tb.fd f) := by
            rw [← q]
            show _ = some (t.fdn.getD g "")
            rw [List.getD_eq_getElem?_getD, List.getElem?_eq_getElem hg]
            rfl
          exact nodup_get W.fdn.1 eg ef
        · have : t.tb.fd g = "" := by
            show t.fdn.getD g "" = ""
            rw [List.getD_eq_getElem?_getD, List.getElem?_eq_none (by omega)]
            rfl
          rw [this] at q
          rw [← q] at ef
          exact absurd (List.mem_of_getElem? ef) W.fdn.2
      · show XfC K _ ∧ _
        rw [Ws.tb_cl hc]
        exact ⟨T.xfC hc, (T.ec c e hc).fds f (List.contains_iff_mem.mp h.1)⟩
  | _ => cases h
end

/-! ### the world -/
/-- the functions that are known keep what they tell -/
def FnsOk (Pg : Program) (w : World) (K : PySem.W.Frag) (mg : Str → Option Value) (base : Heap) (k : Nat) (t : Ws) (fs : List (Nat × Fn)) : Prop :=
  ∀ p ∈ fs, ∀ nm ps kp, t.fnn[p.1]? = some (nm, ps, kp) → ∀ q ∈ kp, Cl Pg w K mg base k t.tb (.ref (He.ga K nm)) p.2 q.1 q.2 (q.2.filterMap fun i => ps[i]?)
theorem lookup_mem' {α : Type} {f : Nat} {x : α} : ∀ {l : List (Nat × α)}, l.lookup f = some x → (f, x) ∈ l
  | [], h => by cases h
  | (g, y) :: r, h => by
    rw [List.lookup_cons] at h
    cases e : f == g with
    | true =>
      rw [e] at h
      cases h
      rw [beq_iff_eq.mp e]
      exact List.mem_cons_self ..
    | false =>
      rw [e] at h
      exact List.mem_cons_of_mem _ (lookup_mem' h)
theorem wl_of {Pg : Program} {w : World} {K : PySem.W.Frag} {mg : Str → Option Value} {base h : Heap} {t : Ws} {N : List Str} {sc : Scope} {k : Nat} {fs : List (Nat × Fn)} (T : Ft t K) (W : t.Ok) (X : K.In h) (G : h.Ns mainGlobals mg) (L : FnsOk Pg w K mg base k t fs) :
    Wl Pg w K mg base (t.ct N sc k) (t.gm fs) where
  bl := fun x hx => PySem.W.mg_none_of X G (T.bl x hx)
  co := fun n x d hn => by
    have c := T.co n (x, d) hn
    unfold coB at c
    dsimp only at c
    cases hv : PySem.W.nsIn K mainGlobals x with
    | none => rw [hv] at c; cases c
    | some o =>
      rw [hv] at c
      cases o with
      | none => cases c
      | some v =>
        have m := PySem.W.mg_of X G hv
        dsimp only at c
        cases d with
        | int i =>
          cases v with
          | int j tk =>
            have e : i = j := of_decide_eq_true c
            exact ⟨_, .int i, m, ⟨tk, by rw [e]⟩, fun S => Rp.int i⟩
          | _ => cases c
        | str z =>
          cases v with
          | str y tk =>
            have e : z = y := of_decide_eq_true c
            exact ⟨_, .str z, m, ⟨tk, by rw [e]⟩, fun S => Rp.str z⟩
          | _ => cases c
        | _ => cases c
  fn := fun f F nm ps kp hF hn => ⟨_, PySem.W.mg_of X G (T.glo f _ hn), fun q hq => L (f, F) (lookup_mem' hF) nm ps kp hn q hq⟩
  ty := fun y x hy hx => by
    have c := W.tyB y hy
    cases y with
    | own d =>
      left
      have hd : t.ec[d]? = some t.ec[d] := List.getElem?_eq_getElem c
      have e : x = (t.ec[d]).nm := by
        have e1 : some (t.tb.cl d) = some x := hx
        rw [← Ws.tb_cl hd]
        exact (Option.some.inj e1).symm
      rw [e]
      refine (PySem.W.mg_of X G (T.ec d _ hd).glo).trans ?_
      show _ = some (Value.ref (He.ga K (t.tb.cl d)))
      rw [Ws.tb_cl hd]
    | bex z =>
      right
      have e : Str.ofString z = x := Option.some.inj hx
      rw [← e]
      exact ⟨PySem.W.mg_none_of X G (T.bl _ c.1), c.2⟩
    | int => right; obtain rfl := Option.some.inj hx; have c := c "int" rfl; exact ⟨PySem.W.mg_none_of X G (T.bl _ c.1), c.2⟩
    | bool => right; obtain rfl := Option.some.inj hx; have c := c "bool" rfl; exact ⟨PySem.W.mg_none_of X G (T.bl _ c.1), c.2⟩
    | str => right; obtain rfl := Option.some.inj hx; have c := c "str" rfl; exact ⟨PySem.W.mg_none_of X G (T.bl _ c.1), c.2⟩
    | list => right; obtain rfl := Option.some.inj hx; have c := c "list" rfl; exact ⟨PySem.W.mg_none_of X G (T.bl _ c.1), c.2⟩
    | tuple => right; obtain rfl := Option.some.inj hx; have c := c "tuple" rfl; exact ⟨PySem.W.mg_none_of X G (T.bl _ c.1), c.2⟩
    | dict => right; obtain rfl := Option.some.inj hx; have c := c "dict" rfl; exact ⟨PySem.W.mg_none_of X G (T.bl _ c.1), c.2⟩
  isi := T.sub W
  fld := T.fld W
end U
set_option Elab.async false
set_option linter.all false
set_option maxRecDepth 100000
set_option maxHeartbeats 4000000
set_option autoImplicit false
/-! V4: def behind def. -/
namespace U
open Evl (Ex)
open PySem L2 PySem.Spec PyProof.Rows
theorem Cl.mono {Pg : Program} {w : World} {K : PySem.W.Frag} {mg : Str → Option Value} {base : Heap} {j k : Nat} {tb : Tb} {u : Value} {F : Fn} {n : Nat} {ks : List Nat} {names : List Str} (c : Cl Pg w K mg base j tb u F n ks names) (h : j ≤ k) : Cl Pg w K mg base k tb u F n ks names :=
  ⟨c.keep, fun X E h1 h2 h3 h4 h5 hc hg hr => c.run X E h1 h2 h3 h4 h5 hc hg (hr.mono h)⟩
section
variable {Pg : Program} {w : World} {K : PySem.W.Frag} {mg : Str → Option Value} {base h : Heap} {t : Ws} {k f : Nat} {fs : List (Nat × Fn)} {nm qual : Str} {ps N : List Str} {kp : List (Nat × List Nat)} {params : Arguments} {body : List Stmt} {scope : Scope} {fd : FuncData} {tx : T} {rk : Rk}
theorem FnsOk.mono {j : Nat} (L : FnsOk Pg w K mg base j t fs) (h : j ≤ k) : FnsOk Pg w K mg base k t fs := fun p hp nm ps kp e q hq => (L p hp nm ps kp e q hq).mono h
theorem FnsOk.nil : FnsOk Pg w K mg base k t [] := fun p hp => by cases hp
/-- one function more -/
theorem FnsOk.cons {F : Fn} (L : FnsOk Pg w K mg base k t fs) (hf : t.fnn[f]? = some (nm, ps, kp)) (c : ∀ q ∈ kp, Cl Pg w K mg base k t.tb (.ref (He.ga K nm)) F q.1 q.2 (q.2.filterMap fun i => ps[i]?)) : FnsOk Pg w K mg base k t ((f, F) :: fs) := by
  intro p hp nm' ps' kp' e q hq
  rcases List.mem_cons.mp hp with rfl | hp
  · rw [hf] at e
    cases e
    exact c q hq
  · exact L p hp nm' ps' kp' e q hq
/-- how a def without defaults binds -/
def BindsAs (nm qual : Str) (params : Arguments) (body : List Stmt) (scope : Scope) (ps : List Str) (pre n : Nat) (ks : List Nat) (names : List Str) : Prop := ∀ (kV doc pm : Value) (an : Option Addr) (cdv ct : Value) (us ws : List Value), us.length = n → ws.length = ks.length →
  ∀ xs : List Value, xs.length = pre → bindArgs (PySem.W.fnOf nm qual params body scope .none kV doc pm an cdv ct) ⟨xs ++ us, names.zip ws⟩ = pure (ps.zip (xs ++ placed us ks ws))
theorem FunD.bnd (F : FunD K nm qual params body scope [] [] f fd) {pre n : Nat} {ks : List Nat} {names : List Str} (b : BindsAs nm qual params body scope ps pre n ks names) (xs us ws : List Value) (h0 : xs.length = pre) (h1 : us.length = n) (h2 : ws.length = ks.length) : bindArgs fd ⟨xs ++ us, names.zip ws⟩ = pure (ps.zip (xs ++ placed us ks ws)) := by
  obtain ⟨_, _, _, kV, doc, pm, an, cdv, ct, _, rfl, -, -, dfl, -⟩ := F.ex
  obtain ⟨-, rfl⟩ | ⟨ne, -⟩ := dfl
  · exact b kV doc pm an cdv ct us ws h1 h2 xs h0
  · exact (ne rfl).elim
/-- a def by its text -/
theorem FnsOk.step (T : Ft t K) (W : t.Ok) (X : K.In h) (G : h.Ns mainGlobals mg) (L : FnsOk Pg w K mg base k t fs) (F : FunD K nm qual params body scope [] [] (He.ga K nm) fd) (S : FnScope N ps scope) (hm : mb tx (t.ct N scope k) body = true) (hf : t.fnn[f]? = some (nm, ps, kp))
    (hb : ∀ q ∈ kp, BindsAs nm qual params body scope ps 0 q.1 q.2 (q.2.filterMap fun i => ps[i]?)) : FnsOk Pg w K mg base (k + 1) t ((f, run (t.gm fs) ps.length N.length tx rk) :: fs) := by
  refine FnsOk.cons (L.mono (Nat.le_succ k)) hf fun q hq => ?_
  have R := run_ok (rk := rk) (n := N.length) (wl_of (N := N) (sc := scope) T W X G L) F (show FnScope (t.ct N scope k).N ps scope from S) rfl hm rfl
  exact cl_fn R F.kp fun us ws l1 l2 => FunD.bnd F (hb q hq) [] us ws rfl l1 l2
/-- the same, for the last one -/
theorem FnsOk.last (T : Ft t K) (W : t.Ok) (X : K.In h) (G : h.Ns mainGlobals mg) (L : FnsOk Pg w K mg base k t fs) (F : FunD K nm qual params body scope [] [] (He.ga K nm) fd) (S : FnScope N ps scope) (hm : mb tx (t.ct N scope k) body = true) : FnG Pg w K mg base (L2.CX Pg w) (k + 1) (He.ga K nm) fd ps (FSp t.tb K (run (t.gm fs) ps.length N.length tx rk)) :=
  run_ok (rk := rk) (n := N.length) (wl_of (N := N) (sc := scope) T W X G L) F (show FnScope (t.ct N scope k).N ps scope from S) rfl hm rfl
/-- an own exception class by its __init__ -/
theorem FnsOk.exc {c : Nat} {e : EC} {fns : List Nat} (T : Ft t K) (L : FnsOk Pg w K mg base (k + 1) t fs) (hc : t.ec[c]? = some e) (hi : e.ini = true) (hs : fns.all (e.fds.contains ·) = true) (hf : t.fnn[f]? = some (e.nm, ps.tail, kp)) (F : FunD K nm qual params body scope [] [] (He.ma K (He.ga K e.nm) "__init__") fd)
    (P : FnG Pg w K mg base (L2.CX Pg w) k (He.ma K (He.ga K e.nm) "__init__") fd ps (spX K (fns.map t.tb.fd))) (hk : ∀ q ∈ kp, q.1 ≤ 1000 ∧ BindsAs nm qual params body scope ps 1 q.1 q.2 (q.2.filterMap fun i => ps.tail[i]?)) : FnsOk Pg w K mg base (k + 1) t ((f, mkX c fns) :: fs) := by
  have E := T.ec c e hc
  refine FnsOk.cons L hf fun q hq => ?_
  refine cl_exc E.xc (by rw [Ws.tb_cl hc]) (E.init hi).1 (E.init hi).2 P (fun g hg => ?_) (hk q hq).1 fun a us ws l1 l2 => FunD.bnd F (hk q hq).2 [.ref a] us ws rfl l1 l2
  have := E.fds g (List.contains_iff_mem.mp (List.all_eq_true.mp hs g hg))
  unfold PySem.W.takerIn
  rw [this]
  rfl
/-- an own exception class without an __init__ -/
theorem FnsOk.exc0 {c : Nat} {e : EC} (T : Ft t K) (L : FnsOk Pg w K mg base k t fs) (hc : t.ec[c]? = some e) (hi : e.ini = false) (hf : t.fnn[f]? = some (e.nm, [], [(0, [])])) : FnsOk Pg w K mg base k t ((f, mkX c []) :: fs) := by
  have E := T.ec c e hc
  refine FnsOk.cons L hf fun q hq => ?_
  rw [List.mem_singleton] at hq
  subst hq
  exact cl_exc0 E.xc (by rw [Ws.tb_cl hc]) (E.init0 hi)
end
/-- the tables' own conditions, reckoned -/
def tyOk (t : Ws) (y : Ty) : Bool := match y with
  | .own d => decide (d < t.ec.length)
  | .bex x => t.bl.contains (Str.ofString x) && decide (bootBuiltins (Str.ofString x) = some (.type x))
  | y => (match tyN y with
    | some x => t.bl.contains (Str.ofString x) && decide (bootBuiltins (Str.ofString x) = some (.type x))
    | none => true)
def Ws.okB (t : Ws) : Bool := (List.range t.ec.length).all (fun c => match t.ec[c]? with
    | some e => e.anc.contains c && e.anc.all (fun d => decide (d < t.ec.length))
    | none => false) && decide t.fdn.Nodup && !t.fdn.contains "" && t.tys.all (tyOk t)
theorem Ws.ok_of {t : Ws} (h : t.okB = true) : t.Ok := by
  unfold Ws.okB at h
  simp only [Bool.and_eq_true] at h
  obtain ⟨⟨⟨h1, h2⟩, h3⟩, h4⟩ := h
  refine ⟨fun c e hc => ?_, ⟨of_decide_eq_true h2, fun m => ?_⟩, fun y hy => ?_⟩
  · have z := List.all_eq_true.mp h1 c (List.mem_range.mpr (List.getElem?_eq_some_iff.mp hc).1)
    rw [hc] at z
    exact Bool.and_eq_true_iff.mp z
  · rw [List.contains_iff_mem.mpr m] at h3
    cases h3
  · have z := List.all_eq_true.mp h4 y (List.contains_iff_mem.mp hy)
    cases y with
    | own d => exact of_decide_eq_true z
    | bex x =>
      obtain ⟨z1, z2⟩ := Bool.and_eq_true_iff.mp z
      exact ⟨z1, of_decide_eq_true z2⟩
    | _ =>
      intro x hx
      cases hx
      obtain ⟨z1, z2⟩ := Bool.and_eq_true_iff.mp z
      exact ⟨z1, of_decide_eq_true z2⟩
end U
set_option Elab.async false
set_option linter.all false
set_option maxRecDepth 100000
set_option maxHeartbeats 4000000
set_option autoImplicit false
/-! V5: a law's two outer defs: the pot out of the script, and the law itself. -/
namespace U
open Evl (Ex)
open PySem L2 PySem.Spec PyProof.Rows
/-- what is so of every heap of the abstract kind here: the table of modules is tracked -/
def SysH (H : Hp) : Prop := ∃ u : Obj × Addr, H sysModules = some (.frz u.1 (.own u.2))
theorem SysH.ex {H H' : Hp} (s : SysH H) (e : Ex H H') : SysH H' := let ⟨u, h⟩ := s; ⟨u, e _ _ h⟩
section
variable {X : Cx} {k : Nat} {f : Addr} {fd : FuncData} {ps : List Str} {sp : Sp} {nm : Str} {p pos : Pos} {e : Expr} {es : List Expr} {ta : TA}
theorem pe_callG (P : FnG X.prog X.w X.K X.mg X.base (L2.CX X.prog X.w) k f fd ps sp) (hg : X.A.guards = some []) (hr : Room k X.A) (gl : Gl X nm) (hm : X.mg nm = some (.ref f)) (kp : PySem.W.keepIn X.K (.ref f) = true)
    (hb : ∀ us : List Value, us.length = ps.length → bindArgs fd ⟨us, []⟩ = pure (ps.zip us)) (ha : PA X (e :: es) ta) (hdb : (nm == ("__debug__" : Str)) = false)
    (he : starEach (e :: es) X.env = (false, eval e X.env) :: starEach es X.env) (hpl : (backTo pos (starEach es X.env)).any (·.1) = false) :
    PE X (.Call (.Name nm p) (e :: es) [] pos) (fun σ H Q => ta σ H fun vs H1 => sp vs H1 Q fun _ _ _ => False) := by
  constructor
  intro pins s σ H Q I h
  refine wpAny_Call_Name_kw (ld_glob I gl hm ?_ hdb)
  refine PySem.W.callWith_K (h₀ := X.base) I.ok.mod.kin kp (thn (ha.run pos pins s σ H _ I h) ?_) he hpl
  rintro us s1 ⟨vs, H1, I1, r1, q⟩
  refine ⟨I1.kIn, ?_⟩
  refine callG (args := ⟨us, []⟩) P hg hr (fun _ _ _ _ _ _ _ c => ?_) I1 (.of_eq (hb us (by rw [← r1.length, P.len _ _ _ _ q]))) r1 q
  obtain ⟨_, _, _, _, _, _, _, _, _, _, _, _, z⟩ := c
  exact z.elim
end
/-- a value that is told of by the little language's evaluator, nothing but ints around -/
theorem tV_int {G : Gm} {tb : Tb} {K : PySem.W.Frag} {E : XK} {e : U.E} {σ : L2.St} {env : En} {H : Hp} {Q : VK} {i : Int} (h : ev G e env [.gone] = some (.ok (.d (.int i)) [.gone])) (sys : SysH H) (EN : EnvOk tb K (fun _ => none) [none] σ env)
    (q : ∀ H', Ex H H' → Q (.int i) H') : tV G tb K E e σ H Q := by
  refine ⟨env, [.gone], _, h, H, fun _ => none, none, fun _ => none, [none], start_mok (pt := none) (fun _ _ z => by cases z) sys rfl, EN, ?_⟩
  intro b S' H' as' st M r
  cases r
  exact q H' fun a o z => M.base a o z (by simp)
/-- .. a new list of two ints -/
theorem tV_two {G : Gm} {tb : Tb} {K : PySem.W.Frag} {E : XK} {e : U.E} {σ : L2.St} {env : En} {H : Hp} {Q : VK} {i j : Int} (h : ev G e env [.gone] = some (.ok (.c 1) [.gone, .lst [.d (.int i), .d (.int j)]])) (sys : SysH H) (EN : EnvOk tb K (fun _ => none) [none] σ env)
    (q : ∀ x H', Ex H H' → H x = none → H' x = some (.lst [.int i, .int j]) → Q (.ref x) H') : tV G tb K E e σ H Q := by
  refine ⟨env, [.gone], _, h, H, fun _ => none, none, fun _ => none, [none], start_mok (pt := none) (fun _ _ z => by cases z) sys rfl, EN, ?_⟩
  intro b S' H' as' st M r
  obtain ⟨x, hx, rfl⟩ := r
  obtain ⟨_, vs, hv, rv⟩ := M.cell 1 _ x rfl hx
  cases rv with
  | cons r1 t =>
    cases t with
    | cons r2 t =>
      cases t
      cases r1
      cases r2
      exact q x H' (fun a o z => M.base a o z (by simp)) (M.new 0 x hx) hv
/-- the pot's promise: two ints in a new list -/
def spPot (K : PySem.W.Frag) : Sp := fun vs H Q _ => ∃ (a : Addr) (k : Int) (ns : List Int), vs = [.ref a, .int k] ∧ 0 ≤ k ∧ k ≤ 100 ∧ SqL K H a (ns.map V.int) ∧ SysH H ∧ ∀ x H' (i j : Int), Ex H H' → H x = none → H' x = some (.lst [.int i, .int j]) → Q (.ref x) H'
section
variable {Pg : Program} {w : World} {K : PySem.W.Frag} {mg : Str → Option Value} {base h : Heap} {t : Ws} {nm qual : Str} {params : Arguments} {scope : Scope} {fI : Addr} {fd : FuncData} {x0 x1 x2 : Str} {e1 e3 : U.E} {E1 E3 : Expr} {p0 p1 p2 p3 p4 p5 p6 p7 p8 p9 p10 p11 p12 p13 p14 p15 : Pos}
theorem env_k {k : Int} {a : Addr} {tb : Tb} {σ2 : Option V} : EnvOk tb K (fun _ => none) [none] [some (.ref a), some (.int k), σ2] [none, some (.d (.int k)), none] := by
  refine ⟨rfl, fun i w hi => ?_⟩
  match i, hi with
  | 0, hi => cases hi
  | 1, hi => cases hi; exact ⟨_, rfl, Rp.int _⟩
  | 2, hi => cases hi
theorem env_ki {k j : Int} {a : Addr} {tb : Tb} : EnvOk tb K (fun _ => none) [none] [some (.ref a), some (.int k), some (.int j)] [none, some (.d (.int k)), some (.d (.int j))] := by
  refine ⟨rfl, fun i w hi => ?_⟩
  match i, hi with
  | 0, hi => cases hi
  | 1, hi => cases hi; exact ⟨_, rfl, Rp.int _⟩
  | 2, hi => cases hi; exact ⟨_, rfl, Rp.int _⟩
theorem fn_pot (T : Ft t K) (W : t.Ok) (X : K.In h) (G : h.Ns mainGlobals mg)
    (F : FunD K nm qual params [.Assign [.Name x2 p0] E1 p1, .If (.Compare (.Name x1 p2) [.Lt] [.Call (.Name "len" p3) [.Name x0 p4] [] p5] p6) [.Assign [.Name x2 p7] (.Call (.Name "abs" p8) [.Subscript (.Name x0 p9) (.Name x1 p10) p11] [] p12) p13] [] p14, .Return (some E3) p15] scope [] [] fI fd)
    (S : FnScope [x0, x1, x2] [x0, x1] scope) (m1 : mt e1 (t.ct [x0, x1, x2] scope 0) E1 = true) (m3 : mt e3 (t.ct [x0, x1, x2] scope 0) E3 = true) (hs : ∀ env, swapsWith E1 (some (.Name x2 p0)) p1.line env = pure false)
    (g1 : gl scope "len" = true) (g2 : gl scope "abs" = true) (b1 : t.bl.contains "len" = true) (b2 : t.bl.contains "abs" = true) (v0 : vis scope x0 = true) (v1 : vis scope x1 = true) (v2 : scope.names.lookup x2 = some .local)
    (h1 : ∀ k : Int, 0 ≤ k → k ≤ 100 → ∃ i, ev (t.gm []) e1 [none, some (.d (.int k)), none] [.gone] = some (.ok (.d (.int i)) [.gone]))
    (h3 : ∀ k i : Int, 0 ≤ k → k ≤ 100 → ∃ p q, ev (t.gm []) e3 [none, some (.d (.int k)), some (.d (.int i))] [.gone] = some (.ok (.c 1) [.gone, .lst [.d (.int p), .d (.int q)]])) :
    FnG Pg w K mg base (L2.CX Pg w) 1 fI fd [x0, x1] (spPot K) := by
  refine fnG_of F S ?_ ?_
  · rintro vs H Q E ⟨a, k, ns, rfl, _⟩
    rfl
  · rintro cdv A outer s H vs Q E hg hr ⟨a, k, ns, rfl, k0, k1, sq, sys, q⟩
    have Wd0 := Wl.wd (E := E) (qual := qual) (f := fI) (cdv := cdv) (outer := outer) (s := s) (H := H) (wl_of (Pg := Pg) (w := w) (base := base) (N := [x0, x1, x2]) (sc := scope) (k := 0) T W X G FnsOk.nil) rfl rfl S.nd hg hr
    have P1 := (sound (G := t.gm []) e1).se _ _ _ _ m1 Wd0
    have P3 := (sound (G := t.gm []) e3).se _ _ _ _ m3 Wd0
    obtain ⟨l1, l2, l3⟩ := gl_ok Wd0.sc g1
    obtain ⟨a1, a2, a3⟩ := gl_ok Wd0.sc g2
    obtain ⟨u1, u2, u3⟩ := vis_ok Wd0.sc v0
    obtain ⟨w1, w2, w3⟩ := vis_ok Wd0.sc v1
    have mL : mg "len" = none := PySem.W.mg_none_of X G (T.bl _ b1)
    have mA : mg "abs" = none := PySem.W.mg_none_of X G (T.bl _ b2)
    refine ⟨_, pss_cons (ps_set (i := 2) S.nd rfl (.inl v2) P1 (hs _) (.inr v2)) (pss_cons (ps_if (pt_cmpR op_lt (pe_var (i := 1) rfl w1 w2 w3) (pe_callB call_len l1 mL boot_len (pa_cons (pe_var (i := 0) rfl u1 u2 u3) pa_nil)) (nomark _))
      (pss_one (ps_set (i := 2) S.nd rfl (.inl v2) (pe_callB call_abs a1 mA boot_abs (pa_cons (pe_ix ix_list (pe_var (i := 0) rfl u1 u2 u3) (pe_var (i := 1) rfl w1 w2 w3) (fun _ _ => rfl)) pa_nil)) rfl (.inr v2))) pss_nil) (pss_one (ps_ret P3))), ?_⟩
    obtain ⟨i, hi⟩ := h1 k k0 k1
    refine tV_int hi sys env_k fun H1 x1 => ?_
    have fin : ∀ (i : Int) (H2 : Hp), Ex H H2 → tV (t.gm []) t.tb K E e3 [some (.ref a), some (.int k), some (.int i)] H2 Q := fun i H2 x2 => by
      obtain ⟨p, q', he⟩ := h3 k i k0 k1
      refine tV_two he (sys.ex x2) env_ki fun x H' x3 n hx => q x H' p q' (x2.trans x3) (Evl.fresh_back x2 n) hx
    refine ⟨_, rfl, _, rfl, _, _, rfl, .inl ⟨_, Evl.ex_l x1 sq, rfl⟩, _, _, rfl, rfl, _, rfl, ?_⟩
    show if decide (k < ((ns.map V.int).length : Int)) = true then _ else _
    by_cases c : k < ((ns.map V.int).length : Int)
    · rw [if_pos (decide_eq_true c)]
      have hk : k.toNat < ns.length := by rw [List.length_map] at c; omega
      refine ⟨_, rfl, _, rfl, a, _, k, V.int ns[k.toNat], rfl, rfl, Evl.ex_l x1 sq, ?_, _, rfl, ?_⟩
      · have : L2.atI (ns.map V.int) k = some (V.int ns[k.toNat]) := by
          obtain ⟨j, rfl⟩ : ∃ j : Nat, k = (j : Int) := ⟨k.toNat, by omega⟩
          refine atI_nat ?_
          have hj : j < ns.length := hk
          rw [List.getElem?_map, List.getElem?_eq_getElem hj]
          rfl
        exact this
      · exact fin _ _ x1
    · rw [if_neg (by simpa using c)]
      exact fin _ _ x1
end

/-! ### the law -/
def spLaw (K : PySem.W.Frag) : Sp := fun vs H Q _ => ∃ (a : Addr) (ns : List Int), vs = [.ref a] ∧ ns.length ≤ 63 ∧ SqL K H a (ns.map V.int) ∧ SysH H ∧ ∀ H', Q (.bl true) H'
/-- what is asked of the whole: whatever the pot holds -/
def Always (F : Fn) : Prop := ∀ i j : Int, ∃ pt, F [.pot] (some (i, j)) = some (.ok (.d (.bl true)) pt)
theorem right_sp {tb : Tb} {K : PySem.W.Frag} {F : Fn} (hF : Always F) {H : Hp} {x : Addr} {i j : Int} {Q : VK} {E : XK} (sys : SysH H) (hx : H x = some (.lst [.int i, .int j])) (q : ∀ H', (∀ b o, H b = some o → b ≠ x → H' b = some o) → Q (.bl true) H') : FSp tb K F [.ref x] H Q E := by
  obtain ⟨pt, hf⟩ := hF i j
  refine ⟨fun _ => none, some x, [.pot], some (i, j), _, (fun _ _ z => nomatch z), sys, ⟨x, rfl, rfl, hx⟩, .cons (.inr ⟨rfl, x, rfl, rfl⟩) .nil, hf, ?_⟩
  intro v S' H' as fr _ r
  obtain ⟨_, r⟩ := r
  cases r
  exact q H' fun b o e n => fr.hh b o e fun z => n (Option.some.inj z).symm
section
variable {Pg : Program} {w : World} {K : PySem.W.Frag} {mg : Str → Option Value} {base h : Heap} {t : Ws} {nm qual : Str} {params : Arguments} {scope csc : Scope} {fI fP fR : Addr} {fd fdP fdR : FuncData} {x0 x1 nP nR y0 y1 z0 : Str} {k c : Nat} {F : Fn} {EN : Expr} {p1 p2 p3 p4 p5 p6 p7 p8 p9 p10 p11 p12 p13 p14 : Pos}
/-- the number of turns: an expression that is an int from 0 to 100 -/
def Turns (X : Cx) (K : PySem.W.Frag) (e : Expr) : Prop := ∃ te : TE, PE X e te ∧ ∀ (a : Addr) (ns : List Int) (v : Option V) (H : Hp) (Q : VK), ns.length ≤ 63 → SqL K H a (ns.map V.int) → (∀ i : Int, 0 ≤ i → i ≤ 100 → Q (.int i) H) → te [some (.ref a), v] H Q
theorem fn_law (F1 : FunD K nm qual params [.Return (some (.Call (.Name "all" p1) [.ListComp (.Call (.Name nR p2) [.Call (.Name nP p3) [.Name x0 p4, .Name x1 p5] [] p6] [] p7) [⟨.Name x1 p8, .Call (.Name "range" p9) [EN] [] p10, [], 0⟩] csc p11] [] p12)) p13] scope [] [] fI fd)
    (S : FnScope [x0, x1] [x0] scope) (X : K.In h) (G : h.Ns mainGlobals mg) (mA : mg "all" = none) (mR : mg "range" = none) (mP : mg nP = some (.ref fP)) (mRt : mg nR = some (.ref fR)) (gA : gl scope "all" = true) (gR : gl scope "range" = true)
    (gP : gl (relab csc scope) nP = true) (gRt : gl (relab csc scope) nR = true) (bk : blkC [x0, x1] scope csc [(x1, 1)] = true) (l1 : loc csc x1 = true) (v0 : vis (relab csc scope) x0 = true) (v1 : vis (relab csc scope) x1 = true)
    (PP : FnG Pg w K mg base (L2.CX Pg w) 1 fP fdP [y0, y1] (spPot K)) (PR : FnG Pg w K mg base (L2.CX Pg w) (k + 1) fR fdR [z0] (FSp t.tb K F)) (kP : PySem.W.keepIn K (.ref fP) = true) (kR : PySem.W.keepIn K (.ref fR) = true)
    (bP : ∀ us : List Value, us.length = [y0, y1].length → bindArgs fdP ⟨us, []⟩ = pure ([y0, y1].zip us)) (bR : ∀ us : List Value, us.length = [z0].length → bindArgs fdR ⟨us, []⟩ = pure ([z0].zip us)) (hF : Always F) (nE : nostar EN = true)
    (hT : ∀ X : Cx, X.prog = Pg → X.w = w → X.K = K → X.mg = mg → X.base = base → X.N = [x0, x1] → X.env.scope = scope → X.calm = true → Turns X K EN) :
    FnG Pg w K mg base (L2.CX Pg w) (k + 2) fI fd [x0] (spLaw K) := by
  refine fnG_of F1 S ?_ ?_
  · rintro vs H Q E ⟨a, ns, rfl, _⟩
    rfl
  · rintro cdv A outer s H vs Q E hg hr ⟨a, ns, rfl, hl, sq, sys, q⟩
    obtain ⟨te, hTe, hTr⟩ := hT (cxOf (L2.CX Pg w) Pg w K mg base [x0, x1] qual scope fI cdv A outer s H E) rfl rfl rfl rfl rfl rfl rfl rfl
    obtain ⟨c1, c2, c3⟩ := gl_ok (X := cxOf (L2.CX Pg w) Pg w K mg base [x0, x1] qual scope fI cdv A outer s H E) (ct := { N := [], sc := scope, bl := [], co := fun _ => none, fn := fun _ => none, k := 0, tys := [], tb := t.tb }) rfl gA
    obtain ⟨r1, r2, r3⟩ := gl_ok (X := cxOf (L2.CX Pg w) Pg w K mg base [x0, x1] qual scope fI cdv A outer s H E) (ct := { N := [], sc := scope, bl := [], co := fun _ => none, fn := fun _ => none, k := 0, tys := [], tb := t.tb }) rfl gR
    have elt : ∀ (s1 : Shared) (H1 : Hp) (C : Addr) (cl : List (Str × Addr)) (fp : List Addr), PE ((cxOf (L2.CX Pg w) Pg w K mg base [x0, x1] qual scope fI cdv A outer s H E).blk s1 H1 csc (compEnvC csc cl C (cxOf (L2.CX Pg w) Pg w K mg base [x0, x1] qual scope fI cdv A outer s H E).env) fp)
        (.Call (.Name nR p2) [.Call (.Name nP p3) [.Name x0 p4, .Name x1 p5] [] p6] [] p7)
        (fun σ H Q => (tCons (fun σ H Q => (tCons (tVar 0) (tCons (tVar 1) tNil)) σ H fun vs H1 => spPot K vs H1 Q fun _ _ _ => False) tNil) σ H fun vs H1 => FSp t.tb K F vs H1 Q fun _ _ _ => False) := by
      intro s1 H1 C cl fp
      obtain ⟨a1, a2, a3⟩ := gl_ok (X := (cxOf (L2.CX Pg w) Pg w K mg base [x0, x1] qual scope fI cdv A outer s H E).blk s1 H1 csc (compEnvC csc cl C (cxOf (L2.CX Pg w) Pg w K mg base [x0, x1] qual scope fI cdv A outer s H E).env) fp) (ct := { N := [], sc := relab csc scope, bl := [], co := fun _ => none, fn := fun _ => none, k := 0, tys := [], tb := t.tb }) rfl gP
      obtain ⟨b1, b2, b3⟩ := gl_ok (X := (cxOf (L2.CX Pg w) Pg w K mg base [x0, x1] qual scope fI cdv A outer s H E).blk s1 H1 csc (compEnvC csc cl C (cxOf (L2.CX Pg w) Pg w K mg base [x0, x1] qual scope fI cdv A outer s H E).env) fp) (ct := { N := [], sc := relab csc scope, bl := [], co := fun _ => none, fn := fun _ => none, k := 0, tys := [], tb := t.tb }) rfl gRt
      obtain ⟨u1, u2, u3⟩ := vis_ok (X := (cxOf (L2.CX Pg w) Pg w K mg base [x0, x1] qual scope fI cdv A outer s H E).blk s1 H1 csc (compEnvC csc cl C (cxOf (L2.CX Pg w) Pg w K mg base [x0, x1] qual scope fI cdv A outer s H E).env) fp) (ct := { N := [], sc := relab csc scope, bl := [], co := fun _ => none, fn := fun _ => none, k := 0, tys := [], tb := t.tb }) rfl v0
      obtain ⟨w1, w2, w3⟩ := vis_ok (X := (cxOf (L2.CX Pg w) Pg w K mg base [x0, x1] qual scope fI cdv A outer s H E).blk s1 H1 csc (compEnvC csc cl C (cxOf (L2.CX Pg w) Pg w K mg base [x0, x1] qual scope fI cdv A outer s H E).env) fp) (ct := { N := [], sc := relab csc scope, bl := [], co := fun _ => none, fn := fun _ => none, k := 0, tys := [], tb := t.tb }) rfl v1
      exact pe_callG PR hg hr b1 mRt kR bR (pa_cons (pe_callG PP hg (hr.mono (by omega)) a1 mP kP bP (pa_cons (pe_var (i := 0) rfl u1 u2 u3) (pa_cons (pe_var (i := 1) rfl w1 w2 w3) pa_nil)) a2 rfl rfl) pa_nil) b2 rfl rfl
    have tgt : ∀ (s1 : Shared) (H1 : Hp) (C : Addr) (cl : List (Str × Addr)) (fp : List Addr), PG ((cxOf (L2.CX Pg w) Pg w K mg base [x0, x1] qual scope fI cdv A outer s H E).blk s1 H1 csc (compEnvC csc cl C (cxOf (L2.CX Pg w) Pg w K mg base [x0, x1] qual scope fI cdv A outer s H E).env) fp) (.Name x1 p8) (gName 1) := fun s1 H1 C cl fp => by
      obtain ⟨z1, z2⟩ := blk_sto (X := cxOf (L2.CX Pg w) Pg w K mg base [x0, x1] qual scope fI cdv A outer s H E) (s := s1) (H := H1) (C := C) (cl := cl) (fp := fp) x1 l1
      exact pg_name (i := 1) S.nd rfl z1 z2
    refine ⟨_, pss_one (ps_ret (pe_callB (cr_all rfl) c1 mA (by decide +kernel) (pa_cons (pe_lc (own := [(x1, 1)]) (g := gName 1) (tt := tYes) rfl S.nd (pi_range1 r1 mR (pa_cons hTe pa_nil (star_cons nE)) (star_cons nE)) (blkOk_by bk) tgt (fun _ _ _ _ _ => pts_nil) elt) pa_nil))), ?_⟩
    refine hTr a ns none H _ hl sq fun i i0 i1 => ?_
    refine ⟨i, rfl, by omega, by omega, fun D hD => ?_⟩
    have nD : ∀ {b : Addr} {o : HO}, H b = some o → b ≠ D := fun {b o} e => ne_of_none e hD
    refine lc_range (lo := 0) (n := i.toNat) (g := gName 1) (tt := tYes) (te := fun σ H Q => (tCons (fun σ H Q => (tCons (tVar 0) (tCons (tVar 1) tNil)) σ H fun vs H1 => spPot K vs H1 Q fun _ _ _ => False) tNil) σ H fun vs H1 => FSp t.tb K F vs H1 Q fun _ _ _ => False) (vs := [1]) (σ := L2.start [x0, x1] [.ref a]) (H1 := H) (Qd := fun H' => rAll K [V.ref D] H' Q) (fun m H' => m ≤ 100 ∧ (∀ b o, H b = some o → H' b = some o) ∧ H' D = some (.lst (List.replicate m (.bl true)))) ⟨by omega, fun b o e => ?_, upd_same⟩ ?_ ?_
    · rw [upd_ne (nD e)]
      exact e
    · rintro m H1 hm ⟨m0, e1, hD1⟩
      have ex1 : Ex H H1 := e1
      refine ⟨rfl, ?_⟩
      unfold tYes
      refine L2.iteT ?_
      refine ⟨V.ref a, rfl, V.int (0 + (m : Int)), rfl, a, 0 + (m : Int), ns, rfl, by omega, by omega, Evl.ex_l ex1 sq, sys.ex ex1, fun x H2 p q' ex2 nx hx => ?_⟩
      refine right_sp hF ((sys.ex ex1).ex ex2) hx fun H3 k3 => ?_
      have nDx : D ≠ x := ne_of_none hD1 nx
      refine ⟨_, k3 _ _ (ex2 _ _ hD1) nDx, by rw [List.length_replicate, sizeLine_eq]; omega, by omega, fun b o e => ?_, ?_⟩
      · rw [upd_ne (nD e)]
        exact k3 _ _ (ex2 _ _ (ex1 _ _ e)) (ne_of_none (ex1 _ _ e) nx)
      · rw [upd_same, List.replicate_succ']
    · rintro H1 ⟨_, _, hD1⟩
      refine ⟨D, List.replicate i.toNat true, rfl, .inl (.inl ?_), ?_⟩
      · rw [hD1, List.map_replicate]
      · have : (List.replicate i.toNat true).all id = true := by simp
        rw [this]
        exact q H1
end
end U
set_option Elab.async false
set_option linter.all false
set_option maxRecDepth 100000
set_option maxHeartbeats 4000000
set_option autoImplicit false
/-! V6: how many turns; the end of a law whose promise knows that no repr runs around it. -/
namespace U
open Evl (Ex)
open PySem L2 PySem.Spec PyProof.Rows
section
variable {X : Cx} {K : PySem.W.Frag} {x0 : Str} {c d : Int} {q0 q1 q2 q3 q4 q5 q6 q7 : Pos} {k0 k1 : Nat} {q8 : Pos}
theorem len_term (hK : X.K = K) (hN : X.N[0]? = some x0) (hv : vis X.env.scope x0 = true) (hg : gl X.env.scope "len" = true) (hm : X.mg "len" = none) : ∃ te : TE, PE X (.Call (.Name "len" q0) [.Name x0 q1] [] q2) te ∧
    ∀ (a : Addr) (ns : List Int) (v : Option V) (H : Hp) (Q : VK), SqL K H a (ns.map V.int) → Q (.int ns.length) H → te [some (.ref a), v] H Q := by
  obtain ⟨g1, g2, g3⟩ := gl_ok (X := X) (ct := { N := [], sc := X.env.scope, bl := [], co := fun _ => none, fn := fun _ => none, k := 0, tys := [], tb := ⟨fun _ => "", fun _ => ""⟩ }) rfl hg
  obtain ⟨u1, u2, u3⟩ := vis_ok (X := X) (ct := { N := [], sc := X.env.scope, bl := [], co := fun _ => none, fn := fun _ => none, k := 0, tys := [], tb := ⟨fun _ => "", fun _ => ""⟩ }) rfl hv
  refine ⟨_, pe_callB call_len g1 hm boot_len (pa_cons (pe_var (i := 0) hN u1 u2 u3) pa_nil), fun a ns v H Q sq q => ?_⟩
  refine ⟨_, rfl, _, ns.length, rfl, .inl ⟨_, by rw [hK]; exact sq, by rw [List.length_map]⟩, q⟩
/-- max(c, min(d, len(script))) -/
theorem turns_a (hK : X.K = K) (hc : X.calm = true) (hN : X.N[0]? = some x0) (hv : vis X.env.scope x0 = true) (hg : (gl X.env.scope "len" && gl X.env.scope "max" && gl X.env.scope "min") = true) (h1 : X.mg "len" = none) (h2 : X.mg "max" = none) (h3 : X.mg "min" = none) (c0 : 0 ≤ c ∧ c ≤ 100) (d0 : 0 ≤ d ∧ d ≤ 100) :
    Turns X K (.Call (.Name "max" q3) [.Constant (.int c) k0 q4, .Call (.Name "min" q5) [.Constant (.int d) k1 q6, .Call (.Name "len" q0) [.Name x0 q1] [] q2] [] q7] [] q8) := by
  simp only [Bool.and_eq_true] at hg
  obtain ⟨te, P, R⟩ := len_term (q0 := q0) (q1 := q1) (q2 := q2) hK hN hv hg.1.1 h1
  obtain ⟨g1, g2, g3⟩ := gl_ok (X := X) (ct := { N := [], sc := X.env.scope, bl := [], co := fun _ => none, fn := fun _ => none, k := 0, tys := [], tb := ⟨fun _ => "", fun _ => ""⟩ }) rfl hg.1.2
  obtain ⟨u1, u2, u3⟩ := gl_ok (X := X) (ct := { N := [], sc := X.env.scope, bl := [], co := fun _ => none, fn := fun _ => none, k := 0, tys := [], tb := ⟨fun _ => "", fun _ => ""⟩ }) rfl hg.2
  refine ⟨_, pe_callB (call_max2 hc) g1 h2 (by decide +kernel) (pa_cons pe_int (pa_cons (pe_callB (call_min2 hc) u1 h3 (by decide +kernel) (pa_cons pe_int (pa_cons P pa_nil))) pa_nil)), fun a ns v H Q l sq q => ?_⟩
  refine R a ns v H _ sq ⟨d, ns.length, rfl, c, _, rfl, ?_⟩
  apply q <;> split <;> (try split) <;> omega
end

/-! ### the end -/
/-- what is tracked when the law begins: the script and the table of modules, both as they are -/
def H0 (K : PySem.W.Frag) (a : Addr) (oa os : Obj) (ns : List Int) : Hp := fun b =>
  if b = sysModules then some (.frz os (.own 0)) else if b = a ∧ K.lookup a = none then some (.frz oa (.lst (ns.map V.int))) else none
theorem h0_frz {K : PySem.W.Frag} {a b : Addr} {oa os : Obj} {ns : List Int} {o : HO} (h : H0 K a oa os ns b = some o) : ∃ ob u, o = .frz ob u := by
  unfold H0 at h
  split at h
  · cases h; exact ⟨_, _, rfl⟩
  · split at h
    · cases h; exact ⟨_, _, rfl⟩
    · cases h
/-- the call of the law at the end of the top -/
theorem end_call {Pg : Program} {w : World} {K : PySem.W.Frag} {mg mb : Str → Option Value} {k : Nat} {fa a : Addr} {fd : FuncData} {x : Str} {s : Shared} {vs : List Value} {ns : List Int} {om : Obj}
    (KX : K.In s.heap) (hns : s.heap.Ns mainGlobals mg) (hb : s.heap.Ns builtinsNs mb) (hbb : ∀ x : Str, x ≠ "__name__" → mb x = bootBuiltins x) (hlim : s.heap.NoLimit) (hg : s.gens = #[]) (nsy : K.lookup sysModules = none) (hsy : s.heap.get? sysModules = some om) (hdi : isDic om = true)
    (ha : s.heap.get? a = some { cls := .type "list", data := .seq vs.toArray }) (hi : IntsAre vs ns) (hl : ns.length ≤ 63) (hr : Room k callerA) (hP : ∀ base : Heap, K.In base → base.Ns mainGlobals mg → FnG Pg w K mg base (L2.CX Pg w) k fa fd [x] (spLaw K)) (hbind : ∀ u : Value, bindArgs fd ⟨[u], []⟩ = pure [(x, u)]) :
    codeAny (model Pg w) callerA (.call (.ref fa) ⟨[.ref a], []⟩) (fun r s' => r = .ok (.ret (.bool true)) ∧ OldK s.heap s'.heap ∧ s'.os = s.os ∧ AllBare s'.gens) s := by
  have nea : a ≠ sysModules := fun z => by
    rw [z, hsy] at ha
    cases ha
    cases hdi
  have small : ns.length ≤ sizeLine := by rw [sizeLine_eq]; omega
  obtain ⟨oa, hoa⟩ : ∃ oa : Obj, oa = { cls := .type "list", data := .seq vs.toArray } := ⟨_, rfl⟩
  have hA : H0 K a oa om ns a = (if K.lookup a = none then some (.frz oa (.lst (ns.map V.int))) else none) := by
    unfold H0
    rw [if_neg nea]
    by_cases hk : K.lookup a = none
    · rw [if_pos ⟨rfl, hk⟩, if_pos hk]
    · rw [if_neg fun z => hk z.2, if_neg hk]
  have hS : H0 K a oa om ns sysModules = some (.frz om (.own 0)) := if_pos rfl
  have hO : ∀ b, b ≠ a → b ≠ sysModules → H0 K a oa om ns b = none := fun b h1 h2 => by
    unfold H0
    rw [if_neg h2, if_neg fun z => h1 z.1]
  have inB : ∀ {b : Addr} {o : Obj}, s.heap.get? b = some o → H0 K a oa om ns b = none → (hidT s.heap (H0 K a oa om ns)).get? b = some o := fun e n => hidT_get e n
  have nsB : ∀ {b : Addr} {m : Str → Option Value}, b ≠ sysModules → s.heap.Ns b m → (hidT s.heap (H0 K a oa om ns)).Ns b m := fun {b m} ne z => by
    obtain ⟨o, es, ep, e, d, r⟩ := z
    refine ⟨o, es, ep, inB e (hO b (fun z => ?_) ne), d, r⟩
    rw [z, ha] at e
    cases e
    cases d
  have kB : K.In (hidT s.heap (H0 K a oa om ns)) := fun b o e => inB (KX b o e) (by
    by_cases h1 : b = sysModules
    · rw [h1, nsy] at e; cases e
    · by_cases h2 : b = a
      · rw [h2, hA, if_neg (by rw [h2] at e; rw [e]; simp)]
      · exact hO b h2 h1)
  have hM : Mod K mg (hidT s.heap (H0 K a oa om ns)) := ⟨kB, nsB (by decide) hns, ⟨mb, nsB (by decide) hb, hbb⟩, by
    obtain ⟨mc, q1, q2⟩ := hlim
    exact ⟨mc, nsB (by decide) q1, q2⟩⟩
  have ok : HOk Pg w (H0 K a oa om ns) s.heap := fun b o e => by
    by_cases h1 : b = sysModules
    · rw [h1, hS] at e
      cases e
      rw [h1]
      exact ⟨hsy, ⟨om, hsy⟩⟩
    · by_cases h2 : b = a
      · rw [h2, hA] at e
        split at e
        · cases e
          rw [h2, hoa]
          exact ⟨ha, by rw [List.length_map]; exact small, vs, _, vals_ints hi, ha⟩
        · cases e
      · rw [hO b h2 h1] at e; cases e
  have e0 : Env0 Pg w K mg (hidT s.heap (H0 K a oa om ns)) callerA [] s (H0 K a oa om ns) := ⟨rfl, hM, fun b o e => of_hidT e, Nat.le_of_eq (hidT_size _ _), trivial, fun b z => absurd (show b ∈ ([] : List Addr) from z) (by simp), ok, .of_eq hg⟩
  have sq : SqL K (H0 K a oa om ns) a (ns.map V.int) := by
    cases hk : K.lookup a with
    | none =>
      rw [hk, if_pos rfl] at hA
      exact .inl (.inr ⟨oa, hA⟩)
    | some o =>
      have e := KX a o hk
      rw [ha] at e
      cases e
      exact .inr ⟨_, vs.toArray, _, hk, rfl, rfl, rfl, by rw [List.size_toArray, hi.length]; exact small, by simpa using vals_ints hi⟩
  refine codeAny_mono ((hP _ kB (nsB (by decide) hns)).run callerA [] s (H0 K a oa om ns) ⟨[.ref a], []⟩ [.ref a] [.ref a] (fun v _ => v = .bl true) (fun _ _ _ => False) rfl hr e0 (.of_eq (hbind _)) (.cons rfl .nil) ⟨a, ns, rfl, hl, sq, ⟨(om, 0), hS⟩, fun _ => rfl⟩) fun r s' z => ?_
  cases r with
  | error e =>
    obtain ⟨_, _, _, _, _, _, _, _, _, _, _, _, f⟩ := z
    exact f.elim
  | ok fl =>
    cases fl with
    | next => exact False.elim z
    | brk => exact False.elim z
    | cont => exact False.elim z
    | ret u =>
      obtain ⟨v, H', os', bare, un, ok', rv, q⟩ := z
      have q : v = .bl true := q
      subst q
      obtain rfl : u = Value.bool true := rv
      refine ⟨rfl, OldK.of_keep fun b o e => ?_, os', bare⟩
      cases hb' : H0 K a oa om ns b with
      | none => exact un.keep b o e hb' (fun z => absurd (show b ∈ ([] : List Addr) from z) (by simp)) (by simp)
      | some u =>
        obtain ⟨ob, u', rfl⟩ := h0_frz hb'
        have k1 := (ok b _ hb').1
        have k2 := (ok' b _ (un.frzs b ob u' hb')).1
        rw [e] at k1
        cases k1
        exact k2
/-- the law's row, from its promise -/
theorem walk_end {l : PySem.W.OpenLaw} {k : Nat} {q : Program} {loose : List Str} {XP : (Str → Option Value) → Heap → Prop} {YP : World → Heap → Prop} {d : DefRec} {x : Str} (hn : l.most = some 63) (hdf : d.params.defaults = []) (hr : Room k callerA)
    (hF : ∀ (w : World) (mg : Str → Option Value) (fa : Addr) (h : Heap), YP w h → h.Ns mainGlobals mg → mg d.name = some (.ref fa) →
      ∃ (K : PySem.W.Frag) (fd : FuncData) (om : Obj), K.In h ∧ K.lookup sysModules = none ∧ h.get? sysModules = some om ∧ isDic om = true ∧ (∀ u : Value, bindArgs fd ⟨[u], []⟩ = pure [(x, u)]) ∧ ∀ base : Heap, K.In base → base.Ns mainGlobals mg → FnG l.prog w K mg base (L2.CX l.prog w) k fa fd [x] (spLaw K)) :
    PySem.W.WalkO q loose XP YP l.row.toRowW d [] (fun f vs => PySem.call f vs) := by
  refine Att.attach_call hn hdf ?_
  intro w s₀ s mg mb fa o pm cd doc a vs ns G Y ho hd hcd hmg hobj hints hlen hg
  obtain ⟨K, fd, om, KX, nsy, hsy, hdi, hbd, hP⟩ := hF w mg fa _ Y G.T.g hmg
  exact end_call KX G.T.g G.T.b G.T.builtins G.T.nolimit hg nsy hsy hdi hobj hints hlen hr hP hbd
end U
set_option Elab.async false
set_option linter.all false
set_option maxRecDepth 100000
set_option maxHeartbeats 4000000
set_option autoImplicit false
/-! V7: runs of the little language by rewriting; the pot's two expressions. -/
namespace U
theorem bnd_ap {α β : Type} (x : Ev α) (f : α → Ev β) (m : Mem) : bnd x f m = (match x m with
  | none => none
  | some (.ok a m1) => f a m1
  | some (.exc c fs m1) => some (.exc c fs m1)) := rfl
theorem ask_ap {α : Type} (o : Option α) (m : Mem) : ask o m = (match o with
  | some a => some (.ok a m)
  | none => none) := rfl
theorem rd_ap {α : Type} (f : Mem → Option α) (m : Mem) : rd f m = (match f m with
  | some a => some (.ok a m)
  | none => none) := rfl
theorem ret_ap {α : Type} (a : α) (m : Mem) : U.ret a m = some (.ok a m) := rfl
theorem newC_ap (c : Cell) (m : Mem) : newC c m = some (.ok (.c m.length) (m ++ [c])) := rfl
theorem unp_ap {α : Type} (k : Option Nat) (x : Ev α) (m : Mem) : unpinned k x m = (match x m with
  | some (.ok a m1) => (match unpin k m1 with
    | some m2 => some (.ok a m2)
    | none => none)
  | some (.exc c fs m1) => some (.exc c fs m1)
  | none => none) := rfl
theorem for_cons (f : List W → En → Ev (Fl × En)) (r : List W) (rs : List (List W)) (env : En) : forLoop f (r :: rs) env = bnd (f r env) fun p => match p.1 with
    | .next => forLoop f rs p.2
    | .cont => forLoop f rs p.2
    | .brk => U.ret (.next, p.2)
    | .ret w => U.ret (.ret w, p.2) := rfl
theorem for_nil (f : List W → En → Ev (Fl × En)) (env : En) : forLoop f [] env = U.ret (.next, env) := rfl
theorem fz_d (n : Nat) (x : D) (m : Mem) : fz (n + 1) (.d x) m = some (x, m) := rfl
theorem fz_c (n k : Nat) (m : Mem) : fz (n + 1) (.c (k + 1)) m = (match m[k + 1]? with
      | some (.lst ws) => (match fzs (fz n) ws m with
        | none => none
        | some (xs, m1) => some (.lst xs, m1.set (k + 1) (.frz (.lst xs))))
      | some (.dic kvs) => (match fzk (fz n) kvs m with
        | none => none
        | some (xs, m1) => some (.dic xs, m1.set (k + 1) (.frz (.dic xs))))
      | some (.dct kvs) => (match fzk (fz n) kvs m with
        | none => none
        | some (xs, m1) => some (.dct xs, m1.set (k + 1) (.frz (.dct xs))))
      | some (.ins c fs) => (match fzk (fz n) fs m with
        | none => none
        | some (xs, m1) => some (.ins c xs, m1.set (k + 1) (.frz (.ins c xs))))
      | some (.frz x) => some (x, m)
      | _ => none) := rfl
theorem pk_d (n : Nat) (x : D) (m : Mem) : pk m (n + 1) (.d x) = some x := rfl
theorem pk_c (n k : Nat) (m : Mem) : pk m (n + 1) (.c k) = (match m[k]? with
    | some (.lst ws) => (pks (pk m n) ws).map .lst
    | some (.pin ws) => (pks (pk m n) ws).map .lst
    | some (.frz x) => some x
    | _ => none) := rfl
theorem eq_str (n : Nat) (a b : PySem.Str) : eqD (n + 1) (.str a) (.str b) = some (a == b) := rfl
theorem a1_d (x : D) (m : Mem) : args1 (.d x) m = some (x, m) := rfl
theorem a1_c (k : Nat) (m : Mem) : args1 (.c (k + 1)) m = fz FZ (.c (k + 1)) m := rfl
theorem a1_p (m : Mem) : args1 (.c 0) m = some (.pot, m) := rfl
theorem pl_n {α : Type} (x : List α) : placed x [] ([] : List α) = x := rfl
theorem pl_1 {α : Type} (x : α) : placed [] [0] [x] = [x] := rfl
theorem pl_21 {α : Type} (x y : α) : placed [] [1, 0] [x, y] = [y, x] := rfl
theorem argP : argW .pot = some (.c 0) := rfl
theorem argI (n : Int) : argW (.int n) = some (.d (.int n)) := rfl
theorem argL (n : List D) : argW (.lst n) = some (.d (.lst n)) := rfl
theorem at0 {α : Type} (x : α) (xs : List α) : atI (x :: xs) 0 = some x := by
  unfold atI
  rw [if_pos (by decide), if_pos (by simp)]
  rfl
theorem at1 {α : Type} (x y : α) (xs : List α) : atI (x :: y :: xs) 1 = some y := by
  unfold atI
  rw [if_pos (by decide), if_pos (by simp; omega)]
  rfl
theorem at_n {α : Type} (xs : List α) (r : Int) (h0 : 0 ≤ r) (h1 : r < xs.length) : atI xs r = some (xs[r.toNat]'(by omega)) := by
  unfold atI
  rw [if_pos h0, if_pos h1, List.getElem?_eq_getElem]
theorem b_sub (a b : Int) (m : Mem) : binop .Sub (.d (.int a)) (.d (.int b)) m = some (.ok (.d (.int (a - b))) m) := rfl
theorem b_addI (a b : Int) (m : Mem) : binop .Add (.d (.int a)) (.d (.int b)) m = some (.ok (.d (.int (a + b))) m) := rfl
theorem b_mul {a b : Int} (h : (-(2 ^ 64) < a ∧ a < 2 ^ 64) ∨ (-(2 ^ 64) < b ∧ b < 2 ^ 64)) (m : Mem) : binop .Mult (.d (.int a)) (.d (.int b)) m = some (.ok (.d (.int (a * b))) m) := if_pos h
theorem b_mod {a b : Int} (h : 0 < b) (m : Mem) : binop .Mod (.d (.int a)) (.d (.int b)) m = some (.ok (.d (.int (a % b))) m) := if_pos h
theorem b_pow {a b : Int} (h : 0 ≤ b ∧ b ≤ 1000000 ∧ a.natAbs < 2 ^ 64) (m : Mem) : binop .Pow (.d (.int a)) (.d (.int b)) m = some (.ok (.d (.int (a ^ b.toNat))) m) := if_pos h
theorem b_add (a b : Nat) (m : Mem) : binop .Add (.c a) (.c b) m = (match seqOf (.c a) m, seqOf (.c b) m with
    | some (true, xs), some (true, ys) => if small (xs.length + ys.length) then newL (xs ++ ys) m else none
    | _, _ => none) := rfl
theorem blt_int (i : Int) (m : Mem) : blt .int [.d (.int i)] m = some (.ok (.d (.int i)) m) := rfl
theorem blt_max (i j : Int) (m : Mem) : blt .max [.d (.int i), .d (.int j)] m = some (.ok (.d (.int (if j > i then j else i))) m) := rfl
/-- the pot's expressions -/
def pot1 (c : Int) : E := .bin .Add (.bin .Mult (.cst (.int 23)) (.var 1)) (.cst (.int c))
def pot3 (a b c : Int) : E := .lst (.cons (.blt .max (.cons (.cst (.int 0)) (.cons (.bin .Sub (.var 2) (.bin .Pow (.cst (.int 10)) (.cst (.int 18)))) .nil))) (.cons (.bin .Add (.bin .Mod (.bin .Mult (.blt .int (.cons (.bin .Add (.bin .Mod (.blt .int (.cons (.var 2) .nil)) (.cst (.int a))) (.cst (.int b))) .nil)) (.bin .Pow (.bin .Add (.bin .Mult (.cst (.int 2)) (.var 1)) (.cst (.int 5))) (.cst (.int 3)))) (.cst (.int c))) (.cst (.int 1))) .nil))
theorem ev_pot1 (G : Gm) (c k : Int) : ∃ i, ev G (pot1 c) [none, some (.d (.int k)), none] [.gone] = some (.ok (.d (.int i)) [.gone]) := by
  refine ⟨23 * k + c, ?_⟩
  have h : (-(2 ^ 64) < (23 : Int) ∧ (23 : Int) < 2 ^ 64) ∨ (-(2 ^ 64) < k ∧ k < 2 ^ 64) := .inl (by decide)
  simp only [↓run, ↓List.length_cons, ↓List.length_nil, ↓List.map_cons, ↓List.map_nil, ↓ex, ↓rows, ↓ev, ↓evs, ↓bnd_ap, ↓ret_ap, ↓ask_ap, ↓rd_ap, ↓newC_ap, ↓newL, ↓unp_ap, ↓for_cons, ↓for_nil, small, BIG, ↓callF, ↓argsv, ↓fzs, ↓a1_d, ↓a1_c, ↓a1_p, potC, potOf,
    List.getElem?_cons_zero, List.getElem?_cons_succ, List.cons_append, List.nil_append, List.replicate, ↓reduceIte, mkX, ↓pl_n, ↓pl_1, ↓pl_21, FZ, ↓fz_d, ↓fz_c, ↓pk_d, ↓pk_c, ↓pks, ↓eq_str, innw, setPot, flatF, flatD, ↓seqOf, ↓rowsW, ↓rowsOf, ↓rowOf, ↓pinned, ↓pinC, ↓unpin, ↓setRow, ↓setT, List.set, ↓kindW, ↓kindD, ↓fldW, ↓getK, ↓blt, ↓eqW, ↓cmpop, ↓truth,
    beq_self_eq_true, Bool.not_true, Bool.not_false, Option.map_some, wbl, wstr, wint, List.all_cons, List.all_nil, Bool.and_self, List.zip_cons_cons, List.zip_nil_left, List.zip_nil_right, List.reverse_cons, List.reverse_nil, and_self, List.length_append,
    Bool.false_eq_true, decide_eq_true_eq, Nat.reduceLT, Nat.reduceAdd, Nat.zero_add, List.append_nil, reduceCtorEq, List.length_cons, List.length_nil, fin, outW, List.getElem?_nil, stuck, Nat.reduceEqDiff, Nat.succ_ne_zero, Nat.reduceLeDiff, Nat.le_refl, Nat.zero_le, true_and, and_true, ite_self, ↓pot1, ↓b_mul h, ↓b_addI]
theorem ev_pot3 (G : Gm) (a b c : Int) (ha : 0 < a ∧ a < 2 ^ 40) (hb : 0 ≤ b ∧ b < 2 ^ 40) (hc : 0 < c) (k i : Int) (k0 : 0 ≤ k) (k1 : k ≤ 100) : ∃ p q, ev G (pot3 a b c) [none, some (.d (.int k)), some (.d (.int i))] [.gone] = some (.ok (.c 1) [.gone, .lst [.d (.int p), .d (.int q)]]) := by
  refine ⟨if i - 10 ^ 18 > 0 then i - 10 ^ 18 else 0, (i % a + b) * (2 * k + 5) ^ 3 % c + 1, ?_⟩
  have r0 := Int.emod_nonneg i (show a ≠ 0 by omega)
  have r1 := Int.emod_lt_of_pos i ha.1
  have h1 : (-(2 ^ 64) < (2 : Int) ∧ (2 : Int) < 2 ^ 64) ∨ (-(2 ^ 64) < k ∧ k < 2 ^ 64) := .inl (by decide)
  have h2 : 0 ≤ (3 : Int) ∧ (3 : Int) ≤ 1000000 ∧ (2 * k + 5).natAbs < 2 ^ 64 := ⟨by decide, by decide, by omega⟩
  have h3 : (-(2 ^ 64) < i % a + b ∧ i % a + b < 2 ^ 64) ∨ (-(2 ^ 64) < (2 * k + 5) ^ (3 : Int).toNat ∧ (2 * k + 5) ^ (3 : Int).toNat < 2 ^ 64) := .inl (by omega)
  have h4 : 0 ≤ (18 : Int) ∧ (18 : Int) ≤ 1000000 ∧ (10 : Int).natAbs < 2 ^ 64 := ⟨by decide, by decide, by decide⟩
  have t3 : (3 : Int).toNat = 3 := rfl
  have t18 : (18 : Int).toNat = 18 := rfl
  simp only [↓run, ↓List.length_cons, ↓List.length_nil, ↓List.map_cons, ↓List.map_nil, ↓ex, ↓rows, ↓ev, ↓evs, ↓bnd_ap, ↓ret_ap, ↓ask_ap, ↓rd_ap, ↓newC_ap, ↓newL, ↓unp_ap, ↓for_cons, ↓for_nil, small, BIG, ↓callF, ↓argsv, ↓fzs, ↓a1_d, ↓a1_c, ↓a1_p, potC, potOf,
    List.getElem?_cons_zero, List.getElem?_cons_succ, List.cons_append, List.nil_append, List.replicate, ↓reduceIte, mkX, ↓pl_n, ↓pl_1, ↓pl_21, FZ, ↓fz_d, ↓fz_c, ↓pk_d, ↓pk_c, ↓pks, ↓eq_str, innw, setPot, flatF, flatD, ↓seqOf, ↓rowsW, ↓rowsOf, ↓rowOf, ↓pinned, ↓pinC, ↓unpin, ↓setRow, ↓setT, List.set, ↓kindW, ↓kindD, ↓fldW, ↓getK, ↓eqW, ↓cmpop, ↓truth,
    beq_self_eq_true, Bool.not_true, Bool.not_false, Option.map_some, wbl, wstr, wint, List.all_cons, List.all_nil, Bool.and_self, List.zip_cons_cons, List.zip_nil_left, List.zip_nil_right, List.reverse_cons, List.reverse_nil, and_self, List.length_append,
    Bool.false_eq_true, decide_eq_true_eq, Nat.reduceLT, Nat.reduceAdd, Nat.zero_add, List.append_nil, reduceCtorEq, List.length_cons, List.length_nil, fin, outW, List.getElem?_nil, stuck, Nat.reduceEqDiff, Nat.succ_ne_zero, Nat.reduceLeDiff, Nat.le_refl, Nat.zero_le, true_and, and_true, ite_self, ↓pot3, ↓b_mul h1, ↓b_mul h3, ↓b_pow h2, ↓b_pow h4, ↓b_mod ha.1, ↓b_mod hc, ↓b_addI, ↓b_sub, ↓blt_int, ↓blt_max]
  rw [t3, t18]
end U
set_option Elab.async false
set_option linter.all false
set_option maxRecDepth 100000
set_option maxHeartbeats 0
set_option autoImplicit false
/-! The defs of law_k10_errors_and_kinds_of_values: texts, functions, that they are kept (printed by gen2.py). -/
namespace U
namespace KK
open PySem L2 PySem.Spec PyProof.Rows
theorem ws_ok : ws.Ok := Ws.ok_of (by decide +kernel)
def e0 : List (Nat × Fn) := []
def e1 : List (Nat × Fn) := (0, mkX 1 [0]) :: e0
theorem x_InvalidName {w : World} {K : PySem.W.Frag} {mg : Str → Option Value} {base : Heap} (T : Ft ws K) (c : SaysX ws.xb fn K) (L : FnsOk (PySem.Challenge.rw_uplines_k10_errors_and_kinds_of_values).prog w K mg base 2 ws e0) : FnsOk (PySem.Challenge.rw_uplines_k10_errors_and_kinds_of_values).prog w K mg base 2 ws e1 := by
  obtain ⟨fd, F⟩ := c.fun_ (i := 17) (x := d_InvalidName) rfl
  have F1 : FunD K "__init__" "InvalidName.__init__" (defArgs s_InvalidName) (defBody s_InvalidName) (defScope s_InvalidName) [] [] (He.ma K (He.ga K "InvalidName") "__init__") fd := F
  refine FnsOk.exc (e := ec[1]) (ps := ["self", "value"]) T L rfl rfl rfl rfl F1 (fnX1 F1 (FnScope.mk rfl rfl rfl (by decide +kernel) rfl (by decide +kernel) (by decide +kernel)) (Or.inl rfl) (Or.inl rfl) (by decide) (by decide) (by decide) (by decide)) ?_
  intro q hq
  simp only [List.mem_cons, List.not_mem_nil, or_false] at hq
  rcases hq with rfl | rfl
  · exact ⟨by decide, fun _ _ _ _ _ _ us ws h1 h2 xs h0 => match xs, us, ws, h0, h1, h2 with
      | [x0], [u0], [], _, _, _ => rfl⟩
  · exact ⟨by decide, fun _ _ _ _ _ _ us ws h1 h2 xs h0 => match xs, us, ws, h0, h1, h2 with
      | [x0], [], [w0], _, _, _ => rfl⟩
def e2 : List (Nat × Fn) := (1, mkX 2 [0]) :: e1
theorem x_InvalidLevel {w : World} {K : PySem.W.Frag} {mg : Str → Option Value} {base : Heap} (T : Ft ws K) (c : SaysX ws.xb fn K) (L : FnsOk (PySem.Challenge.rw_uplines_k10_errors_and_kinds_of_values).prog w K mg base 2 ws e1) : FnsOk (PySem.Challenge.rw_uplines_k10_errors_and_kinds_of_values).prog w K mg base 2 ws e2 := by
  obtain ⟨fd, F⟩ := c.fun_ (i := 18) (x := d_InvalidLevel) rfl
  have F1 : FunD K "__init__" "InvalidLevel.__init__" (defArgs s_InvalidLevel) (defBody s_InvalidLevel) (defScope s_InvalidLevel) [] [] (He.ma K (He.ga K "InvalidLevel") "__init__") fd := F
  refine FnsOk.exc (e := ec[2]) (ps := ["self", "value"]) T L rfl rfl rfl rfl F1 (fnX1 F1 (FnScope.mk rfl rfl rfl (by decide +kernel) rfl (by decide +kernel) (by decide +kernel)) (Or.inl rfl) (Or.inl rfl) (by decide) (by decide) (by decide) (by decide)) ?_
  intro q hq
  simp only [List.mem_cons, List.not_mem_nil, or_false] at hq
  rcases hq with rfl
  · exact ⟨by decide, fun _ _ _ _ _ _ us ws h1 h2 xs h0 => match xs, us, ws, h0, h1, h2 with
      | [x0], [u0], [], _, _, _ => rfl⟩
def e3 : List (Nat × Fn) := (2, mkX 3 [0]) :: e2
theorem x_InvalidNumber {w : World} {K : PySem.W.Frag} {mg : Str → Option Value} {base : Heap} (T : Ft ws K) (c : SaysX ws.xb fn K) (L : FnsOk (PySem.Challenge.rw_uplines_k10_errors_and_kinds_of_values).prog w K mg base 2 ws e2) : FnsOk (PySem.Challenge.rw_uplines_k10_errors_and_kinds_of_values).prog w K mg base 2 ws e3 := by
  obtain ⟨fd, F⟩ := c.fun_ (i := 19) (x := d_InvalidNumber) rfl
  have F1 : FunD K "__init__" "InvalidNumber.__init__" (defArgs s_InvalidNumber) (defBody s_InvalidNumber) (defScope s_InvalidNumber) [] [] (He.ma K (He.ga K "InvalidNumber") "__init__") fd := F
  refine FnsOk.exc (e := ec[3]) (ps := ["self", "value"]) T L rfl rfl rfl rfl F1 (fnX1 F1 (FnScope.mk rfl rfl rfl (by decide +kernel) rfl (by decide +kernel) (by decide +kernel)) (Or.inl rfl) (Or.inl rfl) (by decide) (by decide) (by decide) (by decide)) ?_
  intro q hq
  simp only [List.mem_cons, List.not_mem_nil, or_false] at hq
  rcases hq with rfl
  · exact ⟨by decide, fun _ _ _ _ _ _ us ws h1 h2 xs h0 => match xs, us, ws, h0, h1, h2 with
      | [x0], [u0], [], _, _, _ => rfl⟩
def e4 : List (Nat × Fn) := (3, mkX 4 [0]) :: e3
theorem x_InvalidPair {w : World} {K : PySem.W.Frag} {mg : Str → Option Value} {base : Heap} (T : Ft ws K) (c : SaysX ws.xb fn K) (L : FnsOk (PySem.Challenge.rw_uplines_k10_errors_and_kinds_of_values).prog w K mg base 2 ws e3) : FnsOk (PySem.Challenge.rw_uplines_k10_errors_and_kinds_of_values).prog w K mg base 2 ws e4 := by
  obtain ⟨fd, F⟩ := c.fun_ (i := 20) (x := d_InvalidPair) rfl
  have F1 : FunD K "__init__" "InvalidPair.__init__" (defArgs s_InvalidPair) (defBody s_InvalidPair) (defScope s_InvalidPair) [] [] (He.ma K (He.ga K "InvalidPair") "__init__") fd := F
  refine FnsOk.exc (e := ec[4]) (ps := ["self", "value"]) T L rfl rfl rfl rfl F1 (fnX1 F1 (FnScope.mk rfl rfl rfl (by decide +kernel) rfl (by decide +kernel) (by decide +kernel)) (Or.inl rfl) (Or.inl rfl) (by decide) (by decide) (by decide) (by decide)) ?_
  intro q hq
  simp only [List.mem_cons, List.not_mem_nil, or_false] at hq
  rcases hq with rfl
  · exact ⟨by decide, fun _ _ _ _ _ _ us ws h1 h2 xs h0 => match xs, us, ws, h0, h1, h2 with
      | [x0], [u0], [], _, _, _ => rfl⟩
def e5 : List (Nat × Fn) := (4, mkX 5 [0]) :: e4
theorem x_InvalidLine {w : World} {K : PySem.W.Frag} {mg : Str → Option Value} {base : Heap} (T : Ft ws K) (c : SaysX ws.xb fn K) (L : FnsOk (PySem.Challenge.rw_uplines_k10_errors_and_kinds_of_values).prog w K mg base 2 ws e4) : FnsOk (PySem.Challenge.rw_uplines_k10_errors_and_kinds_of_values).prog w K mg base 2 ws e5 := by
  obtain ⟨fd, F⟩ := c.fun_ (i := 21) (x := d_InvalidLine) rfl
  have F1 : FunD K "__init__" "InvalidLine.__init__" (defArgs s_InvalidLine) (defBody s_InvalidLine) (defScope s_InvalidLine) [] [] (He.ma K (He.ga K "InvalidLine") "__init__") fd := F
  refine FnsOk.exc (e := ec[5]) (ps := ["self", "value"]) T L rfl rfl rfl rfl F1 (fnX1 F1 (FnScope.mk rfl rfl rfl (by decide +kernel) rfl (by decide +kernel) (by decide +kernel)) (Or.inl rfl) (Or.inl rfl) (by decide) (by decide) (by decide) (by decide)) ?_
  intro q hq
  simp only [List.mem_cons, List.not_mem_nil, or_false] at hq
  rcases hq with rfl
  · exact ⟨by decide, fun _ _ _ _ _ _ us ws h1 h2 xs h0 => match xs, us, ws, h0, h1, h2 with
      | [x0], [u0], [], _, _, _ => rfl⟩
def e6 : List (Nat × Fn) := (5, mkX 6 [0]) :: e5
theorem x_InvalidOrder {w : World} {K : PySem.W.Frag} {mg : Str → Option Value} {base : Heap} (T : Ft ws K) (c : SaysX ws.xb fn K) (L : FnsOk (PySem.Challenge.rw_uplines_k10_errors_and_kinds_of_values).prog w K mg base 2 ws e5) : FnsOk (PySem.Challenge.rw_uplines_k10_errors_and_kinds_of_values).prog w K mg base 2 ws e6 := by
  obtain ⟨fd, F⟩ := c.fun_ (i := 22) (x := d_InvalidOrder) rfl
  have F1 : FunD K "__init__" "InvalidOrder.__init__" (defArgs s_InvalidOrder) (defBody s_InvalidOrder) (defScope s_InvalidOrder) [] [] (He.ma K (He.ga K "InvalidOrder") "__init__") fd := F
  refine FnsOk.exc (e := ec[6]) (ps := ["self", "value"]) T L rfl rfl rfl rfl F1 (fnX1 F1 (FnScope.mk rfl rfl rfl (by decide +kernel) rfl (by decide +kernel) (by decide +kernel)) (Or.inl rfl) (Or.inl rfl) (by decide) (by decide) (by decide) (by decide)) ?_
  intro q hq
  simp only [List.mem_cons, List.not_mem_nil, or_false] at hq
  rcases hq with rfl
  · exact ⟨by decide, fun _ _ _ _ _ _ us ws h1 h2 xs h0 => match xs, us, ws, h0, h1, h2 with
      | [x0], [u0], [], _, _, _ => rfl⟩
def e7 : List (Nat × Fn) := (6, mkX 7 [0]) :: e6
theorem x_InvalidOrders {w : World} {K : PySem.W.Frag} {mg : Str → Option Value} {base : Heap} (T : Ft ws K) (c : SaysX ws.xb fn K) (L : FnsOk (PySem.Challenge.rw_uplines_k10_errors_and_kinds_of_values).prog w K mg base 2 ws e6) : FnsOk (PySem.Challenge.rw_uplines_k10_errors_and_kinds_of_values).prog w K mg base 2 ws e7 := by
  obtain ⟨fd, F⟩ := c.fun_ (i := 23) (x := d_InvalidOrders) rfl
  have F1 : FunD K "__init__" "InvalidOrders.__init__" (defArgs s_InvalidOrders) (defBody s_InvalidOrders) (defScope s_InvalidOrders) [] [] (He.ma K (He.ga K "InvalidOrders") "__init__") fd := F
  refine FnsOk.exc (e := ec[7]) (ps := ["self", "value"]) T L rfl rfl rfl rfl F1 (fnX1 F1 (FnScope.mk rfl rfl rfl (by decide +kernel) rfl (by decide +kernel) (by decide +kernel)) (Or.inl rfl) (Or.inl rfl) (by decide) (by decide) (by decide) (by decide)) ?_
  intro q hq
  simp only [List.mem_cons, List.not_mem_nil, or_false] at hq
  rcases hq with rfl
  · exact ⟨by decide, fun _ _ _ _ _ _ us ws h1 h2 xs h0 => match xs, us, ws, h0, h1, h2 with
      | [x0], [u0], [], _, _, _ => rfl⟩
def e8 : List (Nat × Fn) := (7, mkX 8 [0]) :: e7
theorem x_InvalidDrawing {w : World} {K : PySem.W.Frag} {mg : Str → Option Value} {base : Heap} (T : Ft ws K) (c : SaysX ws.xb fn K) (L : FnsOk (PySem.Challenge.rw_uplines_k10_errors_and_kinds_of_values).prog w K mg base 2 ws e7) : FnsOk (PySem.Challenge.rw_uplines_k10_errors_and_kinds_of_values).prog w K mg base 2 ws e8 := by
  obtain ⟨fd, F⟩ := c.fun_ (i := 24) (x := d_InvalidDrawing) rfl
  have F1 : FunD K "__init__" "InvalidDrawing.__init__" (defArgs s_InvalidDrawing) (defBody s_InvalidDrawing) (defScope s_InvalidDrawing) [] [] (He.ma K (He.ga K "InvalidDrawing") "__init__") fd := F
  refine FnsOk.exc (e := ec[8]) (ps := ["self", "value"]) T L rfl rfl rfl rfl F1 (fnX1 F1 (FnScope.mk rfl rfl rfl (by decide +kernel) rfl (by decide +kernel) (by decide +kernel)) (Or.inl rfl) (Or.inl rfl) (by decide) (by decide) (by decide) (by decide)) ?_
  intro q hq
  simp only [List.mem_cons, List.not_mem_nil, or_false] at hq
  rcases hq with rfl
  · exact ⟨by decide, fun _ _ _ _ _ _ us ws h1 h2 xs h0 => match xs, us, ws, h0, h1, h2 with
      | [x0], [u0], [], _, _, _ => rfl⟩
def e9 : List (Nat × Fn) := (8, mkX 9 [0]) :: e8
theorem x_InvalidSheet {w : World} {K : PySem.W.Frag} {mg : Str → Option Value} {base : Heap} (T : Ft ws K) (c : SaysX ws.xb fn K) (L : FnsOk (PySem.Challenge.rw_uplines_k10_errors_and_kinds_of_values).prog w K mg base 2 ws e8) : FnsOk (PySem.Challenge.rw_uplines_k10_errors_and_kinds_of_values).prog w K mg base 2 ws e9 := by
  obtain ⟨fd, F⟩ := c.fun_ (i := 25) (x := d_InvalidSheet) rfl
  have F1 : FunD K "__init__" "InvalidSheet.__init__" (defArgs s_InvalidSheet) (defBody s_InvalidSheet) (defScope s_InvalidSheet) [] [] (He.ma K (He.ga K "InvalidSheet") "__init__") fd := F
  refine FnsOk.exc (e := ec[9]) (ps := ["self", "value"]) T L rfl rfl rfl rfl F1 (fnX1 F1 (FnScope.mk rfl rfl rfl (by decide +kernel) rfl (by decide +kernel) (by decide +kernel)) (Or.inl rfl) (Or.inl rfl) (by decide) (by decide) (by decide) (by decide)) ?_
  intro q hq
  simp only [List.mem_cons, List.not_mem_nil, or_false] at hq
  rcases hq with rfl | rfl
  · exact ⟨by decide, fun _ _ _ _ _ _ us ws h1 h2 xs h0 => match xs, us, ws, h0, h1, h2 with
      | [x0], [u0], [], _, _, _ => rfl⟩
  · exact ⟨by decide, fun _ _ _ _ _ _ us ws h1 h2 xs h0 => match xs, us, ws, h0, h1, h2 with
      | [x0], [], [w0], _, _, _ => rfl⟩
def e10 : List (Nat × Fn) := (9, mkX 10 [0]) :: e9
theorem x_InvalidClaim {w : World} {K : PySem.W.Frag} {mg : Str → Option Value} {base : Heap} (T : Ft ws K) (c : SaysX ws.xb fn K) (L : FnsOk (PySem.Challenge.rw_uplines_k10_errors_and_kinds_of_values).prog w K mg base 2 ws e9) : FnsOk (PySem.Challenge.rw_uplines_k10_errors_and_kinds_of_values).prog w K mg base 2 ws e10 := by
  obtain ⟨fd, F⟩ := c.fun_ (i := 26) (x := d_InvalidClaim) rfl
  have F1 : FunD K "__init__" "InvalidClaim.__init__" (defArgs s_InvalidClaim) (defBody s_InvalidClaim) (defScope s_InvalidClaim) [] [] (He.ma K (He.ga K "InvalidClaim") "__init__") fd := F
  refine FnsOk.exc (e := ec[10]) (ps := ["self", "value"]) T L rfl rfl rfl rfl F1 (fnX1 F1 (FnScope.mk rfl rfl rfl (by decide +kernel) rfl (by decide +kernel) (by decide +kernel)) (Or.inl rfl) (Or.inl rfl) (by decide) (by decide) (by decide) (by decide)) ?_
  intro q hq
  simp only [List.mem_cons, List.not_mem_nil, or_false] at hq
  rcases hq with rfl
  · exact ⟨by decide, fun _ _ _ _ _ _ us ws h1 h2 xs h0 => match xs, us, ws, h0, h1, h2 with
      | [x0], [u0], [], _, _, _ => rfl⟩
def e11 : List (Nat × Fn) := (10, mkX 11 [0]) :: e10
theorem x_InvalidCommand {w : World} {K : PySem.W.Frag} {mg : Str → Option Value} {base : Heap} (T : Ft ws K) (c : SaysX ws.xb fn K) (L : FnsOk (PySem.Challenge.rw_uplines_k10_errors_and_kinds_of_values).prog w K mg base 2 ws e10) : FnsOk (PySem.Challenge.rw_uplines_k10_errors_and_kinds_of_values).prog w K mg base 2 ws e11 := by
  obtain ⟨fd, F⟩ := c.fun_ (i := 27) (x := d_InvalidCommand) rfl
  have F1 : FunD K "__init__" "InvalidCommand.__init__" (defArgs s_InvalidCommand) (defBody s_InvalidCommand) (defScope s_InvalidCommand) [] [] (He.ma K (He.ga K "InvalidCommand") "__init__") fd := F
  refine FnsOk.exc (e := ec[11]) (ps := ["self", "value"]) T L rfl rfl rfl rfl F1 (fnX1 F1 (FnScope.mk rfl rfl rfl (by decide +kernel) rfl (by decide +kernel) (by decide +kernel)) (Or.inl rfl) (Or.inl rfl) (by decide) (by decide) (by decide) (by decide)) ?_
  intro q hq
  simp only [List.mem_cons, List.not_mem_nil, or_false] at hq
  rcases hq with rfl | rfl
  · exact ⟨by decide, fun _ _ _ _ _ _ us ws h1 h2 xs h0 => match xs, us, ws, h0, h1, h2 with
      | [x0], [u0], [], _, _, _ => rfl⟩
  · exact ⟨by decide, fun _ _ _ _ _ _ us ws h1 h2 xs h0 => match xs, us, ws, h0, h1, h2 with
      | [x0], [], [w0], _, _, _ => rfl⟩
def e12 : List (Nat × Fn) := (11, mkX 12 [1]) :: e11
theorem x_InvalidLevels {w : World} {K : PySem.W.Frag} {mg : Str → Option Value} {base : Heap} (T : Ft ws K) (c : SaysX ws.xb fn K) (L : FnsOk (PySem.Challenge.rw_uplines_k10_errors_and_kinds_of_values).prog w K mg base 2 ws e11) : FnsOk (PySem.Challenge.rw_uplines_k10_errors_and_kinds_of_values).prog w K mg base 2 ws e12 := by
  obtain ⟨fd, F⟩ := c.fun_ (i := 28) (x := d_InvalidLevels) rfl
  have F1 : FunD K "__init__" "InvalidLevels.__init__" (defArgs s_InvalidLevels) (defBody s_InvalidLevels) (defScope s_InvalidLevels) [] [] (He.ma K (He.ga K "InvalidLevels") "__init__") fd := F
  refine FnsOk.exc (e := ec[12]) (ps := ["self", "position"]) T L rfl rfl rfl rfl F1 (fnX1 F1 (FnScope.mk rfl rfl rfl (by decide +kernel) rfl (by decide +kernel) (by decide +kernel)) (Or.inl rfl) (Or.inl rfl) (by decide) (by decide) (by decide) (by decide)) ?_
  intro q hq
  simp only [List.mem_cons, List.not_mem_nil, or_false] at hq
  rcases hq with rfl | rfl
  · exact ⟨by decide, fun _ _ _ _ _ _ us ws h1 h2 xs h0 => match xs, us, ws, h0, h1, h2 with
      | [x0], [u0], [], _, _, _ => rfl⟩
  · exact ⟨by decide, fun _ _ _ _ _ _ us ws h1 h2 xs h0 => match xs, us, ws, h0, h1, h2 with
      | [x0], [], [w0], _, _, _ => rfl⟩
def e13 : List (Nat × Fn) := (12, mkX 13 [1]) :: e12
theorem x_InvalidNodes {w : World} {K : PySem.W.Frag} {mg : Str → Option Value} {base : Heap} (T : Ft ws K) (c : SaysX ws.xb fn K) (L : FnsOk (PySem.Challenge.rw_uplines_k10_errors_and_kinds_of_values).prog w K mg base 2 ws e12) : FnsOk (PySem.Challenge.rw_uplines_k10_errors_and_kinds_of_values).prog w K mg base 2 ws e13 := by
  obtain ⟨fd, F⟩ := c.fun_ (i := 29) (x := d_InvalidNodes) rfl
  have F1 : FunD K "__init__" "InvalidNodes.__init__" (defArgs s_InvalidNodes) (defBody s_InvalidNodes) (defScope s_InvalidNodes) [] [] (He.ma K (He.ga K "InvalidNodes") "__init__") fd := F
  refine FnsOk.exc (e := ec[13]) (ps := ["self", "position"]) T L rfl rfl rfl rfl F1 (fnX1 F1 (FnScope.mk rfl rfl rfl (by decide +kernel) rfl (by decide +kernel) (by decide +kernel)) (Or.inl rfl) (Or.inl rfl) (by decide) (by decide) (by decide) (by decide)) ?_
  intro q hq
  simp only [List.mem_cons, List.not_mem_nil, or_false] at hq
  rcases hq with rfl
  · exact ⟨by decide, fun _ _ _ _ _ _ us ws h1 h2 xs h0 => match xs, us, ws, h0, h1, h2 with
      | [x0], [u0], [], _, _, _ => rfl⟩
def e14 : List (Nat × Fn) := (13, mkX 14 [1]) :: e13
theorem x_InvalidLines {w : World} {K : PySem.W.Frag} {mg : Str → Option Value} {base : Heap} (T : Ft ws K) (c : SaysX ws.xb fn K) (L : FnsOk (PySem.Challenge.rw_uplines_k10_errors_and_kinds_of_values).prog w K mg base 2 ws e13) : FnsOk (PySem.Challenge.rw_uplines_k10_errors_and_kinds_of_values).prog w K mg base 2 ws e14 := by
  obtain ⟨fd, F⟩ := c.fun_ (i := 30) (x := d_InvalidLines) rfl
  have F1 : FunD K "__init__" "InvalidLines.__init__" (defArgs s_InvalidLines) (defBody s_InvalidLines) (defScope s_InvalidLines) [] [] (He.ma K (He.ga K "InvalidLines") "__init__") fd := F
  refine FnsOk.exc (e := ec[14]) (ps := ["self", "position"]) T L rfl rfl rfl rfl F1 (fnX1 F1 (FnScope.mk rfl rfl rfl (by decide +kernel) rfl (by decide +kernel) (by decide +kernel)) (Or.inl rfl) (Or.inl rfl) (by decide) (by decide) (by decide) (by decide)) ?_
  intro q hq
  simp only [List.mem_cons, List.not_mem_nil, or_false] at hq
  rcases hq with rfl
  · exact ⟨by decide, fun _ _ _ _ _ _ us ws h1 h2 xs h0 => match xs, us, ws, h0, h1, h2 with
      | [x0], [u0], [], _, _, _ => rfl⟩
def e15 : List (Nat × Fn) := (14, mkX 15 [1]) :: e14
theorem x_InvalidPairs {w : World} {K : PySem.W.Frag} {mg : Str → Option Value} {base : Heap} (T : Ft ws K) (c : SaysX ws.xb fn K) (L : FnsOk (PySem.Challenge.rw_uplines_k10_errors_and_kinds_of_values).prog w K mg base 2 ws e14) : FnsOk (PySem.Challenge.rw_uplines_k10_errors_and_kinds_of_values).prog w K mg base 2 ws e15 := by
  obtain ⟨fd, F⟩ := c.fun_ (i := 31) (x := d_InvalidPairs) rfl
  have F1 : FunD K "__init__" "InvalidPairs.__init__" (defArgs s_InvalidPairs) (defBody s_InvalidPairs) (defScope s_InvalidPairs) [] [] (He.ma K (He.ga K "InvalidPairs") "__init__") fd := F
  refine FnsOk.exc (e := ec[15]) (ps := ["self", "position"]) T L rfl rfl rfl rfl F1 (fnX1 F1 (FnScope.mk rfl rfl rfl (by decide +kernel) rfl (by decide +kernel) (by decide +kernel)) (Or.inl rfl) (Or.inl rfl) (by decide) (by decide) (by decide) (by decide)) ?_
  intro q hq
  simp only [List.mem_cons, List.not_mem_nil, or_false] at hq
  rcases hq with rfl
  · exact ⟨by decide, fun _ _ _ _ _ _ us ws h1 h2 xs h0 => match xs, us, ws, h0, h1, h2 with
      | [x0], [u0], [], _, _, _ => rfl⟩
def e16 : List (Nat × Fn) := (15, mkX 16 [1]) :: e15
theorem x_InvalidWalk {w : World} {K : PySem.W.Frag} {mg : Str → Option Value} {base : Heap} (T : Ft ws K) (c : SaysX ws.xb fn K) (L : FnsOk (PySem.Challenge.rw_uplines_k10_errors_and_kinds_of_values).prog w K mg base 2 ws e15) : FnsOk (PySem.Challenge.rw_uplines_k10_errors_and_kinds_of_values).prog w K mg base 2 ws e16 := by
  obtain ⟨fd, F⟩ := c.fun_ (i := 32) (x := d_InvalidWalk) rfl
  have F1 : FunD K "__init__" "InvalidWalk.__init__" (defArgs s_InvalidWalk) (defBody s_InvalidWalk) (defScope s_InvalidWalk) [] [] (He.ma K (He.ga K "InvalidWalk") "__init__") fd := F
  refine FnsOk.exc (e := ec[16]) (ps := ["self", "position"]) T L rfl rfl rfl rfl F1 (fnX1 F1 (FnScope.mk rfl rfl rfl (by decide +kernel) rfl (by decide +kernel) (by decide +kernel)) (Or.inl rfl) (Or.inl rfl) (by decide) (by decide) (by decide) (by decide)) ?_
  intro q hq
  simp only [List.mem_cons, List.not_mem_nil, or_false] at hq
  rcases hq with rfl | rfl
  · exact ⟨by decide, fun _ _ _ _ _ _ us ws h1 h2 xs h0 => match xs, us, ws, h0, h1, h2 with
      | [x0], [u0], [], _, _, _ => rfl⟩
  · exact ⟨by decide, fun _ _ _ _ _ _ us ws h1 h2 xs h0 => match xs, us, ws, h0, h1, h2 with
      | [x0], [], [w0], _, _, _ => rfl⟩
def e17 : List (Nat × Fn) := (16, mkX 17 [2]) :: e16
theorem x_InvalidText {w : World} {K : PySem.W.Frag} {mg : Str → Option Value} {base : Heap} (T : Ft ws K) (c : SaysX ws.xb fn K) (L : FnsOk (PySem.Challenge.rw_uplines_k10_errors_and_kinds_of_values).prog w K mg base 2 ws e16) : FnsOk (PySem.Challenge.rw_uplines_k10_errors_and_kinds_of_values).prog w K mg base 2 ws e17 := by
  obtain ⟨fd, F⟩ := c.fun_ (i := 33) (x := d_InvalidText) rfl
  have F1 : FunD K "__init__" "InvalidText.__init__" (defArgs s_InvalidText) (defBody s_InvalidText) (defScope s_InvalidText) [] [] (He.ma K (He.ga K "InvalidText") "__init__") fd := F
  refine FnsOk.exc (e := ec[17]) (ps := ["self", "line"]) T L rfl rfl rfl rfl F1 (fnX1 F1 (FnScope.mk rfl rfl rfl (by decide +kernel) rfl (by decide +kernel) (by decide +kernel)) (Or.inl rfl) (Or.inl rfl) (by decide) (by decide) (by decide) (by decide)) ?_
  intro q hq
  simp only [List.mem_cons, List.not_mem_nil, or_false] at hq
  rcases hq with rfl | rfl
  · exact ⟨by decide, fun _ _ _ _ _ _ us ws h1 h2 xs h0 => match xs, us, ws, h0, h1, h2 with
      | [x0], [u0], [], _, _, _ => rfl⟩
  · exact ⟨by decide, fun _ _ _ _ _ _ us ws h1 h2 xs h0 => match xs, us, ws, h0, h1, h2 with
      | [x0], [], [w0], _, _, _ => rfl⟩
def e18 : List (Nat × Fn) := (17, mkX 19 [0]) :: e17
theorem x_UnknownNode {w : World} {K : PySem.W.Frag} {mg : Str → Option Value} {base : Heap} (T : Ft ws K) (c : SaysX ws.xb fn K) (L : FnsOk (PySem.Challenge.rw_uplines_k10_errors_and_kinds_of_values).prog w K mg base 2 ws e17) : FnsOk (PySem.Challenge.rw_uplines_k10_errors_and_kinds_of_values).prog w K mg base 2 ws e18 := by
  obtain ⟨fd, F⟩ := c.fun_ (i := 34) (x := d_UnknownNode) rfl
  have F1 : FunD K "__init__" "UnknownNode.__init__" (defArgs s_UnknownNode) (defBody s_UnknownNode) (defScope s_UnknownNode) [] [] (He.ma K (He.ga K "UnknownNode") "__init__") fd := F
  refine FnsOk.exc (e := ec[19]) (ps := ["self", "value"]) T L rfl rfl rfl rfl F1 (fnX1 F1 (FnScope.mk rfl rfl rfl (by decide +kernel) rfl (by decide +kernel) (by decide +kernel)) (Or.inl rfl) (Or.inl rfl) (by decide) (by decide) (by decide) (by decide)) ?_
  intro q hq
  simp only [List.mem_cons, List.not_mem_nil, or_false] at hq
  rcases hq with rfl | rfl
  · exact ⟨by decide, fun _ _ _ _ _ _ us ws h1 h2 xs h0 => match xs, us, ws, h0, h1, h2 with
      | [x0], [u0], [], _, _, _ => rfl⟩
  · exact ⟨by decide, fun _ _ _ _ _ _ us ws h1 h2 xs h0 => match xs, us, ws, h0, h1, h2 with
      | [x0], [], [w0], _, _, _ => rfl⟩
def e19 : List (Nat × Fn) := (18, mkX 20 [0]) :: e18
theorem x_UnknownLine {w : World} {K : PySem.W.Frag} {mg : Str → Option Value} {base : Heap} (T : Ft ws K) (c : SaysX ws.xb fn K) (L : FnsOk (PySem.Challenge.rw_uplines_k10_errors_and_kinds_of_values).prog w K mg base 2 ws e18) : FnsOk (PySem.Challenge.rw_uplines_k10_errors_and_kinds_of_values).prog w K mg base 2 ws e19 := by
  obtain ⟨fd, F⟩ := c.fun_ (i := 35) (x := d_UnknownLine) rfl
  have F1 : FunD K "__init__" "UnknownLine.__init__" (defArgs s_UnknownLine) (defBody s_UnknownLine) (defScope s_UnknownLine) [] [] (He.ma K (He.ga K "UnknownLine") "__init__") fd := F
  refine FnsOk.exc (e := ec[20]) (ps := ["self", "value"]) T L rfl rfl rfl rfl F1 (fnX1 F1 (FnScope.mk rfl rfl rfl (by decide +kernel) rfl (by decide +kernel) (by decide +kernel)) (Or.inl rfl) (Or.inl rfl) (by decide) (by decide) (by decide) (by decide)) ?_
  intro q hq
  simp only [List.mem_cons, List.not_mem_nil, or_false] at hq
  rcases hq with rfl | rfl
  · exact ⟨by decide, fun _ _ _ _ _ _ us ws h1 h2 xs h0 => match xs, us, ws, h0, h1, h2 with
      | [x0], [u0], [], _, _, _ => rfl⟩
  · exact ⟨by decide, fun _ _ _ _ _ _ us ws h1 h2 xs h0 => match xs, us, ws, h0, h1, h2 with
      | [x0], [], [w0], _, _, _ => rfl⟩
def e20 : List (Nat × Fn) := (19, mkX 22 [0]) :: e19
theorem x_NameTaken {w : World} {K : PySem.W.Frag} {mg : Str → Option Value} {base : Heap} (T : Ft ws K) (c : SaysX ws.xb fn K) (L : FnsOk (PySem.Challenge.rw_uplines_k10_errors_and_kinds_of_values).prog w K mg base 2 ws e19) : FnsOk (PySem.Challenge.rw_uplines_k10_errors_and_kinds_of_values).prog w K mg base 2 ws e20 := by
  obtain ⟨fd, F⟩ := c.fun_ (i := 36) (x := d_NameTaken) rfl
  have F1 : FunD K "__init__" "NameTaken.__init__" (defArgs s_NameTaken) (defBody s_NameTaken) (defScope s_NameTaken) [] [] (He.ma K (He.ga K "NameTaken") "__init__") fd := F
  refine FnsOk.exc (e := ec[22]) (ps := ["self", "value"]) T L rfl rfl rfl rfl F1 (fnX1 F1 (FnScope.mk rfl rfl rfl (by decide +kernel) rfl (by decide +kernel) (by decide +kernel)) (Or.inl rfl) (Or.inl rfl) (by decide) (by decide) (by decide) (by decide)) ?_
  intro q hq
  simp only [List.mem_cons, List.not_mem_nil, or_false] at hq
  rcases hq with rfl | rfl
  · exact ⟨by decide, fun _ _ _ _ _ _ us ws h1 h2 xs h0 => match xs, us, ws, h0, h1, h2 with
      | [x0], [u0], [], _, _, _ => rfl⟩
  · exact ⟨by decide, fun _ _ _ _ _ _ us ws h1 h2 xs h0 => match xs, us, ws, h0, h1, h2 with
      | [x0], [], [w0], _, _, _ => rfl⟩
def e21 : List (Nat × Fn) := (20, mkX 23 []) :: e20
theorem x_NothingClean {w : World} {K : PySem.W.Frag} {mg : Str → Option Value} {base : Heap} (T : Ft ws K) (L : FnsOk (PySem.Challenge.rw_uplines_k10_errors_and_kinds_of_values).prog w K mg base 2 ws e20) : FnsOk (PySem.Challenge.rw_uplines_k10_errors_and_kinds_of_values).prog w K mg base 2 ws e21 := FnsOk.exc0 (e := ec[23]) T L rfl rfl rfl
def e22 : List (Nat × Fn) := (21, mkX 24 [0]) :: e21
theorem x_Refused {w : World} {K : PySem.W.Frag} {mg : Str → Option Value} {base : Heap} (T : Ft ws K) (c : SaysX ws.xb fn K) (L : FnsOk (PySem.Challenge.rw_uplines_k10_errors_and_kinds_of_values).prog w K mg base 2 ws e21) : FnsOk (PySem.Challenge.rw_uplines_k10_errors_and_kinds_of_values).prog w K mg base 2 ws e22 := by
  obtain ⟨fd, F⟩ := c.fun_ (i := 37) (x := d_Refused) rfl
  have F1 : FunD K "__init__" "Refused.__init__" (defArgs s_Refused) (defBody s_Refused) (defScope s_Refused) [] [] (He.ma K (He.ga K "Refused") "__init__") fd := F
  refine FnsOk.exc (e := ec[24]) (ps := ["self", "value"]) T L rfl rfl rfl rfl F1 (fnX1 F1 (FnScope.mk rfl rfl rfl (by decide +kernel) rfl (by decide +kernel) (by decide +kernel)) (Or.inl rfl) (Or.inl rfl) (by decide) (by decide) (by decide) (by decide)) ?_
  intro q hq
  simp only [List.mem_cons, List.not_mem_nil, or_false] at hq
  rcases hq with rfl | rfl
  · exact ⟨by decide, fun _ _ _ _ _ _ us ws h1 h2 xs h0 => match xs, us, ws, h0, h1, h2 with
      | [x0], [u0], [], _, _, _ => rfl⟩
  · exact ⟨by decide, fun _ _ _ _ _ _ us ws h1 h2 xs h0 => match xs, us, ws, h0, h1, h2 with
      | [x0], [], [w0], _, _, _ => rfl⟩
def e23 : List (Nat × Fn) := (22, mkX 25 [3, 4]) :: e22
theorem x_OtherSheets {w : World} {K : PySem.W.Frag} {mg : Str → Option Value} {base : Heap} (T : Ft ws K) (c : SaysX ws.xb fn K) (L : FnsOk (PySem.Challenge.rw_uplines_k10_errors_and_kinds_of_values).prog w K mg base 2 ws e22) : FnsOk (PySem.Challenge.rw_uplines_k10_errors_and_kinds_of_values).prog w K mg base 2 ws e23 := by
  obtain ⟨fd, F⟩ := c.fun_ (i := 38) (x := d_OtherSheets) rfl
  have F1 : FunD K "__init__" "OtherSheets.__init__" (defArgs s_OtherSheets) (defBody s_OtherSheets) (defScope s_OtherSheets) [] [] (He.ma K (He.ga K "OtherSheets") "__init__") fd := F
  refine FnsOk.exc (e := ec[25]) (ps := ["self", "one", "other"]) T L rfl rfl rfl rfl F1 (fnX2 F1 (FnScope.mk rfl rfl rfl (by decide +kernel) rfl (by decide +kernel) (by decide +kernel)) (Or.inl rfl) (Or.inl rfl) (Or.inl rfl) (by decide) (by decide) (by decide) (by decide) (by decide) (by decide)) ?_
  intro q hq
  simp only [List.mem_cons, List.not_mem_nil, or_false] at hq
  rcases hq with rfl | rfl
  · exact ⟨by decide, fun _ _ _ _ _ _ us ws h1 h2 xs h0 => match xs, us, ws, h0, h1, h2 with
      | [x0], [u0, u1], [], _, _, _ => rfl⟩
  · exact ⟨by decide, fun _ _ _ _ _ _ us ws h1 h2 xs h0 => match xs, us, ws, h0, h1, h2 with
      | [x0], [], [w0, w1], _, _, _ => rfl⟩
def e24 : List (Nat × Fn) := (23, mkX 26 [3, 4]) :: e23
theorem x_OtherLevels {w : World} {K : PySem.W.Frag} {mg : Str → Option Value} {base : Heap} (T : Ft ws K) (c : SaysX ws.xb fn K) (L : FnsOk (PySem.Challenge.rw_uplines_k10_errors_and_kinds_of_values).prog w K mg base 2 ws e23) : FnsOk (PySem.Challenge.rw_uplines_k10_errors_and_kinds_of_values).prog w K mg base 2 ws e24 := by
  obtain ⟨fd, F⟩ := c.fun_ (i := 39) (x := d_OtherLevels) rfl
  have F1 : FunD K "__init__" "OtherLevels.__init__" (defArgs s_OtherLevels) (defBody s_OtherLevels) (defScope s_OtherLevels) [] [] (He.ma K (He.ga K "OtherLevels") "__init__") fd := F
  refine FnsOk.exc (e := ec[26]) (ps := ["self", "one", "other"]) T L rfl rfl rfl rfl F1 (fnX2 F1 (FnScope.mk rfl rfl rfl (by decide +kernel) rfl (by decide +kernel) (by decide +kernel)) (Or.inl rfl) (Or.inl rfl) (Or.inl rfl) (by decide) (by decide) (by decide) (by decide) (by decide) (by decide)) ?_
  intro q hq
  simp only [List.mem_cons, List.not_mem_nil, or_false] at hq
  rcases hq with rfl
  · exact ⟨by decide, fun _ _ _ _ _ _ us ws h1 h2 xs h0 => match xs, us, ws, h0, h1, h2 with
      | [x0], [u0, u1], [], _, _, _ => rfl⟩
def e25 : List (Nat × Fn) := (24, mkX 27 []) :: e24
theorem x_NotTrue {w : World} {K : PySem.W.Frag} {mg : Str → Option Value} {base : Heap} (T : Ft ws K) (L : FnsOk (PySem.Challenge.rw_uplines_k10_errors_and_kinds_of_values).prog w K mg base 2 ws e24) : FnsOk (PySem.Challenge.rw_uplines_k10_errors_and_kinds_of_values).prog w K mg base 2 ws e25 := FnsOk.exc0 (e := ec[27]) T L rfl rfl rfl
def e26 : List (Nat × Fn) := (25, mkX 28 []) :: e25
theorem x_NothingToUndo {w : World} {K : PySem.W.Frag} {mg : Str → Option Value} {base : Heap} (T : Ft ws K) (L : FnsOk (PySem.Challenge.rw_uplines_k10_errors_and_kinds_of_values).prog w K mg base 2 ws e25) : FnsOk (PySem.Challenge.rw_uplines_k10_errors_and_kinds_of_values).prog w K mg base 2 ws e26 := FnsOk.exc0 (e := ec[28]) T L rfl rfl rfl
def e27 : List (Nat × Fn) := (26, mkX 29 [1]) :: e26
theorem x_CommandFailed {w : World} {K : PySem.W.Frag} {mg : Str → Option Value} {base : Heap} (T : Ft ws K) (c : SaysX ws.xb fn K) (L : FnsOk (PySem.Challenge.rw_uplines_k10_errors_and_kinds_of_values).prog w K mg base 2 ws e26) : FnsOk (PySem.Challenge.rw_uplines_k10_errors_and_kinds_of_values).prog w K mg base 2 ws e27 := by
  obtain ⟨fd, F⟩ := c.fun_ (i := 40) (x := d_CommandFailed) rfl
  have F1 : FunD K "__init__" "CommandFailed.__init__" (defArgs s_CommandFailed) (defBody s_CommandFailed) (defScope s_CommandFailed) [] [] (He.ma K (He.ga K "CommandFailed") "__init__") fd := F
  refine FnsOk.exc (e := ec[29]) (ps := ["self", "position"]) T L rfl rfl rfl rfl F1 (fnX1 F1 (FnScope.mk rfl rfl rfl (by decide +kernel) rfl (by decide +kernel) (by decide +kernel)) (Or.inl rfl) (Or.inl rfl) (by decide) (by decide) (by decide) (by decide)) ?_
  intro q hq
  simp only [List.mem_cons, List.not_mem_nil, or_false] at hq
  rcases hq with rfl | rfl
  · exact ⟨by decide, fun _ _ _ _ _ _ us ws h1 h2 xs h0 => match xs, us, ws, h0, h1, h2 with
      | [x0], [u0], [], _, _, _ => rfl⟩
  · exact ⟨by decide, fun _ _ _ _ _ _ us ws h1 h2 xs h0 => match xs, us, ws, h0, h1, h2 with
      | [x0], [], [w0], _, _, _ => rfl⟩
def e28 : List (Nat × Fn) := (27, mkX 31 [5, 6]) :: e27
theorem x_TooMany {w : World} {K : PySem.W.Frag} {mg : Str → Option Value} {base : Heap} (T : Ft ws K) (c : SaysX ws.xb fn K) (L : FnsOk (PySem.Challenge.rw_uplines_k10_errors_and_kinds_of_values).prog w K mg base 2 ws e27) : FnsOk (PySem.Challenge.rw_uplines_k10_errors_and_kinds_of_values).prog w K mg base 2 ws e28 := by
  obtain ⟨fd, F⟩ := c.fun_ (i := 41) (x := d_TooMany) rfl
  have F1 : FunD K "__init__" "TooMany.__init__" (defArgs s_TooMany) (defBody s_TooMany) (defScope s_TooMany) [] [] (He.ma K (He.ga K "TooMany") "__init__") fd := F
  refine FnsOk.exc (e := ec[31]) (ps := ["self", "what", "limit"]) T L rfl rfl rfl rfl F1 (fnX2 F1 (FnScope.mk rfl rfl rfl (by decide +kernel) rfl (by decide +kernel) (by decide +kernel)) (Or.inl rfl) (Or.inl rfl) (Or.inl rfl) (by decide) (by decide) (by decide) (by decide) (by decide) (by decide)) ?_
  intro q hq
  simp only [List.mem_cons, List.not_mem_nil, or_false] at hq
  rcases hq with rfl | rfl
  · exact ⟨by decide, fun _ _ _ _ _ _ us ws h1 h2 xs h0 => match xs, us, ws, h0, h1, h2 with
      | [x0], [u0, u1], [], _, _, _ => rfl⟩
  · exact ⟨by decide, fun _ _ _ _ _ _ us ws h1 h2 xs h0 => match xs, us, ws, h0, h1, h2 with
      | [x0], [], [w0, w1], _, _, _ => rfl⟩
def t_is_integer : T := (.ret (.and (.isi (.var 0) [.int]) (.not (.isi (.var 0) [.bool]))))
def F_is_integer : Fn := run (ws.gm e28) 1 1 t_is_integer .d
def g_is_integer : List (Nat × Fn) := (28, F_is_integer) :: e28
theorem k_is_integer {w : World} {K : PySem.W.Frag} {mg : Str → Option Value} {base h : Heap} (T : Ft ws K) (X : K.In h) (G : h.Ns mainGlobals mg) (c : SaysX ws.xb fn K) (L : FnsOk (PySem.Challenge.rw_uplines_k10_errors_and_kinds_of_values).prog w K mg base 2 ws e28) : FnsOk (PySem.Challenge.rw_uplines_k10_errors_and_kinds_of_values).prog w K mg base 3 ws g_is_integer := by
  obtain ⟨fd, F⟩ := c.fun_ (i := 2) (x := d_is_integer) rfl
  have F1 : FunD K "is_integer" "is_integer" (defArgs s_is_integer) (defBody s_is_integer) (defScope s_is_integer) [] [] (He.ga K "is_integer") fd := F
  refine FnsOk.step (tx := t_is_integer) (rk := .d) (N := ["value"]) (ps := ["value"]) T ws_ok X G L F1 (FnScope.mk rfl rfl rfl (by decide +kernel) rfl (by decide +kernel) (by decide +kernel)) (by kernel_rfl) rfl ?_
  intro q hq
  simp only [List.mem_cons, List.not_mem_nil, or_false] at hq
  rcases hq with rfl | rfl
  · exact fun _ _ _ _ _ _ us ws h1 h2 xs h0 => match xs, us, ws, h0, h1, h2 with
      | [], [u0], [], _, _, _ => rfl
  · exact fun _ _ _ _ _ _ us ws h1 h2 xs h0 => match xs, us, ws, h0, h1, h2 with
      | [], [], [w0], _, _, _ => rfl
def t_is_count : T := (.ret (.and (.call 28 (.cons (.var 0) .nil) [] .nil) (.cmp .GtE (.var 0) (.cst (.int 0)))))
def F_is_count : Fn := run (ws.gm g_is_integer) 1 1 t_is_count .d
def g_is_count : List (Nat × Fn) := (29, F_is_count) :: g_is_integer
theorem k_is_count {w : World} {K : PySem.W.Frag} {mg : Str → Option Value} {base h : Heap} (T : Ft ws K) (X : K.In h) (G : h.Ns mainGlobals mg) (c : SaysX ws.xb fn K) (L : FnsOk (PySem.Challenge.rw_uplines_k10_errors_and_kinds_of_values).prog w K mg base 3 ws g_is_integer) : FnsOk (PySem.Challenge.rw_uplines_k10_errors_and_kinds_of_values).prog w K mg base 4 ws g_is_count := by
  obtain ⟨fd, F⟩ := c.fun_ (i := 3) (x := d_is_count) rfl
  have F1 : FunD K "is_count" "is_count" (defArgs s_is_count) (defBody s_is_count) (defScope s_is_count) [] [] (He.ga K "is_count") fd := F
  refine FnsOk.step (tx := t_is_count) (rk := .d) (N := ["value"]) (ps := ["value"]) T ws_ok X G L F1 (FnScope.mk rfl rfl rfl (by decide +kernel) rfl (by decide +kernel) (by decide +kernel)) (by kernel_rfl) rfl ?_
  intro q hq
  simp only [List.mem_cons, List.not_mem_nil, or_false] at hq
  rcases hq with rfl | rfl
  · exact fun _ _ _ _ _ _ us ws h1 h2 xs h0 => match xs, us, ws, h0, h1, h2 with
      | [], [u0], [], _, _, _ => rfl
  · exact fun _ _ _ _ _ _ us ws h1 h2 xs h0 => match xs, us, ws, h0, h1, h2 with
      | [], [], [w0], _, _, _ => rfl
def t_is_name : T := (.seq (.iff (.or (.not (.isi (.var 0) [.str])) (.not (.chn .LtE .LtE (.cst (.int 1)) (.blt .len (.cons (.var 0) .nil)) (.glo 2 (.int 6))))) (.ret (.cst (.bl false))) .skip) (.ret (.blt .all (.cons (.lc (.nm 1) (.seq (.var 0)) (.cst (.bl true)) (.cmp .In (.var 1) (.bin .Add (.glo 0 (.str "abcdefghijklmnopqrstuvwxyz")) (.glo 1 (.str "0123456789")))) [1]) .nil))))
def F_is_name : Fn := run (ws.gm g_is_count) 1 2 t_is_name .d
def g_is_name : List (Nat × Fn) := (30, F_is_name) :: g_is_count
theorem k_is_name {w : World} {K : PySem.W.Frag} {mg : Str → Option Value} {base h : Heap} (T : Ft ws K) (X : K.In h) (G : h.Ns mainGlobals mg) (c : SaysX ws.xb fn K) (L : FnsOk (PySem.Challenge.rw_uplines_k10_errors_and_kinds_of_values).prog w K mg base 4 ws g_is_count) : FnsOk (PySem.Challenge.rw_uplines_k10_errors_and_kinds_of_values).prog w K mg base 5 ws g_is_name := by
  obtain ⟨fd, F⟩ := c.fun_ (i := 4) (x := d_is_name) rfl
  have F1 : FunD K "is_name" "is_name" (defArgs s_is_name) (defBody s_is_name) (defScope s_is_name) [] [] (He.ga K "is_name") fd := F
  refine FnsOk.step (tx := t_is_name) (rk := .d) (N := ["value", "sign"]) (ps := ["value"]) T ws_ok X G L F1 (FnScope.mk rfl rfl rfl (by decide +kernel) rfl (by decide +kernel) (by decide +kernel)) (by kernel_rfl) rfl ?_
  intro q hq
  simp only [List.mem_cons, List.not_mem_nil, or_false] at hq
  rcases hq with rfl | rfl
  · exact fun _ _ _ _ _ _ us ws h1 h2 xs h0 => match xs, us, ws, h0, h1, h2 with
      | [], [u0], [], _, _, _ => rfl
  · exact fun _ _ _ _ _ _ us ws h1 h2 xs h0 => match xs, us, ws, h0, h1, h2 with
      | [], [], [w0], _, _, _ => rfl
def t__law_draw : T := (.seq (.iff (.cmp .Gt (.idx (.var 0) (.cst (.int 0))) (.cst (.int 0))) (.seq (.subn (.var 0) (.cst (.int 0)) 2 (.blt .divmod (.cons (.idx (.var 0) (.cst (.int 0))) (.cons (.var 1) .nil)))) (.ret (.var 2))) .skip) (.seq (.sub (.var 0) (.cst (.int 1)) (.bin .Mod (.blt .int (.cons (.bin .Add (.bin .Mult (.idx (.var 0) (.cst (.int 1))) (.cst (.int 40009))) (.cst (.int 15013))) .nil)) (.cst (.int 2147483629)))) (.ret (.bin .Mod (.blt .int (.cons (.bin .FloorDiv (.bin .Mod (.blt .int (.cons (.bin .Mult (.idx (.var 0) (.cst (.int 1))) (.idx (.var 0) (.cst (.int 1)))) .nil)) (.cst (.int 2147483563))) (.cst (.int 19))) .nil)) (.var 1)))))
def F__law_draw : Fn := run (ws.gm g_is_name) 2 3 t__law_draw .d
def g__law_draw : List (Nat × Fn) := (31, F__law_draw) :: g_is_name
theorem k__law_draw {w : World} {K : PySem.W.Frag} {mg : Str → Option Value} {base h : Heap} (T : Ft ws K) (X : K.In h) (G : h.Ns mainGlobals mg) (c : SaysX ws.xb fn K) (L : FnsOk (PySem.Challenge.rw_uplines_k10_errors_and_kinds_of_values).prog w K mg base 5 ws g_is_name) : FnsOk (PySem.Challenge.rw_uplines_k10_errors_and_kinds_of_values).prog w K mg base 6 ws g__law_draw := by
  obtain ⟨fd, F⟩ := c.fun_ (i := 5) (x := d__law_draw) rfl
  have F1 : FunD K "_law_draw" "_law_draw" (defArgs s__law_draw) (defBody s__law_draw) (defScope s__law_draw) [] [] (He.ga K "_law_draw") fd := F
  refine FnsOk.step (tx := t__law_draw) (rk := .d) (N := ["_law_pot_here", "_law_many", "_law_digit"]) (ps := ["_law_pot_here", "_law_many"]) T ws_ok X G L F1 (FnScope.mk rfl rfl rfl (by decide +kernel) rfl (by decide +kernel) (by decide +kernel)) (by kernel_rfl) rfl ?_
  intro q hq
  simp only [List.mem_cons, List.not_mem_nil, or_false] at hq
  rcases hq with rfl
  · exact fun _ _ _ _ _ _ us ws h1 h2 xs h0 => match xs, us, ws, h0, h1, h2 with
      | [], [u0, u1], [], _, _, _ => rfl
def t__law_pick : T := (.ret (.idx (.var 1) (.call 31 (.cons (.var 0) (.cons (.blt .len (.cons (.var 1) .nil)) .nil)) [] .nil)))
def F__law_pick : Fn := run (ws.gm g__law_draw) 2 2 t__law_pick .d
def g__law_pick : List (Nat × Fn) := (32, F__law_pick) :: g__law_draw
theorem k__law_pick {w : World} {K : PySem.W.Frag} {mg : Str → Option Value} {base h : Heap} (T : Ft ws K) (X : K.In h) (G : h.Ns mainGlobals mg) (c : SaysX ws.xb fn K) (L : FnsOk (PySem.Challenge.rw_uplines_k10_errors_and_kinds_of_values).prog w K mg base 6 ws g__law_draw) : FnsOk (PySem.Challenge.rw_uplines_k10_errors_and_kinds_of_values).prog w K mg base 7 ws g__law_pick := by
  obtain ⟨fd, F⟩ := c.fun_ (i := 6) (x := d__law_pick) rfl
  have F1 : FunD K "_law_pick" "_law_pick" (defArgs s__law_pick) (defBody s__law_pick) (defScope s__law_pick) [] [] (He.ga K "_law_pick") fd := F
  refine FnsOk.step (tx := t__law_pick) (rk := .d) (N := ["_law_pot_here", "_law_some_here"]) (ps := ["_law_pot_here", "_law_some_here"]) T ws_ok X G L F1 (FnScope.mk rfl rfl rfl (by decide +kernel) rfl (by decide +kernel) (by decide +kernel)) (by kernel_rfl) rfl ?_
  intro q hq
  simp only [List.mem_cons, List.not_mem_nil, or_false] at hq
  rcases hq with rfl
  · exact fun _ _ _ _ _ _ us ws h1 h2 xs h0 => match xs, us, ws, h0, h1, h2 with
      | [], [u0, u1], [], _, _, _ => rfl
def t__law_values : T := (.seq (.set 1 (.bin .Sub (.call 31 (.cons (.var 0) (.cons (.bin .Pow (.cst (.int 10)) (.cst (.int 9))) .nil)) [] .nil) (.bin .Mult (.cst (.int 5)) (.bin .Pow (.cst (.int 10)) (.cst (.int 8)))))) (.seq (.set 2 (.lst (.cons (.cst .non) (.cons (.cst (.bl true)) (.cons (.cst (.bl false)) (.cons (.cst (.int 0)) (.cons (.cst (.int 1)) (.cons (.neg (.cst (.int 1))) (.cons (.var 1) (.cons (.bin .Pow (.cst (.int 10)) (.cst (.int 29))) (.cons (.neg (.bin .Pow (.cst (.int 10)) (.cst (.int 29)))) (.cons (.cst (.str "")) (.cons (.cst (.str "a")) (.cons (.cst (.str "A")) (.cons (.cst (.str "z9")) (.cons (.cst (.str "0")) (.cons (.cst (.str "999999")) (.cons (.cst (.str "1000000")) .nil)))))))))))))))))) (.seq (.set 2 (.bin .Add (.var 2) (.lst (.cons (.cst (.str "abcdef")) (.cons (.cst (.str "abcdefg")) (.cons (.cst (.str "a b")) (.cons (.cst (.str " a")) (.cons (.cst (.str "a_")) (.cons (.cst (.str "a-b")) (.cons (.lst .nil) (.cons (.lst (.cons (.cst (.str "a")) .nil)) (.cons (.tup .nil) (.cons (.tup (.cons (.cst (.str "a")) (.cons (.cst (.str "b")) .nil))) (.cons (.dic .nil .nil) (.cons (.dic (.cons (.cst (.str "a")) .nil) (.cons (.cst (.int 1)) .nil)) (.cons (.lst (.cons (.cst .non) .nil)) (.cons (.cst (.str "ab\n")) (.cons (.cst (.str "\nab")) .nil)))))))))))))))))) (.ret (.bin .Add (.var 2) (.lst (.cons (.call 32 (.cons (.var 0) (.cons (.lst (.cons (.cst (.str "ab")) (.cons (.cst (.str "12")) (.cons (.cst (.str "x1y2z3")) (.cons (.cst (.str "aB")) (.cons (.cst (.str "a.")) (.cons (.cst (.str "ab\n")) (.cons (.cst (.str "levels")) (.cons (.cst (.str "line")) .nil))))))))) .nil)) [] .nil) .nil)))))))
def F__law_values : Fn := run (ws.gm g__law_pick) 1 3 t__law_values .d
def g__law_values : List (Nat × Fn) := (33, F__law_values) :: g__law_pick
theorem k__law_values {w : World} {K : PySem.W.Frag} {mg : Str → Option Value} {base h : Heap} (T : Ft ws K) (X : K.In h) (G : h.Ns mainGlobals mg) (c : SaysX ws.xb fn K) (L : FnsOk (PySem.Challenge.rw_uplines_k10_errors_and_kinds_of_values).prog w K mg base 7 ws g__law_pick) : FnsOk (PySem.Challenge.rw_uplines_k10_errors_and_kinds_of_values).prog w K mg base 8 ws g__law_values := by
  obtain ⟨fd, F⟩ := c.fun_ (i := 7) (x := d__law_values) rfl
  have F1 : FunD K "_law_values" "_law_values" (defArgs s__law_values) (defBody s__law_values) (defScope s__law_values) [] [] (He.ga K "_law_values") fd := F
  refine FnsOk.step (tx := t__law_values) (rk := .d) (N := ["_law_pot_here", "_law_far", "_law_found"]) (ps := ["_law_pot_here"]) T ws_ok X G L F1 (FnScope.mk rfl rfl rfl (by decide +kernel) rfl (by decide +kernel) (by decide +kernel)) (by kernel_rfl) rfl ?_
  intro q hq
  simp only [List.mem_cons, List.not_mem_nil, or_false] at hq
  rcases hq with rfl
  · exact fun _ _ _ _ _ _ us ws h1 h2 xs h0 => match xs, us, ws, h0, h1, h2 with
      | [], [u0], [], _, _, _ => rfl
def t__law_is_name : T := (.seq (.iff (.or (.not (.isi (.var 0) [.str])) (.or (.cmp .Eq (.var 0) (.cst (.str ""))) (.cmp .Gt (.blt .len (.cons (.var 0) .nil)) (.cst (.int 6))))) (.ret (.cst (.bl false))) .skip) (.seq (.set 1 (.cst (.str "abcdefghijklmnopqrstuvwxyz0123456789"))) (.ret (.blt .all (.cons (.lc (.nm 2) (.seq (.var 0)) (.cst (.bl true)) (.cmp .In (.var 2) (.var 1)) [2]) .nil)))))
def F__law_is_name : Fn := run (ws.gm g__law_values) 1 3 t__law_is_name .d
def g__law_is_name : List (Nat × Fn) := (34, F__law_is_name) :: g__law_values
theorem k__law_is_name {w : World} {K : PySem.W.Frag} {mg : Str → Option Value} {base h : Heap} (T : Ft ws K) (X : K.In h) (G : h.Ns mainGlobals mg) (c : SaysX ws.xb fn K) (L : FnsOk (PySem.Challenge.rw_uplines_k10_errors_and_kinds_of_values).prog w K mg base 8 ws g__law_values) : FnsOk (PySem.Challenge.rw_uplines_k10_errors_and_kinds_of_values).prog w K mg base 9 ws g__law_is_name := by
  obtain ⟨fd, F⟩ := c.fun_ (i := 8) (x := d__law_is_name) rfl
  have F1 : FunD K "_law_is_name" "_law_is_name" (defArgs s__law_is_name) (defBody s__law_is_name) (defScope s__law_is_name) [] [] (He.ga K "_law_is_name") fd := F
  refine FnsOk.step (tx := t__law_is_name) (rk := .d) (N := ["_law_value_there", "_law_signs", "_law_sign"]) (ps := ["_law_value_there"]) T ws_ok X G L F1 (FnScope.mk rfl rfl rfl (by decide +kernel) rfl (by decide +kernel) (by decide +kernel)) (by kernel_rfl) rfl ?_
  intro q hq
  simp only [List.mem_cons, List.not_mem_nil, or_false] at hq
  rcases hq with rfl
  · exact fun _ _ _ _ _ _ us ws h1 h2 xs h0 => match xs, us, ws, h0, h1, h2 with
      | [], [u0], [], _, _, _ => rfl
def t__law_kinds_right : T := (.seq (.for_ (.nm 1) (.seq (.var 0)) (.seq (.set 2 (.and (.isi (.var 1) [.int]) (.not (.isi (.var 1) [.bool])))) (.seq (.set 3 (.lst (.cons (.var 2) (.cons (.and (.var 2) (.cmp .GtE (.var 1) (.cst (.int 0)))) (.cons (.call 34 (.cons (.var 1) .nil) [] .nil) .nil))))) (.seq (.set 4 (.lst (.cons (.call 28 (.cons (.var 1) .nil) [] .nil) (.cons (.call 29 (.cons (.var 1) .nil) [] .nil) (.cons (.call 30 (.cons (.var 1) .nil) [] .nil) .nil))))) (.seq (.set 5 (.lst (.cons (.call 28 .nil [0] (.cons (.var 1) .nil)) (.cons (.call 29 .nil [0] (.cons (.var 1) .nil)) (.cons (.call 30 .nil [0] (.cons (.var 1) .nil)) .nil))))) (.iff (.cmp .NotEq (.blt .repr (.cons (.lst (.cons (.var 4) (.cons (.var 5) .nil))) .nil)) (.blt .repr (.cons (.lst (.cons (.var 3) (.cons (.var 3) .nil))) .nil))) (.ret (.cst (.bl false))) .skip)))))) (.ret (.cst (.bl true))))
def F__law_kinds_right : Fn := run (ws.gm g__law_is_name) 1 6 t__law_kinds_right .d
def g__law_kinds_right : List (Nat × Fn) := (35, F__law_kinds_right) :: g__law_is_name
theorem k__law_kinds_right {w : World} {K : PySem.W.Frag} {mg : Str → Option Value} {base h : Heap} (T : Ft ws K) (X : K.In h) (G : h.Ns mainGlobals mg) (c : SaysX ws.xb fn K) (L : FnsOk (PySem.Challenge.rw_uplines_k10_errors_and_kinds_of_values).prog w K mg base 9 ws g__law_is_name) : FnsOk (PySem.Challenge.rw_uplines_k10_errors_and_kinds_of_values).prog w K mg base 10 ws g__law_kinds_right := by
  obtain ⟨fd, F⟩ := c.fun_ (i := 9) (x := d__law_kinds_right) rfl
  have F1 : FunD K "_law_kinds_right" "_law_kinds_right" (defArgs s__law_kinds_right) (defBody s__law_kinds_right) (defScope s__law_kinds_right) [] [] (He.ga K "_law_kinds_right") fd := F
  refine FnsOk.step (tx := t__law_kinds_right) (rk := .d) (N := ["_law_some_here", "_law_one", "_law_whole", "_law_due", "_law_told", "_law_named"]) (ps := ["_law_some_here"]) T ws_ok X G L F1 (FnScope.mk rfl rfl rfl (by decide +kernel) rfl (by decide +kernel) (by decide +kernel)) (by kernel_rfl) rfl ?_
  intro q hq
  simp only [List.mem_cons, List.not_mem_nil, or_false] at hq
  rcases hq with rfl
  · exact fun _ _ _ _ _ _ us ws h1 h2 xs h0 => match xs, us, ws, h0, h1, h2 with
      | [], [u0], [], _, _, _ => rfl
def t__law_is_of : T := (.seq (.set 2 (.lst (.cons (.isi (.var 0) [.own 0]) (.cons (.isi (.var 0) [.own 18]) (.cons (.isi (.var 0) [.own 21]) (.cons (.isi (.var 0) [.own 30]) .nil)))))) (.seq (.set 3 (.lst (.cons (.isi (.var 0) [.bex "ValueError"]) (.cons (.isi (.var 0) [.bex "LookupError"]) (.cons (.isi (.var 0) [.bex "RuntimeError"]) .nil))))) (.ret (.and (.cmp .Eq (.var 2) (.var 1)) (.cmp .Eq (.bin .Add (.var 3) (.lst (.cons (.isi (.var 0) [.bex "ArithmeticError"]) .nil))) (.var 1))))))
def F__law_is_of : Fn := run (ws.gm g__law_kinds_right) 2 4 t__law_is_of .d
def g__law_is_of : List (Nat × Fn) := (36, F__law_is_of) :: g__law_kinds_right
theorem k__law_is_of {w : World} {K : PySem.W.Frag} {mg : Str → Option Value} {base h : Heap} (T : Ft ws K) (X : K.In h) (G : h.Ns mainGlobals mg) (c : SaysX ws.xb fn K) (L : FnsOk (PySem.Challenge.rw_uplines_k10_errors_and_kinds_of_values).prog w K mg base 10 ws g__law_kinds_right) : FnsOk (PySem.Challenge.rw_uplines_k10_errors_and_kinds_of_values).prog w K mg base 11 ws g__law_is_of := by
  obtain ⟨fd, F⟩ := c.fun_ (i := 10) (x := d__law_is_of) rfl
  have F1 : FunD K "_law_is_of" "_law_is_of" (defArgs s__law_is_of) (defBody s__law_is_of) (defScope s__law_is_of) [] [] (He.ga K "_law_is_of") fd := F
  refine FnsOk.step (tx := t__law_is_of) (rk := .d) (N := ["_law_e", "_law_kinds", "_law_told", "_law_bases"]) (ps := ["_law_e", "_law_kinds"]) T ws_ok X G L F1 (FnScope.mk rfl rfl rfl (by decide +kernel) rfl (by decide +kernel) (by decide +kernel)) (by kernel_rfl) rfl ?_
  intro q hq
  simp only [List.mem_cons, List.not_mem_nil, or_false] at hq
  rcases hq with rfl
  · exact fun _ _ _ _ _ _ us ws h1 h2 xs h0 => match xs, us, ws, h0, h1, h2 with
      | [], [u0, u1], [], _, _, _ => rfl
def t__law_valued_right : T := (.seq (.set 1 (.lst (.cons (.call 0 (.cons (.var 0) .nil) [] .nil) (.cons (.call 1 (.cons (.var 0) .nil) [] .nil) (.cons (.call 2 (.cons (.var 0) .nil) [] .nil) (.cons (.call 3 (.cons (.var 0) .nil) [] .nil) (.cons (.call 4 (.cons (.var 0) .nil) [] .nil) .nil))))))) (.seq (.set 1 (.bin .Add (.var 1) (.lst (.cons (.call 5 (.cons (.var 0) .nil) [] .nil) (.cons (.call 6 (.cons (.var 0) .nil) [] .nil) (.cons (.call 7 (.cons (.var 0) .nil) [] .nil) (.cons (.call 8 (.cons (.var 0) .nil) [] .nil) (.cons (.call 9 (.cons (.var 0) .nil) [] .nil) .nil)))))))) (.seq (.set 1 (.bin .Add (.var 1) (.lst (.cons (.call 10 (.cons (.var 0) .nil) [] .nil) (.cons (.call 0 .nil [0] (.cons (.var 0) .nil)) (.cons (.call 8 .nil [0] (.cons (.var 0) .nil)) (.cons (.call 10 .nil [0] (.cons (.var 0) .nil)) .nil))))))) (.seq (.for_ (.nm 2) (.seq (.var 1)) (.iff (.or (.cmp .NotEq (.blt .repr (.cons (.fld (.var 2) 0) .nil)) (.blt .repr (.cons (.var 0) .nil))) (.not (.call 36 (.cons (.var 2) (.cons (.lst (.cons (.cst (.bl true)) (.cons (.cst (.bl false)) (.cons (.cst (.bl false)) (.cons (.cst (.bl false)) .nil))))) .nil)) [] .nil))) (.ret (.cst (.bl false))) .skip)) (.seq (.for_ (.nm 2) (.seq (.lst (.cons (.call 17 (.cons (.var 0) .nil) [] .nil) (.cons (.call 18 (.cons (.var 0) .nil) [] .nil) (.cons (.call 17 .nil [0] (.cons (.var 0) .nil)) (.cons (.call 18 .nil [0] (.cons (.var 0) .nil)) .nil)))))) (.iff (.or (.cmp .NotEq (.blt .repr (.cons (.fld (.var 2) 0) .nil)) (.blt .repr (.cons (.var 0) .nil))) (.not (.call 36 (.cons (.var 2) (.cons (.lst (.cons (.cst (.bl false)) (.cons (.cst (.bl true)) (.cons (.cst (.bl false)) (.cons (.cst (.bl false)) .nil))))) .nil)) [] .nil))) (.ret (.cst (.bl false))) .skip)) (.seq (.for_ (.nm 2) (.seq (.lst (.cons (.call 19 (.cons (.var 0) .nil) [] .nil) (.cons (.call 21 (.cons (.var 0) .nil) [] .nil) (.cons (.call 19 .nil [0] (.cons (.var 0) .nil)) (.cons (.call 21 .nil [0] (.cons (.var 0) .nil)) .nil)))))) (.iff (.or (.cmp .NotEq (.blt .repr (.cons (.fld (.var 2) 0) .nil)) (.blt .repr (.cons (.var 0) .nil))) (.not (.call 36 (.cons (.var 2) (.cons (.lst (.cons (.cst (.bl false)) (.cons (.cst (.bl false)) (.cons (.cst (.bl true)) (.cons (.cst (.bl false)) .nil))))) .nil)) [] .nil))) (.ret (.cst (.bl false))) .skip)) (.ret (.cst (.bl true)))))))))
def F__law_valued_right : Fn := run (ws.gm g__law_is_of) 1 3 t__law_valued_right .d
def g__law_valued_right : List (Nat × Fn) := (37, F__law_valued_right) :: g__law_is_of
theorem k__law_valued_right {w : World} {K : PySem.W.Frag} {mg : Str → Option Value} {base h : Heap} (T : Ft ws K) (X : K.In h) (G : h.Ns mainGlobals mg) (c : SaysX ws.xb fn K) (L : FnsOk (PySem.Challenge.rw_uplines_k10_errors_and_kinds_of_values).prog w K mg base 11 ws g__law_is_of) : FnsOk (PySem.Challenge.rw_uplines_k10_errors_and_kinds_of_values).prog w K mg base 12 ws g__law_valued_right := by
  obtain ⟨fd, F⟩ := c.fun_ (i := 11) (x := d__law_valued_right) rfl
  have F1 : FunD K "_law_valued_right" "_law_valued_right" (defArgs s__law_valued_right) (defBody s__law_valued_right) (defScope s__law_valued_right) [] [] (He.ga K "_law_valued_right") fd := F
  refine FnsOk.step (tx := t__law_valued_right) (rk := .d) (N := ["_law_one", "_law_some_here", "_law_e"]) (ps := ["_law_one"]) T ws_ok X G L F1 (FnScope.mk rfl rfl rfl (by decide +kernel) rfl (by decide +kernel) (by decide +kernel)) (by kernel_rfl) rfl ?_
  intro q hq
  simp only [List.mem_cons, List.not_mem_nil, or_false] at hq
  rcases hq with rfl
  · exact fun _ _ _ _ _ _ us ws h1 h2 xs h0 => match xs, us, ws, h0, h1, h2 with
      | [], [u0], [], _, _, _ => rfl
def t__law_placed_right : T := (.seq (.set 1 (.lst (.cons (.call 11 (.cons (.var 0) .nil) [] .nil) (.cons (.call 12 (.cons (.var 0) .nil) [] .nil) (.cons (.call 13 (.cons (.var 0) .nil) [] .nil) (.cons (.call 14 (.cons (.var 0) .nil) [] .nil) (.cons (.call 15 (.cons (.var 0) .nil) [] .nil) .nil))))))) (.seq (.set 1 (.bin .Add (.var 1) (.lst (.cons (.call 11 .nil [0] (.cons (.var 0) .nil)) (.cons (.call 15 .nil [0] (.cons (.var 0) .nil)) .nil))))) (.seq (.for_ (.nm 2) (.seq (.var 1)) (.iff (.or (.cmp .NotEq (.blt .repr (.cons (.fld (.var 2) 1) .nil)) (.blt .repr (.cons (.var 0) .nil))) (.not (.call 36 (.cons (.var 2) (.cons (.lst (.cons (.cst (.bl true)) (.cons (.cst (.bl false)) (.cons (.cst (.bl false)) (.cons (.cst (.bl false)) .nil))))) .nil)) [] .nil))) (.ret (.cst (.bl false))) .skip)) (.seq (.for_ (.nm 2) (.seq (.lst (.cons (.call 16 (.cons (.var 0) .nil) [] .nil) (.cons (.call 16 .nil [0] (.cons (.var 0) .nil)) .nil)))) (.iff (.or (.cmp .NotEq (.blt .repr (.cons (.fld (.var 2) 2) .nil)) (.blt .repr (.cons (.var 0) .nil))) (.not (.call 36 (.cons (.var 2) (.cons (.lst (.cons (.cst (.bl true)) (.cons (.cst (.bl false)) (.cons (.cst (.bl false)) (.cons (.cst (.bl false)) .nil))))) .nil)) [] .nil))) (.ret (.cst (.bl false))) .skip)) (.seq (.for_ (.nm 2) (.seq (.lst (.cons (.call 26 (.cons (.var 0) .nil) [] .nil) (.cons (.call 26 .nil [0] (.cons (.var 0) .nil)) .nil)))) (.iff (.or (.cmp .NotEq (.blt .repr (.cons (.fld (.var 2) 1) .nil)) (.blt .repr (.cons (.var 0) .nil))) (.not (.call 36 (.cons (.var 2) (.cons (.lst (.cons (.cst (.bl false)) (.cons (.cst (.bl false)) (.cons (.cst (.bl true)) (.cons (.cst (.bl false)) .nil))))) .nil)) [] .nil))) (.ret (.cst (.bl false))) .skip)) (.ret (.cst (.bl true))))))))
def F__law_placed_right : Fn := run (ws.gm g__law_valued_right) 1 3 t__law_placed_right .d
def g__law_placed_right : List (Nat × Fn) := (38, F__law_placed_right) :: g__law_valued_right
theorem k__law_placed_right {w : World} {K : PySem.W.Frag} {mg : Str → Option Value} {base h : Heap} (T : Ft ws K) (X : K.In h) (G : h.Ns mainGlobals mg) (c : SaysX ws.xb fn K) (L : FnsOk (PySem.Challenge.rw_uplines_k10_errors_and_kinds_of_values).prog w K mg base 12 ws g__law_valued_right) : FnsOk (PySem.Challenge.rw_uplines_k10_errors_and_kinds_of_values).prog w K mg base 13 ws g__law_placed_right := by
  obtain ⟨fd, F⟩ := c.fun_ (i := 12) (x := d__law_placed_right) rfl
  have F1 : FunD K "_law_placed_right" "_law_placed_right" (defArgs s__law_placed_right) (defBody s__law_placed_right) (defScope s__law_placed_right) [] [] (He.ga K "_law_placed_right") fd := F
  refine FnsOk.step (tx := t__law_placed_right) (rk := .d) (N := ["_law_one", "_law_some_here", "_law_e"]) (ps := ["_law_one"]) T ws_ok X G L F1 (FnScope.mk rfl rfl rfl (by decide +kernel) rfl (by decide +kernel) (by decide +kernel)) (by kernel_rfl) rfl ?_
  intro q hq
  simp only [List.mem_cons, List.not_mem_nil, or_false] at hq
  rcases hq with rfl
  · exact fun _ _ _ _ _ _ us ws h1 h2 xs h0 => match xs, us, ws, h0, h1, h2 with
      | [], [u0], [], _, _, _ => rfl
def t__law_two_right : T := (.seq (.for_ (.nm 2) (.seq (.lst (.cons (.call 22 (.cons (.var 0) (.cons (.var 1) .nil)) [] .nil) (.cons (.call 23 (.cons (.var 0) (.cons (.var 1) .nil)) [] .nil) (.cons (.call 22 .nil [1, 0] (.cons (.var 1) (.cons (.var 0) .nil))) .nil))))) (.iff (.or (.cmp .NotEq (.blt .repr (.cons (.lst (.cons (.fld (.var 2) 3) (.cons (.fld (.var 2) 4) .nil))) .nil)) (.blt .repr (.cons (.lst (.cons (.var 0) (.cons (.var 1) .nil))) .nil))) (.not (.call 36 (.cons (.var 2) (.cons (.lst (.cons (.cst (.bl false)) (.cons (.cst (.bl false)) (.cons (.cst (.bl true)) (.cons (.cst (.bl false)) .nil))))) .nil)) [] .nil))) (.ret (.cst (.bl false))) .skip)) (.seq (.for_ (.nm 2) (.seq (.lst (.cons (.call 27 (.cons (.var 0) (.cons (.var 1) .nil)) [] .nil) (.cons (.call 27 .nil [1, 0] (.cons (.var 1) (.cons (.var 0) .nil))) .nil)))) (.iff (.or (.cmp .NotEq (.blt .repr (.cons (.lst (.cons (.fld (.var 2) 5) (.cons (.fld (.var 2) 6) .nil))) .nil)) (.blt .repr (.cons (.lst (.cons (.var 0) (.cons (.var 1) .nil))) .nil))) (.not (.call 36 (.cons (.var 2) (.cons (.lst (.cons (.cst (.bl false)) (.cons (.cst (.bl false)) (.cons (.cst (.bl false)) (.cons (.cst (.bl true)) .nil))))) .nil)) [] .nil))) (.ret (.cst (.bl false))) .skip)) (.seq (.for_ (.nm 2) (.seq (.lst (.cons (.call 20 .nil [] .nil) (.cons (.call 24 .nil [] .nil) (.cons (.call 25 .nil [] .nil) .nil))))) (.iff (.not (.call 36 (.cons (.var 2) (.cons (.lst (.cons (.cst (.bl false)) (.cons (.cst (.bl false)) (.cons (.cst (.bl true)) (.cons (.cst (.bl false)) .nil))))) .nil)) [] .nil)) (.ret (.cst (.bl false))) .skip)) (.ret (.cst (.bl true))))))
def F__law_two_right : Fn := run (ws.gm g__law_placed_right) 2 3 t__law_two_right .d
def g__law_two_right : List (Nat × Fn) := (39, F__law_two_right) :: g__law_placed_right
theorem k__law_two_right {w : World} {K : PySem.W.Frag} {mg : Str → Option Value} {base h : Heap} (T : Ft ws K) (X : K.In h) (G : h.Ns mainGlobals mg) (c : SaysX ws.xb fn K) (L : FnsOk (PySem.Challenge.rw_uplines_k10_errors_and_kinds_of_values).prog w K mg base 13 ws g__law_placed_right) : FnsOk (PySem.Challenge.rw_uplines_k10_errors_and_kinds_of_values).prog w K mg base 14 ws g__law_two_right := by
  obtain ⟨fd, F⟩ := c.fun_ (i := 13) (x := d__law_two_right) rfl
  have F1 : FunD K "_law_two_right" "_law_two_right" (defArgs s__law_two_right) (defBody s__law_two_right) (defScope s__law_two_right) [] [] (He.ga K "_law_two_right") fd := F
  refine FnsOk.step (tx := t__law_two_right) (rk := .d) (N := ["_law_here", "_law_there", "_law_e"]) (ps := ["_law_here", "_law_there"]) T ws_ok X G L F1 (FnScope.mk rfl rfl rfl (by decide +kernel) rfl (by decide +kernel) (by decide +kernel)) (by kernel_rfl) rfl ?_
  intro q hq
  simp only [List.mem_cons, List.not_mem_nil, or_false] at hq
  rcases hq with rfl
  · exact fun _ _ _ _ _ _ us ws h1 h2 xs h0 => match xs, us, ws, h0, h1, h2 with
      | [], [u0, u1], [], _, _, _ => rfl
def t__law_marks : T := (.seq (.set 1 (.lst .nil)) (.seq (.exp (.lmt .extend (.var 1) (.cons (.lst (.cons (.isi (.var 0) [.own 29]) (.cons (.isi (.var 0) [.own 10]) (.cons (.isi (.var 0) [.own 11]) .nil)))) .nil))) (.seq (.exp (.lmt .extend (.var 1) (.cons (.lst (.cons (.isi (.var 0) [.own 8]) (.cons (.isi (.var 0) [.own 2]) (.cons (.isi (.var 0) [.own 12]) .nil)))) .nil))) (.seq (.exp (.lmt .extend (.var 1) (.cons (.lst (.cons (.isi (.var 0) [.own 5]) (.cons (.isi (.var 0) [.own 14]) (.cons (.isi (.var 0) [.own 1]) .nil)))) .nil))) (.seq (.exp (.lmt .extend (.var 1) (.cons (.lst (.cons (.isi (.var 0) [.own 13]) (.cons (.isi (.var 0) [.own 3]) (.cons (.isi (.var 0) [.own 6]) .nil)))) .nil))) (.seq (.exp (.lmt .extend (.var 1) (.cons (.lst (.cons (.isi (.var 0) [.own 7]) (.cons (.isi (.var 0) [.own 4]) (.cons (.isi (.var 0) [.own 15]) .nil)))) .nil))) (.seq (.exp (.lmt .extend (.var 1) (.cons (.lst (.cons (.isi (.var 0) [.own 9]) (.cons (.isi (.var 0) [.own 17]) (.cons (.isi (.var 0) [.own 16]) .nil)))) .nil))) (.seq (.exp (.lmt .extend (.var 1) (.cons (.lst (.cons (.isi (.var 0) [.own 22]) (.cons (.isi (.var 0) [.own 23]) (.cons (.isi (.var 0) [.own 28]) .nil)))) .nil))) (.seq (.exp (.lmt .extend (.var 1) (.cons (.lst (.cons (.isi (.var 0) [.own 27]) (.cons (.isi (.var 0) [.own 26]) (.cons (.isi (.var 0) [.own 25]) .nil)))) .nil))) (.seq (.exp (.lmt .extend (.var 1) (.cons (.lst (.cons (.isi (.var 0) [.own 24]) (.cons (.isi (.var 0) [.own 31]) (.cons (.isi (.var 0) [.own 20]) .nil)))) .nil))) (.seq (.exp (.lmt .extend (.var 1) (.cons (.lst (.cons (.isi (.var 0) [.own 19]) .nil)) .nil))) (.ret (.var 1)))))))))))))
def F__law_marks : Fn := run (ws.gm g__law_two_right) 1 2 t__law_marks .d
def g__law_marks : List (Nat × Fn) := (40, F__law_marks) :: g__law_two_right
theorem k__law_marks {w : World} {K : PySem.W.Frag} {mg : Str → Option Value} {base h : Heap} (T : Ft ws K) (X : K.In h) (G : h.Ns mainGlobals mg) (c : SaysX ws.xb fn K) (L : FnsOk (PySem.Challenge.rw_uplines_k10_errors_and_kinds_of_values).prog w K mg base 14 ws g__law_two_right) : FnsOk (PySem.Challenge.rw_uplines_k10_errors_and_kinds_of_values).prog w K mg base 15 ws g__law_marks := by
  obtain ⟨fd, F⟩ := c.fun_ (i := 14) (x := d__law_marks) rfl
  have F1 : FunD K "_law_marks" "_law_marks" (defArgs s__law_marks) (defBody s__law_marks) (defScope s__law_marks) [] [] (He.ga K "_law_marks") fd := F
  refine FnsOk.step (tx := t__law_marks) (rk := .d) (N := ["_law_e", "_law_found"]) (ps := ["_law_e"]) T ws_ok X G L F1 (FnScope.mk rfl rfl rfl (by decide +kernel) rfl (by decide +kernel) (by decide +kernel)) (by kernel_rfl) rfl ?_
  intro q hq
  simp only [List.mem_cons, List.not_mem_nil, or_false] at hq
  rcases hq with rfl
  · exact fun _ _ _ _ _ _ us ws h1 h2 xs h0 => match xs, us, ws, h0, h1, h2 with
      | [], [u0], [], _, _, _ => rfl
def t__law_apart_right : T := (.seq (.set 0 (.lst .nil)) (.seq (.exp (.lmt .extend (.var 0) (.cons (.lst (.cons (.call 26 (.cons (.cst (.int 1)) .nil) [] .nil) (.cons (.call 9 (.cons (.cst (.int 1)) .nil) [] .nil) (.cons (.call 10 (.cons (.cst (.int 1)) .nil) [] .nil) (.cons (.call 7 (.cons (.cst (.int 1)) .nil) [] .nil) .nil))))) .nil))) (.seq (.exp (.lmt .extend (.var 0) (.cons (.lst (.cons (.call 1 (.cons (.cst (.int 1)) .nil) [] .nil) (.cons (.call 11 (.cons (.cst (.int 1)) .nil) [] .nil) (.cons (.call 4 (.cons (.cst (.int 1)) .nil) [] .nil) (.cons (.call 13 (.cons (.cst (.int 1)) .nil) [] .nil) .nil))))) .nil))) (.seq (.exp (.lmt .extend (.var 0) (.cons (.lst (.cons (.call 0 (.cons (.cst (.int 1)) .nil) [] .nil) (.cons (.call 12 (.cons (.cst (.int 1)) .nil) [] .nil) (.cons (.call 2 (.cons (.cst (.int 1)) .nil) [] .nil) (.cons (.call 5 (.cons (.cst (.int 1)) .nil) [] .nil) .nil))))) .nil))) (.seq (.exp (.lmt .extend (.var 0) (.cons (.lst (.cons (.call 6 (.cons (.cst (.int 1)) .nil) [] .nil) (.cons (.call 3 (.cons (.cst (.int 1)) .nil) [] .nil) (.cons (.call 14 (.cons (.cst (.int 1)) .nil) [] .nil) (.cons (.call 8 (.cons (.cst (.int 1)) .nil) [] .nil) .nil))))) .nil))) (.seq (.exp (.lmt .extend (.var 0) (.cons (.lst (.cons (.call 16 (.cons (.cst (.int 1)) .nil) [] .nil) (.cons (.call 15 (.cons (.cst (.int 1)) .nil) [] .nil) (.cons (.call 19 (.cons (.cst (.int 1)) .nil) [] .nil) (.cons (.call 20 .nil [] .nil) .nil))))) .nil))) (.seq (.exp (.lmt .extend (.var 0) (.cons (.lst (.cons (.call 25 .nil [] .nil) (.cons (.call 24 .nil [] .nil) (.cons (.call 23 (.cons (.cst (.int 1)) (.cons (.cst (.int 2)) .nil)) [] .nil) (.cons (.call 22 (.cons (.cst (.int 1)) (.cons (.cst (.int 2)) .nil)) [] .nil) .nil))))) .nil))) (.seq (.exp (.lmt .extend (.var 0) (.cons (.lst (.cons (.call 21 (.cons (.cst (.int 1)) .nil) [] .nil) (.cons (.call 27 (.cons (.cst (.int 1)) (.cons (.cst (.int 2)) .nil)) [] .nil) (.cons (.call 18 (.cons (.cst (.int 1)) .nil) [] .nil) (.cons (.call 17 (.cons (.cst (.int 1)) .nil) [] .nil) .nil))))) .nil))) (.seq (.set 1 (.lc (.nm 2) (.seq (.var 0)) (.cst (.bl true)) (.call 40 (.cons (.var 2) .nil) [] .nil) [2])) (.ret (.cmp .Eq (.var 1) (.lc (.nm 3) (.rng1 (.blt .len (.cons (.var 0) .nil))) (.cst (.bl true)) (.lc (.nm 4) (.rng1 (.blt .len (.cons (.var 0) .nil))) (.cst (.bl true)) (.cmp .Eq (.var 3) (.var 4)) [4]) [3]))))))))))))
def F__law_apart_right : Fn := run (ws.gm g__law_marks) 0 5 t__law_apart_right .d
def g__law_apart_right : List (Nat × Fn) := (41, F__law_apart_right) :: g__law_marks
theorem k__law_apart_right {w : World} {K : PySem.W.Frag} {mg : Str → Option Value} {base h : Heap} (T : Ft ws K) (X : K.In h) (G : h.Ns mainGlobals mg) (c : SaysX ws.xb fn K) (L : FnsOk (PySem.Challenge.rw_uplines_k10_errors_and_kinds_of_values).prog w K mg base 15 ws g__law_marks) : FnsOk (PySem.Challenge.rw_uplines_k10_errors_and_kinds_of_values).prog w K mg base 16 ws g__law_apart_right := by
  obtain ⟨fd, F⟩ := c.fun_ (i := 15) (x := d__law_apart_right) rfl
  have F1 : FunD K "_law_apart_right" "_law_apart_right" (defArgs s__law_apart_right) (defBody s__law_apart_right) (defScope s__law_apart_right) [] [] (He.ga K "_law_apart_right") fd := F
  refine FnsOk.step (tx := t__law_apart_right) (rk := .d) (N := ["_law_some_here", "_law_rows", "_law_e", "_law_at", "_law_spot"]) (ps := []) T ws_ok X G L F1 (FnScope.mk rfl rfl rfl (by decide +kernel) rfl (by decide +kernel) (by decide +kernel)) (by kernel_rfl) rfl ?_
  intro q hq
  simp only [List.mem_cons, List.not_mem_nil, or_false] at hq
  rcases hq with rfl
  · exact fun _ _ _ _ _ _ us ws h1 h2 xs h0 => match xs, us, ws, h0, h1, h2 with
      | [], [], [], _, _, _ => rfl
def t__law_right : T := (.seq (.set 1 (.call 33 (.cons (.var 0) .nil) [] .nil)) (.seq (.iff (.or (.not (.call 35 (.cons (.var 1) .nil) [] .nil)) (.not (.call 41 .nil [] .nil))) (.ret (.cst (.bl false))) .skip) (.seq (.for_ (.nm 2) (.rng1 (.cst (.int 6))) (.seq (.par [3, 4] (.cons (.call 32 (.cons (.var 0) (.cons (.var 1) .nil)) [] .nil) (.cons (.call 32 (.cons (.var 0) (.cons (.var 1) .nil)) [] .nil) .nil))) (.iff (.or (.not (.call 37 (.cons (.var 3) .nil) [] .nil)) (.or (.not (.call 38 (.cons (.var 3) .nil) [] .nil)) (.not (.call 39 (.cons (.var 3) (.cons (.var 4) .nil)) [] .nil)))) (.ret (.cst (.bl false))) .skip))) (.ret (.cst (.bl true))))))
def F__law_right : Fn := run (ws.gm g__law_apart_right) 1 5 t__law_right .d
def g__law_right : List (Nat × Fn) := (42, F__law_right) :: g__law_apart_right
theorem last {w : World} {K : PySem.W.Frag} {mg : Str → Option Value} {base h : Heap} (T : Ft ws K) (X : K.In h) (G : h.Ns mainGlobals mg) (c : SaysX ws.xb fn K) (L : FnsOk (PySem.Challenge.rw_uplines_k10_errors_and_kinds_of_values).prog w K mg base 16 ws g__law_apart_right) : ∃ fd, PySem.W.keepIn K (.ref (He.ga K "_law_right")) = true ∧ (∀ us : List Value, us.length = 1 → bindArgs fd ⟨us, []⟩ = pure ((["_law_pot_here"] : List Str).zip us)) ∧ FnG (PySem.Challenge.rw_uplines_k10_errors_and_kinds_of_values).prog w K mg base (L2.CX (PySem.Challenge.rw_uplines_k10_errors_and_kinds_of_values).prog w) 17 (He.ga K "_law_right") fd ["_law_pot_here"] (FSp ws.tb K F__law_right) := by
  obtain ⟨fd, F⟩ := c.fun_ (i := 16) (x := d__law_right) rfl
  have F1 : FunD K "_law_right" "_law_right" (defArgs s__law_right) (defBody s__law_right) (defScope s__law_right) [] [] (He.ga K "_law_right") fd := F
  refine ⟨fd, F1.kp, fun us hl => ?_, FnsOk.last (tx := t__law_right) (rk := .d) (N := ["_law_pot_here", "_law_some_here", "_law_turn", "_law_here", "_law_there"]) (ps := ["_law_pot_here"]) T ws_ok X G L F1 (FnScope.mk rfl rfl rfl (by decide +kernel) rfl (by decide +kernel) (by decide +kernel)) (by kernel_rfl)⟩
  have B : BindsAs "_law_right" "_law_right" (defArgs s__law_right) (defBody s__law_right) (defScope s__law_right) ["_law_pot_here"] 0 1 [] [] := fun _ _ _ _ _ _ us ws h1 h2 xs h0 => match xs, us, ws, h0, h1, h2 with
      | [], [u0], [], _, _, _ => rfl
  have z := FunD.bnd F1 B [] us [] rfl hl rfl
  exact z
theorem chain {w : World} {K : PySem.W.Frag} {mg : Str → Option Value} {base h : Heap} (T : Ft ws K) (X : K.In h) (G : h.Ns mainGlobals mg) (c : SaysX ws.xb fn K) : FnsOk (PySem.Challenge.rw_uplines_k10_errors_and_kinds_of_values).prog w K mg base 16 ws g__law_apart_right := by
  have L0 : FnsOk (PySem.Challenge.rw_uplines_k10_errors_and_kinds_of_values).prog w K mg base 2 ws e0 := FnsOk.nil
  have L1 := x_InvalidName T c L0
  have L2 := x_InvalidLevel T c L1
  have L3 := x_InvalidNumber T c L2
  have L4 := x_InvalidPair T c L3
  have L5 := x_InvalidLine T c L4
  have L6 := x_InvalidOrder T c L5
  have L7 := x_InvalidOrders T c L6
  have L8 := x_InvalidDrawing T c L7
  have L9 := x_InvalidSheet T c L8
  have L10 := x_InvalidClaim T c L9
  have L11 := x_InvalidCommand T c L10
  have L12 := x_InvalidLevels T c L11
  have L13 := x_InvalidNodes T c L12
  have L14 := x_InvalidLines T c L13
  have L15 := x_InvalidPairs T c L14
  have L16 := x_InvalidWalk T c L15
  have L17 := x_InvalidText T c L16
  have L18 := x_UnknownNode T c L17
  have L19 := x_UnknownLine T c L18
  have L20 := x_NameTaken T c L19
  have L21 := x_NothingClean T L20
  have L22 := x_Refused T c L21
  have L23 := x_OtherSheets T c L22
  have L24 := x_OtherLevels T c L23
  have L25 := x_NotTrue T L24
  have L26 := x_NothingToUndo T L25
  have L27 := x_CommandFailed T c L26
  have L28 := x_TooMany T c L27
  have L29 := k_is_integer T X G c L28
  have L30 := k_is_count T X G c L29
  have L31 := k_is_name T X G c L30
  have L32 := k__law_draw T X G c L31
  have L33 := k__law_pick T X G c L32
  have L34 := k__law_values T X G c L33
  have L35 := k__law_is_name T X G c L34
  have L36 := k__law_kinds_right T X G c L35
  have L37 := k__law_is_of T X G c L36
  have L38 := k__law_valued_right T X G c L37
  have L39 := k__law_placed_right T X G c L38
  have L40 := k__law_two_right T X G c L39
  have L41 := k__law_marks T X G c L40
  have L42 := k__law_apart_right T X G c L41
  exact L42
end KK
end U
set_option Elab.async false
set_option linter.all false
set_option maxRecDepth 100000
set_option maxHeartbeats 0
set_option autoImplicit false
/-! The plain part of k10: what the defs tell, by rewriting (printed by plain10.py). -/
namespace U
/-- a value that is a tree, and whose repr is told -/
structure Rpr (v : D) (z : PySem.Str) : Prop where
  np : notPot v = true
  aw : argW v = some (.d v)
  rp : reprD v = some z
namespace KK
open PySem
theorem is_ve (c : Nat) (fs : List (Nat × D)) (i j : Int) (h : c ∈ [1, 2, 3, 4, 5, 6, 7, 8, 9, 10, 11, 12, 13, 14, 15, 16, 17]) : F__law_is_of [.exc c fs, .lst [.bl true, .bl false, .bl false, .bl false]] (some (i, j)) = some (.ok (.d (.bl true)) (some (i, j))) := by
  simp only [List.mem_cons, List.not_mem_nil, or_false] at h
  rcases h with rfl | rfl | rfl | rfl | rfl | rfl | rfl | rfl | rfl | rfl | rfl | rfl | rfl | rfl | rfl | rfl | rfl <;> kernel_rfl
theorem is_le (c : Nat) (fs : List (Nat × D)) (i j : Int) (h : c ∈ [19, 20]) : F__law_is_of [.exc c fs, .lst [.bl false, .bl true, .bl false, .bl false]] (some (i, j)) = some (.ok (.d (.bl true)) (some (i, j))) := by
  simp only [List.mem_cons, List.not_mem_nil, or_false] at h
  rcases h with rfl | rfl <;> kernel_rfl
theorem is_re (c : Nat) (fs : List (Nat × D)) (i j : Int) (h : c ∈ [22, 23, 24, 25, 26, 27, 28, 29]) : F__law_is_of [.exc c fs, .lst [.bl false, .bl false, .bl true, .bl false]] (some (i, j)) = some (.ok (.d (.bl true)) (some (i, j))) := by
  simp only [List.mem_cons, List.not_mem_nil, or_false] at h
  rcases h with rfl | rfl | rfl | rfl | rfl | rfl | rfl | rfl <;> kernel_rfl
theorem is_ae (fs : List (Nat × D)) (i j : Int) : F__law_is_of [.exc 31 fs, .lst [.bl false, .bl false, .bl false, .bl true]] (some (i, j)) = some (.ok (.d (.bl true)) (some (i, j))) := by
  kernel_rfl

theorem two (v w : D) (z1 z2 z : Str) (hv : Rpr v z1) (hw : Rpr w z2) (hz : reprD (.lst [v, w]) = some z) (i j : Int) : F__law_two_right [v, w] (some (i, j)) = some (.ok (.d (.bl true)) (some (i, j))) := by
  have f20 : (ws.gm g__law_placed_right).fn 20 = some (mkX 23 []) := rfl
  have r20 := fun fs => is_re 23 fs i j (by simp)
  have f22 : (ws.gm g__law_placed_right).fn 22 = some (mkX 25 [3, 4]) := rfl
  have r22 := fun fs => is_re 25 fs i j (by simp)
  have d22_3 : (ws.gm g__law_placed_right).fd (.exc 25) 3 = true := rfl
  have d22_4 : (ws.gm g__law_placed_right).fd (.exc 25) 4 = true := rfl
  have f23 : (ws.gm g__law_placed_right).fn 23 = some (mkX 26 [3, 4]) := rfl
  have r23 := fun fs => is_re 26 fs i j (by simp)
  have d23_3 : (ws.gm g__law_placed_right).fd (.exc 26) 3 = true := rfl
  have d23_4 : (ws.gm g__law_placed_right).fd (.exc 26) 4 = true := rfl
  have f24 : (ws.gm g__law_placed_right).fn 24 = some (mkX 27 []) := rfl
  have r24 := fun fs => is_re 27 fs i j (by simp)
  have f25 : (ws.gm g__law_placed_right).fn 25 = some (mkX 28 []) := rfl
  have r25 := fun fs => is_re 28 fs i j (by simp)
  have f27 : (ws.gm g__law_placed_right).fn 27 = some (mkX 31 [5, 6]) := rfl
  have r27 := fun fs => is_ae fs i j
  have d27_5 : (ws.gm g__law_placed_right).fd (.exc 31) 5 = true := rfl
  have d27_6 : (ws.gm g__law_placed_right).fd (.exc 31) 6 = true := rfl
  have f36 : (ws.gm g__law_placed_right).fn 36 = some F__law_is_of := rfl
  unfold F__law_two_right
  simp only [↓run, ↓List.length_cons, ↓List.length_nil, ↓List.map_cons, ↓List.map_nil, ↓ex, ↓rows, ↓ev, ↓evs, ↓bnd_ap, ↓ret_ap, ↓ask_ap, ↓rd_ap, ↓newC_ap, ↓newL, ↓unp_ap, ↓for_cons, ↓for_nil, small, BIG, ↓callF, ↓argsv, ↓fzs, ↓a1_d, ↓a1_c, ↓a1_p, potC, potOf,
    List.getElem?_cons_zero, List.getElem?_cons_succ, List.cons_append, List.nil_append, List.replicate, ↓reduceIte, mkX, ↓pl_n, ↓pl_1, ↓pl_21, FZ, ↓fz_d, ↓fz_c, ↓pk_d, ↓pk_c, ↓pks, ↓eq_str, innw, setPot, flatF, flatD, ↓seqOf, ↓rowsW, ↓rowsOf, ↓rowOf, ↓pinned, ↓pinC, ↓unpin, ↓setRow, ↓setT, List.set, ↓kindW, ↓kindD, ↓fldW, ↓getK, ↓blt, ↓binop, ↓eqW, ↓cmpop, ↓truth,
    beq_self_eq_true, Bool.not_true, Bool.not_false, Option.map_some, wbl, wstr, wint, List.all_cons, List.all_nil, Bool.and_self, List.zip_cons_cons, List.zip_nil_left, List.zip_nil_right, List.reverse_cons, List.reverse_nil, and_self, List.length_append,
    Bool.false_eq_true, decide_eq_true_eq, Nat.reduceLT, Nat.reduceAdd, Nat.zero_add, List.append_nil, reduceCtorEq, List.length_cons, List.length_nil, fin, outW, List.getElem?_nil, stuck, Nat.reduceEqDiff, Nat.succ_ne_zero, Nat.reduceLeDiff, Nat.le_refl, Nat.zero_le, true_and, and_true, ite_self, ↓t__law_two_right, ↓f20, r20, ↓f22, r22, d22_3, d22_4, ↓f23, r23, d23_3, d23_4, ↓f24, r24, ↓f25, r25, ↓f27, r27, d27_5, d27_6, ↓f36, ↓hv.aw, ↓hw.aw, hv.np, hw.np, hz]
theorem valued (v : D) (z : Str) (hv : Rpr v z) (i j : Int) : F__law_valued_right [v] (some (i, j)) = some (.ok (.d (.bl true)) (some (i, j))) := by
  have f0 : (ws.gm g__law_is_of).fn 0 = some (mkX 1 [0]) := rfl
  have r0 := fun fs => is_ve 1 fs i j (by simp)
  have d0_0 : (ws.gm g__law_is_of).fd (.exc 1) 0 = true := rfl
  have f1 : (ws.gm g__law_is_of).fn 1 = some (mkX 2 [0]) := rfl
  have r1 := fun fs => is_ve 2 fs i j (by simp)
  have d1_0 : (ws.gm g__law_is_of).fd (.exc 2) 0 = true := rfl
  have f2 : (ws.gm g__law_is_of).fn 2 = some (mkX 3 [0]) := rfl
  have r2 := fun fs => is_ve 3 fs i j (by simp)
  have d2_0 : (ws.gm g__law_is_of).fd (.exc 3) 0 = true := rfl
  have f3 : (ws.gm g__law_is_of).fn 3 = some (mkX 4 [0]) := rfl
  have r3 := fun fs => is_ve 4 fs i j (by simp)
  have d3_0 : (ws.gm g__law_is_of).fd (.exc 4) 0 = true := rfl
  have f4 : (ws.gm g__law_is_of).fn 4 = some (mkX 5 [0]) := rfl
  have r4 := fun fs => is_ve 5 fs i j (by simp)
  have d4_0 : (ws.gm g__law_is_of).fd (.exc 5) 0 = true := rfl
  have f5 : (ws.gm g__law_is_of).fn 5 = some (mkX 6 [0]) := rfl
  have r5 := fun fs => is_ve 6 fs i j (by simp)
  have d5_0 : (ws.gm g__law_is_of).fd (.exc 6) 0 = true := rfl
  have f6 : (ws.gm g__law_is_of).fn 6 = some (mkX 7 [0]) := rfl
  have r6 := fun fs => is_ve 7 fs i j (by simp)
  have d6_0 : (ws.gm g__law_is_of).fd (.exc 7) 0 = true := rfl
  have f7 : (ws.gm g__law_is_of).fn 7 = some (mkX 8 [0]) := rfl
  have r7 := fun fs => is_ve 8 fs i j (by simp)
  have d7_0 : (ws.gm g__law_is_of).fd (.exc 8) 0 = true := rfl
  have f8 : (ws.gm g__law_is_of).fn 8 = some (mkX 9 [0]) := rfl
  have r8 := fun fs => is_ve 9 fs i j (by simp)
  have d8_0 : (ws.gm g__law_is_of).fd (.exc 9) 0 = true := rfl
  have f9 : (ws.gm g__law_is_of).fn 9 = some (mkX 10 [0]) := rfl
  have r9 := fun fs => is_ve 10 fs i j (by simp)
  have d9_0 : (ws.gm g__law_is_of).fd (.exc 10) 0 = true := rfl
  have f10 : (ws.gm g__law_is_of).fn 10 = some (mkX 11 [0]) := rfl
  have r10 := fun fs => is_ve 11 fs i j (by simp)
  have d10_0 : (ws.gm g__law_is_of).fd (.exc 11) 0 = true := rfl
  have f17 : (ws.gm g__law_is_of).fn 17 = some (mkX 19 [0]) := rfl
  have r17 := fun fs => is_le 19 fs i j (by simp)
  have d17_0 : (ws.gm g__law_is_of).fd (.exc 19) 0 = true := rfl
  have f18 : (ws.gm g__law_is_of).fn 18 = some (mkX 20 [0]) := rfl
  have r18 := fun fs => is_le 20 fs i j (by simp)
  have d18_0 : (ws.gm g__law_is_of).fd (.exc 20) 0 = true := rfl
  have f19 : (ws.gm g__law_is_of).fn 19 = some (mkX 22 [0]) := rfl
  have r19 := fun fs => is_re 22 fs i j (by simp)
  have d19_0 : (ws.gm g__law_is_of).fd (.exc 22) 0 = true := rfl
  have f21 : (ws.gm g__law_is_of).fn 21 = some (mkX 24 [0]) := rfl
  have r21 := fun fs => is_re 24 fs i j (by simp)
  have d21_0 : (ws.gm g__law_is_of).fd (.exc 24) 0 = true := rfl
  have f36 : (ws.gm g__law_is_of).fn 36 = some F__law_is_of := rfl
  unfold F__law_valued_right
  simp only [↓run, ↓List.length_cons, ↓List.length_nil, ↓List.map_cons, ↓List.map_nil, ↓ex, ↓rows, ↓ev, ↓evs, ↓bnd_ap, ↓ret_ap, ↓ask_ap, ↓rd_ap, ↓newC_ap, ↓newL, ↓unp_ap, ↓for_cons, ↓for_nil, small, BIG, ↓callF, ↓argsv, ↓fzs, ↓a1_d, ↓a1_c, ↓a1_p, potC, potOf,
    List.getElem?_cons_zero, List.getElem?_cons_succ, List.cons_append, List.nil_append, List.replicate, ↓reduceIte, mkX, ↓pl_n, ↓pl_1, ↓pl_21, FZ, ↓fz_d, ↓fz_c, ↓pk_d, ↓pk_c, ↓pks, ↓eq_str, innw, setPot, flatF, flatD, ↓seqOf, ↓rowsW, ↓rowsOf, ↓rowOf, ↓pinned, ↓pinC, ↓unpin, ↓setRow, ↓setT, List.set, ↓kindW, ↓kindD, ↓fldW, ↓getK, ↓blt, ↓binop, ↓eqW, ↓cmpop, ↓truth,
    beq_self_eq_true, Bool.not_true, Bool.not_false, Option.map_some, wbl, wstr, wint, List.all_cons, List.all_nil, Bool.and_self, List.zip_cons_cons, List.zip_nil_left, List.zip_nil_right, List.reverse_cons, List.reverse_nil, and_self, List.length_append,
    Bool.false_eq_true, decide_eq_true_eq, Nat.reduceLT, Nat.reduceAdd, Nat.zero_add, List.append_nil, reduceCtorEq, List.length_cons, List.length_nil, fin, outW, List.getElem?_nil, stuck, Nat.reduceEqDiff, Nat.succ_ne_zero, Nat.reduceLeDiff, Nat.le_refl, Nat.zero_le, true_and, and_true, ite_self, ↓t__law_valued_right, ↓f0, r0, d0_0, ↓f1, r1, d1_0, ↓f2, r2, d2_0, ↓f3, r3, d3_0, ↓f4, r4, d4_0, ↓f5, r5, d5_0, ↓f6, r6, d6_0, ↓f7, r7, d7_0, ↓f8, r8, d8_0, ↓f9, r9, d9_0, ↓f10, r10, d10_0, ↓f17, r17, d17_0, ↓f18, r18, d18_0, ↓f19, r19, d19_0, ↓f21, r21, d21_0, ↓f36, ↓hv.aw, hv.np, hv.rp]
theorem placed_ (v : D) (z : Str) (hv : Rpr v z) (i j : Int) : F__law_placed_right [v] (some (i, j)) = some (.ok (.d (.bl true)) (some (i, j))) := by
  have f11 : (ws.gm g__law_valued_right).fn 11 = some (mkX 12 [1]) := rfl
  have r11 := fun fs => is_ve 12 fs i j (by simp)
  have d11_1 : (ws.gm g__law_valued_right).fd (.exc 12) 1 = true := rfl
  have f12 : (ws.gm g__law_valued_right).fn 12 = some (mkX 13 [1]) := rfl
  have r12 := fun fs => is_ve 13 fs i j (by simp)
  have d12_1 : (ws.gm g__law_valued_right).fd (.exc 13) 1 = true := rfl
  have f13 : (ws.gm g__law_valued_right).fn 13 = some (mkX 14 [1]) := rfl
  have r13 := fun fs => is_ve 14 fs i j (by simp)
  have d13_1 : (ws.gm g__law_valued_right).fd (.exc 14) 1 = true := rfl
  have f14 : (ws.gm g__law_valued_right).fn 14 = some (mkX 15 [1]) := rfl
  have r14 := fun fs => is_ve 15 fs i j (by simp)
  have d14_1 : (ws.gm g__law_valued_right).fd (.exc 15) 1 = true := rfl
  have f15 : (ws.gm g__law_valued_right).fn 15 = some (mkX 16 [1]) := rfl
  have r15 := fun fs => is_ve 16 fs i j (by simp)
  have d15_1 : (ws.gm g__law_valued_right).fd (.exc 16) 1 = true := rfl
  have f16 : (ws.gm g__law_valued_right).fn 16 = some (mkX 17 [2]) := rfl
  have r16 := fun fs => is_ve 17 fs i j (by simp)
  have d16_2 : (ws.gm g__law_valued_right).fd (.exc 17) 2 = true := rfl
  have f26 : (ws.gm g__law_valued_right).fn 26 = some (mkX 29 [1]) := rfl
  have r26 := fun fs => is_re 29 fs i j (by simp)
  have d26_1 : (ws.gm g__law_valued_right).fd (.exc 29) 1 = true := rfl
  have f36 : (ws.gm g__law_valued_right).fn 36 = some F__law_is_of := rfl
  unfold F__law_placed_right
  simp only [↓run, ↓List.length_cons, ↓List.length_nil, ↓List.map_cons, ↓List.map_nil, ↓ex, ↓rows, ↓ev, ↓evs, ↓bnd_ap, ↓ret_ap, ↓ask_ap, ↓rd_ap, ↓newC_ap, ↓newL, ↓unp_ap, ↓for_cons, ↓for_nil, small, BIG, ↓callF, ↓argsv, ↓fzs, ↓a1_d, ↓a1_c, ↓a1_p, potC, potOf,
    List.getElem?_cons_zero, List.getElem?_cons_succ, List.cons_append, List.nil_append, List.replicate, ↓reduceIte, mkX, ↓pl_n, ↓pl_1, ↓pl_21, FZ, ↓fz_d, ↓fz_c, ↓pk_d, ↓pk_c, ↓pks, ↓eq_str, innw, setPot, flatF, flatD, ↓seqOf, ↓rowsW, ↓rowsOf, ↓rowOf, ↓pinned, ↓pinC, ↓unpin, ↓setRow, ↓setT, List.set, ↓kindW, ↓kindD, ↓fldW, ↓getK, ↓blt, ↓binop, ↓eqW, ↓cmpop, ↓truth,
    beq_self_eq_true, Bool.not_true, Bool.not_false, Option.map_some, wbl, wstr, wint, List.all_cons, List.all_nil, Bool.and_self, List.zip_cons_cons, List.zip_nil_left, List.zip_nil_right, List.reverse_cons, List.reverse_nil, and_self, List.length_append,
    Bool.false_eq_true, decide_eq_true_eq, Nat.reduceLT, Nat.reduceAdd, Nat.zero_add, List.append_nil, reduceCtorEq, List.length_cons, List.length_nil, fin, outW, List.getElem?_nil, stuck, Nat.reduceEqDiff, Nat.succ_ne_zero, Nat.reduceLeDiff, Nat.le_refl, Nat.zero_le, true_and, and_true, ite_self, ↓t__law_placed_right, ↓f11, r11, d11_1, ↓f12, r12, d12_1, ↓f13, r13, d13_1, ↓f14, r14, d14_1, ↓f15, r15, d15_1, ↓f16, r16, d16_2, ↓f26, r26, d26_1, ↓f36, ↓hv.aw, hv.np, hv.rp]
end KK
end U
set_option Elab.async false
set_option linter.all false
set_option maxRecDepth 100000
set_option maxHeartbeats 0
set_option autoImplicit false
namespace U
namespace KK
open PySem
theorem draw (n : Int) (h0 : 0 < n) (h1 : n < 1073741824) (i j : Int) : ∃ r p q, F__law_draw [.pot, .int n] (some (i, j)) = some (.ok (.d (.int r)) (some (p, q))) ∧ 0 ≤ r ∧ r < n := by
  by_cases hi : 0 < i
  · refine ⟨i % n, i / n, j, ?_, Int.emod_nonneg _ (by omega), Int.emod_lt_of_pos _ h0⟩
    unfold F__law_draw
    simp only [↓run, ↓List.length_cons, ↓List.length_nil, ↓List.map_cons, ↓List.map_nil, ↓ex, ↓rows, ↓ev, ↓evs, ↓bnd_ap, ↓ret_ap, ↓ask_ap, ↓rd_ap, ↓newC_ap, ↓newL, ↓unp_ap, ↓for_cons, ↓for_nil, small, BIG, ↓callF, ↓argsv, ↓fzs, ↓a1_d, ↓a1_c, ↓a1_p, potC, potOf,
    List.getElem?_cons_zero, List.getElem?_cons_succ, List.cons_append, List.nil_append, List.replicate, ↓reduceIte, mkX, ↓pl_n, ↓pl_1, ↓pl_21, FZ, ↓fz_d, ↓fz_c, ↓pk_d, ↓pk_c, ↓pks, ↓eq_str, innw, setPot, flatF, flatD, ↓seqOf, ↓rowsW, ↓rowsOf, ↓rowOf, ↓pinned, ↓pinC, ↓unpin, ↓setRow, ↓setT, List.set, ↓kindW, ↓kindD, ↓fldW, ↓getK, ↓blt, ↓binop, ↓eqW, ↓cmpop, ↓truth,
    beq_self_eq_true, Bool.not_true, Bool.not_false, Option.map_some, wbl, wstr, wint, List.all_cons, List.all_nil, Bool.and_self, List.zip_cons_cons, List.zip_nil_left, List.zip_nil_right, List.reverse_cons, List.reverse_nil, and_self, List.length_append,
    Bool.false_eq_true, decide_eq_true_eq, Nat.reduceLT, Nat.reduceAdd, Nat.zero_add, List.append_nil, reduceCtorEq, List.length_cons, List.length_nil, fin, outW, List.getElem?_nil, stuck, Nat.reduceEqDiff, Nat.succ_ne_zero, Nat.reduceLeDiff, Nat.le_refl, Nat.zero_le, true_and, and_true, ite_self, ↓t__law_draw, ↓argP, ↓argI, ↓idxW, ↓at0, ↓at1, hi, ↓setIdx, ↓unpW, h0, h1, Int.toNat_zero, Int.toNat_one, Int.reduceLT, Int.reduceToNat, Int.reduceLE]
  · have k1 : 0 ≤ (j * 40009 + 15013) % 2147483629 := Int.emod_nonneg _ (by decide)
    have k2 : (j * 40009 + 15013) % 2147483629 < 2147483629 := Int.emod_lt_of_pos _ (by decide)
    refine ⟨(((j * 40009 + 15013) % 2147483629) * ((j * 40009 + 15013) % 2147483629)) % 2147483563 / 19 % n, i, (j * 40009 + 15013) % 2147483629, ?_, Int.emod_nonneg _ (by omega), Int.emod_lt_of_pos _ h0⟩
    have c1 : (-(2 ^ 64) < j ∧ j < 2 ^ 64) ∨ (-(2 ^ 64) < (40009 : Int) ∧ (40009 : Int) < 2 ^ 64) := .inr (by decide)
    have c2 : (-(2 ^ 64) < (j * 40009 + 15013) % 2147483629 ∧ (j * 40009 + 15013) % 2147483629 < 2 ^ 64) ∨ (-(2 ^ 64) < (j * 40009 + 15013) % 2147483629 ∧ (j * 40009 + 15013) % 2147483629 < 2 ^ 64) := .inl (by omega)
    generalize hq : (j * 40009 + 15013) % 2147483629 = q at *
    unfold F__law_draw
    simp only [↓run, ↓List.length_cons, ↓List.length_nil, ↓List.map_cons, ↓List.map_nil, ↓ex, ↓rows, ↓ev, ↓evs, ↓bnd_ap, ↓ret_ap, ↓ask_ap, ↓rd_ap, ↓newC_ap, ↓newL, ↓unp_ap, ↓for_cons, ↓for_nil, small, BIG, ↓callF, ↓argsv, ↓fzs, ↓a1_d, ↓a1_c, ↓a1_p, potC, potOf,
    List.getElem?_cons_zero, List.getElem?_cons_succ, List.cons_append, List.nil_append, List.replicate, ↓reduceIte, mkX, ↓pl_n, ↓pl_1, ↓pl_21, FZ, ↓fz_d, ↓fz_c, ↓pk_d, ↓pk_c, ↓pks, ↓eq_str, innw, setPot, flatF, flatD, ↓seqOf, ↓rowsW, ↓rowsOf, ↓rowOf, ↓pinned, ↓pinC, ↓unpin, ↓setRow, ↓setT, List.set, ↓kindW, ↓kindD, ↓fldW, ↓getK, ↓blt, ↓binop, ↓eqW, ↓cmpop, ↓truth,
    beq_self_eq_true, Bool.not_true, Bool.not_false, Option.map_some, wbl, wstr, wint, List.all_cons, List.all_nil, Bool.and_self, List.zip_cons_cons, List.zip_nil_left, List.zip_nil_right, List.reverse_cons, List.reverse_nil, and_self, List.length_append,
    Bool.false_eq_true, decide_eq_true_eq, Nat.reduceLT, Nat.reduceAdd, Nat.zero_add, List.append_nil, reduceCtorEq, List.length_cons, List.length_nil, fin, outW, List.getElem?_nil, stuck, Nat.reduceEqDiff, Nat.succ_ne_zero, Nat.reduceLeDiff, Nat.le_refl, Nat.zero_le, true_and, and_true, ite_self, ↓t__law_draw, ↓argP, ↓argI, ↓idxW, ↓at0, ↓at1, hi, ↓setIdx, ↓unpW, h0, h1, Int.toNat_zero, Int.toNat_one, Int.reduceLT, Int.reduceToNat, Int.reduceLE, ↓if_pos c1, ↓if_pos c2, hq]
theorem pick (xs : List D) (h0 : 0 < xs.length) (h1 : xs.length ≤ 1000) (i j : Int) : ∃ x p q, x ∈ xs ∧ F__law_pick [.pot, .lst xs] (some (i, j)) = some (.ok (.d x) (some (p, q))) := by
  obtain ⟨r, p, q, hd, r0, r1⟩ := draw xs.length (by omega) (by omega) i j
  have f31 : (ws.gm g__law_draw).fn 31 = some F__law_draw := rfl
  have ha : atI (xs.map W.d) r = some (.d (xs[r.toNat]'(by omega))) := by
    rw [at_n _ _ r0 (by simpa using r1)]
    simp
  refine ⟨xs[r.toNat]'(by omega), p, q, List.getElem_mem _, ?_⟩
  unfold F__law_pick
  simp only [↓run, ↓List.length_cons, ↓List.length_nil, ↓List.map_cons, ↓List.map_nil, ↓ex, ↓rows, ↓ev, ↓evs, ↓bnd_ap, ↓ret_ap, ↓ask_ap, ↓rd_ap, ↓newC_ap, ↓newL, ↓unp_ap, ↓for_cons, ↓for_nil, small, BIG, ↓callF, ↓argsv, ↓fzs, ↓a1_d, ↓a1_c, ↓a1_p, potC, potOf,
    List.getElem?_cons_zero, List.getElem?_cons_succ, List.cons_append, List.nil_append, List.replicate, ↓reduceIte, mkX, ↓pl_n, ↓pl_1, ↓pl_21, FZ, ↓fz_d, ↓fz_c, ↓pk_d, ↓pk_c, ↓pks, ↓eq_str, innw, setPot, flatF, flatD, ↓seqOf, ↓rowsW, ↓rowsOf, ↓rowOf, ↓pinned, ↓pinC, ↓unpin, ↓setRow, ↓setT, List.set, ↓kindW, ↓kindD, ↓fldW, ↓getK, ↓blt, ↓binop, ↓eqW, ↓cmpop, ↓truth,
    beq_self_eq_true, Bool.not_true, Bool.not_false, Option.map_some, wbl, wstr, wint, List.all_cons, List.all_nil, Bool.and_self, List.zip_cons_cons, List.zip_nil_left, List.zip_nil_right, List.reverse_cons, List.reverse_nil, and_self, List.length_append,
    Bool.false_eq_true, decide_eq_true_eq, Nat.reduceLT, Nat.reduceAdd, Nat.zero_add, List.append_nil, reduceCtorEq, List.length_cons, List.length_nil, fin, outW, List.getElem?_nil, stuck, Nat.reduceEqDiff, Nat.succ_ne_zero, Nat.reduceLeDiff, Nat.le_refl, Nat.zero_le, true_and, and_true, ite_self, ↓t__law_pick, ↓argP, ↓argL, ↓f31, ↓lenW, List.length_map, hd, ↓idxW, ha]
/-- the values that are drawn -/
def vals (far : Int) (last : Str) : List D := [.non, .bl true, .bl false, .int 0, .int 1, .int (-1), .int far, .int (10 ^ 29), .int (-(10 ^ 29)), .str "", .str "a", .str "A", .str "z9", .str "0", .str "999999", .str "1000000",
  .str "abcdef", .str "abcdefg", .str "a b", .str " a", .str "a_", .str "a-b", .lst [], .lst [.str "a"], .tup [], .tup [.str "a", .str "b"], .dic [], .dic [(.inr "a", .int 1)], .lst [.non], .str "ab\n", .str "\nab", .str last]
def lasts : List D := [.str "ab", .str "12", .str "x1y2z3", .str "aB", .str "a.", .str "ab\n", .str "levels", .str "line"]
theorem p9 (m : Mem) : binop .Pow (.d (.int 10)) (.d (.int 9)) m = some (.ok (.d (.int 1000000000)) m) := rfl
theorem p8 (m : Mem) : binop .Pow (.d (.int 10)) (.d (.int 8)) m = some (.ok (.d (.int 100000000)) m) := rfl
theorem p29 (m : Mem) : binop .Pow (.d (.int 10)) (.d (.int 29)) m = some (.ok (.d (.int (10 ^ 29))) m) := rfl
theorem m5 (m : Mem) : binop .Mult (.d (.int 5)) (.d (.int 100000000)) m = some (.ok (.d (.int 500000000)) m) := rfl
theorem values (i j : Int) : ∃ far last p q, -500000000 ≤ far ∧ far < 500000000 ∧ D.str last ∈ lasts ∧ F__law_values [.pot] (some (i, j)) = some (.ok (.d (.lst (vals far last))) (some (p, q))) := by
  obtain ⟨r, p, q, hd, r0, r1⟩ := draw 1000000000 (by omega) (by omega) i j
  obtain ⟨x, p', q', hx, hp⟩ := pick lasts (by decide) (by decide) p q
  have f31 : (ws.gm g__law_pick).fn 31 = some F__law_draw := rfl
  have f32 : (ws.gm g__law_pick).fn 32 = some F__law_pick := rfl
  obtain ⟨z, rfl⟩ : ∃ z, x = .str z := by
    simp only [lasts, List.mem_cons, List.not_mem_nil, or_false] at hx
    rcases hx with rfl | rfl | rfl | rfl | rfl | rfl | rfl | rfl <;> exact ⟨_, rfl⟩
  refine ⟨r - 500000000, z, p', q', by omega, by omega, hx, ?_⟩
  have hp2 : F__law_pick [.pot, .lst [.str "ab", .str "12", .str "x1y2z3", .str "aB", .str "a.", .str "ab\n", .str "levels", .str "line"]] (some (p, q)) = some (.ok (.d (.str z)) (some (p', q'))) := hp
  unfold F__law_values vals
  simp only [↓run, ↓List.length_cons, ↓List.length_nil, ↓List.map_cons, ↓List.map_nil, ↓ex, ↓rows, ↓ev, ↓evs, ↓bnd_ap, ↓ret_ap, ↓ask_ap, ↓rd_ap, ↓newC_ap, ↓newL, ↓unp_ap, ↓for_cons, ↓for_nil, small, BIG, ↓callF, ↓argsv, ↓fzs, ↓a1_d, ↓a1_c, ↓a1_p, potC, potOf,
    List.getElem?_cons_zero, List.getElem?_cons_succ, List.cons_append, List.nil_append, List.replicate, ↓reduceIte, mkX, ↓pl_n, ↓pl_1, ↓pl_21, FZ, ↓fz_d, ↓fz_c, ↓pk_d, ↓pk_c, ↓pks, ↓eq_str, innw, setPot, flatF, flatD, ↓seqOf, ↓rowsW, ↓rowsOf, ↓rowOf, ↓pinned, ↓pinC, ↓unpin, ↓setRow, ↓setT, List.set, ↓kindW, ↓kindD, ↓fldW, ↓getK, ↓blt, ↓eqW, ↓cmpop, ↓truth,
    beq_self_eq_true, Bool.not_true, Bool.not_false, Option.map_some, wbl, wstr, wint, List.all_cons, List.all_nil, Bool.and_self, List.zip_cons_cons, List.zip_nil_left, List.zip_nil_right, List.reverse_cons, List.reverse_nil, and_self, List.length_append,
    Bool.false_eq_true, decide_eq_true_eq, Nat.reduceLT, Nat.reduceAdd, Nat.zero_add, List.append_nil, reduceCtorEq, List.length_cons, List.length_nil, fin, outW, List.getElem?_nil, stuck, Nat.reduceEqDiff, Nat.succ_ne_zero, Nat.reduceLeDiff, Nat.le_refl, Nat.zero_le, true_and, and_true, ite_self, ↓t__law_values, ↓argP, ↓f31, ↓f32, ↓p9, ↓p8, ↓p29, ↓m5, ↓b_sub, ↓b_add, hd, hp2, ↓csts, ↓keysD, ↓keyD, ↓fzk, ↓frzs, ↓rd_ap]
end KK
end U
set_option Elab.async false
set_option linter.all false
set_option maxRecDepth 100000
set_option maxHeartbeats 0
set_option autoImplicit false
namespace U
namespace KK
open PySem
theorem kn_0_ofNat (n : Nat) (i j : Int) : F__law_kinds_right [.lst (vals (.ofNat n) "ab")] (some (i, j)) = some (.ok (.d (.bl true)) (some (i, j))) := by
  kernel_rfl
theorem kn_0_negSucc (n : Nat) (i j : Int) : F__law_kinds_right [.lst (vals (.negSucc n) "ab")] (some (i, j)) = some (.ok (.d (.bl true)) (some (i, j))) := by
  kernel_rfl
theorem kn_1_ofNat (n : Nat) (i j : Int) : F__law_kinds_right [.lst (vals (.ofNat n) "12")] (some (i, j)) = some (.ok (.d (.bl true)) (some (i, j))) := by
  kernel_rfl
theorem kn_1_negSucc (n : Nat) (i j : Int) : F__law_kinds_right [.lst (vals (.negSucc n) "12")] (some (i, j)) = some (.ok (.d (.bl true)) (some (i, j))) := by
  kernel_rfl
theorem kn_2_ofNat (n : Nat) (i j : Int) : F__law_kinds_right [.lst (vals (.ofNat n) "x1y2z3")] (some (i, j)) = some (.ok (.d (.bl true)) (some (i, j))) := by
  kernel_rfl
theorem kn_2_negSucc (n : Nat) (i j : Int) : F__law_kinds_right [.lst (vals (.negSucc n) "x1y2z3")] (some (i, j)) = some (.ok (.d (.bl true)) (some (i, j))) := by
  kernel_rfl
theorem kn_3_ofNat (n : Nat) (i j : Int) : F__law_kinds_right [.lst (vals (.ofNat n) "aB")] (some (i, j)) = some (.ok (.d (.bl true)) (some (i, j))) := by
  kernel_rfl
theorem kn_3_negSucc (n : Nat) (i j : Int) : F__law_kinds_right [.lst (vals (.negSucc n) "aB")] (some (i, j)) = some (.ok (.d (.bl true)) (some (i, j))) := by
  kernel_rfl
theorem kn_4_ofNat (n : Nat) (i j : Int) : F__law_kinds_right [.lst (vals (.ofNat n) "a.")] (some (i, j)) = some (.ok (.d (.bl true)) (some (i, j))) := by
  kernel_rfl
theorem kn_4_negSucc (n : Nat) (i j : Int) : F__law_kinds_right [.lst (vals (.negSucc n) "a.")] (some (i, j)) = some (.ok (.d (.bl true)) (some (i, j))) := by
  kernel_rfl
theorem kn_5_ofNat (n : Nat) (i j : Int) : F__law_kinds_right [.lst (vals (.ofNat n) "ab\n")] (some (i, j)) = some (.ok (.d (.bl true)) (some (i, j))) := by
  kernel_rfl
theorem kn_5_negSucc (n : Nat) (i j : Int) : F__law_kinds_right [.lst (vals (.negSucc n) "ab\n")] (some (i, j)) = some (.ok (.d (.bl true)) (some (i, j))) := by
  kernel_rfl
theorem kn_6_ofNat (n : Nat) (i j : Int) : F__law_kinds_right [.lst (vals (.ofNat n) "levels")] (some (i, j)) = some (.ok (.d (.bl true)) (some (i, j))) := by
  kernel_rfl
theorem kn_6_negSucc (n : Nat) (i j : Int) : F__law_kinds_right [.lst (vals (.negSucc n) "levels")] (some (i, j)) = some (.ok (.d (.bl true)) (some (i, j))) := by
  kernel_rfl
theorem kn_7_ofNat (n : Nat) (i j : Int) : F__law_kinds_right [.lst (vals (.ofNat n) "line")] (some (i, j)) = some (.ok (.d (.bl true)) (some (i, j))) := by
  kernel_rfl
theorem kn_7_negSucc (n : Nat) (i j : Int) : F__law_kinds_right [.lst (vals (.negSucc n) "line")] (some (i, j)) = some (.ok (.d (.bl true)) (some (i, j))) := by
  kernel_rfl
theorem kinds (far : Int) (last : Str) (h : D.str last ∈ lasts) (i j : Int) : F__law_kinds_right [.lst (vals far last)] (some (i, j)) = some (.ok (.d (.bl true)) (some (i, j))) := by
  simp only [lasts, List.mem_cons, List.not_mem_nil, or_false, D.str.injEq] at h
  rcases h with rfl | rfl | rfl | rfl | rfl | rfl | rfl | rfl <;> cases far
  · exact kn_0_ofNat _ i j
  · exact kn_0_negSucc _ i j
  · exact kn_1_ofNat _ i j
  · exact kn_1_negSucc _ i j
  · exact kn_2_ofNat _ i j
  · exact kn_2_negSucc _ i j
  · exact kn_3_ofNat _ i j
  · exact kn_3_negSucc _ i j
  · exact kn_4_ofNat _ i j
  · exact kn_4_negSucc _ i j
  · exact kn_5_ofNat _ i j
  · exact kn_5_negSucc _ i j
  · exact kn_6_ofNat _ i j
  · exact kn_6_negSucc _ i j
  · exact kn_7_ofNat _ i j
  · exact kn_7_negSucc _ i j
/-- what can be shown -/
structure Sh (v : D) : Prop where
  np : notPot v = true
  aw : argW v = some (.d v)
  py : ∃ p, toPy 6 v = some p ∧ toPy 5 v = some p ∧ p.showable = true ∧ p.shown.length ≤ 1000
theorem Sh.rpr {v : D} (h : Sh v) : ∃ z, Rpr v z := by
  obtain ⟨p, h1, _, h3, h4⟩ := h.py
  refine ⟨p.shown, h.np, h.aw, ?_⟩
  unfold reprD
  rw [show FZ = 6 from rfl, h1]
  show (if (p.showable && small p.shown.length) = true then _ else _) = _
  rw [if_pos (by rw [h3]; show decide (_ < BIG) = true; exact decide_eq_true (Nat.lt_of_le_of_lt h4 (by decide)))]
theorem Sh.two {v w : D} (hv : Sh v) (hw : Sh w) : ∃ z, reprD (.lst [v, w]) = some z := by
  obtain ⟨p, _, p2, p3, p4⟩ := hv.py
  obtain ⟨q, _, q2, q3, q4⟩ := hw.py
  have e : toPy FZ (.lst [v, w]) = some (.list [p, q]) := by
    show (toPys (toPy 5) [v, w]).map PyData.list = _
    simp only [toPys, p2, q2, Option.map_some]
  refine ⟨(PyData.list [p, q]).shown, ?_⟩
  unfold reprD
  rw [e]
  show (if ((PyData.list [p, q]).showable && small (PyData.list [p, q]).shown.length) = true then _ else _) = _
  have s1 : (PyData.list [p, q]).showable = true := by simp only [PyData.showable, PyData.showableAll, p3, q3, Bool.and_self]
  have s2 : (PyData.list [p, q]).shown.length ≤ 2100 := by
    simp only [PyData.shown, PyData.shownAll, listText, textFrom, Str.length_append]
    have c1 : ("[" : Str).length = 1 := by decide +kernel
    have c2 : ("]" : Str).length = 1 := by decide +kernel
    have c3 : (if 0 > 0 then ", " else "" : String) = "" := rfl
    have c4 : (if 0 + 1 > 0 then ", " else "" : String) = ", " := rfl
    have c5 : ("" : Str).length = 0 := by decide +kernel
    have c6 : (", " : Str).length = 2 := by decide +kernel
    rw [c3, c4, c1, c2, c5, c6]
    omega
  rw [if_pos (by rw [s1]; show decide (_ < BIG) = true; exact decide_eq_true (Nat.lt_of_le_of_lt s2 (by decide)))]
theorem sh_int (far : Int) (h0 : -500000000 ≤ far) (h1 : far < 500000000) : Sh (.int far) := by
  have a : far.natAbs < 10 ^ 9 := by omega
  have l : far.natAbs.log2 < 1920 := by
    by_cases z : far.natAbs = 0
    · rw [z]; decide +kernel
    · exact Nat.lt_of_lt_of_le ((Nat.log2_lt z).mpr (show far.natAbs < 2 ^ 30 by omega)) (by decide)
  refine ⟨rfl, rfl, .int far, rfl, rfl, decide_eq_true l, ?_⟩
  show (Str.ofString (toString far)).length ≤ 1000
  have e := int_text_length_le10 (k := 9) (by decide) a
  rw [ofString_length]
  omega
theorem sh_vals (far : Int) (last : Str) (h0 : -500000000 ≤ far) (h1 : far < 500000000) (h : D.str last ∈ lasts) : ∀ v ∈ vals far last, Sh v := by
  intro v hv
  have cl : ∀ s : Str, (reprText s).length ≤ 1000 → Sh (.str s) := fun s hs => ⟨rfl, rfl, .str s, rfl, rfl, rfl, hs⟩
  simp only [vals, List.mem_cons, List.not_mem_nil, or_false] at hv
  rcases hv with rfl | rfl | rfl | rfl | rfl | rfl | rfl | rfl | rfl | rfl | rfl | rfl | rfl | rfl | rfl | rfl | rfl | rfl | rfl | rfl | rfl | rfl | rfl | rfl | rfl | rfl | rfl | rfl | rfl | rfl | rfl | rfl
  all_goals first
    | exact sh_int far h0 h1
    | exact ⟨rfl, rfl, _, rfl, rfl, by decide +kernel, by decide +kernel⟩
    | skip
  simp only [lasts, List.mem_cons, List.not_mem_nil, or_false, D.str.injEq] at h
  rcases h with rfl | rfl | rfl | rfl | rfl | rfl | rfl | rfl <;> exact ⟨rfl, rfl, _, rfl, rfl, by decide +kernel, by decide +kernel⟩

def bodyR : T := (.seq (.par [3, 4] (.cons (.call 32 (.cons (.var 0) (.cons (.var 1) .nil)) [] .nil) (.cons (.call 32 (.cons (.var 0) (.cons (.var 1) .nil)) [] .nil) .nil))) (.iff (.or (.not (.call 37 (.cons (.var 3) .nil) [] .nil)) (.or (.not (.call 38 (.cons (.var 3) .nil) [] .nil)) (.not (.call 39 (.cons (.var 3) (.cons (.var 4) .nil)) [] .nil)))) (.ret (.cst (.bl false))) .skip))
theorem right_eq : t__law_right = (.seq (.set 1 (.call 33 (.cons (.var 0) .nil) [] .nil)) (.seq (.iff (.or (.not (.call 35 (.cons (.var 1) .nil) [] .nil)) (.not (.call 41 .nil [] .nil))) (.ret (.cst (.bl false))) .skip) (.seq (.for_ (.nm 2) (.rng1 (.cst (.int 6))) bodyR) (.ret (.cst (.bl true)))))) := rfl
theorem fl_if (v : D) (m : Mem) : (if flatF (.d v) = true then m else m) = m := ite_self m
theorem turn (far : Int) (last : Str) (h0 : -500000000 ≤ far) (h1 : far < 500000000) (h : D.str last ∈ lasts) (i j : Int) (a b c : Option W) : ∃ p q a' b', ex (ws.gm g__law_apart_right) bodyR
    [some (.c 0), some (.d (.lst (vals far last))), c, a, b] [.lst [.d (.int i), .d (.int j)]] = some (.ok (.next, [some (.c 0), some (.d (.lst (vals far last))), c, a', b']) [.lst [.d (.int p), .d (.int q)]]) := by
  obtain ⟨v, p1, q1, hv, e1⟩ := pick (vals far last) (by simp [vals]) (by simp [vals]) i j
  obtain ⟨w, p2, q2, hw, e2⟩ := pick (vals far last) (by simp [vals]) (by simp [vals]) p1 q1
  have sv := sh_vals far last h0 h1 h v hv
  have sw := sh_vals far last h0 h1 h w hw
  obtain ⟨z1, r1⟩ := sv.rpr
  obtain ⟨z2, r2⟩ := sw.rpr
  obtain ⟨z3, r3⟩ := Sh.two sv sw
  have k1 := valued v z1 r1 p2 q2
  have k2 := placed_ v z1 r1 p2 q2
  have k3 := two v w z1 z2 z3 r1 r2 r3 p2 q2
  have f32 : (ws.gm g__law_apart_right).fn 32 = some F__law_pick := rfl
  have f37 : (ws.gm g__law_apart_right).fn 37 = some F__law_valued_right := rfl
  have f38 : (ws.gm g__law_apart_right).fn 38 = some F__law_placed_right := rfl
  have f39 : (ws.gm g__law_apart_right).fn 39 = some F__law_two_right := rfl
  refine ⟨p2, q2, some (.d v), some (.d w), ?_⟩
  simp only [↓run, ↓List.length_cons, ↓List.length_nil, ↓List.map_cons, ↓List.map_nil, ↓ex, ↓rows, ↓ev, ↓evs, ↓bnd_ap, ↓ret_ap, ↓ask_ap, ↓rd_ap, ↓newC_ap, ↓newL, ↓unp_ap, ↓for_cons, ↓for_nil, small, BIG, ↓callF, ↓argsv, ↓fzs, ↓a1_d, ↓a1_c, ↓a1_p, potC, potOf,
    List.getElem?_cons_zero, List.getElem?_cons_succ, List.cons_append, List.nil_append, List.replicate, ↓reduceIte, mkX, ↓pl_n, ↓pl_1, ↓pl_21, FZ, ↓fz_d, ↓fz_c, ↓pk_d, ↓pk_c, ↓pks, ↓eq_str, innw, setPot, flatF, flatD, ↓seqOf, ↓rowsW, ↓rowsOf, ↓rowOf, ↓pinned, ↓pinC, ↓unpin, ↓setRow, ↓setT, List.set, ↓kindW, ↓kindD, ↓fldW, ↓getK, ↓blt, ↓binop, ↓eqW, ↓cmpop, ↓truth,
    beq_self_eq_true, Bool.not_true, Bool.not_false, Option.map_some, wbl, wstr, wint, List.all_cons, List.all_nil, Bool.and_self, List.zip_cons_cons, List.zip_nil_left, List.zip_nil_right, List.reverse_cons, List.reverse_nil, and_self, List.length_append,
    Bool.false_eq_true, decide_eq_true_eq, Nat.reduceLT, Nat.reduceAdd, Nat.zero_add, List.append_nil, reduceCtorEq, List.length_cons, List.length_nil, fin, outW, List.getElem?_nil, stuck, Nat.reduceEqDiff, Nat.succ_ne_zero, Nat.reduceLeDiff, Nat.le_refl, Nat.zero_le, true_and, and_true, ite_self, ↓bodyR, ↓fl_if, ↓f32, ↓f37, ↓f38, ↓f39, e1, e2, k1, k2, k3]
theorem turns (far : Int) (last : Str) (h0 : -500000000 ≤ far) (h1 : far < 500000000) (h : D.str last ∈ lasts) : ∀ (rs : List (List W)), (∀ r ∈ rs, ∃ c, r = [c]) → ∀ (i j : Int) (a b c : Option W), ∃ p q a' b' c', forLoop (fun r env => ex (ws.gm g__law_apart_right) bodyR (setRow (.nm 2) r env)) rs
    [some (.c 0), some (.d (.lst (vals far last))), c, a, b] [.lst [.d (.int i), .d (.int j)]] = some (.ok (.next, [some (.c 0), some (.d (.lst (vals far last))), c', a', b']) [.lst [.d (.int p), .d (.int q)]])
  | [], _, i, j, a, b, c => ⟨i, j, a, b, c, rfl⟩
  | r :: rs, hr, i, j, a, b, c => by
    obtain ⟨x, rfl⟩ := hr r (List.mem_cons_self ..)
    obtain ⟨p, q, a1, b1, e⟩ := turn far last h0 h1 h i j a b (some x)
    obtain ⟨p2, q2, a2, b2, c2, e2⟩ := turns far last h0 h1 h rs (fun r hm => hr r (List.mem_cons_of_mem _ hm)) p q a1 b1 (some x)
    refine ⟨p2, q2, a2, b2, c2, ?_⟩
    rw [for_cons, bnd_ap]
    simp only [setRow, setT, List.set]
    rw [e]
    exact e2
theorem right : Always F__law_right := by
  intro i j
  obtain ⟨far, last, p, q, h0, h1, h2, e1⟩ := values i j
  have k := kinds far last h2 p q
  have a : F__law_apart_right [] (some (p, q)) = some (.ok (.d (.bl true)) (some (p, q))) := by kernel_rfl
  obtain ⟨p2, q2, a2, b2, c2, e2⟩ := turns far last h0 h1 h2 (rangeR 0 6) (by simp [rangeR]) p q none none none
  have f33 : (ws.gm g__law_apart_right).fn 33 = some F__law_values := rfl
  have f35 : (ws.gm g__law_apart_right).fn 35 = some F__law_kinds_right := rfl
  have f41 : (ws.gm g__law_apart_right).fn 41 = some F__law_apart_right := rfl
  have t6 : (if -(BIG : Int) < 6 ∧ (6 : Int) < BIG then some ((none : Option Nat), rangeR 0 (6 : Int).toNat) else none) = some (none, rangeR 0 6) := rfl
  simp only [setRow] at e2
  refine ⟨some (p2, q2), ?_⟩
  unfold F__law_right
  simp only [↓run, ↓List.length_cons, ↓List.length_nil, ↓List.map_cons, ↓List.map_nil, ↓ex, ↓rows, ↓ev, ↓evs, ↓bnd_ap, ↓ret_ap, ↓ask_ap, ↓rd_ap, ↓newC_ap, ↓newL, ↓unp_ap, ↓for_cons, ↓for_nil, small, ↓callF, ↓argsv, ↓fzs, ↓a1_d, ↓a1_c, ↓a1_p, potC, potOf,
    List.getElem?_cons_zero, List.getElem?_cons_succ, List.cons_append, List.nil_append, List.replicate, ↓reduceIte, mkX, ↓pl_n, ↓pl_1, ↓pl_21, FZ, ↓fz_d, ↓fz_c, ↓pk_d, ↓pk_c, ↓pks, ↓eq_str, innw, setPot, flatF, flatD, ↓seqOf, ↓rowsW, ↓rowsOf, ↓rowOf, ↓pinned, ↓pinC, ↓unpin, ↓setRow, ↓setT, List.set, ↓kindW, ↓kindD, ↓fldW, ↓getK, ↓blt, ↓binop, ↓eqW, ↓cmpop, ↓truth,
    beq_self_eq_true, Bool.not_true, Bool.not_false, Option.map_some, wbl, wstr, wint, List.all_cons, List.all_nil, Bool.and_self, List.zip_cons_cons, List.zip_nil_left, List.zip_nil_right, List.reverse_cons, List.reverse_nil, and_self, List.length_append,
    Bool.false_eq_true, decide_eq_true_eq, Nat.reduceLT, Nat.reduceAdd, Nat.zero_add, List.append_nil, reduceCtorEq, List.length_cons, List.length_nil, fin, outW, List.getElem?_nil, stuck, Nat.reduceEqDiff, Nat.succ_ne_zero, Nat.reduceLeDiff, Nat.le_refl, Nat.zero_le, true_and, and_true, ite_self, ↓right_eq, ↓argP, ↓f33, ↓f35, ↓f41, e1, k, a, ↓tgN, t6, e2]
end KK
end U
set_option Elab.async false
set_option linter.all false
set_option maxRecDepth 100000
set_option maxHeartbeats 0
set_option autoImplicit false
/-! The end of law_k10_errors_and_kinds_of_values (printed by gen2.py). -/
namespace U
namespace KK
open PySem L2 PySem.Spec PyProof.Rows
theorem kept {w : World} {K : PySem.W.Frag} {mg : Str → Option Value} {h : Heap} {fa : Addr} (X : K.In h) (G : h.Ns mainGlobals mg) (c : SaysX ws.xb fn K) (hl : mg "law" = some (.ref fa)) :
    ∃ fd : FuncData, (∀ u : Value, bindArgs fd ⟨[u], []⟩ = pure [(("_law_script" : Str), u)]) ∧ ∀ base : Heap, K.In base → base.Ns mainGlobals mg → FnG (PySem.Challenge.rw_uplines_k10_errors_and_kinds_of_values).prog w K mg base (L2.CX (PySem.Challenge.rw_uplines_k10_errors_and_kinds_of_values).prog w) 18 fa fd ["_law_script"] (spLaw K) := by
  have T := ft_of c.own
  obtain ⟨fdP, FP⟩ := c.fun_ (i := 0) (x := d__law_pot) rfl
  obtain ⟨fd, FL⟩ := c.fun_ (i := 1) (x := d_law) rfl
  have FP1 : FunD K "_law_pot" "_law_pot" (defArgs s__law_pot) (defBody s__law_pot) (defScope s__law_pot) [] [] (He.ga K "_law_pot") fdP := FP
  have FL1 : FunD K "law" "law" (defArgs s_law) (defBody s_law) (defScope s_law) [] [] (He.ga K "law") fd := FL
  have mL : mg "law" = some (.ref (He.ga K "law")) := PySem.W.mg_of X G (T.gl2 "law" (by decide))
  have mP : mg "_law_pot" = some (.ref (He.ga K "_law_pot")) := PySem.W.mg_of X G (T.gl2 "_law_pot" (by decide))
  have mR : mg "_law_right" = some (.ref (He.ga K "_law_right")) := PySem.W.mg_of X G (T.gl2 "_law_right" (by decide))
  obtain rfl : He.ga K "law" = fa := by
    rw [mL] at hl
    injection hl with hl
    injection hl
  have bP : BindsAs "_law_pot" "_law_pot" (defArgs s__law_pot) (defBody s__law_pot) (defScope s__law_pot) ["_law_script", "_law_k"] 0 2 [] [] := fun _ _ _ _ _ _ us ws h1 h2 xs h0 => match xs, us, ws, h0, h1, h2 with
    | [], [u0, u1], [], _, _, _ => rfl
  have bL : BindsAs "law" "law" (defArgs s_law) (defBody s_law) (defScope s_law) ["_law_script"] 0 1 [] [] := fun _ _ _ _ _ _ us ws h1 h2 xs h0 => match xs, us, ws, h0, h1, h2 with
    | [], [u0], [], _, _, _ => rfl
  have no : ∀ x : Str, ws.bl.contains x = true → mg x = none := fun x hx => PySem.W.mg_none_of X G (T.bl x hx)
  refine ⟨fd, fun u => FunD.bnd FL1 bL [] [u] [] rfl rfl rfl, fun base _ _ => ?_⟩
  have PP : FnG (PySem.Challenge.rw_uplines_k10_errors_and_kinds_of_values).prog w K mg base (L2.CX (PySem.Challenge.rw_uplines_k10_errors_and_kinds_of_values).prog w) 1 (He.ga K "_law_pot") fdP ["_law_script", "_law_k"] (spPot K) :=
    fn_pot (e1 := pot1 17) (e3 := pot3 2147483497 31 2147483543) T ws_ok X G FP1 (FnScope.mk rfl rfl rfl (by decide +kernel) rfl (by decide +kernel) (by decide +kernel)) (by kernel_rfl) (by kernel_rfl) (fun _ => rfl) (by decide +kernel) (by decide +kernel) (by decide +kernel) (by decide +kernel) (by decide +kernel) (by decide +kernel) (by decide +kernel)
      (fun k _ _ => ev_pot1 _ _ k) (fun k i k0 k1 => ev_pot3 _ _ _ _ (by decide) (by decide) (by decide) k i k0 k1)
  obtain ⟨fdR, kR, bR, PR⟩ := last (base := base) T X G c (chain T X G c)
  refine fn_law (t := ws) (k := 16) FL1 (FnScope.mk rfl rfl rfl (by decide +kernel) rfl (by decide +kernel) (by decide +kernel)) X G (no _ (by decide +kernel)) (no _ (by decide +kernel)) mP mR (by decide +kernel) (by decide +kernel) (by decide +kernel) (by decide +kernel) (by decide +kernel) (by decide +kernel) (by decide +kernel) (by decide +kernel) PP PR FP1.kp kR
    (fun us hus => FunD.bnd FP1 bP [] us [] rfl hus rfl) bR right (by rfl) ?_
  intro Z h1 h2 h3 h4 h5 h6 h7 h8
  refine turns_a h3 h8 (by rw [h6]; rfl) (by rw [h7]; decide +kernel) (by rw [h7]; decide +kernel) (by rw [h4]; exact no _ (by decide +kernel)) (by rw [h4]; exact no _ (by decide +kernel)) (by rw [h4]; exact no _ (by decide +kernel)) (by decide) (by decide)
end KK
end U
open PySem PySem.W PySem.Calls PyProof.Rows
set_option maxRecDepth 100000 in
set_option maxHeartbeats 0 in
theorem PySem.Challenge.cw_uplines_k10_errors_and_kinds_of_values_holds : PySem.Challenge.rw_uplines_k10_errors_and_kinds_of_values.Holds := by
  w_on
  o_law
  refine HandSHeadRun.head_any (r := U.KK.R) (q := view U.KK.R.prog [55]) (H := U.KK.hk) (ob := U.obX 5 U.KK.ws.xb U.KK.fn) (M := 20000) (loose := U.KK.loose) (d := HandSHeadRun.topDef U.KK.R.prog 55) (kwd := []) U.obX_eq
    (by kernel_rfl) (fun s => by kernel_rfl) U.KK.head (by kernel_rfl) (by kernel_rfl) (by kernel_rfl) (by rfl) (by first | assumption | decide +kernel) (by decide +kernel) ⟨rfl, rfl, rfl, rfl, rfl, by decide +kernel⟩ ?hw ?hc
  case hw => w_witness2
  case hc =>
    refine U.walk_end (l := PySem.Challenge.rw_uplines_k10_errors_and_kinds_of_values) (k := 18) (x := "_law_script") rfl (by kernel_rfl) ⟨rfl, by decide, by decide⟩ ?F
    rintro w mg fa h ⟨⟨K, KX, c⟩, om, e1, e2⟩ G hm
    have hm1 : mg ("law" : PySem.Str) = some (.ref fa) := by
      have e : (HandSHeadRun.topDef U.KK.R.prog 55).name = ("law" : PySem.Str) := by kernel_rfl
      exact e ▸ hm
    obtain ⟨fd, hb, hF⟩ := U.KK.kept (w := w) KX G c hm1
    exact ⟨K, fd, om, KX, (U.ft_of c.own).nsy, e1, e2, hb, hF⟩
