import PyProof.Rows.All
import Wide.All
import OpenK.AllK
import Wide.FinOn
import HandS.ForMost
import HandS.Exc
import HandS.Wide
import HandS.WideBits
import HandS.Deep
import HandS.TupAny
import HandS.Flow
import HandS.Small
import HandS.ExcOwn
import HandS.WordsExc
import HandS.TryOnly
import HandS.Style
import HandS.Conv
import HandS.SortInts
import HandS.Zip
import HandS.IsInst
import HandS.ExcIs
import HandS.ExcValue
import HandS.ExcField
import HandS.ExcInit
import KE.SortData
import HandS.TupSets
import HandS.TupLen
import HandS.Iter
import HandS.NoneIn
import HandS.Defaults
import HandS.Head0
import HandS.Head1
import HandS.Head2
import HandS.HeadEnd
import HandS.HeadHook1
import HandS.HeadHook2
import HandS.Words
import KE.IntBitsLaws
import PySem.Challenge.RW_beatnet_k27_refusals_made
set_option Elab.async false
set_option linter.all false
set_option maxRecDepth 100000
/-! PM, part a: the machine: values as trees, own cells, its syntax, its evaluator. -/
namespace PM
open PySem
/-- a value: data as trees; ref n: the n-th own cell -/
inductive U where
  | non | bl (b : Bool) | int (i : Int) | str (x : Str)
  | tup (l : List U) | lst (l : List U) | dct (k : Bool) (l : List (U × U)) | scr (l : List Int)
  | ref (n : Nat) | exn (c : Nat) (l : List U)
  deriving Inhabited
/-- what may be changed: a list, a dict (k: its keys are tuples), an instance -/
inductive Cell where
  | lst (l : List U) | dct (k : Bool) (l : List (U × U)) | ins (c : Nat) (fs : List (Nat × U))
  deriving Inhabited
abbrev G := List (Option Cell)
abbrev Ev := List (Option U)
/-- an error: its class, its field -/
structure Ex where
  cls : Nat
  fld : Option U
inductive Res (α : Type) where
  | ok (a : α) (g : G) | err (x : Ex) (g : G) | bad
def Res.bd {α β : Type} : Res α → (α → G → Res β) → Res β
  | .ok a g, f => f a g
  | .err x g, _ => .err x g
  | .bad, _ => .bad
mutual
/-- no own cell within -/
def U.flat : U → Bool
  | .tup l => flatL l
  | .lst l => flatL l
  | .dct _ l => flatD l
  | .exn _ l => flatL l
  | .ref _ => false
  | _ => true
def flatL : List U → Bool
  | [] => true
  | x :: r => x.flat && flatL r
def flatD : List (U × U) → Bool
  | [] => true
  | x :: r => flatP x && flatD r
def flatP : U × U → Bool
  | (a, b) => a.flat && b.flat
end
def gat (g : G) (n : Nat) : Option Cell := match g[n]? with
  | some (some c) => some c
  | _ => none
/-- the items of a list -/
def asL (g : G) : U → Option (List U)
  | .lst l => some l
  | .scr l => some (l.map U.int)
  | .ref n => (match gat g n with
    | some (.lst l) => some l
    | _ => none)
  | _ => none
def asD (g : G) : U → Option (Bool × List (U × U))
  | .dct k l => some (k, l)
  | .ref n => (match gat g n with
    | some (.dct k l) => some (k, l)
    | _ => none)
  | _ => none
def asS (g : G) : U → Option (List U)
  | .tup l => some l
  | u => asL g u
mutual
/-- Python's ==, over data -/
def U.eqv : U → U → Bool
  | .non, .non => true
  | .bl a, .bl b => a == b
  | .bl a, .int j => (if a then 1 else 0) == j
  | .int i, .bl b => i == (if b then 1 else 0)
  | .int i, .int j => i == j
  | .str x, .str y => x == y
  | .lst xs, .lst ys => eqvL xs ys
  | .tup xs, .tup ys => eqvL xs ys
  | _, _ => false
def eqvL : List U → List U → Bool
  | [], [] => true
  | x :: xs, y :: ys => U.eqv x y && eqvL xs ys
  | _, _ => false
end
mutual
/-- data that == takes: its depth under n -/
def U.shp : Nat → U → Bool
  | _, .non => true
  | _, .bl _ => true
  | _, .int _ => true
  | _, .str x => x.cps.all (· < 0x110000)
  | 0, _ => false
  | n + 1, .tup l => shpL n l
  | n + 1, .lst l => shpL n l
  | _, _ => false
def shpL : Nat → List U → Bool
  | _, [] => true
  | n, x :: r => U.shp n x && shpL n r
end
/-- a list cell as data -/
def deref (g : G) : U → U
  | .ref n => (match gat g n with
    | some (.lst l) => .lst l
    | _ => .ref n)
  | .scr l => .lst (l.map U.int)
  | u => u
/-! ### operators -/
def small64 (i : Int) : Bool := decide (-(2 ^ 64) < i) && decide (i < 2 ^ 64)
def mulOk (i j : Int) : Bool := small64 i || (small64 j || decide (i.natAbs.log2 + j.natAbs.log2 < 1000000))
def divOk (j : Int) : Bool := decide (0 < j) && decide (j.natAbs.log2 < 9000)
def powOk (i n : Int) : Bool := decide (0 ≤ n) && decide ((Builtin.Int.intBits i : Int) * n ≤ 2 ^ 27)
def line (n : Nat) : Bool := decide (n ≤ sizeLine)
def grd {α : Type} (b : Bool) (r : Res α) : Res α := match b with
  | true => r
  | false => .bad
def binU (g : G) : Operator → U → U → Res U
  | .Add, .int a, .int b => .ok (.int (a + b)) g
  | .Sub, .int a, .int b => .ok (.int (a - b)) g
  | .Mult, .int a, .int b => grd (mulOk a b) (.ok (.int (a * b)) g)
  | .FloorDiv, .int a, .int b => grd (divOk b) (.ok (.int (a / b)) g)
  | .Mod, .int a, .int b => grd (decide (0 < b)) (.ok (.int (a % b)) g)
  | .Pow, .int a, .int b => grd (powOk a b) (.ok (.int (a ^ b.toNat)) g)
  | .Add, .str a, .str b => grd (line (a.length + b.length)) (.ok (.str (a ++ b)) g)
  | .Add, .tup a, .tup b => grd (line (a.length + b.length)) (.ok (.tup (a ++ b)) g)
  | .Add, .lst a, .lst b => grd (line (a.length + b.length)) (.ok (.lst (a ++ b)) g)
  | .Add, .lst a, .ref n => (match gat g n with
    | some (.lst b) => grd (line (a.length + b.length)) (.ok (.lst (a ++ b)) g)
    | _ => .bad)
  | .Add, .ref n, .lst b => (match gat g n with
    | some (.lst a) => grd (line (a.length + b.length)) (.ok (.lst (a ++ b)) g)
    | _ => .bad)
  | .Add, .ref n, .ref m => (match gat g n, gat g m with
    | some (.lst a), some (.lst b) => grd (line (a.length + b.length)) (.ok (.lst (a ++ b)) g)
    | _, _ => .bad)
  | .Mult, .lst a, .int k => grd (decide (-(2 ^ 63) ≤ k) && (decide (k < 2 ^ 63) && line (a.length * k.toNat))) (.ok (.lst (List.replicate k.toNat a).flatten) g)
  | _, _, _ => .bad
/-- the keys of a dict that are alike: intsOf, texts, tuples of these (no truths) -/
def keyB : U → Bool
  | .int _ => true
  | .str _ => true
  | _ => false
def keyOk : Bool → U → Bool
  | false, u => keyB u
  | true, .tup l => l.all keyB
  | true, _ => false
/-- the worth of a key -/
def dLook (l : List (U × U)) (u : U) : Option U := (l.find? fun p => p.1.eqv u).map (·.2)
def dPut (l : List (U × U)) (k v : U) : List (U × U) := match l.any fun p => p.1.eqv k with
  | true => l.map fun p => match p.1.eqv k with
    | true => (p.1, v)
    | false => p
  | false => l ++ [(k, v)]
def dDrop (l : List (U × U)) (u : U) : List (U × U) := l.filter fun p => !p.1.eqv u
def scalU : U → Bool
  | .non => true
  | .bl _ => true
  | .int _ => true
  | .str _ => true
  | _ => false
/-- is an item equal to it -/
def memL (u : U) : List U → Bool
  | [] => false
  | x :: r => x.eqv u || memL u r
def isInt : U → Option Int
  | .int i => some i
  | _ => none
def cmpI (g : G) (f : Int → Int → Bool) (a b : U) : Res U := match a, b with
  | .int i, .int j => .ok (.bl (f i j)) g
  | _, _ => .bad
def lexLt : List Int → List Int → Bool
  | [], [] => false
  | [], _ :: _ => true
  | _ :: _, [] => false
  | x :: xs, y :: ys => if x = y then lexLt xs ys else decide (x < y)
def intsOf : List U → Option (List Int)
  | [] => some []
  | .int i :: r => (intsOf r).map (i :: ·)
  | _ => none
def eqU (g : G) (a b : U) : Option Bool := match a, b with
  | .str x, .str y => some (x == y)
  | .non, .str _ => some false
  | .str _, .non => some false
  | .int _, .str _ => some false
  | .str _, .int _ => some false
  | a, b => (match (deref g a).shp 60 && (deref g b).shp 60 with
    | true => some ((deref g a).eqv (deref g b))
    | false => none)
def inU (g : G) (a b : U) : Option Bool := match b with
  | .str y => (match a with
    | .str x => some (!(Builtin.Str.occurrences y x 0 y.length 1).isEmpty)
    | _ => none)
  | b => (match asD g b with
    | some (k, l) => (match keyOk k a with
      | true => some (dLook l a).isSome
      | false => none)
    | none => (match asS g b with
      | some l => (match scalU a && l.all scalU with
        | true => some (memL a l)
        | false => (match asL g b with
          | some l => (match a.shp 60 && shpL 59 l with
            | true => some (memL a l)
            | false => none)
          | none => none))
      | none => none))
def ob (g : G) (f : Bool → Bool) : Option Bool → Res U
  | some b => .ok (.bl (f b)) g
  | none => .bad
def isNon : U → Bool
  | .non => true
  | _ => false
def cmpU (g : G) : CmpOp → U → U → Res U
  | .Eq, a, b => ob g id (eqU g a b)
  | .NotEq, a, b => ob g not (eqU g a b)
  | .Lt, .tup a, .tup b => (match intsOf a, intsOf b with
    | some x, some y => .ok (.bl (lexLt x y)) g
    | _, _ => .bad)
  | .Lt, a, b => cmpI g (fun i j => decide (i < j)) a b
  | .LtE, a, b => cmpI g (fun i j => decide (i ≤ j)) a b
  | .Gt, a, b => cmpI g (fun i j => decide (j < i)) a b
  | .GtE, a, b => cmpI g (fun i j => decide (j ≤ i)) a b
  | .Is, a, .non => .ok (.bl (isNon a)) g
  | .IsNot, a, .non => .ok (.bl (!isNon a)) g
  | .In, a, b => ob g id (inU g a b)
  | .NotIn, a, b => ob g not (inU g a b)
  | _, _, _ => .bad
def truU (g : G) : U → Option Bool
  | .non => some false
  | .bl b => some b
  | .int i => some (i != 0)
  | .tup l => some (!l.isEmpty)
  | u => (match asL g u with
    | some l => some (!l.isEmpty)
    | none => none)
/-! ### subscripts, slices -/
/-- the place of an index among n -/
def ixOf (n : Nat) (i : Int) : Option Nat := if 0 ≤ i then (if i < n then some i.toNat else none) else if -(n : Int) ≤ i then some (i + n).toNat else none
def strIx (x : Str) : U → Option U
  | .int i => (match line x.length with
    | true => (ixOf x.length i).bind fun j => (x.cps.toList[j]?).map fun c => .str ⟨#[c]⟩
    | false => none)
  | _ => none
def seqIx (l : List U) : U → Option U
  | .int i => (ixOf l.length i).bind fun j => l[j]?
  | _ => none
def dctIx (t : Bool) (l : List (U × U)) (k : U) : Option U := match keyOk t k with
  | true => dLook l k
  | false => none
def ixU (g : G) (o k : U) : Option U := match o with
  | .str x => strIx x k
  | o => (match asD g o with
    | some (t, l) => dctIx t l k
    | none => (match asS g o with
      | some l => seqIx l k
      | none => none))
end PM
set_option maxRecDepth 100000
/-! PM, part b: the syntax and its evaluator. -/
namespace PM
open PySem
inductive Ty where
  | int | bool | str | list | tuple | dict | own (c : Nat) | ve
  deriving DecidableEq
/-- what type a value is of -/
inductive Tg where
  | non | int | bool | str | list | tuple | dict | exn (c : Nat)
  deriving DecidableEq
inductive Blt where
  | len | min | max | sorted | sum | all | any | int | str | list | tuple | abs | sset
  deriving DecidableEq
inductive Bm where
  | get | pop | index | join | startswith | replace | split | upper | values
  deriving DecidableEq
/-- methods that change their object, as statements -/
inductive Mt where
  | append | extend | reverse | clear | insert | update | pop | setdefault
  deriving DecidableEq
mutual
inductive E where
  | var (i : Nat)
  | non | bl (b : Bool) | int (i : Int) | str (x : Str)
  | gv (x : Nat)
  | bin (op : Operator) (a b : E) | neg (a : E)
  | not (a : E) | and (a b : E) | or (a b : E)
  | cmp (op : CmpOp) (a b : E) | chain (op op' : CmpOp) (a b c : E)
  | ite (c a b : E)
  | tup (es : Es) | lst (es : Es)
  | dct0 (k : Bool) | dct1 (k : Bool) (a b : E)
  | mk (e : E) | fz (e : E)
  | fld (c : Nat) (a : E) (f : Nat)
  | ix (a b : E) | sl (a lo hi : E) | rev (a : E) | no
  | call (f : Nat) (es : Es)
  | mth (f : Nat) (o : E) (es : Es)
  | new (c f : Nat) (es : Es)
  | xnew (c : Nat) (es : Es) | xfl (c : Nat) (a : E)
  | blt (b : Blt) (es : Es)
  | bm (m : Bm) (o : E) (es : Es)
  | lrg (a b : E) | trg (a : E)
  | isi (a : E) (ts : List Ty)
  | lc (own : List Nat) (tg : Pat) (it : It) (t : E) (elt : E)
inductive Es where
  | nil | cons (e : E) (r : Es)
inductive It where
  | seq (e : E) | rng1 (e : E) | rng2 (a b : E) | enum (e : E) | zip (a b : E) | items (e : E)
inductive Pat where
  | nm (i : Nat) | tup (ps : Ps)
inductive Ps where
  | nil | cons (p : Pat) (r : Ps)
end
/-- the tables: what globals are worth, what the defs do -/
structure Tb where
  gv : Nat → Option U
  cs : Nat → Bool
  fn : Nat → List U → G → Res U
/-! ### stores -/
mutual
def bindP (g : G) : Pat → U → Ev → Option Ev
  | .nm i, u, e => if i < e.length then some (e.set i (some u)) else none
  | .tup ps, u, e => (match asS g u with
    | some l => bindPs g ps l e
    | none => none)
def bindPs (g : G) : Ps → List U → Ev → Option Ev
  | .nil, [], e => some e
  | .cons p r, u :: us, e => (match bindP g p u e with
    | some e' => bindPs g r us e'
    | none => none)
  | _, _, _ => none
end
def wipeE (e : Ev) : List Nat → Ev
  | [] => e
  | v :: vs => (wipeE e vs).set v none
/-! ### slices -/
def clip (n : Nat) (i : Int) : Nat := if 0 ≤ i then min i.toNat n else (i + n).toNat
def ixc (n d : Nat) : Option Int → Nat
  | none => d
  | some i => clip n i
def cut {α : Type} (l : List α) (lo hi : Option Int) : List α := (l.drop (ixc l.length 0 lo)).take (ixc l.length l.length hi - ixc l.length 0 lo)
def optI : U → Option (Option Int)
  | .non => some none
  | .int i => some (some i)
  | _ => none
def slU (g : G) (o lo hi : U) : Res U := match optI lo, optI hi with
  | some a, some b => (match o with
    | .str x => grd (line x.length) (.ok (.str ⟨(cut x.cps.toList a b).toArray⟩) g)
    | .tup l => .ok (.tup (cut l a b)) g
    | o => (match asL g o with
      | some l => .ok (.lst (cut l a b)) g
      | none => .bad))
  | _, _ => .bad
/-! ### own cells -/
def fzU (g : G) (u : U) : Option (U × G) := match u with
  | .ref n => (match gat g n with
    | some (.lst l) => (match flatL l with
      | true => some (.lst l, g.set n none)
      | false => none)
    | some (.dct b l) => (match flatD l with
      | true => some (.dct b l, g.set n none)
      | false => none)
    | _ => none)
  | u => (match u.flat with
    | true => some (u, g)
    | false => none)
def mkU (g : G) : U → Res U
  | .lst l => .ok (.ref g.length) (g ++ [some (.lst l)])
  | .dct k l => .ok (.ref g.length) (g ++ [some (.dct k l)])
  | _ => .bad
/-! ### calls: the callee sees the cells of its arguments alone -/
def refsOf : List U → List Nat
  | [] => []
  | .ref n :: r => let q := refsOf r; if n ∈ q then q else n :: q
  | _ :: r => refsOf r
def Cell.flat : Cell → Bool
  | .lst l => flatL l
  | .dct _ l => flatD l
  | .ins _ fs => fs.all fun p => p.2.flat
def takeCells (g : G) : List Nat → Option G
  | [] => some []
  | n :: r => (match gat g n with
    | some c => (match c.flat with
      | true => (match takeCells g r with
        | some q => some (some c :: q)
        | none => none)
      | false => none)
    | none => none)
def renU (rs : List Nat) : U → U
  | .ref n => .ref (rs.idxOf n)
  | u => u
def okArg : U → Bool
  | .ref _ => true
  | u => u.flat
def putCells (g g1 : G) : Nat → List Nat → Option G
  | _, [] => some g
  | i, n :: r => (match gat g1 i with
    | some c => (match c.flat with
      | true => putCells (g.set n (some c)) g1 (i + 1) r
      | false => none)
    | none => none)
def backU (rs : List Nat) (g' g1 : G) (u : U) : Res U := match u with
  | .ref i => (match rs[i]? with
    | some n => .ok (.ref n) g'
    | none => (match gat g1 i with
      | some c => (match c.flat with
        | true => .ok (.ref g'.length) (g' ++ [some c])
        | false => .bad)
      | none => .bad))
  | u => (match u.flat with
    | true => .ok u g'
    | false => .bad)
def exFlat (x : Ex) : Bool := match x.fld with
  | some u => u.flat
  | none => true
def runSub (sem : List U → G → Res U) (us : List U) (g : G) : Res U :=
  let rs := refsOf us
  match us.all okArg, takeCells g rs with
  | true, some cs => (match sem (us.map (renU rs)) cs with
    | .ok u g1 => (match putCells g g1 0 rs with
      | some g' => backU rs g' g1 u
      | none => .bad)
    | .err x g1 => (match putCells g g1 0 rs with
      | some g' => grd (exFlat x) (.err x g')
      | none => .bad)
    | .bad => .bad)
  | _, _ => .bad
/-! ### built-in functions -/
def minL : List Int → Option Int
  | [] => none
  | [x] => some x
  | x :: r => (minL r).map fun m => if m < x then m else x
def maxL : List Int → Option Int
  | [] => none
  | [x] => some x
  | x :: r => (maxL r).map fun m => if x < m then m else x
def blsOf : List U → Option (List Bool)
  | [] => some []
  | .bl b :: r => (blsOf r).map (b :: ·)
  | _ => none
def oi (g : G) : Option Int → Res U
  | some i => .ok (.int i) g
  | none => .bad
/-- tuples of ints, none empty -/
def tupsOf : List U → Option (List (List Int))
  | [] => some []
  | .tup l :: r => (match intsOf l, tupsOf r with
    | some (i :: x), some y => some ((i :: x) :: y)
    | _, _ => none)
  | _ => none
def lexLe (a b : List Int) : Bool := !decide (b < a)
/-- pairs of ints from 0 to 63 -/
def prsOf : List U → Option (List (Int × Int))
  | [] => some []
  | .tup [.int x, .int y] :: r => (match decide (0 ≤ x) && (decide (x < 64) && (decide (0 ≤ y) && decide (y < 64))), prsOf r with
    | true, some q => some ((x, y) :: q)
    | _, _ => none)
  | _ => none
def prLe (a b : Int × Int) : Bool := decide (a.1 * 64 + a.2 ≤ b.1 * 64 + b.2)
/-- each once, rising -/
def ddp : List (Int × Int) → List (Int × Int)
  | [] => []
  | x :: r => if x ∈ r then ddp r else x :: ddp r
def prSet (l : List (Int × Int)) : List (Int × Int) := (ddp l).mergeSort prLe
def prU (p : Int × Int) : U := .tup [.int p.1, .int p.2]
def bltU (g : G) : Blt → List U → Res U
  | .len, [u] => (match u with
    | .str x => grd (line x.length) (.ok (.int x.length) g)
    | u => (match asS g u with
      | some l => .ok (.int l.length) g
      | none => (match asD g u with
        | some (_, l) => .ok (.int l.length) g
        | none => .bad)))
  | .min, [.int i, .int j] => .ok (.int (if j < i then j else i)) g
  | .max, [.int i, .int j] => .ok (.int (if j > i then j else i)) g
  | .min, [u] => (match asL g u with
    | some l => oi g ((intsOf l).bind minL)
    | none => .bad)
  | .max, [u] => (match asL g u with
    | some l => oi g ((intsOf l).bind maxL)
    | none => .bad)
  | .sum, [u] => (match asL g u with
    | some l => oi g ((intsOf l).map List.sum)
    | none => .bad)
  | .all, [u] => (match (asL g u).bind blsOf with
    | some l => .ok (.bl (l.all id)) g
    | none => .bad)
  | .any, [u] => (match (asL g u).bind blsOf with
    | some l => .ok (.bl (l.any id)) g
    | none => .bad)
  | .int, [.int i] => .ok (.int i) g
  | .int, [.bl b] => .ok (.int (if b then 1 else 0)) g
  | .abs, [.int i] => .ok (.int (if i < 0 then -i else i)) g
  | .list, [u] => (match asS g u with
    | some l => .ok (.lst l) g
    | none => .bad)
  | .tuple, [.tup l] => .ok (.tup l) g
  | .tuple, [u] => (match asL g u with
    | some l => .ok (.tup l) g
    | none => .bad)
  | .sorted, [u] => (match asL g u with
    | some l => (match intsOf l with
      | some x => .ok (.lst ((x.mergeSort (fun a b => decide (a ≤ b))).map U.int)) g
      | none => (match tupsOf l with
        | some x => .ok (.lst ((x.mergeSort lexLe).map fun t => .tup (t.map U.int))) g
        | none => .bad))
    | none => .bad)
  | .sset, [u] => (match asL g u with
    | some l => (match prsOf l with
      | some x => grd (decide (x.length < 64)) (.ok (.lst ((prSet x).map prU)) g)
      | none => .bad)
    | none => .bad)
  | _, _ => .bad
def tagU (g : G) : U → Option Tg
  | .non => some .non
  | .bl _ => some .bool
  | .int _ => some .int
  | .str _ => some .str
  | .tup _ => some .tuple
  | .lst _ => some .list
  | .dct _ _ => some .dict
  | .ref n => (match gat g n with
    | some (.lst _) => some .list
    | some (.dct _ _) => some .dict
    | _ => none)
  | .exn c _ => some (.exn c)
  | .scr _ => none
/-- is the class c one of d's -/
def subC (c d : Nat) : Bool := d == 0 || c == d
/-- the classes whose objects keep a field -/
def hasF (c : Nat) : Bool := c == 2 || (c == 7 || (c == 8 || c == 9))
def tgB : Tg → Ty → Bool
  | .bool, .bool => true
  | .bool, .int => true
  | .int, .int => true
  | .str, .str => true
  | .list, .list => true
  | .tuple, .tuple => true
  | .dict, .dict => true
  | _, _ => false
def oneT (cs : Nat → Bool) : Tg → Ty → Option Bool
  | .exn c, .own d => if cs c && cs d then some (subC c d) else none
  | .exn c, .ve => if cs c then some true else none
  | .exn _, _ => none
  | _, .own _ => none
  | _, .ve => none
  | t, y => some (tgB t y)
def anyT (cs : Nat → Bool) (t : Tg) : List Ty → Option Bool
  | [] => some false
  | y :: r => (match oneT cs t y with
    | some true => some true
    | some false => anyT cs t r
    | none => none)
def isiU (cs : Nat → Bool) (g : G) (u : U) (ts : List Ty) : Res U := match (tagU g u).bind fun t => anyT cs t ts with
  | some b => .ok (.bl b) g
  | none => .bad
/-- an exception made: what stands in its brackets -/
def xnU (c : Nat) (l : List U) : Option U := match hasF c, l with
  | true, [u] => some (.exn c [u])
  | false, [] => some (.exn c [])
  | _, _ => none
def xfU (c : Nat) : U → Option U
  | .exn d [u] => if c == d then some u else none
  | _ => none
def bmU (g : G) : Bm → U → List U → Res U
  | .get, o, [k] => (match asD g o with
    | some (t, l) => grd (keyOk t k) (.ok ((dLook l k).getD .non) g)
    | none => .bad)
  | .get, o, [k, d] => (match asD g o with
    | some (t, l) => grd (keyOk t k) (.ok ((dLook l k).getD d) g)
    | none => .bad)
  | .pop, .ref n, [.int i] => (match gat g n with
    | some (.lst l) => (match ixOf l.length i with
      | some j => (match l[j]? with
        | some u => .ok u (g.set n (some (.lst (l.eraseIdx j))))
        | none => .bad)
      | none => .bad)
    | some (.dct false l) => (match dLook l (.int i) with
      | some u => .ok u (g.set n (some (.dct false (dDrop l (.int i)))))
      | none => .bad)
    | _ => .bad)
  | _, _, _ => .bad
/-! ### expressions -/
def rngL (a b : Int) : List U := (List.range (b - a).toNat).map fun (i : Nat) => U.int (a + (i : Int))
def rngOk (a b : Int) : Bool := decide (-(2 ^ 62) ≤ a) && (decide (a < 2 ^ 62) && (decide (-(2 ^ 62) ≤ b) && decide (b < 2 ^ 62)))
def enumL : Nat → List U → List U
  | _, [] => []
  | i, x :: r => .tup [.int i, x] :: enumL (i + 1) r
def zipL : List U → List U → List U
  | x :: r, y :: q => .tup [x, y] :: zipL r q
  | _, _ => []
mutual
/-- the same, sign by sign -/
def U.same : U → U → Bool
  | .non, .non => true
  | .bl a, .bl b => a == b
  | .int a, .int b => a == b
  | .str a, .str b => a == b
  | .tup a, .tup b => sameL a b
  | .lst a, .lst b => sameL a b
  | .ref a, .ref b => a == b
  | .exn c a, .exn d b => c == d && sameL a b
  | _, _ => false
def sameL : List U → List U → Bool
  | [], [] => true
  | x :: r, y :: s => U.same x y && sameL r s
  | _, _ => false
end
/-- what is walked: its items; the cells that they are in -/
structure Wk where
  l : List U
  sr : List (Nat × List U)
/-- the cells that are walked are as they were -/
def stay (g : G) : List (Nat × List U) → Bool
  | [] => true
  | (n, l) :: r => (match gat g n with
    | some (.lst l') => sameL l' l
    | _ => false) && stay g r
def srcU (g : G) : U → List (Nat × List U)
  | .ref n => (match gat g n with
    | some (.lst l) => [(n, l)]
    | _ => [])
  | _ => []
/-- the turns of a comprehension -/
def lcGo (turn : U → G → Res (Option U)) (sr : List (Nat × List U)) : List U → List U → G → Res (List U)
  | [], acc, g => grd (stay g sr) (.ok acc g)
  | x :: r, acc, g => grd (stay g sr) ((turn x g).bd fun o g' => match o with
    | some u => grd (line (acc.length + 1)) (lcGo turn sr r (acc ++ [u]) g')
    | none => lcGo turn sr r acc g')
def noErr {α : Type} : Res α → Res α
  | .err _ _ => .bad
  | r => r
def tru (g : G) (x : U) : Res Bool := match truU g x with
  | some b => .ok b g
  | none => .bad
def tst (r : Res U) : Res Bool := r.bd fun x g => tru g x
/-- an int, for sure -/
def intR (r : Res U) : Res U := r.bd fun x g => match x with
  | .int i => .ok (.int i) g
  | _ => .bad
def noOr (lo : E) (g : G) (r : Res U) : Res U := match lo with
  | .no => .ok .non g
  | _ => intR r
mutual
def evE (T : Tb) : E → Ev → G → Res U
  | .var i, e, g => (match e[i]? with
    | some (some u) => .ok u g
    | _ => .bad)
  | .non, _, g => .ok .non g
  | .bl b, _, g => .ok (.bl b) g
  | .int i, _, g => .ok (.int i) g
  | .str x, _, g => .ok (.str x) g
  | .gv x, _, g => (match T.gv x with
    | some u => .ok u g
    | none => .bad)
  | .bin op a b, e, g => (evE T a e g).bd fun x g => (evE T b e g).bd fun y g => binU g op x y
  | .neg a, e, g => (evE T a e g).bd fun x g => match x with
    | .int i => .ok (.int (-i)) g
    | _ => .bad
  | .not a, e, g => (tst (evE T a e g)).bd fun b g => .ok (.bl (!b)) g
  | .and a b, e, g => (evE T a e g).bd fun x g => match truU g x with
    | some true => evE T b e g
    | some false => .ok x g
    | none => .bad
  | .or a b, e, g => (evE T a e g).bd fun x g => match truU g x with
    | some true => .ok x g
    | some false => evE T b e g
    | none => .bad
  | .cmp op a b, e, g => (evE T a e g).bd fun x g => (evE T b e g).bd fun y g => cmpU g op x y
  | .chain op op' a b c, e, g => (evE T a e g).bd fun x g => (evE T b e g).bd fun y g => (cmpU g op x y).bd fun r g => match r with
    | .bl true => (evE T c e g).bd fun z g => cmpU g op' y z
    | .bl false => .ok (.bl false) g
    | _ => .bad
  | .ite c a b, e, g => (tst (evE T c e g)).bd fun r g => match r with
    | true => evE T a e g
    | false => evE T b e g
  | .tup es, e, g => (evEs T es e g).bd fun l g => grd (line l.length) (.ok (.tup l) g)
  | .lst es, e, g => (evEs T es e g).bd fun l g => grd (line l.length) (.ok (.lst l) g)
  | .dct0 k, _, g => .ok (.dct k []) g
  | .dct1 k a b, e, g => (evE T a e g).bd fun x g => (evE T b e g).bd fun y g => grd (keyOk k x) (.ok (.dct k [(x, y)]) g)
  | .mk a, e, g => (evE T a e g).bd fun x g => mkU g x
  | .fz a, e, g => (evE T a e g).bd fun x g => match fzU g x with
    | some (u, g') => .ok u g'
    | none => .bad
  | .fld c a f, e, g => (evE T a e g).bd fun x g => match x with
    | .ref n => (match gat g n with
      | some (.ins c' fs) => .bad
      | _ => .bad)
    | _ => .bad
  | .ix a b, e, g => (evE T a e g).bd fun x g => (evE T b e g).bd fun y g => match ixU g x y with
    | some u => .ok u g
    | none => .bad
  | .sl a lo hi, e, g => (evE T a e g).bd fun x g => (noOr lo g (evE T lo e g)).bd fun y g => (noOr hi g (evE T hi e g)).bd fun z g => slU g x y z
  | .rev a, e, g => (evE T a e g).bd fun x g => match asL g x with
    | some l => .ok (.lst l.reverse) g
    | none => .bad
  | .no, _, g => .ok .non g
  | .call f es, e, g => (evEs T es e g).bd fun l g => runSub (T.fn f) l g
  | .mth f o es, e, g => .bad
  | .new c f es, e, g => .bad
  | .blt b es, e, g => (evEs T es e g).bd fun l g => bltU g b l
  | .bm m o es, e, g => (evE T o e g).bd fun x g => (evEs T es e g).bd fun l g => bmU g m x l
  | .lrg a b, e, g => (evE T a e g).bd fun x g => (evE T b e g).bd fun y g => match x, y with
    | .int i, .int j => grd (rngOk i j && line (j - i).toNat) (.ok (.lst (rngL i j)) g)
    | _, _ => .bad
  | .trg a, e, g => (evE T a e g).bd fun x g => match x with
    | .int j => grd (rngOk 0 j && line j.toNat) (.ok (.tup (rngL 0 j)) g)
    | _ => .bad
  | .isi a ts, e, g => (evE T a e g).bd fun x g => isiU T.cs g x ts
  | .xnew c es, e, g => (evEs T es e g).bd fun l g => match xnU c l with
    | some u => .ok u g
    | none => .bad
  | .xfl c a, e, g => (evE T a e g).bd fun x g => match xfU c x with
    | some u => .ok u g
    | none => .bad
  | .lc own tg it t elt, e, g => (evI T it e g).bd fun w g =>
      (noErr (lcGo (fun x g => match bindP g tg x (wipeE e own) with
        | some e' => (tst (evE T t e' g)).bd fun b g => match b with
          | true => (evE T elt e' g).bd fun u g => .ok (some u) g
          | false => .ok none g
        | none => .bad) w.sr w.l [] g)).bd fun r g => .ok (.lst r) g
def evEs (T : Tb) : Es → Ev → G → Res (List U)
  | .nil, _, g => .ok [] g
  | .cons a r, e, g => (evE T a e g).bd fun x g => (evEs T r e g).bd fun l g => .ok (x :: l) g
def evI (T : Tb) : It → Ev → G → Res Wk
  | .seq a, e, g => (evE T a e g).bd fun x g => match asS g x with
    | some l => .ok ⟨l, srcU g x⟩ g
    | none => .bad
  | .rng1 a, e, g => (evE T a e g).bd fun x g => match x with
    | .int j => grd (rngOk 0 j) (.ok ⟨rngL 0 j, []⟩ g)
    | _ => .bad
  | .rng2 a b, e, g => (evE T a e g).bd fun x g => (evE T b e g).bd fun y g => match x, y with
    | .int i, .int j => grd (rngOk i j) (.ok ⟨rngL i j, []⟩ g)
    | _, _ => .bad
  | .enum a, e, g => (evE T a e g).bd fun x g => match asL g x with
    | some l => .ok ⟨enumL 0 l, srcU g x⟩ g
    | none => .bad
  | .zip a b, e, g => (evE T a e g).bd fun x g => (evE T b e g).bd fun y g => match asL g x, asL g y with
    | some l, some r => .ok ⟨zipL l r, srcU g x ++ srcU g y⟩ g
    | _, _ => .bad
  | .items a, e, g => .bad
end
end PM
set_option maxRecDepth 100000
/-! PM, part c: statements. -/
namespace PM
open PySem
mutual
inductive S where
  | expr (e : E) | meth (m : Mt) (o : E) (es : Es)
  | set (p : Pat) (e : E) | setIx (o i e : E) | setFld (o : E) (f : Nat) (e : E)
  | aug (i : Nat) (op : Operator) (e : E) | augFld (o : E) (f : Nat) (op : Operator) (e : E)
  | ite (c : E) (a b : Ss)
  | for_ (p : Pat) (it : It) (b : Ss)
  | while_ (n : Nat) (c : E) (b : Ss)
  | ret (e : E) | ret0 | raise (c : Nat) (es : Es) | pass | brk | cont
  | try_ (b : Ss) (c i j : Nat)
inductive Ss where
  | nil | cons (s : S) (r : Ss)
end
inductive RS where
  | nx (e : Ev) (g : G) | rt (u : U) (g : G) | bk (e : Ev) (g : G) | ct (e : Ev) (g : G) | err (x : Ex) (e : Ev) (g : G) | bad
/-- an expression's end, in a statement -/
def Res.st {α : Type} : Res α → Ev → (α → G → RS) → RS
  | .ok a g, _, f => f a g
  | .err x g, e, _ => .err x e g
  | .bad, _, _ => .bad
def RS.sq : RS → (Ev → G → RS) → RS
  | .nx e g, f => f e g
  | .rt u g, _ => .rt u g
  | .bk e g, _ => .bk e g
  | .ct e g, _ => .ct e g
  | .err x e g, _ => .err x e g
  | .bad, _ => .bad
def setIxU (g : G) (o k v : U) : Option G := match o with
  | .ref n => (match gat g n with
    | some (.lst l) => (match k with
      | .int i => (match ixOf l.length i with
        | some j => some (g.set n (some (.lst (l.set j v))))
        | none => none)
      | _ => none)
    | some (.dct t l) => (match keyOk t k && line (l.length + 1) with
      | true => some (g.set n (some (.dct t (dPut l k v))))
      | false => none)
    | _ => none)
  | _ => none
def merge (l : List (U × U)) : List (U × U) → List (U × U)
  | [] => l
  | (k, v) :: r => merge (dPut l k v) r
def mtU (g : G) (m : Mt) (o : U) (l : List U) : Option G := match o with
  | .ref n => (match gat g n with
    | some (.lst xs) => (match m, l with
      | .append, [u] => if line (xs.length + 1) then some (g.set n (some (.lst (xs ++ [u])))) else none
      | .extend, [u] => (match u with
        | .scr _ => none
        | u => (match asL g u with
          | some ys => if line (xs.length + ys.length) then some (g.set n (some (.lst (xs ++ ys)))) else none
          | none => none))
      | .reverse, [] => some (g.set n (some (.lst xs.reverse)))
      | .clear, [] => some (g.set n (some (.lst [])))
      | _, _ => none)
    | some (.dct t xs) => (match m, l with
      | _, _ => none)
    | _ => none)
  | _ => none
/-- the turns of a for -/
def grdS (b : Bool) (r : RS) : RS := match b with
  | true => r
  | false => .bad
def forGo (p : Pat) (body : Ev → G → RS) (sr : List (Nat × List U)) : List U → Ev → G → RS
  | [], e, g => grdS (stay g sr) (.nx e g)
  | x :: r, e, g => grdS (stay g sr) (match bindP g p x e with
    | some e' => (match body e' g with
      | .nx e g => forGo p body sr r e g
      | .ct e g => forGo p body sr r e g
      | .bk e g => .nx e g
      | r => r)
    | none => .bad)
def whGo (c : Ev → G → Res Bool) (body : Ev → G → RS) : Nat → Ev → G → RS
  | 0, _, _ => .bad
  | n + 1, e, g => (c e g).st e fun b g => match b with
    | true => (match body e g with
      | .nx e g => whGo c body n e g
      | .ct e g => whGo c body n e g
      | .bk e g => .nx e g
      | r => r)
    | false => .nx e g
def raiseU (c : Nat) (l : List U) (e : Ev) (g : G) : RS := match hasF c, l with
  | true, [u] => .err ⟨c, some u⟩ e g
  | false, _ => .err ⟨c, none⟩ e g
  | _, _ => .bad
/-- a list cell -/
def isLC (g : G) (u : U) : Bool := match u with
  | .ref n => (match gat g n with
    | some (.lst _) => true
    | _ => false)
  | _ => false
mutual
def evS (T : Tb) : S → Ev → G → RS
  | .expr a, e, g => (evE T a e g).st e fun _ g => .nx e g
  | .meth m o es, e, g => (evE T o e g).st e fun x g => grdS (isLC g x) ((evEs T es e g).st e fun l g => match mtU g m x l with
    | some g' => .nx e g'
    | none => .bad)
  | .set p a, e, g => (evE T a e g).st e fun x g => match bindP g p x e with
    | some e' => .nx e' g
    | none => .bad
  | .setIx o i a, e, g => (evE T a e g).st e fun v g => (evE T o e g).st e fun x g => (evE T i e g).st e fun k g => match setIxU g x k v with
    | some g' => .nx e g'
    | none => .bad
  | .setFld o f a, e, g => .bad
  | .aug i op a, e, g => (match e[i]? with
    | some (some x) => (evE T a e g).st e fun y g => (binU g op x y).st e fun z g => .nx (e.set i (some z)) g
    | _ => .bad)
  | .augFld o f op a, e, g => .bad
  | .ite c a b, e, g => (tst (evE T c e g)).st e fun r g => match r with
    | true => evSs T a e g
    | false => evSs T b e g
  | .for_ p it b, e, g => (evI T it e g).st e fun w g => forGo p (evSs T b) w.sr w.l e g
  | .while_ n c b, e, g => whGo (fun e g => tst (evE T c e g)) (evSs T b) n e g
  | .ret a, e, g => (evE T a e g).st e fun u g => .rt u g
  | .ret0, e, g => .rt .non g
  | .raise c es, e, g => (evEs T es e g).st e fun l g => raiseU c l e g
  | .try_ b c i j, e, g => (match evSs T b e g with
    | .err x e g => (match T.cs x.cls && T.cs c with
      | true => (match subC x.cls c with
        | true => (match decide (i < e.length) && decide (j < e.length) with
          | true => .nx ((e.set j (some (.exn x.cls x.fld.toList))).set i none) g
          | false => .bad)
        | false => .err x e g)
      | false => .bad)
    | r => r)
  | .pass, e, g => .nx e g
  | .brk, e, g => .bk e g
  | .cont, e, g => .ct e g
def evSs (T : Tb) : Ss → Ev → G → RS
  | .nil, e, g => .nx e g
  | .cons s r, e, g => (evS T s e g).sq fun e g => evSs T r e g
end
/-- a def: how many slots, its body -/
def evD (T : Tb) (n : Nat) (b : Ss) (us : List U) (g : G) : Res U := match evSs T b (us.map some ++ List.replicate (n - us.length) none) g with
  | .nx _ g => .ok .non g
  | .rt u g => .ok u g
  | .err x _ g => .err x g
  | _ => .bad
end PM
set_option maxRecDepth 100000
set_option maxHeartbeats 1000000
/-! PM, part d: how the machine's state lies in the abstract heap. -/
namespace PM
open PySem PySem.Spec PyProof.Rows L2
/-- the text's part: classes, fields by number -/
structure Sg where
  K : PySem.W.Frag
  cls : Nat → Addr
  fld : Nat → Str
  xf : Nat → Str
/-- an exception that stands as a value -/
def exV (cls : Value) (a : Addr) (d : Option Addr) : HO := .ext fun h => ∃ (oe : Obj) (vs : Array Value), h.get? a = some oe ∧ Zc cls d oe ∧ oe.data = .fields vs
/-- where own cells stand; what is data for ever -/
structure Wd where
  φ : Nat → Option Addr
  F : Addr → Prop
def noHp : Hp := fun _ => none
def SqLF (K : PySem.W.Frag) (W : Wd) (H : Hp) (a : Addr) (vs : List V) : Prop := (W.F a ∧ Rd H a (.lst vs)) ∨ SqL K noHp a vs
theorem SqLF.sq {K W H a vs} (h : SqLF K W H a vs) : SqL K H a vs := by
  rcases h with ⟨_, h⟩ | h
  · exact .inl h
  · rcases h with (h | ⟨o, h⟩) | h
    · cases h
    · cases h
    · exact .inr h
def keyU : U → Option Key
  | .int i => some (.inl i)
  | .str x => some (.inr x)
  | _ => none
def keysU : List U → Option (List Key)
  | [] => some []
  | x :: r => (match keyU x, keysU r with
    | some k, some q => some (k :: q)
    | _, _ => none)
def keyT : U → Option (List Key)
  | .tup l => keysU l
  | _ => none
section
variable (K : Sg) (W : Wd) (H : Hp)
mutual
inductive RU : U → V → Prop where
  | non : RU .non .non
  | bl (b : Bool) : RU (.bl b) (.bl b)
  | int (i : Int) : RU (.int i) (.int i)
  | str (x : Str) : RU (.str x) (.str x)
  | tup {a : Addr} {us : List U} {vs : List V} : W.F a → H a = some (.tup vs) → RUs us vs → RU (.tup us) (.ref a)
  | lst {a : Addr} {us : List U} {vs : List V} : W.F a → H a = some (.lst vs) → RUs us vs → RU (.lst us) (.ref a)
  | dK {a : Addr} {us : List (U × U)} {vs : List (Key × V)} : W.F a → H a = some (.dK vs) → RUk us vs → RU (.dct false us) (.ref a)
  | dT {a : Addr} {us : List (U × U)} {vs : List (List Key × V)} : W.F a → H a = some (.dT vs) → RUt us vs → RU (.dct true us) (.ref a)
  | scr {a : Addr} {ns : List Int} : SqLF K.K W H a (ns.map V.int) → RU (.scr ns) (.ref a)
  | ref {n : Nat} {a : Addr} : W.φ n = some a → RU (.ref n) (.ref a)
  | ex0 {a c : Addr} : W.F a → H a = some (exV (.ref (K.cls c)) a none) → RU (.exn c []) (.ref a)
  | ex1 {a dd c : Addr} {u : U} {v : V} : W.F a → H a = some (exV (.ref (K.cls c)) a (some dd)) → W.F dd → H dd = some (.xd [(K.xf c, v)]) → RU u v → RU (.exn c [u]) (.ref a)
inductive RUs : List U → List V → Prop where
  | nil : RUs [] []
  | cons {u : U} {us : List U} {v : V} {vs : List V} : RU u v → RUs us vs → RUs (u :: us) (v :: vs)
inductive RUk : List (U × U) → List (Key × V) → Prop where
  | nil : RUk [] []
  | cons {k u : U} {us : List (U × U)} {q : Key} {v : V} {vs : List (Key × V)} : keyU k = some q → RU u v → RUk us vs → RUk ((k, u) :: us) ((q, v) :: vs)
inductive RUt : List (U × U) → List (List Key × V) → Prop where
  | nil : RUt [] []
  | cons {k u : U} {us : List (U × U)} {q : List Key} {v : V} {vs : List (List Key × V)} : keyT k = some q → RU u v → RUt us vs → RUt ((k, u) :: us) ((q, v) :: vs)
end
end
/-- an instance's fields -/
inductive RUf (g : Sg) (W : Wd) (H : Hp) : List (Nat × U) → List (Str × V) → Prop where
  | nil : RUf g W H [] []
  | cons {f : Nat} {u : U} {us : List (Nat × U)} {v : V} {vs : List (Str × V)} : RU g W H u v → RUf g W H us vs → RUf g W H ((f, u) :: us) ((g.fld f, v) :: vs)
def CellR (S : Sg) (W : Wd) (H : Hp) (a : Addr) : Cell → Prop
  | .lst us => ∃ vs, H a = some (.lst vs) ∧ RUs S W H us vs
  | .dct false us => ∃ vs, H a = some (.dK vs) ∧ RUk S W H us vs
  | .dct true us => ∃ vs, H a = some (.dT vs) ∧ RUt S W H us vs
  | .ins c fs => ∃ dx vs, H a = some (.ins (S.cls c) dx vs) ∧ RUf S W H fs vs
def own (W : Wd) (g : G) (a : Addr) : Prop := ∃ n c, gat g n = some c ∧ W.φ n = some a
structure HR (S : Sg) (W : Wd) (g : G) (H : Hp) : Prop where
  cell : ∀ n c, gat g n = some c → ∃ a, W.φ n = some a ∧ CellR S W H a c
  inj : ∀ n m c d a, gat g n = some c → gat g m = some d → W.φ n = some a → W.φ m = some a → n = m
  dis : ∀ a, own W g a → ¬ W.F a
  fz : ∀ a, W.F a → H a ≠ none
  tr : ∀ n a, W.φ n = some a → H a ≠ none
  bd : ∀ n a, W.φ n = some a → n < g.length
structure Ext (W : Wd) (g : G) (H : Hp) (W' : Wd) (g' : G) (H' : Hp) : Prop where
  φ : ∀ n a, W.φ n = some a → W'.φ n = some a
  F : ∀ a, W.F a → W'.F a
  keep : ∀ a o, H a = some o → ¬ own W g a → H' a = some o
  nF : ∀ a, W'.F a → W.F a ∨ own W g a ∨ H a = none
  nO : ∀ a, own W' g' a → own W g a ∨ H a = none
  tr : ∀ a, H a ≠ none → H' a ≠ none
  nφ : ∀ n a, W'.φ n = some a → W.φ n = some a ∨ H a = none
theorem Ext.refl {W g H} : Ext W g H W g H := ⟨fun _ _ h => h, fun _ h => h, fun _ _ h _ => h, fun _ h => .inl h, fun _ h => .inl h, fun _ h => h, fun _ _ h => .inl h⟩
theorem Ext.trans {W g H W1 g1 H1 W2 g2 H2} (a : Ext W g H W1 g1 H1) (b : Ext W1 g1 H1 W2 g2 H2) : Ext W g H W2 g2 H2 := by
  have back : ∀ x, ¬ own W g x → H1 x = none → H x = none := fun x no h => by
    cases e : H x with
    | none => rfl
    | some o =>
      have := a.keep x o e no
      rw [h] at this; cases this
  refine ⟨fun n x h => b.φ _ _ (a.φ _ _ h), fun x h => b.F _ (a.F _ h), fun x o h no => ?_, fun x h => ?_, fun x h => ?_, fun x h => b.tr x (a.tr x h), fun n x h => by
    rcases b.nφ n x h with z | z
    · exact a.nφ n x z
    · refine .inr ?_
      cases e : H x with
      | none => rfl
      | some o => exact absurd z (a.tr x (by rw [e]; exact fun q => nomatch q))⟩
  · refine b.keep x o (a.keep x o h no) fun h1 => ?_
    rcases a.nO x h1 with z | z
    · exact no z
    · rw [h] at z; cases z
  · by_cases ho : own W g x
    · exact .inr (.inl ho)
    · rcases b.nF x h with z | z | z
      · exact a.nF x z
      · exact .inr (a.nO x z)
      · exact .inr (.inr (back x ho z))
  · by_cases ho : own W g x
    · exact .inl ho
    · rcases b.nO x h with z | z
      · exact a.nO x z
      · exact .inr (back x ho z)
section
variable {K : Sg} {W W' : Wd} {g g' : G} {H H' : Hp}
theorem SqLF.mono {K : PySem.W.Frag} {a : Addr} {vs : List V} (no : ∀ a, W.F a → ¬ own W g a) (e : Ext W g H W' g' H') (h : SqLF K W H a vs) : SqLF K W' H' a vs := by
  rcases h with ⟨f, h | ⟨o, h⟩⟩ | h
  · exact .inl ⟨e.F _ f, .inl (e.keep _ _ h (no a f))⟩
  · exact .inl ⟨e.F _ f, .inr ⟨o, e.keep _ _ h (no a f)⟩⟩
  · exact .inr h
mutual
theorem RU.mono (no : ∀ a, W.F a → ¬ own W g a) (e : Ext W g H W' g' H') : ∀ {u : U} {v : V}, RU K W H u v → RU K W' H' u v
  | _, _, .non => .non
  | _, _, .bl b => .bl b
  | _, _, .int i => .int i
  | _, _, .str x => .str x
  | _, _, .tup f h r => .tup (e.F _ f) (e.keep _ _ h (no _ f)) (RUs.mono no e r)
  | _, _, .lst f h r => .lst (e.F _ f) (e.keep _ _ h (no _ f)) (RUs.mono no e r)
  | _, _, .dK f h r => .dK (e.F _ f) (e.keep _ _ h (no _ f)) (RUk.mono no e r)
  | _, _, .dT f h r => .dT (e.F _ f) (e.keep _ _ h (no _ f)) (RUt.mono no e r)
  | _, _, .scr h => .scr (h.mono no e)
  | _, _, .ref h => .ref (e.φ _ _ h)
  | _, _, .ex0 f h => .ex0 (e.F _ f) (e.keep _ _ h (no _ f))
  | _, _, .ex1 f h f2 h2 r => .ex1 (e.F _ f) (e.keep _ _ h (no _ f)) (e.F _ f2) (e.keep _ _ h2 (no _ f2)) (RU.mono no e r)
theorem RUs.mono (no : ∀ a, W.F a → ¬ own W g a) (e : Ext W g H W' g' H') : ∀ {u : List U} {v : List V}, RUs K W H u v → RUs K W' H' u v
  | _, _, .nil => .nil
  | _, _, .cons a r => .cons (RU.mono no e a) (RUs.mono no e r)
theorem RUk.mono (no : ∀ a, W.F a → ¬ own W g a) (e : Ext W g H W' g' H') : ∀ {u : List (U × U)} {v : List (Key × V)}, RUk K W H u v → RUk K W' H' u v
  | _, _, .nil => .nil
  | _, _, .cons q a r => .cons q (RU.mono no e a) (RUk.mono no e r)
theorem RUt.mono (no : ∀ a, W.F a → ¬ own W g a) (e : Ext W g H W' g' H') : ∀ {u : List (U × U)} {v : List (List Key × V)}, RUt K W H u v → RUt K W' H' u v
  | _, _, .nil => .nil
  | _, _, .cons q a r => .cons q (RU.mono no e a) (RUt.mono no e r)
end
theorem RUf.mono {S : Sg} (no : ∀ a, W.F a → ¬ own W g a) (e : Ext W g H W' g' H') : ∀ {u : List (Nat × U)} {v : List (Str × V)}, RUf S W H u v → RUf S W' H' u v
  | _, _, .nil => .nil
  | _, _, .cons a r => .cons (RU.mono no e a) (RUf.mono no e r)
end
section
variable {K : Sg} {W W' : Wd} {H : Hp}
mutual
theorem RU_more' (hφ : W'.φ = W.φ) (hF : ∀ a, W.F a → W'.F a) : ∀ {u : U} {v : V}, RU K W H u v → RU K W' H u v
  | _, _, .non => .non
  | _, _, .bl b => .bl b
  | _, _, .int i => .int i
  | _, _, .str x => .str x
  | _, _, .tup f h r => .tup (hF _ f) h (RUs_more' hφ hF r)
  | _, _, .lst f h r => .lst (hF _ f) h (RUs_more' hφ hF r)
  | _, _, .dK f h r => .dK (hF _ f) h (RUk_more' hφ hF r)
  | _, _, .dT f h r => .dT (hF _ f) h (RUt_more' hφ hF r)
  | _, _, .scr h => .scr (h.imp (fun z => ⟨hF _ z.1, z.2⟩) id)
  | _, _, .ref h => .ref (by rw [hφ]; exact h)
  | _, _, .ex0 f h => .ex0 (hF _ f) h
  | _, _, .ex1 f h f2 h2 r => .ex1 (hF _ f) h (hF _ f2) h2 (RU_more' hφ hF r)
theorem RUs_more' (hφ : W'.φ = W.φ) (hF : ∀ a, W.F a → W'.F a) : ∀ {u : List U} {v : List V}, RUs K W H u v → RUs K W' H u v
  | _, _, .nil => .nil
  | _, _, .cons a r => .cons (RU_more' hφ hF a) (RUs_more' hφ hF r)
theorem RUk_more' (hφ : W'.φ = W.φ) (hF : ∀ a, W.F a → W'.F a) : ∀ {u : List (U × U)} {v : List (Key × V)}, RUk K W H u v → RUk K W' H u v
  | _, _, .nil => .nil
  | _, _, .cons q a r => .cons q (RU_more' hφ hF a) (RUk_more' hφ hF r)
theorem RUt_more' (hφ : W'.φ = W.φ) (hF : ∀ a, W.F a → W'.F a) : ∀ {u : List (U × U)} {v : List (List Key × V)}, RUt K W H u v → RUt K W' H u v
  | _, _, .nil => .nil
  | _, _, .cons q a r => .cons q (RU_more' hφ hF a) (RUt_more' hφ hF r)
end
theorem RUf_more' {S : Sg} (hφ : W'.φ = W.φ) (hF : ∀ a, W.F a → W'.F a) : ∀ {u : List (Nat × U)} {v : List (Str × V)}, RUf S W H u v → RUf S W' H u v
  | _, _, .nil => .nil
  | _, _, .cons a r => .cons (RU_more' hφ hF a) (RUf_more' hφ hF r)
variable {F' : Addr → Prop}
theorem RU_more {u : U} {v : V} (hF : ∀ a, W.F a → F' a) (h : RU K W H u v) : RU K ⟨W.φ, F'⟩ H u v := RU_more' (W := W) (W' := ⟨W.φ, F'⟩) rfl hF h
theorem RUs_more {u : List U} {v : List V} (hF : ∀ a, W.F a → F' a) (h : RUs K W H u v) : RUs K ⟨W.φ, F'⟩ H u v := RUs_more' (W := W) (W' := ⟨W.φ, F'⟩) rfl hF h
theorem RUk_more {u : List (U × U)} {v : List (Key × V)} (hF : ∀ a, W.F a → F' a) (h : RUk K W H u v) : RUk K ⟨W.φ, F'⟩ H u v := RUk_more' (W := W) (W' := ⟨W.φ, F'⟩) rfl hF h
theorem RUt_more {u : List (U × U)} {v : List (List Key × V)} (hF : ∀ a, W.F a → F' a) (h : RUt K W H u v) : RUt K ⟨W.φ, F'⟩ H u v := RUt_more' (W := W) (W' := ⟨W.φ, F'⟩) rfl hF h
theorem RUf_more {S : Sg} {u : List (Nat × U)} {v : List (Str × V)} (hF : ∀ a, W.F a → F' a) (h : RUf S W H u v) : RUf S ⟨W.φ, F'⟩ H u v := RUf_more' (W := W) (W' := ⟨W.φ, F'⟩) rfl hF h
end
theorem HR.no {S : Sg} {W : Wd} {g : G} {H : Hp} (h : HR S W g H) : ∀ a, W.F a → ¬ own W g a := fun a f o => h.dis a o f
theorem HR.cellOk {S : Sg} {W : Wd} {g : G} {H : Hp} (h : HR S W g H) {n : Nat} {a : Addr} {c : Cell} (hn : gat g n = some c) (ha : W.φ n = some a) : CellR S W H a c := by
  obtain ⟨b, hb, r⟩ := h.cell n c hn
  rw [ha] at hb; cases hb; exact r
theorem CellR.mono {S : Sg} {W W' : Wd} {g g' : G} {H H' : Hp} (no : ∀ a, W.F a → ¬ own W g a) (e : Ext W g H W' g' H') {a : Addr} (ha : ∀ o, H a = some o → H' a = some o) : ∀ {c : Cell}, CellR S W H a c → CellR S W' H' a c
  | .lst us, ⟨vs, h, r⟩ => ⟨vs, ha _ h, r.mono no e⟩
  | .dct false us, ⟨vs, h, r⟩ => ⟨vs, ha _ h, r.mono no e⟩
  | .dct true us, ⟨vs, h, r⟩ => ⟨vs, ha _ h, r.mono no e⟩
  | .ins c fs, ⟨dx, vs, h, r⟩ => ⟨dx, vs, ha _ h, r.mono no e⟩
/-! ### gat -/
theorem gat_set {g : G} {n m : Nat} {c : Option Cell} (hn : n < g.length) : gat (g.set n c) m = if m = n then c else gat g m := by
  unfold gat
  by_cases h : m = n
  · subst h
    rw [List.getElem?_set_self hn, if_pos rfl]
    cases c <;> rfl
  · rw [List.getElem?_set_ne (Ne.symm h), if_neg h]
theorem gat_lt {g : G} {n : Nat} {c : Cell} (h : gat g n = some c) : n < g.length := by
  unfold gat at h
  by_cases hn : n < g.length
  · exact hn
  · rw [List.getElem?_eq_none (by omega)] at h; cases h
theorem gat_push {g : G} {m : Nat} {c : Cell} : gat (g ++ [some c]) m = if m = g.length then some c else gat g m := by
  unfold gat
  by_cases h : m = g.length
  · subst h
    rw [List.getElem?_append_right (Nat.le_refl _), Nat.sub_self, if_pos rfl]
    rfl
  · rw [if_neg h]
    by_cases h2 : m < g.length
    · rw [List.getElem?_append_left h2]
    · rw [List.getElem?_eq_none (by simp; omega), List.getElem?_eq_none (by omega)]
/-! ### the steps of the state -/
section
variable {S : Sg} {W : Wd} {g : G} {H : Hp}
/-- a new object that is data -/
theorem ext_new {p : Addr} {o : HO} (hr : HR S W g H) (hp : H p = none) : Ext W g H ⟨W.φ, fun a => W.F a ∨ a = p⟩ g (upd H p o) := by
  refine ⟨fun _ _ h => h, fun _ h => .inl h, fun a o' h _ => ?_, fun a h => ?_, fun a h => .inl h, fun a h => ?_, fun _ _ h => .inl h⟩
  · rw [upd_ne (ne_of_none h hp)]; exact h
  · rcases h with h | rfl
    · exact .inl h
    · exact .inr (.inr hp)
  · by_cases e : a = p
    · subst e; exact absurd hp h
    · rw [upd_ne e]; exact h
theorem hr_new {p : Addr} {o : HO} (hr : HR S W g H) (hp : H p = none) : HR S ⟨W.φ, fun a => W.F a ∨ a = p⟩ g (upd H p o) := by
  have e := ext_new (o := o) hr hp
  refine ⟨fun n c h => ?_, hr.inj, fun a h => ?_, fun a h => ?_, fun n a h => ?_, hr.bd⟩
  · obtain ⟨a, ha, r⟩ := hr.cell n c h
    refine ⟨a, ha, r.mono hr.no e fun o' h' => ?_⟩
    rw [upd_ne (ne_of_none h' hp)]; exact h'
  · rintro (f | rfl)
    · exact hr.dis a h f
    · obtain ⟨n, c, hn, ha⟩ := h
      exact hr.tr n _ ha hp
  · rcases h with h | rfl
    · exact e.tr a (hr.fz a h)
    · rw [upd_same]; exact fun z => nomatch z
  · exact e.tr a (hr.tr n a h)
/-- a new object that is an own cell -/
def Wd.cell (W : Wd) (n : Nat) (p : Addr) : Wd := ⟨fun m => if m = n then some p else W.φ m, W.F⟩
theorem ext_cell {p : Addr} {o : HO} {c : Cell} (hr : HR S W g H) (hp : H p = none) : Ext W g H (W.cell g.length p) (g ++ [some c]) (upd H p o) := by
  refine ⟨fun n a h => ?_, fun _ h => h, fun a o' h _ => ?_, fun a h => .inl h, fun a h => ?_, fun a h => ?_, fun n a h => by
    have h' : (if n = g.length then some p else W.φ n) = some a := h
    by_cases q : n = g.length
    · rw [if_pos q] at h'; cases h'; exact .inr hp
    · rw [if_neg q] at h'; exact .inl h'⟩
  · show (if n = g.length then some p else W.φ n) = some a
    rw [if_neg (Nat.ne_of_lt (hr.bd n a h))]; exact h
  · rw [upd_ne (ne_of_none h hp)]; exact h
  · obtain ⟨n, d, hn, ha⟩ := h
    rw [gat_push] at hn
    have ha' : (if n = g.length then some p else W.φ n) = some a := ha
    by_cases e : n = g.length
    · rw [if_pos e] at ha'; cases ha'; exact .inr hp
    · rw [if_neg e] at ha' hn; exact .inl ⟨n, d, hn, ha'⟩
  · by_cases e : a = p
    · subst e; exact absurd hp h
    · rw [upd_ne e]; exact h
theorem hr_cell {p : Addr} {o : HO} {c : Cell} (hr : HR S W g H) (hp : H p = none) (hc : CellR S (W.cell g.length p) (upd H p o) p c) : HR S (W.cell g.length p) (g ++ [some c]) (upd H p o) := by
  have e := ext_cell (o := o) (c := c) hr hp
  have φe : ∀ n, (W.cell g.length p).φ n = if n = g.length then some p else W.φ n := fun _ => rfl
  refine ⟨fun n d h => ?_, fun n m c1 c2 a h1 h2 h3 h4 => ?_, fun a h f => ?_, fun a h => e.tr a (hr.fz a h), fun n a h => ?_, fun n a h => ?_⟩
  · rw [gat_push] at h
    by_cases q : n = g.length
    · rw [if_pos q] at h; cases h
      exact ⟨p, by rw [φe, if_pos q], hc⟩
    · rw [if_neg q] at h
      obtain ⟨a, ha, r⟩ := hr.cell n d h
      refine ⟨a, by rw [φe, if_neg q]; exact ha, r.mono hr.no e fun o' h' => ?_⟩
      rw [upd_ne (ne_of_none h' hp)]; exact h'
  · rw [gat_push] at h1 h2
    rw [φe] at h3 h4
    by_cases q1 : n = g.length <;> by_cases q2 : m = g.length
    · rw [q1, q2]
    · rw [if_pos q1] at h3; rw [if_neg q2] at h4; cases h3
      exact absurd hp (hr.tr m _ h4)
    · rw [if_neg q1] at h3; rw [if_pos q2] at h4; cases h4
      exact absurd hp (hr.tr n _ h3)
    · rw [if_neg q1] at h1 h3; rw [if_neg q2] at h2 h4
      exact hr.inj n m c1 c2 a h1 h2 h3 h4
  · rcases e.nO a h with z | z
    · exact hr.dis a z f
    · exact hr.fz a f z
  · rw [φe] at h
    by_cases q : n = g.length
    · rw [if_pos q] at h; cases h; rw [upd_same]; exact fun z => nomatch z
    · rw [if_neg q] at h; exact e.tr a (hr.tr n a h)
  · rw [φe] at h
    rw [List.length_append]
    by_cases q : n = g.length
    · rw [q]; exact Nat.lt_succ_self _
    · rw [if_neg q] at h; exact Nat.lt_succ_of_lt (hr.bd n a h)
/-- an own cell is written -/
theorem ext_set {n : Nat} {a : Addr} {o : HO} {c c' : Cell} (hr : HR S W g H) (hn : gat g n = some c) (ha : W.φ n = some a) : Ext W g H W (g.set n (some c')) (upd H a o) := by
  refine ⟨fun _ _ h => h, fun _ h => h, fun b o' h no => ?_, fun _ h => .inl h, fun b h => ?_, fun b h => ?_, fun _ _ h => .inl h⟩
  · have : b ≠ a := fun e => no ⟨n, c, hn, by rw [e]; exact ha⟩
    rw [upd_ne this]; exact h
  · obtain ⟨m, d, hm, hb⟩ := h
    rw [gat_set (gat_lt hn)] at hm
    by_cases q : m = n
    · subst q; rw [ha] at hb; cases hb; exact .inl ⟨m, c, hn, ha⟩
    · rw [if_neg q] at hm; exact .inl ⟨m, d, hm, hb⟩
  · by_cases e : b = a
    · subst e; rw [upd_same]; exact fun z => nomatch z
    · rw [upd_ne e]; exact h
theorem hr_set {n : Nat} {a : Addr} {o : HO} {c c' : Cell} (hr : HR S W g H) (hn : gat g n = some c) (ha : W.φ n = some a) (hc : CellR S W (upd H a o) a c') : HR S W (g.set n (some c')) (upd H a o) := by
  have e := ext_set (o := o) (c' := c') hr hn ha
  have hl := gat_lt hn
  refine ⟨fun m d h => ?_, fun m k c1 c2 b h1 h2 h3 h4 => ?_, fun b h f => ?_, fun b h => e.tr b (hr.fz b h), fun m b h => e.tr b (hr.tr m b h), fun m b h => ?_⟩
  · rw [gat_set hl] at h
    by_cases q : m = n
    · rw [if_pos q] at h; cases h; subst q; exact ⟨a, ha, hc⟩
    · rw [if_neg q] at h
      obtain ⟨b, hb, r⟩ := hr.cell m d h
      refine ⟨b, hb, r.mono hr.no e fun o' h' => ?_⟩
      have : b ≠ a := fun z => q (hr.inj m n d c b h hn hb (by rw [z]; exact ha))
      rw [upd_ne this]; exact h'
  · rw [gat_set hl] at h1 h2
    have live : ∀ {k : Nat} {d : Cell}, (if k = n then some c' else gat g k) = some d → ∃ d', gat g k = some d' := fun {k d} z => by
      by_cases q : k = n
      · subst q; exact ⟨c, hn⟩
      · rw [if_neg q] at z; exact ⟨d, z⟩
    obtain ⟨d1, e1⟩ := live h1
    obtain ⟨d2, e2⟩ := live h2
    exact hr.inj m k d1 d2 b e1 e2 h3 h4
  · rcases e.nO b h with z | z
    · exact hr.dis b z f
    · exact hr.fz b f z
  · rw [List.length_set]; exact hr.bd m b h
end
end PM
set_option maxRecDepth 100000
set_option maxHeartbeats 1000000
/-! PM, part e: readings by the machine. -/
namespace PM
open PySem PySem.Spec PyProof.Rows L2
def EnvR (K : Sg) (W : Wd) (H : Hp) (e : Ev) (σ : L2.St) : Prop := e.length = σ.length ∧ ∀ (i : Nat) (u : U), e[i]? = some (some u) → ∃ v, σ[i]? = some (some v) ∧ RU K W H u v
theorem EnvR.mono {K : Sg} {W W' : Wd} {g g' : G} {H H' : Hp} {e : Ev} {σ : L2.St} (no : ∀ a, W.F a → ¬ own W g a) (x : Ext W g H W' g' H') (h : EnvR K W H e σ) : EnvR K W' H' e σ :=
  ⟨h.1, fun i u q => let ⟨v, a, b⟩ := h.2 i u q; ⟨v, a, b.mono no x⟩⟩
/-- the wish about an error -/
abbrev EK := Value → Option Addr → Hp → Prop
/-- how an error lies -/
def ExR (S : Sg) (W : Wd) (H : Hp) (x : Ex) (c : Value) (d : Option Addr) : Prop :=
  c = .ref (S.cls x.cls) ∧ match x.fld with
    | none => d = none
    | some u => ∃ a v, d = some a ∧ H a = some (.xd [(S.xf x.cls, v)]) ∧ W.F a ∧ RU S W H u v
section
variable (S : Sg) {α β : Type} (R : Wd → Hp → α → β → Prop)
/-- what is to be shown behind a run -/
def PO (W : Wd) (g : G) (H : Hp) (Q : β → Hp → Prop) (E : EK) : Res α → Prop
  | .ok a g' => ∀ W' H' b, Ext W g H W' g' H' → HR S W' g' H' → R W' H' a b → Q b H'
  | .err x g' => ∀ W' H' c d, Ext W g H W' g' H' → HR S W' g' H' → ExR S W' H' x c d → E c d H'
  | .bad => False
end
theorem PO.shift {S : Sg} {α β : Type} {R : Wd → Hp → α → β → Prop} {W W1 : Wd} {g g1 : G} {H H1 : Hp} {Q : β → Hp → Prop} {E : EK} (x : Ext W g H W1 g1 H1) : ∀ {r : Res α}, PO S R W g H Q E r → PO S R W1 g1 H1 Q E r
  | .ok a g', h => fun W' H' b e => h W' H' b (x.trans e)
  | .err _ g', h => fun W' H' c d e => h W' H' c d (x.trans e)
  | .bad, h => h
theorem PO.mono {S : Sg} {α β : Type} {R : Wd → Hp → α → β → Prop} {W : Wd} {g : G} {H : Hp} {Q Q' : β → Hp → Prop} {E : EK} (hq : ∀ b H, Q b H → Q' b H) : ∀ {r : Res α}, PO S R W g H Q E r → PO S R W g H Q' E r
  | .ok a g', h => fun W' H' b e h1 h2 => hq _ _ (h W' H' b e h1 h2)
  | .err _ g', h => h
  | .bad, h => h
abbrev RU' (S : Sg) : Wd → Hp → U → V → Prop := fun W H u v => RU S W H u v
abbrev RUs' (S : Sg) : Wd → Hp → List U → List V → Prop := fun W H u v => RUs S W H u v
def RB : Wd → Hp → Bool → Bool → Prop := fun _ _ a b => a = b
/-- now, at this state -/
theorem PO.now {S : Sg} {α β : Type} {R : Wd → Hp → α → β → Prop} {W : Wd} {g : G} {H : Hp} {Q : β → Hp → Prop} {E : EK} {a : α} {b : β} (h : PO S R W g H Q E (.ok a g)) (hr : HR S W g H) (r : R W H a b) : Q b H := h W H b Ext.refl hr r
/-- a reading by a machine's run -/
def TEv (S : Sg) (E : WX) (m : Ev → G → Res U) : TE := fun σ H Q => ∃ e W g, EnvR S W H e σ ∧ HR S W g H ∧ PO S (RU' S) W g H Q (fun c d H' => E c d σ H') (m e g)
def TTv (S : Sg) (E : WX) (m : Ev → G → Res Bool) : TT := fun σ H Q => ∃ e W g, EnvR S W H e σ ∧ HR S W g H ∧ PO S RB W g H Q (fun c d H' => E c d σ H') (m e g)
def TAv (S : Sg) (E : WX) (m : Ev → G → Res (List U)) : TA := fun σ H Q => ∃ e W g, EnvR S W H e σ ∧ HR S W g H ∧ PO S (RUs' S) W g H Q (fun c d H' => E c d σ H') (m e g)
section
variable {S : Sg} {α α' β β' : Type} {R : Wd → Hp → α → β → Prop} {R' : Wd → Hp → α' → β' → Prop} {W : Wd} {g : G} {H : Hp} {σ : L2.St} {e : Ev} {E : WX}
/-- what stands behind a first run, of a second -/
def Aft (S : Sg) (R : Wd → Hp → α → β → Prop) (R' : Wd → Hp → α' → β' → Prop) (cu : List U) (cv : List V) (e : Ev) (σ : L2.St) (E : WX) (Q : β' → Hp → Prop) (f : α → G → Res α') (b : β) (H1 : Hp) : Prop :=
  ∃ W1 g1 a, EnvR S W1 H1 e σ ∧ RUs S W1 H1 cu cv ∧ HR S W1 g1 H1 ∧ R W1 H1 a b ∧ PO S R' W1 g1 H1 Q (fun c d H' => E c d σ H') (f a g1)
theorem PO.bd {cu : List U} {cv : List V} {f : α → G → Res α'} {Q : β' → Hp → Prop} (er : EnvR S W H e σ) (rc : RUs S W H cu cv) (hr : HR S W g H) : ∀ {r : Res α}, PO S R' W g H Q (fun c d H' => E c d σ H') (r.bd f) → PO S R W g H (Aft S R R' cu cv e σ E Q f) (fun c d H' => E c d σ H') r
  | .ok a g', h => fun W' H' b x h1 h2 => ⟨W', g', a, er.mono hr.no x, rc.mono hr.no x, h1, h2, PO.shift x h⟩
  | .err _ g', h => h
  | .bad, h => h
end
end PM
namespace PM
open PySem PySem.Spec PyProof.Rows L2
/-- .. where a list, a dict that comes is a new one, in no one's hands -/
def PF (S : Sg) (W : Wd) (g : G) (H : Hp) (Q : VK) (E : EK) : Res U → Prop
  | .ok (.lst us) g' => ∀ W' H' p vs, Ext W g H W' g' H' → HR S W' g' H' → H p = none → ¬ W'.F p → (∀ n, W'.φ n ≠ some p) → H' p = some (.lst vs) → RUs S W' H' us vs → Q (.ref p) H'
  | .ok (.dct false us) g' => ∀ W' H' p vs, Ext W g H W' g' H' → HR S W' g' H' → H p = none → ¬ W'.F p → (∀ n, W'.φ n ≠ some p) → H' p = some (.dK vs) → RUk S W' H' us vs → Q (.ref p) H'
  | .ok (.dct true us) g' => ∀ W' H' p vs, Ext W g H W' g' H' → HR S W' g' H' → H p = none → ¬ W'.F p → (∀ n, W'.φ n ≠ some p) → H' p = some (.dT vs) → RUt S W' H' us vs → Q (.ref p) H'
  | .ok u g' => ∀ W' H' v, Ext W g H W' g' H' → HR S W' g' H' → RU S W' H' u v → Q v H'
  | .err x g' => ∀ W' H' c d, Ext W g H W' g' H' → HR S W' g' H' → ExR S W' H' x c d → E c d H'
  | .bad => False
theorem PF.shift {S : Sg} {W W1 : Wd} {g g1 : G} {H H1 : Hp} {Q : VK} {E : EK} (x : Ext W g H W1 g1 H1) {r : Res U} (h : PF S W g H Q E r) : PF S W1 g1 H1 Q E r := by
  have back : ∀ p, H1 p = none → H p = none := fun p q => by
    cases e : H p with
    | none => rfl
    | some o => exact absurd q (x.tr p (by rw [e]; exact fun z => nomatch z))
  cases r with
  | bad => exact h
  | err y g' => exact fun W' H' c d e => h W' H' c d (x.trans e)
  | ok u g' =>
    cases u with
    | lst us => exact fun W' H' p vs e hr hp => h W' H' p vs (x.trans e) hr (back p hp)
    | dct k us => cases k <;> exact fun W' H' p vs e hr hp => h W' H' p vs (x.trans e) hr (back p hp)
    | _ => exact fun W' H' v e => h W' H' v (x.trans e)
section
variable {S : Sg} {W W' : Wd} {g g' : G} {H H' : Hp} {p : Addr}
/-- an object in no one's hands becomes data -/
theorem ext_fz (x : Ext W g H W' g' H') (hp : H p = none) (hφ : ∀ n, W'.φ n ≠ some p) : Ext W g H ⟨W'.φ, fun a => W'.F a ∨ a = p⟩ g' H' :=
  ⟨x.φ, fun a h => .inl (x.F a h), x.keep, fun a h => by
    rcases h with h | rfl
    · exact x.nF a h
    · exact .inr (.inr hp), fun a h => x.nO a h, x.tr, x.nφ⟩
theorem wd_fz (hr : HR S W' g' H') (hφ : ∀ n, W'.φ n ≠ some p) (h : H' p ≠ none) : HR S ⟨W'.φ, fun a => W'.F a ∨ a = p⟩ g' H' := by
  have st : ∀ {a c}, CellR S W' H' a c → CellR S ⟨W'.φ, fun a => W'.F a ∨ a = p⟩ H' a c := by
    intro a c r
    cases c with
    | lst us =>
      obtain ⟨vs, h1, h2⟩ := r
      refine ⟨vs, h1, RUs_more (fun a h => .inl h) h2⟩
    | dct k us =>
      cases k <;> obtain ⟨vs, h1, h2⟩ := r
      · exact ⟨vs, h1, RUk_more (fun a h => .inl h) h2⟩
      · exact ⟨vs, h1, RUt_more (fun a h => .inl h) h2⟩
    | ins c fs =>
      obtain ⟨dx, vs, h1, h2⟩ := r
      exact ⟨dx, vs, h1, RUf_more (fun a h => .inl h) h2⟩
  refine ⟨fun n c q => ?_, hr.inj, fun a o => ?_, fun a f => ?_, hr.tr, hr.bd⟩
  · obtain ⟨a, ha, r⟩ := hr.cell n c q
    exact ⟨a, ha, st r⟩
  · rintro (f | rfl)
    · exact hr.dis a o f
    · obtain ⟨n, c, _, ha⟩ := o
      exact hφ n ha
  · rcases f with f | rfl
    · exact hr.fz a f
    · exact h
end
end PM
set_option maxRecDepth 100000
set_option maxHeartbeats 1000000
/-! PM, part f: operators by values. -/
namespace PM
open PySem PySem.Spec PyProof.Rows L2
section
variable {S : Sg} {W : Wd} {g : G} {H : Hp}
theorem RUs.length {K : Sg} : ∀ {us : List U} {vs : List V}, RUs K W H us vs → us.length = vs.length
  | _, _, .nil => rfl
  | _, _, .cons _ r => by simp [r.length]
theorem RUs.get {K : Sg} : ∀ {us : List U} {vs : List V} {i : Nat} {u : U}, RUs K W H us vs → us[i]? = some u → ∃ v, vs[i]? = some v ∧ RU K W H u v
  | _, _, _, _, .nil, h => by simp at h
  | _, _, 0, _, .cons a _, h => by simp at h; subst h; exact ⟨_, rfl, a⟩
  | _, _, i + 1, _, .cons _ r, h => by
    obtain ⟨v, h1, h2⟩ := RUs.get (i := i) r (by simpa using h)
    exact ⟨v, by simpa using h1, h2⟩
theorem RUs.app {K : Sg} : ∀ {us us' : List U} {vs vs' : List V}, RUs K W H us vs → RUs K W H us' vs' → RUs K W H (us ++ us') (vs ++ vs')
  | _, _, _, _, .nil, h => h
  | _, _, _, _, .cons a r, h => .cons a (RUs.app r h)
theorem RUs.take {K : Sg} : ∀ {us : List U} {vs : List V} (n : Nat), RUs K W H us vs → RUs K W H (us.take n) (vs.take n)
  | _, _, 0, _ => .nil
  | _, _, _ + 1, .nil => .nil
  | _, _, n + 1, .cons a r => .cons a (RUs.take n r)
theorem RUs.drop {K : Sg} : ∀ {us : List U} {vs : List V} (n : Nat), RUs K W H us vs → RUs K W H (us.drop n) (vs.drop n)
  | _, _, 0, h => h
  | _, _, _ + 1, .nil => .nil
  | _, _, n + 1, .cons a r => RUs.drop n r
theorem RUs.set {K : Sg} {u : U} {v : V} (x : RU K W H u v) : ∀ {us : List U} {vs : List V} (n : Nat), RUs K W H us vs → RUs K W H (us.set n u) (vs.set n v)
  | _, _, _, .nil => .nil
  | _, _, 0, .cons _ r => .cons x r
  | _, _, n + 1, .cons a r => .cons a (RUs.set x n r)
theorem RUs.rev {K : Sg} : ∀ {us : List U} {vs : List V}, RUs K W H us vs → RUs K W H us.reverse vs.reverse
  | _, _, .nil => .nil
  | _, _, .cons a r => by
    rw [List.reverse_cons, List.reverse_cons]
    exact (RUs.rev r).app (.cons a .nil)
theorem RUs.erase {K : Sg} : ∀ {us : List U} {vs : List V} (n : Nat), RUs K W H us vs → RUs K W H (us.eraseIdx n) (vs.eraseIdx n)
  | _, _, _, .nil => .nil
  | _, _, 0, .cons _ r => r
  | _, _, n + 1, .cons a r => .cons a (RUs.erase n r)
theorem RUs.ints {K : Sg} : ∀ (ns : List Int), RUs K W H (ns.map U.int) (ns.map V.int)
  | [] => .nil
  | n :: r => .cons (.int n) (RUs.ints r)
theorem RUs.rep {K : Sg} {us : List U} {vs : List V} (h : RUs K W H us vs) : ∀ n : Nat, RUs K W H (List.replicate n us).flatten (List.replicate n vs).flatten
  | 0 => .nil
  | n + 1 => by
    rw [List.replicate_succ, List.replicate_succ, List.flatten_cons, List.flatten_cons]
    exact h.app (RUs.rep h n)
theorem asL_ok (hr : HR S W g H) {x : U} {v : V} (h : RU S W H x v) {us : List U} (e : asL g x = some us) : ∃ a vs, v = .ref a ∧ SqL S.K H a vs ∧ RUs S W H us vs := by
  cases h with
  | lst f q r => cases e; exact ⟨_, _, rfl, .inl (.inl q), r⟩
  | scr q => cases e; exact ⟨_, _, rfl, q.sq, RUs.ints _⟩
  | @ref n a q =>
    unfold asL at e
    dsimp only at e
    split at e
    · rename_i l hg
      cases e
      obtain ⟨vs, h1, h2⟩ := hr.cellOk hg q
      exact ⟨_, vs, rfl, .inl (.inl h1), h2⟩
    · cases e
  | _ => cases e
theorem asS_ok (hr : HR S W g H) {x : U} {v : V} (h : RU S W H x v) {us : List U} (e : asS g x = some us) : ∃ a vs, v = .ref a ∧ (SqL S.K H a vs ∨ SqT S.K H a vs) ∧ RUs S W H us vs := by
  cases h with
  | tup f q r => cases e; exact ⟨_, _, rfl, .inr (.inl (.inl q)), r⟩
  | lst f q r => cases e; exact ⟨_, _, rfl, .inl (.inl (.inl q)), r⟩
  | scr q => cases e; exact ⟨_, _, rfl, .inl q.sq, RUs.ints _⟩
  | ref q =>
    obtain ⟨a, vs, h1, h2, h3⟩ := asL_ok hr (.ref q) (show asL g (.ref _) = some us from e)
    exact ⟨a, vs, h1, .inl h2, h3⟩
  | _ => cases e
def DctR (S : Sg) (W : Wd) (H : Hp) (a : Addr) : Bool → List (U × U) → Prop
  | false, l => ∃ kv, H a = some (.dK kv) ∧ RUk S W H l kv
  | true, l => ∃ kv, H a = some (.dT kv) ∧ RUt S W H l kv
theorem asD_ok (hr : HR S W g H) {x : U} {v : V} (h : RU S W H x v) {k : Bool} {us : List (U × U)} (e : asD g x = some (k, us)) : ∃ a, v = .ref a ∧ DctR S W H a k us := by
  cases h with
  | dK f q r => cases e; exact ⟨_, rfl, _, q, r⟩
  | dT f q r => cases e; exact ⟨_, rfl, _, q, r⟩
  | @ref n a q =>
    unfold asD at e
    dsimp only at e
    split at e
    · rename_i k' l hg
      cases e
      have c := hr.cellOk hg q
      cases k
      · exact ⟨_, rfl, c⟩
      · exact ⟨_, rfl, c⟩
    · cases e
  | _ => cases e
/-! ### keys -/
theorem key_eqv {a b : U} {p q : Key} (ha : keyU a = some p) (hb : keyU b = some q) : a.eqv b = decide (p = q) := by
  cases a <;> cases ha <;> cases b <;> cases hb
  · rw [key_ll]; rfl
  · rw [key_lr]; rfl
  · rw [key_rl]; rfl
  · rw [key_rr]
    show (_ == _) = _
    rw [Bool.eq_iff_iff]; simp
theorem keys_eqv : ∀ {a b : List U} {p q : List Key}, keysU a = some p → keysU b = some q → eqvL a b = decide (p = q)
  | [], [], _, _, ha, hb => by cases ha; cases hb; rfl
  | [], y :: s, _, _, ha, hb => by
    cases ha
    unfold keysU at hb
    split at hb
    · cases hb; rfl
    · cases hb
  | x :: r, [], _, _, ha, hb => by
    cases hb
    unfold keysU at ha
    split at ha
    · cases ha; rfl
    · cases ha
  | x :: r, y :: s, _, _, ha, hb => by
    unfold keysU at ha hb
    split at ha
    · rename_i k1 q1 h1 h2
      cases ha
      split at hb
      · rename_i k2 q2 h3 h4
        cases hb
        show (x.eqv y && eqvL r s) = _
        rw [key_eqv h1 h3, keys_eqv h2 h4]
        by_cases e1 : k1 = k2 <;> by_cases e2 : q1 = q2 <;> simp [e1, e2]
      · cases hb
    · cases ha
theorem keyT_eqv {a b : U} {p q : List Key} (ha : keyT a = some p) (hb : keyT b = some q) : a.eqv b = decide (p = q) := by
  cases a <;> first | (cases ha; done) | skip
  cases b <;> first | (cases hb; done) | skip
  exact keys_eqv ha hb
theorem keyB_some {u : U} (h : keyB u = true) : ∃ q, keyU u = some q := by
  cases u <;> first | exact ⟨_, rfl⟩ | cases h
theorem keysB_some : ∀ {l : List U}, l.all keyB = true → ∃ q, keysU l = some q
  | [], _ => ⟨_, rfl⟩
  | x :: r, h => by
    rw [List.all_cons, Bool.and_eq_true] at h
    obtain ⟨k, e1⟩ := keyB_some h.1
    obtain ⟨q, e2⟩ := keysB_some h.2
    exact ⟨k :: q, by unfold keysU; rw [e1, e2]⟩
theorem keyU_val {u : U} {q : Key} {v : V} (h : keyU u = some q) (r : RU S W H u v) : v = kV q := by
  cases r <;> cases h <;> rfl
theorem keysU_val : ∀ {us : List U} {q : List Key} {vs : List V}, keysU us = some q → RUs S W H us vs → vs = q.map kV
  | _, _, _, h, .nil => by cases h; rfl
  | _, _, _, h, .cons a r => by
    unfold keysU at h
    split at h
    · rename_i k p h1 h2
      cases h
      rw [keyU_val h1 a, keysU_val h2 r]; rfl
    · cases h
theorem look_k {u : U} {q : Key} (hq : keyU u = some q) : ∀ {l : List (U × U)} {kv : List (Key × V)}, RUk S W H l kv →
    (dLook l u = none ∧ valV kv q = none) ∨ ∃ x v, dLook l u = some x ∧ valV kv q = some v ∧ RU S W H x v
  | _, _, .nil => .inl ⟨rfl, rfl⟩
  | _, _, .cons (k := k) (u := x) (q := p) (v := v) hk a r => by
    have e := key_eqv hk hq
    by_cases h : p = q
    · rw [decide_eq_true h] at e
      exact .inr ⟨x, v, by simp [dLook, List.find?_cons, e], valV_pos (p := (p, v)) h, a⟩
    · rw [decide_eq_false h] at e
      rcases look_k hq r with ⟨h1, h2⟩ | ⟨y, w, h1, h2, h3⟩
      · exact .inl ⟨by simpa [dLook, List.find?_cons, e] using h1, by rw [valV_neg (p := (p, v)) h]; exact h2⟩
      · exact .inr ⟨y, w, by simpa [dLook, List.find?_cons, e] using h1, by rw [valV_neg (p := (p, v)) h]; exact h2, h3⟩
theorem look_t {u : U} {q : List Key} (hq : keyT u = some q) : ∀ {l : List (U × U)} {kv : List (List Key × V)}, RUt S W H l kv →
    (dLook l u = none ∧ valV kv q = none) ∨ ∃ x v, dLook l u = some x ∧ valV kv q = some v ∧ RU S W H x v
  | _, _, .nil => .inl ⟨rfl, rfl⟩
  | _, _, .cons (k := k) (u := x) (q := p) (v := v) hk a r => by
    have e := keyT_eqv hk hq
    by_cases h : p = q
    · rw [decide_eq_true h] at e
      exact .inr ⟨x, v, by simp [dLook, List.find?_cons, e], valV_pos (p := (p, v)) h, a⟩
    · rw [decide_eq_false h] at e
      rcases look_t hq r with ⟨h1, h2⟩ | ⟨y, w, h1, h2, h3⟩
      · exact .inl ⟨by simpa [dLook, List.find?_cons, e] using h1, by rw [valV_neg (p := (p, v)) h]; exact h2⟩
      · exact .inr ⟨y, w, by simpa [dLook, List.find?_cons, e] using h1, by rw [valV_neg (p := (p, v)) h]; exact h2, h3⟩
/-- what a look into a dict gives -/
theorem dget_ok {x u : U} {v y : V} {k : Bool} {l : List (U × U)} (hr : HR S W g H) (rx : RU S W H x v) (ru : RU S W H u y) (e : asD g x = some (k, l)) (hk : keyOk k u = true) :
    ∃ a o, v = .ref a ∧ DGet H a y o ∧ ((dLook l u = none ∧ o = none) ∨ ∃ z w, dLook l u = some z ∧ o = some w ∧ RU S W H z w) := by
  obtain ⟨a, rfl, d⟩ := asD_ok hr rx e
  cases k with
  | false =>
    obtain ⟨kv, h1, h2⟩ := d
    obtain ⟨q, hq⟩ := keyB_some (show keyB u = true from hk)
    refine ⟨a, valV kv q, rfl, by rw [keyU_val hq ru]; exact DGet.k h1, ?_⟩
    rcases look_k hq h2 with ⟨e1, e2⟩ | ⟨z, w, e1, e2, e3⟩
    · exact .inl ⟨e1, e2⟩
    · exact .inr ⟨z, w, e1, e2, e3⟩
  | true =>
    obtain ⟨kv, h1, h2⟩ := d
    cases ru with
    | @tup b us vs f hb rs =>
      obtain ⟨q, hq⟩ := keysB_some (show us.all keyB = true from hk)
      refine ⟨a, valV kv q, rfl, DGet.t h1 (by rw [← keysU_val hq rs]; exact hb), ?_⟩
      rcases look_t (u := .tup us) hq h2 with ⟨e1, e2⟩ | ⟨z, w, e1, e2, e3⟩
      · exact .inl ⟨e1, e2⟩
      · exact .inr ⟨z, w, e1, e2, e3⟩
    | _ => cases hk
end
end PM
set_option maxRecDepth 100000
set_option maxHeartbeats 1000000
/-! PM, part g: data, ==, in; operators. -/
namespace PM
open PySem PySem.Spec PyProof.Rows L2
mutual
def pyOf : U → PyData
  | .non => .none
  | .bl b => .bool b
  | .int i => .int i
  | .str x => .str x
  | .tup l => .tuple (pyOfL l)
  | .lst l => .list (pyOfL l)
  | _ => .none
def pyOfL : List U → List PyData
  | [] => []
  | x :: r => pyOf x :: pyOfL r
end
mutual
theorem shp_ok : ∀ (n : Nat) (u : U), u.shp n = true → (pyOf u).canLay0 = true ∧ (pyOf u).depth ≤ n
  | _, .non, _ => ⟨rfl, Nat.zero_le _⟩
  | _, .bl _, _ => ⟨rfl, Nat.zero_le _⟩
  | _, .int _, _ => ⟨rfl, Nat.zero_le _⟩
  | 0, .str x, h => ⟨h, Nat.zero_le _⟩
  | n + 1, .str x, h => ⟨h, Nat.zero_le _⟩
  | 0, .tup l, h => by cases h
  | 0, .lst l, h => by cases h
  | n + 1, .tup l, h => by
    obtain ⟨h1, h2⟩ := shpL_ok n l h
    exact ⟨h1, Nat.succ_le_succ h2⟩
  | n + 1, .lst l, h => by
    obtain ⟨h1, h2⟩ := shpL_ok n l h
    exact ⟨h1, Nat.succ_le_succ h2⟩
  | 0, .dct _ _, h => by cases h
  | _ + 1, .dct _ _, h => by cases h
  | 0, .scr _, h => by cases h
  | _ + 1, .scr _, h => by cases h
  | 0, .ref _, h => by cases h
  | _ + 1, .ref _, h => by cases h
  | 0, .exn _ _, h => by cases h
  | _ + 1, .exn _ _, h => by cases h
theorem shpL_ok : ∀ (n : Nat) (l : List U), shpL n l = true → PyData.canLayAll0 (pyOfL l) = true ∧ PyData.depthAll (pyOfL l) ≤ n
  | _, [], _ => ⟨rfl, Nat.zero_le _⟩
  | n, x :: r, h => by
    unfold shpL at h
    rw [Bool.and_eq_true] at h
    obtain ⟨h1, h2⟩ := shp_ok n x h.1
    obtain ⟨h3, h4⟩ := shpL_ok n r h.2
    refine ⟨by show (PyData.canLay0 _ && PyData.canLayAll0 _) = true; rw [h1, h3]; rfl, ?_⟩
    show max _ _ ≤ n
    omega
end
theorem shaped_of {n : Nat} {u : U} (hn : n ≤ 60) (h : u.shp n = true) : SeqAt.shaped (pyOf u) = true := by
  obtain ⟨h1, h2⟩ := shp_ok n u h
  unfold SeqAt.shaped
  rw [h1, decide_eq_true (by omega)]; rfl
mutual
theorem eqv_py : ∀ (m n : Nat) (a b : U), a.shp m = true → b.shp n = true → PyData.eqv (pyOf a) (pyOf b) = a.eqv b
  | m, n, a, b, ha, hb => by
    cases a <;> first | (cases m <;> cases ha; done) | skip
    all_goals cases b <;> first | (cases n <;> cases hb; done) | rfl | skip
    · rename_i l1 l2
      cases m <;> cases n <;> first | (cases ha; done) | (cases hb; done) | exact eqv_pyL _ _ l1 l2 ha hb
    · rename_i l1 l2
      cases m <;> cases n <;> first | (cases ha; done) | (cases hb; done) | exact eqv_pyL _ _ l1 l2 ha hb
theorem eqv_pyL : ∀ (m n : Nat) (a b : List U), shpL m a = true → shpL n b = true → PyData.eqvAll (pyOfL a) (pyOfL b) = eqvL a b
  | m, n, [], [], _, _ => rfl
  | m, n, [], y :: s, _, _ => rfl
  | m, n, x :: r, [], _, _ => rfl
  | m, n, x :: r, y :: s, ha, hb => by
    unfold shpL at ha hb
    rw [Bool.and_eq_true] at ha hb
    show (PyData.eqv _ _ && PyData.eqvAll _ _) = (U.eqv _ _ && eqvL _ _)
    rw [eqv_py m n x y ha.1 hb.1, eqv_pyL m n r s ha.2 hb.2]
end
section
variable {S : Sg} {W : Wd} {g : G} {H : Hp}
mutual
theorem dp_ok : ∀ {n : Nat} {u : U} {v : V}, u.shp n = true → RU S W H u v → Dp S.K H v (pyOf u)
  | _, _, _, _, .non => .non
  | _, _, _, _, .bl b => .bl b
  | _, _, _, _, .int i => .int i
  | _, _, _, _, .str x => .str x
  | 0, _, _, h, .tup f q r => by cases h
  | 0, _, _, h, .lst f q r => by cases h
  | n + 1, _, _, h, .tup f q r => .tup (.inl (.inl q)) (dpL_ok (n := n) h r)
  | n + 1, _, _, h, .lst f q r => .lst (.inl (.inl q)) (dpL_ok (n := n) h r)
  | 0, _, _, h, .dK _ _ _ => by cases h
  | _ + 1, _, _, h, .dK _ _ _ => by cases h
  | 0, _, _, h, .dT _ _ _ => by cases h
  | _ + 1, _, _, h, .dT _ _ _ => by cases h
  | 0, _, _, h, .scr _ => by cases h
  | _ + 1, _, _, h, .scr _ => by cases h
  | 0, _, _, h, .ref _ => by cases h
  | _ + 1, _, _, h, .ref _ => by cases h
  | 0, _, _, h, .ex0 _ _ => by cases h
  | _ + 1, _, _, h, .ex0 _ _ => by cases h
  | 0, _, _, h, .ex1 _ _ _ _ _ => by cases h
  | _ + 1, _, _, h, .ex1 _ _ _ _ _ => by cases h
theorem dpL_ok : ∀ {n : Nat} {u : List U} {v : List V}, shpL n u = true → RUs S W H u v → DpAll S.K H v (pyOfL u)
  | _, _, _, _, .nil => .nil
  | n, _, _, h, .cons a r => by
    unfold shpL at h
    rw [Bool.and_eq_true] at h
    exact .cons (dp_ok h.1 a) (dpL_ok h.2 r)
end
/-- a list cell, the script as data -/
theorem deref_ok (hr : HR S W g H) {n : Nat} {u : U} {v : V} (h : (deref g u).shp n = true) (r : RU S W H u v) : Dp S.K H v (pyOf (deref g u)) := by
  cases r with
  | @ref m a q =>
    unfold deref at h ⊢
    dsimp only at h ⊢
    split at h
    · rename_i l hg
      obtain ⟨vs, h1, h2⟩ := hr.cellOk hg q
      cases n with
      | zero => cases h
      | succ n =>
        skip
        exact .lst (.inl (.inl h1)) (dpL_ok (n := n) h h2)
    · cases n <;> cases h
  | @scr a ns q =>
    cases n with
    | zero => cases h
    | succ n => exact .lst q.sq (dpL_ok (W := W) (n := n) h (RUs.ints ns))
  | non => exact .non
  | bl b => exact .bl b
  | int i => exact .int i
  | str x => exact .str x
  | tup f q r => exact dp_ok h (.tup f q r)
  | lst f q r => exact dp_ok h (.lst f q r)
  | dK _ _ _ => cases n <;> cases h
  | dT _ _ _ => cases n <;> cases h
  | ex0 _ _ => cases n <;> cases h
  | ex1 _ _ _ _ _ => cases n <;> cases h
/-! ### == -/
def eqR (X : Cx) (neg : Bool) : R2 := fun x y H Q => (rEq x y H (fun v H => Q (match v with | .bl b => .bl (if neg then !b else b) | v => v) H)) ∨ ∃ d e, Dp X.K H x d ∧ Dp X.K H y e ∧ SeqAt.shaped d = true ∧ SeqAt.shaped e = true ∧ Q (.bl (if neg then !PyData.eqv d e else PyData.eqv d e)) H
theorem op_eqA {X : Cx} (hu : X.A.units + 64 < cLine) : OpR X (compareOp .Eq) (eqR X false) := by
  intro pins s σ H x y v u Q I rx ry h
  rcases h with ⟨h1, h2⟩ | h
  · exact op_eq pins s σ H x y v u Q I rx ry ⟨h1, h2⟩
  · exact op_eqD hu pins s σ H x y v u Q I rx ry h
theorem op_neA {X : Cx} (hu : X.A.units + 64 < cLine) : OpR X (compareOp .NotEq) (eqR X true) := by
  intro pins s σ H x y v u Q I rx ry h
  rcases h with ⟨h1, h2⟩ | h
  · exact op_ne pins s σ H x y v u Q I rx ry ⟨h1, h2⟩
  · exact op_neD hu pins s σ H x y v u Q I rx ry h
theorem eqU_ok {X : Cx} (hK : X.K = S.K) (hr : HR S W g H) {neg : Bool} {a b : U} {x y : V} {r : Bool} {Q : VK} (ra : RU S W H a x) (rb : RU S W H b y) (e : eqU g a b = some r) (q : Q (.bl (if neg then !r else r)) H) : eqR X neg x y H Q := by
  have data : ∀ {a b : U} {x y : V}, RU S W H a x → RU S W H b y → (match (deref g a).shp 60 && (deref g b).shp 60 with
    | true => some ((deref g a).eqv (deref g b))
    | false => none) = some r → eqR X neg x y H Q := fun {a b x y} ra rb e => by
    split at e
    · rename_i hh
      rw [Bool.and_eq_true] at hh
      cases e
      refine .inr ⟨_, _, by rw [hK]; exact deref_ok hr hh.1 ra, by rw [hK]; exact deref_ok hr hh.2 rb, shaped_of (Nat.le_refl _) hh.1, shaped_of (Nat.le_refl _) hh.2, ?_⟩
      rw [eqv_py _ _ _ _ hh.1 hh.2]
      exact q
    · cases e
  have sc : ∀ {x y : V} {k : Bool}, scal x y = true → decide (x = y) = k → some k = some r → eqR X neg x y H Q := fun {x y k} h1 h2 h3 => by
    cases h3
    refine .inl ⟨h1, ?_⟩
    rw [h2]; exact q
  unfold eqU at e
  split at e
  · cases ra; cases rb
    exact sc rfl dec_str e
  · cases ra; cases rb
    exact sc rfl (by simp) e
  · cases ra; cases rb
    exact sc rfl (by simp) e
  · cases ra; cases rb
    exact sc rfl (by simp) e
  · cases ra; cases rb
    exact sc rfl (by simp) e
  · exact data ra rb e
/-! ### in -/
theorem scal_flat {a : U} {x : V} (h : scalU a = true) (r : RU S W H a x) : flatV x = true := by
  cases r <;> first | rfl | cases h
theorem scal_all : ∀ {l : List U} {vs : List V}, l.all scalU = true → RUs S W H l vs → vs.all flatV = true
  | _, _, _, .nil => rfl
  | _, _, h, .cons a r => by
    rw [List.all_cons, Bool.and_eq_true] at h
    rw [List.all_cons, scal_flat h.1 a, scal_all h.2 r]; rfl
theorem scal_eqv {a b : U} {x y : V} (ha : scalU a = true) (hb : scalU b = true) (ra : RU S W H a x) (rb : RU S W H b y) : eqV x y = a.eqv b := by
  cases ra <;> first | (cases ha; done) | skip
  all_goals cases rb <;> first | (cases hb; done) | rfl
theorem scal_mem {a : U} {x : V} (ha : scalU a = true) (ra : RU S W H a x) : ∀ {l : List U} {vs : List V}, l.all scalU = true → RUs S W H l vs → inV x vs = memL a l
  | _, _, _, .nil => rfl
  | _, _, h, .cons b r => by
    rw [List.all_cons, Bool.and_eq_true] at h
    show (eqV _ x || inV x _) = (U.eqv _ a || memL a _)
    rw [scal_eqv h.1 ha b ra, scal_mem ha ra h.2 r]
theorem any_py {n m : Nat} {a : U} (ha : a.shp n = true) : ∀ {l : List U}, shpL m l = true → ((pyOfL l).any fun z => PyData.eqv z (pyOf a)) = memL a l
  | [], _ => rfl
  | x :: r, h => by
    unfold shpL at h
    rw [Bool.and_eq_true] at h
    show (PyData.eqv _ _ || _) = (U.eqv x a || memL a r)
    rw [eqv_py _ _ _ _ h.1 ha, any_py ha h.2]
def inR (X : Cx) (neg : Bool) : R2 := fun x y H Q =>
  (∃ i j, x = .str i ∧ y = .str j ∧ Q (.bl (if neg then !!(Builtin.Str.occurrences j i 0 j.length 1).isEmpty else !(Builtin.Str.occurrences j i 0 j.length 1).isEmpty)) H) ∨
  (∃ a o, y = .ref a ∧ DGet H a x o ∧ Q (.bl (if neg then !o.isSome else o.isSome)) H) ∨ rIn X.K neg x y H Q ∨
  ∃ d ds, Dp X.K H x d ∧ Dp X.K H y (.list ds) ∧ SeqAt.shaped d = true ∧ SeqAt.shaped (.list ds) = true ∧ Q (.bl (if neg then !ds.any (fun z => PyData.eqv z d) else ds.any fun z => PyData.eqv z d)) H
theorem op_inA {X : Cx} (hu : X.A.units + 65 < cLine) : OpR X (compareOp .In) (inR X false) := by
  intro pins s σ H x y v u Q I rx ry h
  rcases h with h | ⟨a, o, rfl, d, q⟩ | h | h
  · exact op_in_str pins s σ H x y v u Q I rx ry h
  · cases ry
    exact d_in (by omega) I d rx fun s3 I3 => ⟨.bl o.isSome, H, I3, rfl, q⟩
  · exact op_in_seq pins s σ H x y v u Q I rx ry h
  · exact op_inD hu pins s σ H x y v u Q I rx ry h
theorem op_ninA {X : Cx} (hu : X.A.units + 65 < cLine) : OpR X (compareOp .NotIn) (inR X true) := by
  intro pins s σ H x y v u Q I rx ry h
  rcases h with h | ⟨a, o, rfl, d, q⟩ | h | h
  · exact op_notin_str pins s σ H x y v u Q I rx ry h
  · cases ry
    exact d_notIn (by omega) I d rx fun s3 I3 => ⟨.bl (!o.isSome), H, I3, rfl, q⟩
  · exact op_notIn_seq pins s σ H x y v u Q I rx ry h
  · exact op_notInD hu pins s σ H x y v u Q I rx ry h
theorem inU_ok {X : Cx} (hK : X.K = S.K) (hr : HR S W g H) {neg : Bool} {a b : U} {x y : V} {r : Bool} {Q : VK} (ra : RU S W H a x) (rb : RU S W H b y) (e : inU g a b = some r) (q : Q (.bl (if neg then !r else r)) H) : inR X neg x y H Q := by
  unfold inU at e
  split at e
  · split at e
    · cases e; cases ra; cases rb
      refine .inl ⟨_, _, rfl, rfl, ?_⟩
      cases neg <;> exact q
    · cases e
  · split at e
    · rename_i k l hd
      split at e
      · rename_i hk
        cases e
        obtain ⟨p, o, rfl, dg, hl⟩ := dget_ok hr rb ra hd hk
        refine .inr (.inl ⟨p, o, rfl, dg, ?_⟩)
        have : o.isSome = (dLook l a).isSome := by
          rcases hl with ⟨e1, e2⟩ | ⟨z, w, e1, e2, _⟩
          · rw [e1, e2]; rfl
          · rw [e1, e2]; rfl
        rw [this]; exact q
      · cases e
    · split at e
      · rename_i l hs
        split at e
        · rename_i hh
          rw [Bool.and_eq_true] at hh
          cases e
          obtain ⟨p, vs, rfl, sq, rs⟩ := asS_ok hr rb hs
          refine .inr (.inr (.inl ⟨p, vs, rfl, by rw [hK]; exact sq, scal_flat hh.1 ra, scal_all hh.2 rs, ?_⟩))
          rw [scal_mem hh.1 ra hh.2 rs]; exact q
        · split at e
          · rename_i l' hl
            split at e
            · rename_i hh
              rw [Bool.and_eq_true] at hh
              cases e
              obtain ⟨p, vs, rfl, sq, rs⟩ := asL_ok hr rb hl
              refine .inr (.inr (.inr ⟨_, _, by rw [hK]; exact dp_ok hh.1 ra, .lst (by rw [hK]; exact sq) (by rw [hK]; exact dpL_ok hh.2 rs), shaped_of (Nat.le_refl _) hh.1, shaped_of (n := 60) (u := .lst l') (Nat.le_refl _) hh.2, ?_⟩))
              rw [any_py hh.1 hh.2]; exact q
            · cases e
          · cases e
      · cases e
end
end PM
set_option maxRecDepth 100000
set_option maxHeartbeats 1000000
/-! PM, part h: operators on values. -/
namespace PM
open PySem PySem.Spec PyProof.Rows L2
section
variable {S : Sg} {W W' : Wd} {g g' : G} {H H' : Hp} {E : EK} {Q : VK}
theorem grd_ok {α : Type} {b : Bool} {r : Res α} {P : Res α → Prop} (hb : ¬ P .bad) (h : P (grd b r)) : b = true ∧ P r := by
  cases b with
  | true => exact ⟨rfl, h⟩
  | false => exact (hb h).elim
theorem PF.nb : ¬ PF S W g H Q E .bad := fun h => h
theorem PO.nb {α β : Type} {R : Wd → Hp → α → β → Prop} {Q : β → Hp → Prop} : ¬ PO S R W g H Q E .bad := fun h => h
theorem PF.int {i : Int} (h : PF S W g H Q E (.ok (.int i) g)) (hr : HR S W g H) : Q (.int i) H := h W H _ Ext.refl hr (.int i)
theorem PF.str {i : Str} (h : PF S W g H Q E (.ok (.str i) g)) (hr : HR S W g H) : Q (.str i) H := h W H _ Ext.refl hr (.str i)
theorem PF.bl {i : Bool} (h : PF S W g H Q E (.ok (.bl i) g)) (hr : HR S W g H) : Q (.bl i) H := h W H _ Ext.refl hr (.bl i)
/-- a new object in no one's hands -/
theorem ext_put {p : Addr} {o : HO} (hp : H p = none) : Ext W g H W g (upd H p o) := by
  refine ⟨fun _ _ h => h, fun _ h => h, fun a o' h _ => ?_, fun a h => .inl h, fun a h => .inl h, fun a h => ?_, fun _ _ h => .inl h⟩
  · rw [upd_ne (ne_of_none h hp)]; exact h
  · by_cases e : a = p
    · subst e; exact absurd hp h
    · rw [upd_ne e]; exact h
theorem hr_put {p : Addr} {o : HO} (hr : HR S W g H) (hp : H p = none) : HR S W g (upd H p o) := by
  have e : Ext W g H W g (upd H p o) := ext_put hp
  refine ⟨fun n c h => ?_, hr.inj, hr.dis, fun a h => e.tr a (hr.fz a h), fun n a h => e.tr a (hr.tr n a h), hr.bd⟩
  obtain ⟨a, ha, r⟩ := hr.cell n c h
  refine ⟨a, ha, r.mono hr.no e fun o' h' => ?_⟩
  rw [upd_ne (ne_of_none h' hp)]; exact h'
theorem HR.freeF {p : Addr} (hr : HR S W g H) (hp : H p = none) : ¬ W.F p := fun f => hr.fz p f hp
theorem HR.freeφ {p : Addr} (hr : HR S W g H) (hp : H p = none) : ∀ n, W.φ n ≠ some p := fun n f => hr.tr n p f hp
theorem PF.lst {us : List U} {vs : List V} (h : PF S W g H Q E (.ok (.lst us) g)) (hr : HR S W g H) (r : RUs S W H us vs) {p : Addr} (hp : H p = none) : Q (.ref p) (upd H p (.lst vs)) :=
  h W _ p vs (ext_put hp) (hr_put hr hp) hp (hr.freeF hp) (hr.freeφ hp) upd_same (r.mono hr.no (ext_put hp))
theorem PF.tupNew {us : List U} {vs : List V} (h : PF S W g H Q E (.ok (.tup us) g)) (hr : HR S W g H) (r : RUs S W H us vs) {p : Addr} (hp : H p = none) : Q (.ref p) (upd H p (.tup vs)) :=
  h _ _ _ (ext_new hr hp) (hr_new hr hp) (.tup (.inr rfl) upd_same (r.mono hr.no (ext_new hr hp)))
theorem PF.old {u : U} {v : V} (h : PF S W g H Q E (.ok u g)) (hr : HR S W g H) (r : RU S W H u v) (hu : asD [] u = none ∧ asL [] u = none) : Q v H := by
  cases u with
  | lst l => cases hu.2
  | dct k l => cases hu.1
  | _ => exact h W H v Ext.refl hr r
theorem PO.tupNew {us : List U} {vs : List V} (h : PO S (RU' S) W g H Q E (.ok (.tup us) g)) (hr : HR S W g H) (r : RUs S W H us vs) {p : Addr} (hp : H p = none) : Q (.ref p) (upd H p (.tup vs)) :=
  h _ _ _ (ext_new hr hp) (hr_new hr hp) (.tup (.inr rfl) upd_same (r.mono hr.no (ext_new hr hp)))
def binR (S : Sg) (E : WX) (σ : L2.St) (op : Operator) : R2 := fun x y H Q => ∃ W g a b, HR S W g H ∧ RU S W H a x ∧ RU S W H b y ∧ PF S W g H Q (fun c d H' => E c d σ H') (binU g op a b)
theorem line_ok {n : Nat} (h : line n = true) : n ≤ sizeLine := of_decide_eq_true h
/-- the list that stands at an own cell, or is data, tracked -/
theorem trk_lst {l : List U} {v : V} (r : RU S W H (.lst l) v) : ∃ p vs, v = .ref p ∧ H p = some (.lst vs) ∧ RUs S W H l vs := by
  cases r with
  | lst f q r => exact ⟨_, _, rfl, q, r⟩
theorem trk_ref (hr : HR S W g H) {n : Nat} {l : List U} {v : V} (r : RU S W H (.ref n) v) (hg : gat g n = some (.lst l)) : ∃ p vs, v = .ref p ∧ H p = some (.lst vs) ∧ RUs S W H l vs := by
  cases r with
  | ref q =>
    obtain ⟨vs, h1, h2⟩ := hr.cellOk hg q
    exact ⟨_, vs, rfl, h1, h2⟩
theorem binU_ok {X : Cx} (hK : X.K = S.K) (σ0 : L2.St) {EE : WX} {op : Operator} : OpR X (binaryOp op) (binR S EE σ0 op) := by
  intro pins s σ H x y v u Q I rx ry ⟨W, g, a, b, hr, ra, rb, h⟩
  have cat : ∀ {l1 l2 : List U}, (∃ p vs, x = .ref p ∧ H p = some (.lst vs) ∧ RUs S W H l1 vs) → (∃ p vs, y = .ref p ∧ H p = some (.lst vs) ∧ RUs S W H l2 vs) →
      PF S W g H Q (fun c d H' => EE c d σ0 H') (grd (line (l1.length + l2.length)) (.ok (.lst (l1 ++ l2)) g)) → wpAny (model X.prog X.w) X.A (binaryOp .Add v u) (EP X pins σ Q) X.xe s := by
    rintro l1 l2 ⟨p, vs, rfl, hp, r1⟩ ⟨q, ws, rfl, hq, r2⟩ h
    obtain ⟨hl, h⟩ := grd_ok (P := PF S W g H Q _) PF.nb h
    have hl := line_ok hl
    exact op_cat pins s σ H _ _ v u Q I rx ry ⟨p, q, vs, ws, rfl, rfl, hp, hq, by rw [← r1.length, ← r2.length]; exact hl, fun z hz => h.lst hr (r1.app r2) hz⟩
  unfold binU at h
  split at h
  · cases ra; cases rb
    exact op_add pins s σ H _ _ v u Q I rx ry ⟨_, _, rfl, rfl, h.int hr⟩
  · cases ra; cases rb
    exact op_sub pins s σ H _ _ v u Q I rx ry ⟨_, _, rfl, rfl, h.int hr⟩
  · obtain ⟨hb, h⟩ := grd_ok (P := PF S W g H Q _) PF.nb h
    cases ra; cases rb
    unfold mulOk small64 at hb
    simp only [Bool.or_eq_true, Bool.and_eq_true, decide_eq_true_eq] at hb
    rcases hb with hb | hb | hb
    · exact op_mul pins s σ H _ _ v u Q I rx ry ⟨_, _, rfl, rfl, .inl hb, h.int hr⟩
    · exact op_mul pins s σ H _ _ v u Q I rx ry ⟨_, _, rfl, rfl, .inr hb, h.int hr⟩
    · exact op_mulW pins s σ H _ _ v u Q I rx ry ⟨_, _, rfl, rfl, hb, h.int hr⟩
  · obtain ⟨hb, h⟩ := grd_ok (P := PF S W g H Q _) PF.nb h
    cases ra; cases rb
    unfold divOk at hb
    simp only [Bool.and_eq_true, decide_eq_true_eq] at hb
    exact op_fdivW pins s σ H _ _ v u Q I rx ry ⟨_, _, rfl, rfl, hb, h.int hr⟩
  · obtain ⟨hb, h⟩ := grd_ok (P := PF S W g H Q _) PF.nb h
    cases ra; cases rb
    exact op_mod pins s σ H _ _ v u Q I rx ry ⟨_, _, rfl, rfl, of_decide_eq_true hb, h.int hr⟩
  · obtain ⟨hb, h⟩ := grd_ok (P := PF S W g H Q _) PF.nb h
    cases ra; cases rb
    unfold powOk at hb
    simp only [Bool.and_eq_true, decide_eq_true_eq] at hb
    obtain ⟨t, rfl⟩ := rx
    obtain ⟨t', rfl⟩ := ry
    exact pow_int hb.1 hb.2 ⟨.int _, H, I.tok _, ⟨_, rfl⟩, h.int hr⟩
  · obtain ⟨hb, h⟩ := grd_ok (P := PF S W g H Q _) PF.nb h
    cases ra; cases rb
    exact op_add_str pins s σ H _ _ v u Q I rx ry ⟨_, _, rfl, rfl, line_ok hb, h.str hr⟩
  · rename_i a1 b1
    obtain ⟨hb, h⟩ := grd_ok (P := PF S W g H Q _) PF.nb h
    have hb := line_ok hb
    cases ra with
    | @tup p us vs f q r =>
    cases rb with
    | @tup p' us' vs' f' q' r' =>
    have e1 := r.length
    have e2 := r'.length
    refine op_catA pins s σ H _ _ v u Q I rx ry ⟨p, p', vs, vs', rfl, rfl, by rw [hK]; exact .inl (.inl q), by rw [hK]; exact .inl (.inl q'), by omega, fun z => ?_, fun z z' => ?_, fun z z' w hw => ?_⟩
    · have : a1 = [] := List.length_eq_zero_iff.mp (by rw [e1, z]; rfl)
      subst this
      exact h.old hr (.tup f' q' r') ⟨rfl, rfl⟩
    · have : b1 = [] := List.length_eq_zero_iff.mp (by rw [e2, z']; rfl)
      subst this
      rw [List.append_nil] at h
      exact h.old hr (.tup f q r) ⟨rfl, rfl⟩
    · exact h.tupNew hr (r.app r') hw
  · exact cat (trk_lst ra) (trk_lst rb) h
  · split at h
    · rename_i hg
      exact cat (trk_lst ra) (trk_ref hr rb hg) h
    · exact h.elim
  · split at h
    · rename_i hg
      exact cat (trk_ref hr ra hg) (trk_lst rb) h
    · exact h.elim
  · split at h
    · rename_i hg hg'
      exact cat (trk_ref hr ra hg) (trk_ref hr rb hg') h
    · exact h.elim
  · obtain ⟨hb, h⟩ := grd_ok (P := PF S W g H Q _) PF.nb h
    simp only [Bool.and_eq_true, decide_eq_true_eq] at hb
    obtain ⟨p, vs, rfl, hp, r1⟩ := trk_lst ra
    cases rb
    exact op_rep pins s σ H _ _ v u Q I rx ry ⟨p, _, vs, rfl, rfl, hp, hb.1, hb.2.1, by rw [← r1.length]; exact line_ok hb.2.2, fun z hz => h.lst hr (r1.rep _) hz⟩
  · exact h.elim
end
end PM
set_option maxRecDepth 100000
set_option maxHeartbeats 1000000
/-! PM, part i: comparisons, truth, subscripts, slices by values. -/
namespace PM
open PySem PySem.Spec PyProof.Rows L2
section
variable {S : Sg} {W W' : Wd} {g g' : G} {H H' : Hp} {E : EK} {Q : VK}
theorem PO.bl {b : Bool} (h : PO S (RU' S) W g H Q E (.ok (.bl b) g)) (hr : HR S W g H) : Q (.bl b) H := h W H _ Ext.refl hr (.bl b)
theorem PO.at {u : U} {v : V} (h : PO S (RU' S) W g H Q E (.ok u g)) (hr : HR S W g H) (r : RU S W H u v) : Q v H := h W H _ Ext.refl hr r
def cmpR (S : Sg) (E : WX) (σ : L2.St) (op : CmpOp) : R2 := fun x y H Q => ∃ W g a b, HR S W g H ∧ RU S W H a x ∧ RU S W H b y ∧ PO S (RU' S) W g H Q (fun c d H' => E c d σ H') (cmpU g op a b)
theorem intsOf_ok : ∀ (l : List U) {ns : List Int} {vs : List V}, intsOf l = some ns → RUs S W H l vs → vs = ns.map V.int ∧ l = ns.map U.int
  | [], ns, vs, h, r => by
    cases r; cases h; exact ⟨rfl, rfl⟩
  | u :: us, ns, vs, h, r => by
    cases r with
    | cons a r =>
    cases a <;> first | (cases h; done) | skip
    rename_i i
    have h' : (intsOf us).map (i :: ·) = some ns := h
    cases e : intsOf us with
    | none => rw [e] at h'; cases h'
    | some q =>
      rw [e] at h'
      cases h'
      obtain ⟨h1, h2⟩ := intsOf_ok us e r
      exact ⟨by rw [h1]; rfl, by rw [h2]; rfl⟩
theorem lex_same : ∀ a b : List Int, lexLt a b = HT.lexLt a b
  | [], [] => rfl
  | [], _ :: _ => rfl
  | _ :: _, [] => rfl
  | x :: xs, y :: ys => by
    show (if x = y then lexLt xs ys else decide (x < y)) = (if x = y then HT.lexLt xs ys else decide (x < y))
    rw [lex_same xs ys]
theorem isNon_ok {a : U} {x : V} (r : RU S W H a x) : decide (x = .non) = isNon a := by
  cases r <;> simp [isNon]
theorem ob_ok {α : Prop} {f : Bool → Bool} {o : Option Bool} {P : Res U → Prop} (hb : ¬ P .bad) (h : P (ob g f o)) : ∃ b, o = some b ∧ P (.ok (.bl (f b)) g) := by
  cases o with
  | none => exact (hb h).elim
  | some b => exact ⟨b, rfl, h⟩
theorem cmpU_ok {X : Cx} (hK : X.K = S.K) (hu : X.A.units + 65 < cLine) (σ0 : L2.St) {EE : WX} {op : CmpOp} : OpR X (compareOp op) (cmpR S EE σ0 op) := by
  intro pins s σ H x y v u Q I rx ry ⟨W, g, a, b, hr, ra, rb, h⟩
  have ci : ∀ {f : Int → Int → Bool} {op' : CmpOp}, OpR X (compareOp op') (rI0 fun i j => .bl (f i j)) → PO S (RU' S) W g H Q (fun c d H' => EE c d σ0 H') (cmpI g f a b) → wpAny (model X.prog X.w) X.A (compareOp op' v u) (EP X pins σ Q) X.xe s := by
    intro f op' rule h
    unfold cmpI at h
    split at h
    · cases ra; cases rb
      exact rule pins s σ H _ _ v u Q I rx ry ⟨_, _, rfl, rfl, h.bl hr⟩
    · exact h.elim
  unfold cmpU at h
  split at h
  · obtain ⟨r, e, h⟩ := ob_ok (α := True) (P := PO S (RU' S) W g H Q _) PO.nb h
    exact op_eqA (by omega) pins s σ H _ _ v u Q I rx ry (eqU_ok hK hr (neg := false) ra rb e (h.bl hr))
  · obtain ⟨r, e, h⟩ := ob_ok (α := True) (P := PO S (RU' S) W g H Q _) PO.nb h
    exact op_neA (by omega) pins s σ H _ _ v u Q I rx ry (eqU_ok hK hr (neg := true) ra rb e (h.bl hr))
  · split at h
    · rename_i n1 n2 h1 h2
      cases ra with
      | @tup p us vs f q r =>
      cases rb with
      | @tup p' us' vs' f' q' r' =>
      obtain ⟨e1, _⟩ := intsOf_ok _ h1 r
      obtain ⟨e2, _⟩ := intsOf_ok _ h2 r'
      refine op_ltT (by omega) pins s σ H _ _ v u Q I rx ry ⟨p, p', n1, n2, rfl, rfl, by rw [hK, ← e1]; exact .inl (.inl q), by rw [hK, ← e2]; exact .inl (.inl q'), ?_⟩
      rw [← lex_same]; exact h.bl hr
    · exact h.elim
  · exact ci op_lt h
  · exact ci op_le h
  · exact ci op_gt h
  · exact ci op_ge h
  · cases rb
    exact op_isN pins s σ H _ _ v u Q I rx ry ⟨rfl, by rw [isNon_ok ra]; exact h.bl hr⟩
  · cases rb
    exact op_notN pins s σ H _ _ v u Q I rx ry ⟨rfl, by rw [isNon_ok ra]; exact h.bl hr⟩
  · obtain ⟨r, e, h⟩ := ob_ok (α := True) (P := PO S (RU' S) W g H Q _) PO.nb h
    exact op_inA hu pins s σ H _ _ v u Q I rx ry (inU_ok hK hr (neg := false) ra rb e (h.bl hr))
  · obtain ⟨r, e, h⟩ := ob_ok (α := True) (P := PO S (RU' S) W g H Q _) PO.nb h
    exact op_ninA hu pins s σ H _ _ v u Q I rx ry (inU_ok hK hr (neg := true) ra rb e (h.bl hr))
  · exact h.elim
/-! ### truth -/
theorem emp_len {K : Sg} : ∀ {us : List U} {vs : List V}, RUs K W H us vs → vs.isEmpty = us.isEmpty
  | _, _, .nil => rfl
  | _, _, .cons _ _ => rfl
theorem truU_ok {X : Cx} (hK : X.K = S.K) (hr : HR S W g H) {a : U} {x : V} {b : Bool} (r : RU S W H a x) (e : truU g a = some b) : TruV X.K x H b := by
  have li : ∀ {l : List U}, asL g a = some l → some (!l.isEmpty) = some b → TruV X.K x H b := fun {l} e1 e2 => by
    cases e2
    obtain ⟨p, vs, rfl, sq, rs⟩ := asL_ok hr r e1
    exact .inl ⟨vs, by rw [hK]; exact sq, by rw [emp_len rs]⟩
  unfold truU at e
  split at e
  · cases r; cases e; rfl
  · cases r; cases e; rfl
  · cases r; cases e; rfl
  · cases r with
    | tup f q r =>
      cases e
      exact .inr (.inl ⟨_, by rw [hK]; exact .inl (.inl q), by rw [emp_len r]⟩)
  · split at e
    · rename_i l hl
      exact li hl e
    · cases e
/-! ### subscripts -/
def ixR (S : Sg) (E : WX) (σ : L2.St) : R2 := fun x y H Q => ∃ W g a b u, HR S W g H ∧ RU S W H a x ∧ RU S W H b y ∧ ixU g a b = some u ∧ PO S (RU' S) W g H Q (fun c d H' => E c d σ H') (.ok u g)
theorem ixOf_at {α : Type} {l : List α} {i : Int} {j : Nat} {z : α} (h : ixOf l.length i = some j) (hz : l[j]? = some z) : atI l i = some z := by
  show (ixOf l.length i).bind (fun j => l[j]?) = some z
  rw [h]; exact hz
theorem ixU_ok {X : Cx} (hK : X.K = S.K) (hu : X.A.units + 1 < cLine) (σ0 : L2.St) {EE : WX} : IxR X (ixR S EE σ0) := by
  intro value slice pins s σ H x y v u Q I rx ry ⟨W, g, a, b, z, hr, ra, rb, e, h⟩ hs
  have dct : ∀ {k : Bool} {l : List (U × U)}, asD g a = some (k, l) → dctIx k l b = some z → wpAny (model X.prog X.w) X.A (subscriptTail value slice v u) (EP X pins σ Q) X.xe s := by
    intro k l hd e
    unfold dctIx at e
    split at e
    · rename_i hk
      obtain ⟨p, o, rfl, dg, hl⟩ := dget_ok hr ra rb hd hk
      rcases hl with ⟨e1, _⟩ | ⟨z', w, e1, rfl, rz⟩
      · rw [e1] at e; cases e
      · rw [e1] at e; cases e
        cases rx
        exact tail_any (dict_typeIs I dg) PySem.F.slot_dict_getitem.lookup (d_getItem hu I dg ry fun w' s3 I3 rw' => ⟨w, H, I3, rw', h.at hr rz⟩) hs
    · cases e
  have seq : ∀ {l : List U}, asS g a = some l → seqIx l b = some z → wpAny (model X.prog X.w) X.A (subscriptTail value slice v u) (EP X pins σ Q) X.xe s := by
    intro l hl e
    obtain ⟨p, vs, rfl, sq, rs⟩ := asS_ok hr ra hl
    cases rb with
    | int i =>
      have e : (ixOf l.length i).bind (fun j => l[j]?) = some z := e
      cases hj : ixOf l.length i with
      | none => rw [hj] at e; cases e
      | some j =>
        rw [hj] at e
        obtain ⟨w, hw, rz⟩ := rs.get (show l[j]? = some z from e)
        have hat : atI vs i = some w := ixOf_at (by rw [← rs.length]; exact hj) hw
        rcases sq with sq | sq
        · exact ix_list value slice pins s σ H _ _ v u Q I rx ry ⟨p, vs, i, w, rfl, rfl, by rw [hK]; exact sq, hat, h.at hr rz⟩ hs
        · exact ix_tup value slice pins s σ H _ _ v u Q I rx ry ⟨p, vs, i, w, rfl, rfl, by rw [hK]; exact sq, hat, h.at hr rz⟩ hs
    | _ => cases e
  unfold ixU at e
  split at e
  · rename_i x'
    cases ra
    cases rb with
    | int i =>
      have e : (match line x'.length with
        | true => (ixOf x'.length i).bind fun j => (x'.cps.toList[j]?).map fun c => U.str ⟨#[c]⟩
        | false => none) = some z := e
      cases hl : line x'.length with
      | false => rw [hl] at e; cases e
      | true =>
      rw [hl] at e
      have e : ((ixOf x'.length i).bind fun j => (x'.cps.toList[j]?).map fun c => U.str ⟨#[c]⟩) = some z := e
      cases hj : ixOf x'.length i with
      | none => rw [hj] at e; cases e
      | some j =>
        rw [hj] at e
        have e' : (x'.cps.toList[j]?).map (fun c => U.str ⟨#[c]⟩) = some z := e
        cases hc : x'.cps.toList[j]? with
        | none => rw [hc] at e'; cases e'
        | some c =>
          rw [hc] at e'
          cases e'
          refine ix_str value slice pins s σ H _ _ v u Q I rx ry ⟨x', i, c, rfl, rfl, line_ok hl, ixOf_at (by simpa [Str.length] using hj) hc, h.at hr (.str _)⟩ hs
    | _ => cases e
  · split at e
    · rename_i k l hd
      exact dct hd e
    · split at e
      · rename_i l hs'
        exact seq hs' e
      · cases e
/-! ### slices -/
def slR (S : Sg) (E : WX) (σ : L2.St) : V → Option Int → Option Int → Hp → VK → Prop := fun x lo hi H Q => ∃ W g a u1 u2, HR S W g H ∧ RU S W H a x ∧ optI u1 = some lo ∧ optI u2 = some hi ∧ PF S W g H Q (fun c d H' => E c d σ H') (slU g a u1 u2)
theorem clip_eq (n d : Nat) (i : Int) : clip n i = HT.sIx n d (some i) := by
  show (if 0 ≤ i then min i.toNat n else (i + n).toNat) = if i < 0 then (i + (n : Int)).toNat else min i.toNat n
  by_cases h : 0 ≤ i
  · rw [if_pos h, if_neg (by omega)]
  · rw [if_neg h, if_pos (by omega)]
theorem clip_le (n : Nat) (i : Int) : clip n i ≤ n := by
  rw [clip_eq n n i]; exact HT.sIx_le n n (Nat.le_refl _) _
theorem ixc_eq (n d : Nat) (o : Option Int) : ixc n d o = HT.sIx n d o := by
  cases o with
  | none => rfl
  | some i => exact clip_eq n d i
theorem cut_cutV {us : List U} {vs : List V} {K : Sg} (r : RUs K W H us vs) (lo hi : Option Int) : RUs K W H (cut us lo hi) (cutV vs lo hi) := by
  unfold cut cutV
  rw [ixc_eq, ixc_eq, r.length]
  exact (r.drop _).take _
theorem slU_ok {X : Cx} (hK : X.K = S.K) (σ0 : L2.St) {EE : WX} : SlR X (slR S EE σ0) := by
  intro pins s σ H x v vl vu lo hi sl Q I rx hs pl pu ⟨W, g, a, u1, u2, hr, ra, e1, e2, h⟩
  unfold slU at h
  rw [e1, e2] at h
  dsimp only at h
  split at h
  · rename_i x'
    obtain ⟨hb, h⟩ := grd_ok (P := PF S W g H Q _) PF.nb h
    cases ra
    refine sl_str pins s σ H _ v vl vu lo hi sl Q I rx hs pl pu ⟨x', rfl, line_ok hb, ?_⟩
    have : cutS x' lo hi = ⟨(cut x'.cps.toList lo hi).toArray⟩ := by
      unfold cutS cut
      rw [ixc_eq, ixc_eq]
      simp [Str.length]
    rw [this]
    exact h.str hr
  · rename_i l
    cases ra with
    | @tup p us vs f q r =>
    refine sl_tupA pins s σ H _ v vl vu lo hi sl Q I rx hs pl pu ⟨p, vs, rfl, by rw [hK]; exact .inl (.inl q), fun z => ?_, fun _ w hw => ?_⟩
    · have : cut l lo hi = l := by
        unfold cut
        rw [ixc_eq, ixc_eq, r.length, z.1, z.2]
        simp [← r.length]
      rw [this] at h
      exact h.old hr (.tup f q r) ⟨rfl, rfl⟩
    · exact h.tupNew hr (cut_cutV r lo hi) hw
  · split at h
    · rename_i l hl
      obtain ⟨p, vs, rfl, sq, rs⟩ := asL_ok hr ra hl
      exact sl_list pins s σ H _ v vl vu lo hi sl Q I rx hs pl pu ⟨p, vs, rfl, by rw [hK]; exact sq, fun w hw => h.lst hr (cut_cutV rs lo hi) hw⟩
    · exact h.elim
end
end PM
set_option maxRecDepth 100000
set_option maxHeartbeats 1000000
/-! PM, part j: what a piece of syntax does, by the machine: the rules. -/
namespace PM
open PySem PySem.Spec PyProof.Rows L2
/-- the statics of a law -/
structure Law where
  S : Sg
  T : Tb
  fnN : Nat → Str
  gvN : Nat → Str
  clN : Nat → Str
  dn : Nat → Bool
/-- a def's promise by the machine -/
def SpF (S : Sg) (sem : List U → G → Res U) : Sp := fun vs H Q E => ∃ W g us, HR S W g H ∧ RUs S W H us vs ∧ PO S (RU' S) W g H Q E (sem us g)
def boots : List Str := ["len", "min", "max", "sorted", "sum", "all", "any", "int", "str", "list", "tuple", "abs", "set", "range", "enumerate", "zip", "isinstance", "bool", "dict", "repr", "ValueError"]
def tyV (S : Sg) : Ty → V
  | .int => .ty "int"
  | .bool => .ty "bool"
  | .str => .ty "str"
  | .list => .ty "list"
  | .tuple => .ty "tuple"
  | .dict => .ty "dict"
  | .own c => .ref (S.cls c)
  | .ve => .ty "ValueError"
def tyW (S : Sg) : Ty → Value
  | .int => .type "int"
  | .bool => .type "bool"
  | .str => .type "str"
  | .list => .type "list"
  | .tuple => .type "tuple"
  | .dict => .type "dict"
  | .own c => .ref (S.cls c)
  | .ve => .type "ValueError"
/-- what the classes of exceptions must say -/
structure Xc (L : Law) (K : PySem.W.Frag) (mg : Str → Option Value) : Prop where
  nm : ∀ c, L.T.cs c = true → mg (L.clN c) = some (.ref (L.S.cls c))
  isE : ∀ c, L.T.cs c = true → ExcC K (L.S.cls c)
  sub : ∀ c d, L.T.cs c = true → L.T.cs d = true → PySem.W.kitOne K (.ref (L.S.cls c)) (.ref (L.S.cls d)) = some (subC c d) ∧ PySem.W.exmOne K (.ref (L.S.cls c)) (.ref (L.S.cls d)) = some (subC c d)
  ve : ∀ c, L.T.cs c = true → PySem.W.kitOne K (.ref (L.S.cls c)) (.type "ValueError") = some true
  kp : ∀ c, L.T.cs c = true → PySem.W.keepIn K (.ref (L.S.cls c)) = true ∧ PySem.W.subIn K (.ref (L.S.cls c)) (.type "BaseException") = some true ∧ PySem.W.typeIn K (.ref (L.S.cls c)) = some (.type "type")
  ex : ∀ c, L.T.cs c = true → hasF c = false → PySem.W.excIn K (L.S.cls c) [.type "ValueError", .type "Exception", .type "BaseException", .type "object"] "ValueError.__new__" = true
  oe : ∀ c, L.T.cs c = true → hasF c = true → OexC K (L.S.cls c) ∧ XfC K (L.S.cls c) ∧ PySem.W.findIn K (.ref (L.S.cls c)) (L.S.xf c) = some none
/-- the __init__ of an exception with a field -/
def SpI (S : Sg) (c : Nat) : Sp := fun vs H Q _ => ∃ a v, vs = [.ref a, v] ∧ H a = some (exo a (S.cls c) none) ∧ ∀ dx, H dx = none → dx ≠ a → Q .non (upd (upd H dx (exd dx [(S.xf c, v)])) a (exo a (S.cls c) (some dx)))
structure Fct (L : Law) (P : Program) (w : World) (mg : Str → Option Value) (base : Heap) (k : Nat) : Prop where
  gv : ∀ x u, L.T.gv x = some u → ∃ v val, mg (L.gvN x) = some val ∧ RelV v val ∧ ∀ W H, RU L.S W H u v
  fn : ∀ f, L.dn f = true → ∃ addr fd ps, mg (L.fnN f) = some (.ref addr) ∧ PySem.W.keepIn L.S.K (.ref addr) = true ∧ Binds L.S.K fd ps [] ∧ FnOk P w L.S.K mg base (L2.CX P w) k addr fd ps (SpF L.S (L.T.fn f))
  bt : ∀ x ∈ boots, mg x = none
  xc : Xc L L.S.K mg
  xi : ∀ c, L.T.cs c = true → hasF c = true → ∃ fI fd ps, PySem.W.findIn L.S.K (.ref (L.S.cls c)) "__init__" = some (some (.ref fI)) ∧ PySem.W.typeIn L.S.K (.ref fI) = some (.type "function") ∧ Binds L.S.K fd ps [] ∧ FnOk P w L.S.K mg base (L2.CX P w) 2 fI fd ps (SpI L.S c)
structure Gd (L : Law) (X : Cx) (E : WX) (k : Nat) (top : Str → Bool) : Prop where
  hK : X.K = L.S.K
  calm : X.calm = true
  nd : X.N.Nodup
  room : Room k X.A
  k3 : 3 ≤ k
  tk : Takes X E
  fc : Fct L X.prog X.w X.mg X.base k
  fn : ∀ x, top x = true → X.fn x = true
def TFv (S : Sg) (E : WX) (m : Ev → G → Res U) : TE := fun σ H Q => ∃ e W g, EnvR S W H e σ ∧ HR S W g H ∧ PF S W g H Q (fun c d H' => E c d σ H') (m e g)
section
variable {S : Sg} {W : Wd} {g : G} {H : Hp} {Q : VK} {E : EK}
theorem PF_of {r : Res U} (h : PO S (RU' S) W g H Q E r) : PF S W g H Q E r := by
  cases r with
  | bad => exact h
  | err x g' => exact h
  | ok u g' =>
    cases u with
    | lst us =>
      intro W' H' p vs x hr hp hf hφ hh rs
      have hr2 := wd_fz hr hφ (by rw [hh]; exact fun z => nomatch z)
      exact h _ H' _ (ext_fz x hp hφ) hr2 (.lst (.inr rfl) hh (RUs_more (fun a f => .inl f) rs))
    | dct k us =>
      cases k
      · intro W' H' p vs x hr hp hf hφ hh rs
        have hr2 := wd_fz hr hφ (by rw [hh]; exact fun z => nomatch z)
        exact h _ H' _ (ext_fz x hp hφ) hr2 (.dK (.inr rfl) hh (RUk_more (fun a f => .inl f) rs))
      · intro W' H' p vs x hr hp hf hφ hh rs
        have hr2 := wd_fz hr hφ (by rw [hh]; exact fun z => nomatch z)
        exact h _ H' _ (ext_fz x hp hφ) hr2 (.dT (.inr rfl) hh (RUt_more (fun a f => .inl f) rs))
    | _ => exact fun W' H' v => h W' H' v
/-- a new object that stands already becomes an own cell -/
theorem ext_own {W' : Wd} {g' : G} {H' : Hp} {p : Addr} {c : Cell} (x : Ext W g H W' g' H') (hr : HR S W' g' H') (hp : H p = none) : Ext W g H (W'.cell g'.length p) (g' ++ [some c]) H' := by
  refine ⟨fun n a h => ?_, x.F, x.keep, x.nF, fun a h => ?_, x.tr, fun n a h => by
    have h' : (if n = g'.length then some p else W'.φ n) = some a := h
    by_cases q : n = g'.length
    · rw [if_pos q] at h'; cases h'; exact .inr hp
    · rw [if_neg q] at h'; exact x.nφ n a h'⟩
  · have h' := x.φ n a h
    show (if n = g'.length then some p else W'.φ n) = some a
    rw [if_neg (Nat.ne_of_lt (hr.bd n a h'))]; exact h'
  · obtain ⟨n, d, hn, ha⟩ := h
    rw [gat_push] at hn
    have ha' : (if n = g'.length then some p else W'.φ n) = some a := ha
    by_cases e : n = g'.length
    · rw [if_pos e] at ha'; cases ha'; exact .inr hp
    · rw [if_neg e] at ha' hn; exact x.nO a ⟨n, d, hn, ha'⟩
mutual
theorem RU_cell {K : Sg} {n : Nat} {p : Addr} (hb : ∀ m a, W.φ m = some a → m < n) : ∀ {u : U} {v : V}, RU K W H u v → RU K (W.cell n p) H u v
  | _, _, .non => .non
  | _, _, .bl b => .bl b
  | _, _, .int i => .int i
  | _, _, .str x => .str x
  | _, _, .tup f h r => .tup f h (RUs_cell hb r)
  | _, _, .lst f h r => .lst f h (RUs_cell hb r)
  | _, _, .dK f h r => .dK f h (RUk_cell hb r)
  | _, _, .dT f h r => .dT f h (RUt_cell hb r)
  | _, _, .scr h => .scr h
  | _, _, .ref (n := m) (a := a) h => .ref (by
    show (if m = n then some p else W.φ m) = some a
    rw [if_neg (Nat.ne_of_lt (hb m a h))]; exact h)
  | _, _, .ex0 f h => .ex0 f h
  | _, _, .ex1 f h f2 h2 r => .ex1 f h f2 h2 (RU_cell hb r)
theorem RUs_cell {K : Sg} {n : Nat} {p : Addr} (hb : ∀ m a, W.φ m = some a → m < n) : ∀ {u : List U} {v : List V}, RUs K W H u v → RUs K (W.cell n p) H u v
  | _, _, .nil => .nil
  | _, _, .cons a r => .cons (RU_cell hb a) (RUs_cell hb r)
theorem RUk_cell {K : Sg} {n : Nat} {p : Addr} (hb : ∀ m a, W.φ m = some a → m < n) : ∀ {u : List (U × U)} {v : List (Key × V)}, RUk K W H u v → RUk K (W.cell n p) H u v
  | _, _, .nil => .nil
  | _, _, .cons q a r => .cons q (RU_cell hb a) (RUk_cell hb r)
theorem RUt_cell {K : Sg} {n : Nat} {p : Addr} (hb : ∀ m a, W.φ m = some a → m < n) : ∀ {u : List (U × U)} {v : List (List Key × V)}, RUt K W H u v → RUt K (W.cell n p) H u v
  | _, _, .nil => .nil
  | _, _, .cons q a r => .cons q (RU_cell hb a) (RUt_cell hb r)
end
theorem RUf_cell {n : Nat} {p : Addr} (hb : ∀ m a, W.φ m = some a → m < n) : ∀ {u : List (Nat × U)} {v : List (Str × V)}, RUf S W H u v → RUf S (W.cell n p) H u v
  | _, _, .nil => .nil
  | _, _, .cons a r => .cons (RU_cell hb a) (RUf_cell hb r)
theorem CellR_cell {n : Nat} {p : Addr} (hb : ∀ m a, W.φ m = some a → m < n) {a : Addr} : ∀ {c : Cell}, CellR S W H a c → CellR S (W.cell n p) H a c
  | .lst us, ⟨vs, h, r⟩ => ⟨vs, h, RUs_cell hb r⟩
  | .dct false us, ⟨vs, h, r⟩ => ⟨vs, h, RUk_cell hb r⟩
  | .dct true us, ⟨vs, h, r⟩ => ⟨vs, h, RUt_cell hb r⟩
  | .ins c fs, ⟨dx, vs, h, r⟩ => ⟨dx, vs, h, RUf_cell hb r⟩
theorem hr_own {p : Addr} {c : Cell} (hr : HR S W g H) (hf : ¬ W.F p) (hφ : ∀ n, W.φ n ≠ some p) (hp : H p ≠ none) (hc : CellR S W H p c) : HR S (W.cell g.length p) (g ++ [some c]) H := by
  have φe : ∀ n, (W.cell g.length p).φ n = if n = g.length then some p else W.φ n := fun _ => rfl
  refine ⟨fun n d h => ?_, fun n m c1 c2 a h1 h2 h3 h4 => ?_, fun a h f => ?_, hr.fz, fun n a h => ?_, fun n a h => ?_⟩
  · rw [gat_push] at h
    by_cases q : n = g.length
    · rw [if_pos q] at h; cases h
      exact ⟨p, by rw [φe, if_pos q], CellR_cell hr.bd hc⟩
    · rw [if_neg q] at h
      obtain ⟨a, ha, r⟩ := hr.cell n d h
      exact ⟨a, by rw [φe, if_neg q]; exact ha, CellR_cell hr.bd r⟩
  · rw [gat_push] at h1 h2
    rw [φe] at h3 h4
    by_cases q1 : n = g.length <;> by_cases q2 : m = g.length
    · rw [q1, q2]
    · rw [if_pos q1] at h3; rw [if_neg q2] at h4; cases h3
      exact absurd h4 (hφ m)
    · rw [if_neg q1] at h3; rw [if_pos q2] at h4; cases h4
      exact absurd h3 (hφ n)
    · rw [if_neg q1] at h1 h3; rw [if_neg q2] at h2 h4
      exact hr.inj n m c1 c2 a h1 h2 h3 h4
  · obtain ⟨n, d, hn, ha⟩ := h
    rw [gat_push] at hn
    rw [φe] at ha
    by_cases q : n = g.length
    · rw [if_pos q] at ha; cases ha; exact hf f
    · rw [if_neg q] at ha hn; exact hr.dis a ⟨n, d, hn, ha⟩ f
  · rw [φe] at h
    by_cases q : n = g.length
    · rw [if_pos q] at h; cases h; exact hp
    · rw [if_neg q] at h; exact hr.tr n a h
  · rw [φe] at h
    rw [List.length_append]
    by_cases q : n = g.length
    · rw [q]; exact Nat.lt_succ_self _
    · rw [if_neg q] at h; exact Nat.lt_succ_of_lt (hr.bd n a h)
theorem PF_mk {r : Res U} (h : PO S (RU' S) W g H Q E (r.bd fun x g => mkU g x)) : PF S W g H Q E r := by
  cases r with
  | bad => exact h
  | err x g' => exact h
  | ok u g' =>
    have fin : ∀ {c : Cell} {W' : Wd} {H' : Hp} {p : Addr}, PO S (RU' S) W g H Q E (.ok (.ref g'.length) (g' ++ [some c])) → Ext W g H W' g' H' → HR S W' g' H' → H p = none → ¬ W'.F p → (∀ n, W'.φ n ≠ some p) → H' p ≠ none → CellR S W' H' p c → Q (.ref p) H' := by
      intro c W' H' p h x hr hp hf hφ hh hc
      exact h _ H' _ (ext_own x hr hp) (hr_own hr hf hφ hh hc) (.ref (by show (if g'.length = g'.length then some p else _) = some p; rw [if_pos rfl]))
    cases u with
    | lst us => exact fun W' H' p vs x hr hp hf hφ hh rs => fin h x hr hp hf hφ (by rw [hh]; exact fun z => nomatch z) ⟨vs, hh, rs⟩
    | dct k us =>
      cases k
      · exact fun W' H' p vs x hr hp hf hφ hh rs => fin h x hr hp hf hφ (by rw [hh]; exact fun z => nomatch z) ⟨vs, hh, rs⟩
      · exact fun W' H' p vs x hr hp hf hφ hh rs => fin h x hr hp hf hφ (by rw [hh]; exact fun z => nomatch z) ⟨vs, hh, rs⟩
    | _ => exact h.elim
end
section
variable {S : Sg} {α : Type} {β : Type} {R : Wd → Hp → α → β → Prop} {W : Wd} {g : G} {H : Hp} {σ : L2.St} {e : Ev} {E : WX}
def AfF (S : Sg) (R : Wd → Hp → α → β → Prop) (cu : List U) (cv : List V) (e : Ev) (σ : L2.St) (E : WX) (Q : VK) (f : α → G → Res U) (b : β) (H1 : Hp) : Prop :=
  ∃ W1 g1 a, EnvR S W1 H1 e σ ∧ RUs S W1 H1 cu cv ∧ HR S W1 g1 H1 ∧ R W1 H1 a b ∧ PF S W1 g1 H1 Q (fun c d H' => E c d σ H') (f a g1)
theorem PF.bd {cu : List U} {cv : List V} {f : α → G → Res U} {Q : VK} (er : EnvR S W H e σ) (rc : RUs S W H cu cv) (hr : HR S W g H) : ∀ {r : Res α}, PF S W g H Q (fun c d H' => E c d σ H') (r.bd f) → PO S R W g H (AfF S R cu cv e σ E Q f) (fun c d H' => E c d σ H') r
  | .ok a g', h => fun W' H' b x h1 h2 => ⟨W', g', a, er.mono hr.no x, rc.mono hr.no x, h1, h2, PF.shift x h⟩
  | .err _ g', h => h
  | .bad, h => h
end
end PM
set_option maxRecDepth 100000
set_option maxHeartbeats 1000000
/-! PM, part k: expressions, rule by rule. -/
namespace PM
open PySem PySem.Spec PyProof.Rows L2
structure SE (S : Sg) (X : Cx) (E : WX) (m : Ev → G → Res U) (ex : Expr) (fr : Bool) : Prop where
  pe : PE X ex (TEv S E m)
  pf : fr = true → PE X ex (TFv S E m)
  pt : PT X ex (TTv S E fun e g => tst (m e g))
section
variable {L : Law} {X : Cx} {E : WX} {k : Nat} {top : Str → Bool} {ex ea eb ec : Expr} {ma mb mc m : Ev → G → Res U} {f1 f2 f3 : Bool} {pos : Pos}
theorem TEv.toF {S : Sg} {σ : L2.St} {H : Hp} {Q : VK} (h : TEv S E m σ H Q) : TFv S E m σ H Q := by
  obtain ⟨e, W, g, er, hr, po⟩ := h
  exact ⟨e, W, g, er, hr, PF_of po⟩
theorem peI {t t' : TE} (h : PE X ex t) (hi : ∀ σ H Q, t' σ H Q → t σ H Q) : PE X ex t' := ⟨fun pins s σ H Q I q => h.run pins s σ H Q I (hi _ _ _ q)⟩
theorem ptI {t t' : TT} (h : PT X ex t) (hi : ∀ σ H Q, t' σ H Q → t σ H Q) : PT X ex t' := ⟨fun pins s σ H Q I q => h.run pins s σ H Q I (hi _ _ _ q)⟩
/-- the truth of a value -/
theorem tru_po {S : Sg} (hK : X.K = S.K) {W : Wd} {g : G} {H : Hp} {Q : Bool → Hp → Prop} {EE : EK} {u : U} {v : V} (hr : HR S W g H) (r : RU S W H u v) (h : PO S RB W g H Q EE (tru g u)) : ∃ b, TruV X.K v H b ∧ Q b H := by
  unfold tru at h
  cases e : truU g u with
  | none => rw [e] at h; exact h.elim
  | some b => rw [e] at h; exact ⟨b, truU_ok hK hr r e, h.now hr rfl⟩
abbrev Plain (ex : Expr) (X : Cx) : Prop := ∀ whole, isTrue ex X.env whole = (do let v ← whole; standAt ex.pos; holding [v] (truthy v))
theorem pt_of (hK : X.K = L.S.K) (h : PE X ex (TEv L.S E m)) (he : Plain ex X) : PT X ex (TTv L.S E fun e g => tst (m e g)) := by
  refine ptI (pt_truth h he) fun σ H Q ⟨e, W, g, er, hr, po⟩ => ⟨e, W, g, er, hr, PO.mono (fun v H' h' => ?_) (PO.bd (R := RU' L.S) er .nil hr po)⟩
  obtain ⟨W1, g1, u, er1, _, hr1, r1, p1⟩ := h'
  exact tru_po hK hr1 r1 p1
theorem SE.ofF (hK : X.K = L.S.K) (h : PE X ex (TFv L.S E m)) (he : Plain ex X) : SE L.S X E m ex true :=
  have p : PE X ex (TEv L.S E m) := peI h fun _ _ _ => TEv.toF
  ⟨p, fun _ => h, pt_of hK p he⟩
theorem SE.ofE (hK : X.K = L.S.K) (h : PE X ex (TEv L.S E m)) (he : Plain ex X) : SE L.S X E m ex false :=
  ⟨h, (fun z => by cases z), pt_of hK h he⟩
theorem SE.weak (h : SE L.S X E m ex f1) : SE L.S X E m ex false := ⟨h.pe, (fun z => by cases z), h.pt⟩
/-- mk -/
theorem se_mk (hd : Gd L X E k top) (ha : SE L.S X E ma ex true) (he : Plain ex X) : SE L.S X E (fun e g => (ma e g).bd fun x g => mkU g x) ex false := by
  refine SE.ofE hd.hK (peI (ha.pf rfl) fun σ H Q ⟨e, W, g, er, hr, po⟩ => ⟨e, W, g, er, hr, PF_mk po⟩) he
/-! ### leaves -/
theorem se_c (hK : X.K = L.S.K) {u : U} {v : V} (h : PE X ex (tC v)) (r : ∀ W H, RU L.S W H u v) (he : Plain ex X) : SE L.S X E (fun _ g => .ok u g) ex false :=
  SE.ofE hK (peI h fun σ H Q ⟨e, W, g, er, hr, po⟩ => po.now hr (r W H)) he
theorem se_var (hK : X.K = L.S.K) {i : Nat} {x : Str} (hN : X.N[i]? = some x) (hv : Vis X.env.scope x) (hd : (x == ("__debug__" : Str)) = false) (hcd : (x == ("__classdict__" : Str)) = false) :
    SE L.S X E (fun e g => match e[i]? with
      | some (some u) => .ok u g
      | _ => .bad) (.Name x pos) false := by
  refine SE.ofE hK (peI (pe_var hN hv hd hcd) fun σ H Q ⟨e, W, g, er, hr, po⟩ => ?_) fun _ => rfl
  cases he : e[i]? with
  | none => simp only [he] at po; exact po.elim
  | some o =>
    cases o with
    | none => simp only [he] at po; exact po.elim
    | some u =>
      simp only [he] at po
      obtain ⟨v, h1, h2⟩ := er.2 i u he
      exact ⟨v, h1, po.now hr h2⟩
/-! ### operators -/
/-- two expressions in a row, and what is wanted of both -/
theorem two_pf {S : Sg} {σ : L2.St} {H : Hp} {Q : VK} {f : U → U → G → Res U} (h : TFv S E (fun e g => (ma e g).bd fun x g => (mb e g).bd fun y g => f x y g) σ H Q) :
    TEv S E ma σ H fun x H1 => TEv S E mb σ H1 fun y H2 => ∃ W g a b, HR S W g H2 ∧ RU S W H2 a x ∧ RU S W H2 b y ∧ PF S W g H2 Q (fun c d H' => E c d σ H') (f a b g) := by
  obtain ⟨e, W, g, er, hr, po⟩ := h
  refine ⟨e, W, g, er, hr, PO.mono (fun v H1 h1 => ?_) (PF.bd (R := RU' S) er .nil hr po)⟩
  obtain ⟨W1, g1, u1, er1, _, hr1, r1, p1⟩ := h1
  refine ⟨e, W1, g1, er1, hr1, PO.mono (fun v2 H2 h2 => ?_) (PF.bd (R := RU' S) er1 (.cons r1 .nil) hr1 p1)⟩
  obtain ⟨W2, g2, u2, er2, rc, hr2, r2, p2⟩ := h2
  cases rc with
  | cons rc _ => exact ⟨W2, g2, u1, u2, hr2, rc, r2, p2⟩
theorem two_po {S : Sg} {σ : L2.St} {H : Hp} {Q : VK} {f : U → U → G → Res U} (h : TEv S E (fun e g => (ma e g).bd fun x g => (mb e g).bd fun y g => f x y g) σ H Q) :
    TEv S E ma σ H fun x H1 => TEv S E mb σ H1 fun y H2 => ∃ W g a b, HR S W g H2 ∧ RU S W H2 a x ∧ RU S W H2 b y ∧ PO S (RU' S) W g H2 Q (fun c d H' => E c d σ H') (f a b g) := by
  obtain ⟨e, W, g, er, hr, po⟩ := h
  refine ⟨e, W, g, er, hr, PO.mono (fun v H1 h1 => ?_) (PO.bd (R := RU' S) er .nil hr po)⟩
  obtain ⟨W1, g1, u1, er1, _, hr1, r1, p1⟩ := h1
  refine ⟨e, W1, g1, er1, hr1, PO.mono (fun v2 H2 h2 => ?_) (PO.bd (R := RU' S) er1 (.cons r1 .nil) hr1 p1)⟩
  obtain ⟨W2, g2, u2, er2, rc, hr2, r2, p2⟩ := h2
  cases rc with
  | cons rc _ => exact ⟨W2, g2, u1, u2, hr2, rc, r2, p2⟩
theorem se_bin (hd : Gd L X E k top) {op : Operator} (ha : SE L.S X E ma ea f1) (hb : SE L.S X E mb eb f2) : SE L.S X E (fun e g => (ma e g).bd fun x g => (mb e g).bd fun y g => binU g op x y) (.BinOp ea op eb pos) true := by
  refine SE.ofF hd.hK ⟨fun pins s σ H Q I h => ?_⟩ fun _ => rfl
  exact wpAny_BinOp (binT ha.pe hb.pe I (two_pf h) fun v u s2 x y H2 I2 rx ry q => binU_ok hd.hK σ pins s2 σ H2 x y v u Q I2 rx ry q)
theorem se_neg (hd : Gd L X E k top) (ha : SE L.S X E ma ea f1) : SE L.S X E (fun e g => (ma e g).bd fun x g => match x with
    | .int i => .ok (.int (-i)) g
    | _ => .bad) (.UnaryOp .USub ea pos) false := by
  refine SE.ofE hd.hK (peI (pe_un un_neg ha.pe) fun σ H Q ⟨e, W, g, er, hr, po⟩ => ⟨e, W, g, er, hr, PO.mono (fun v H' h' => ?_) (PO.bd (R := RU' L.S) er .nil hr po)⟩) fun _ => rfl
  obtain ⟨W1, g1, u, er1, _, hr1, r1, p1⟩ := h'
  cases r1 <;> first | exact p1.elim | skip
  exact ⟨_, rfl, p1.now hr1 (.int _)⟩
theorem se_cmp (hd : Gd L X E k top) {op : CmpOp} (ha : SE L.S X E ma ea f1) (hb : SE L.S X E mb eb f2) (hm : behindInMarks op eb = false) : SE L.S X E (fun e g => (ma e g).bd fun x g => (mb e g).bd fun y g => cmpU g op x y) (.Compare ea [op] [eb] pos) false := by
  have hu : X.A.units + 65 < cLine := by have := hd.room.un; omega
  have p : PE X (.Compare ea [op] [eb] pos) (TEv L.S E fun e g => (ma e g).bd fun x g => (mb e g).bd fun y g => cmpU g op x y) :=
    ⟨fun pins s σ H Q I h => wpAny_Compare1 (binT ha.pe hb.pe I (two_po h) fun v u s2 x y H2 I2 rx ry q => cmpU_ok hd.hK hu σ pins s2 σ H2 x y v u Q I2 rx ry q) hm⟩
  refine ⟨p, (fun z => by cases z), ⟨fun pins s σ H Q I h => ?_⟩⟩
  obtain ⟨e, W, g, er, hr, po⟩ := h
  have h2 : TEv L.S E (fun e g => (ma e g).bd fun x g => (mb e g).bd fun y g => cmpU g op x y) σ H (fun v H' => ∃ b, TruV X.K v H' b ∧ Q b H') :=
    ⟨e, W, g, er, hr, PO.mono (fun v H' h' => by
      obtain ⟨W1, g1, u, er1, _, hr1, r1, p1⟩ := h'
      exact tru_po hd.hK hr1 r1 p1) (PO.bd (R := RU' L.S) er .nil hr po)⟩
  refine wpAny_isTrue_Compare1 (binT ha.pe hb.pe I (two_po h2) fun v u s2 x y H2 I2 rx ry q => thn (cmpU_ok hd.hK hu σ pins s2 σ H2 x y v u _ I2 rx ry q) fun c s3 ⟨z, H3, I3, r3, b, tb, q3⟩ => ?_) hm
  exact tru_ok pins s3 σ H3 z c Q I3 r3 ⟨b, tb, q3⟩
end
end PM
set_option maxRecDepth 100000
set_option maxHeartbeats 1000000
/-! PM, part l: expressions, rule by rule (further). -/
namespace PM
open PySem PySem.Spec PyProof.Rows L2
section
variable {L : Law} {X : Cx} {E : WX} {k : Nat} {top : Str → Bool} {ex ea eb ec : Expr} {ma mb mc m : Ev → G → Res U} {f1 f2 f3 : Bool} {pos : Pos}
theorem cmpI_ne {g : G} {f : Int → Int → Bool} {a b : U} {x : Ex} {g' : G} : cmpI g f a b ≠ .err x g' := by
  unfold cmpI; split <;> exact fun z => nomatch z
theorem ob_ne {g : G} {f : Bool → Bool} {o : Option Bool} {x : Ex} {g' : G} : ob g f o ≠ .err x g' := by
  unfold ob; split <;> exact fun z => nomatch z
theorem cmpU_ne {g : G} {op : CmpOp} {a b : U} {x : Ex} {g' : G} : cmpU g op a b ≠ .err x g' := by
  unfold cmpU
  split <;> first | exact ob_ne | exact cmpI_ne | (split <;> exact fun z => nomatch z) | exact fun z => nomatch z
theorem PO_ne {S : Sg} {α β : Type} {R : Wd → Hp → α → β → Prop} {W : Wd} {g : G} {H : Hp} {Q : β → Hp → Prop} {E1 E2 : EK} {r : Res α} (ne : ∀ x g', r ≠ .err x g') (h : PO S R W g H Q E1 r) : PO S R W g H Q E2 r := by
  cases r with
  | bad => exact h
  | ok a g' => exact h
  | err x g' => exact absurd rfl (ne x g')
def cmp0 (S : Sg) (op : CmpOp) : R2 := cmpR S (fun _ _ _ _ => False) [] op
theorem cmpU_ok0 (hd : Gd L X E k top) {op : CmpOp} : OpR X (compareOp op) (cmp0 L.S op) := cmpU_ok hd.hK (by have := hd.room.un; omega) [] 
/-- a chain of two -/
def chU (mc : Ev → G → Res U) (op op' : CmpOp) (x y : U) (e : Ev) (g : G) : Res U := (cmpU g op x y).bd fun r g => match r with
    | .bl true => (mc e g).bd fun z g => cmpU g op' y z
    | .bl false => .ok (.bl false) g
    | _ => .bad
theorem cmpU_bl {g : G} {op : CmpOp} {a b u : U} {g' : G} (h : cmpU g op a b = .ok u g') : ∃ r, u = .bl r := by
  unfold cmpU ob cmpI at h
  repeat' split at h
  all_goals first | (cases h; exact ⟨_, rfl⟩) | cases h
theorem chain_r (hd : Gd L X E k top) {op op' : CmpOp} {σ : L2.St} {H : Hp} {Q : VK} (h : TEv L.S E (fun e g => (ma e g).bd fun x g => (mb e g).bd fun y g => chU mc op op' x y e g) σ H Q) :
    tChain (cmp0 L.S op) (cmp0 L.S op') (TEv L.S E ma) (TEv L.S E mb) (TEv L.S E mc) σ H Q := by
  obtain ⟨e, W, g, er, hr, po⟩ := h
  refine ⟨e, W, g, er, hr, PO.mono (fun x H1 h1 => ?_) (PO.bd (R := RU' L.S) er .nil hr po)⟩
  obtain ⟨W1, g1, u1, er1, _, hr1, r1, p1⟩ := h1
  refine ⟨e, W1, g1, er1, hr1, PO.mono (fun y H2 h2 => ?_) (PO.bd (R := RU' L.S) er1 (.cons r1 .nil) hr1 p1)⟩
  obtain ⟨W2, g2, u2, er2, rc, hr2, r2, p2⟩ := h2
  cases rc with
  | cons rc _ =>
  refine ⟨W2, g2, u1, u2, hr2, rc, r2, PO_ne (E1 := fun c d H' => E c d σ H') (fun _ _ => cmpU_ne) ?_⟩
  have p3 := PO.bd (R := RU' L.S) er2 (.cons r2 .nil) hr2 p2
  cases hc : cmpU g2 op u1 u2 with
  | bad => rw [hc] at p3; exact p3
  | err x g' => exact absurd hc cmpU_ne
  | ok r g3 =>
    rw [hc] at p3
    obtain ⟨b, rfl⟩ := cmpU_bl hc
    intro W' H' v x1 x2 x3
    obtain ⟨W3, g4, u3, er3, rc3, hr3, r3, p4⟩ := p3 W' H' v x1 x2 x3
    cases x3
    cases r3
    cases rc3 with
    | cons rc3 _ =>
    refine ⟨b, rfl, ?_⟩
    cases b with
    | false => exact p4.now hr3 (.bl false)
    | true =>
      refine ⟨e, W3, g4, er3, hr3, PO.mono (fun z H5 h5 => ?_) (PO.bd (R := RU' L.S) er3 (.cons rc3 .nil) hr3 p4)⟩
      obtain ⟨W5, g5, u5, er5, rc5, hr5, r5, p5⟩ := h5
      cases rc5 with
      | cons rc5 _ => exact ⟨W5, g5, u2, u5, hr5, rc5, r5, PO_ne (fun _ _ => cmpU_ne) p5⟩
theorem se_chain (hd : Gd L X E k top) {op op' : CmpOp} (ha : SE L.S X E ma ea f1) (hb : SE L.S X E mb eb f2) (hc : SE L.S X E mc ec f3) (hm : lastMarks [op, op'] [eb, ec] = false) :
    SE L.S X E (fun e g => (ma e g).bd fun x g => (mb e g).bd fun y g => chU mc op op' x y e g) (.Compare ea [op, op'] [eb, ec] pos) false := by
  refine ⟨peI (pe_chain (cmpU_ok0 hd) (cmpU_ok0 hd) ha.pe hb.pe hc.pe hm) fun σ H Q h => chain_r hd h, (fun z => by cases z), ⟨fun pins s σ H Q I h => ?_⟩⟩
  refine (pt_chain (pos := pos) (cmpU_ok0 hd) (cmpU_ok0 hd) ha.pe hb.pe hc.pe hm).run pins s σ H Q I (chain_r hd ?_)
  obtain ⟨e, W, g, er, hr, po⟩ := h
  refine ⟨e, W, g, er, hr, ?_⟩
  -- the answer is a truth
  have key : ∀ {r : Res U} {W : Wd} {g : G} {H : Hp}, HR L.S W g H → (∀ u g', r = .ok u g' → ∃ b, u = .bl b) → PO L.S RB W g H Q (fun c d H' => E c d σ H') (tst r) → PO L.S (RU' L.S) W g H (fun x H' => ∃ k, x = .bl k ∧ Q k H') (fun c d H' => E c d σ H') r := by
    intro r W g H hr hb p
    cases r with
    | bad => exact p
    | err x g' => exact p
    | ok u g' =>
      obtain ⟨b, rfl⟩ := hb u g' rfl
      intro W' H' v x1 x2 x3
      cases x3
      exact ⟨b, rfl, p W' H' b x1 x2 rfl⟩
  refine key hr ?_ po
  intro u g' h
  have h : (ma e g).bd (fun x g => (mb e g).bd fun y g => chU mc op op' x y e g) = .ok u g' := h
  cases h1 : ma e g with
  | ok x g1 =>
    rw [h1] at h
    have h : (mb e g1).bd (fun y g => chU mc op op' x y e g) = .ok u g' := h
    cases h2 : mb e g1 with
    | ok y g2 =>
      rw [h2] at h
      have h : (cmpU g2 op x y).bd (fun r g => match r with
        | .bl true => (mc e g).bd fun z g => cmpU g op' y z
        | .bl false => .ok (.bl false) g
        | _ => .bad) = .ok u g' := h
      cases h3 : cmpU g2 op x y with
      | ok r g3 =>
        rw [h3] at h
        obtain ⟨b, rfl⟩ := cmpU_bl h3
        cases b with
        | false => cases h; exact ⟨_, rfl⟩
        | true =>
          have h : (mc e g3).bd (fun z g => cmpU g op' y z) = .ok u g' := h
          cases h4 : mc e g3 with
          | ok z g4 => rw [h4] at h; exact cmpU_bl h
          | err _ _ => rw [h4] at h; cases h
          | bad => rw [h4] at h; cases h
      | err _ _ => rw [h3] at h; cases h
      | bad => rw [h3] at h; cases h
    | err _ _ => rw [h2] at h; cases h
    | bad => rw [h2] at h; cases h
  | err _ _ => rw [h1] at h; cases h
  | bad => rw [h1] at h; cases h
/-! ### not, and, or, if -/
theorem tst_bl (r : Res Bool) : tst (r.bd fun b g => .ok (.bl b) g) = r := by cases r <;> rfl
theorem tt_po {S : Sg} {σ : L2.St} {H : Hp} {Q : VK} {f : Bool → Ev → G → Res U} {m : Ev → G → Res Bool} (h : TEv S E (fun e g => (m e g).bd fun b g => f b e g) σ H Q) :
    TTv S E m σ H fun b H1 => ∃ e W g, EnvR S W H1 e σ ∧ HR S W g H1 ∧ PO S (RU' S) W g H1 Q (fun c d H' => E c d σ H') (f b e g) := by
  obtain ⟨e, W, g, er, hr, po⟩ := h
  refine ⟨e, W, g, er, hr, PO.mono (fun v H1 h1 => ?_) (PO.bd (R := RB) er .nil hr po)⟩
  obtain ⟨W1, g1, u1, er1, _, hr1, r1, p1⟩ := h1
  cases r1
  exact ⟨e, W1, g1, er1, hr1, p1⟩
theorem se_not (hd : Gd L X E k top) (ha : SE L.S X E ma ea f1) : SE L.S X E (fun e g => (tst (ma e g)).bd fun b g => .ok (.bl (!b)) g) (.UnaryOp .Not ea pos) false := by
  refine ⟨peI (pe_notT ha.pe) fun σ H Q ⟨e, W, g, er, hr, po⟩ => ⟨e, W, g, er, hr, ?_⟩, (fun z => by cases z), ptI (pt_not ha.pt) fun σ H Q ⟨e, W, g, er, hr, po⟩ => ⟨e, W, g, er, hr, ?_⟩⟩
  · have po : PO L.S (RU' L.S) W g H Q (fun c d H' => E c d σ H') ((ma e g).bd fun x g => (tru g x).bd fun b g => .ok (.bl (!b)) g) := by
      dsimp only at po
      cases h : ma e g <;> rw [h] at po <;> exact po
    refine PO.mono (fun v H1 h1 => ?_) (PO.bd (R := RU' L.S) er .nil hr po)
    obtain ⟨W1, g1, u1, er1, _, hr1, r1, p1⟩ := h1
    dsimp only at p1
    obtain ⟨b, t, q⟩ := tru_po (EE := fun c d H' => E c d σ H') hd.hK (Q := fun b H' => Q (.bl (!b)) H') hr1 r1 (by
      cases h : tru g1 u1 with
      | ok b g2 => rw [h] at p1; exact fun W' H' b' x1 x2 x3 => by cases x3; exact p1 W' H' _ x1 x2 (.bl _)
      | err x g2 => rw [h] at p1; exact p1
      | bad => rw [h] at p1; exact p1)
    exact ⟨b, t, q⟩
  · dsimp only at po ⊢
    have po : PO L.S RB W g H Q (fun c d H' => E c d σ H') (tst ((tst (ma e g)).bd fun b g => .ok (.bl (!b)) g)) := po
    cases h : tst (ma e g) with
    | ok b g2 => rw [h] at po; exact fun W' H' b' x1 x2 x3 => by cases x3; exact po W' H' _ x1 x2 rfl
    | err x g2 => rw [h] at po; exact po
    | bad => rw [h] at po; exact po
/-- and, or by truth -/
def anU (mb : Ev → G → Res U) (w : Bool) (e : Ev) (x : U) (g : G) : Res U := match truU g x with
  | some b => if b = w then mb e g else .ok x g
  | none => .bad
theorem an_po (hK : X.K = L.S.K) {w : Bool} {σ : L2.St} {H : Hp} {Q : VK} (h : TEv L.S E (fun e g => (ma e g).bd fun x g => anU mb w e x g) σ H Q) :
    TEv L.S E ma σ H fun x H1 => ∃ k, TruV X.K x H1 k ∧ if k = w then TEv L.S E mb σ H1 Q else Q x H1 := by
  obtain ⟨e, W, g, er, hr, po⟩ := h
  refine ⟨e, W, g, er, hr, PO.mono (fun v H1 h1 => ?_) (PO.bd (R := RU' L.S) er .nil hr po)⟩
  obtain ⟨W1, g1, u1, er1, _, hr1, r1, p1⟩ := h1
  dsimp only at p1
  unfold anU at p1
  cases ht : truU g1 u1 with
  | none => rw [ht] at p1; exact p1.elim
  | some b =>
    rw [ht] at p1
    refine ⟨b, truU_ok hK hr1 r1 ht, ?_⟩
    by_cases hb : b = w
    · have p1 : PO L.S (RU' L.S) W1 g1 H1 Q (fun c d H' => E c d σ H') (if b = w then mb e g1 else .ok u1 g1) := p1
      rw [if_pos hb] at p1 ⊢
      exact ⟨e, W1, g1, er1, hr1, p1⟩
    · have p1 : PO L.S (RU' L.S) W1 g1 H1 Q (fun c d H' => E c d σ H') (if b = w then mb e g1 else .ok u1 g1) := p1
      rw [if_neg hb] at p1 ⊢
      exact p1.now hr1 r1
theorem an_pt {w : Bool} {σ : L2.St} {H : Hp} {Q : Bool → Hp → Prop} (h : TTv L.S E (fun e g => tst ((ma e g).bd fun x g => anU mb w e x g)) σ H Q) :
    TTv L.S E (fun e g => tst (ma e g)) σ H fun b H1 => if b = w then TTv L.S E (fun e g => tst (mb e g)) σ H1 Q else Q b H1 := by
  obtain ⟨e, W, g, er, hr, po⟩ := h
  refine ⟨e, W, g, er, hr, ?_⟩
  dsimp only at po ⊢
  cases h : ma e g with
  | bad => rw [h] at po; exact po
  | err x g' => rw [h] at po; exact po
  | ok u g' =>
    rw [h] at po
    have po : PO L.S RB W g H Q (fun c d H' => E c d σ H') (tst (anU mb w e u g')) := po
    show PO L.S RB W g H _ _ (tru g' u)
    unfold tru
    unfold anU at po
    cases ht : truU g' u with
    | none => rw [ht] at po; exact po
    | some b =>
      rw [ht] at po
      have po : PO L.S RB W g H Q (fun c d H' => E c d σ H') (tst (if b = w then mb e g' else .ok u g')) := po
      intro W' H' b' x1 x2 x3
      cases x3
      by_cases hb : b = w
      · rw [if_pos hb] at po ⊢
        exact ⟨e, W', g', er.mono hr.no x1, x2, PO.shift x1 po⟩
      · rw [if_neg hb] at po ⊢
        have po : PO L.S RB W g H Q (fun c d H' => E c d σ H') (tru g' u) := po
        unfold tru at po
        rw [ht] at po
        exact po W' H' _ x1 x2 rfl
theorem pw_of {op : BoolOp} {vs : List Expr} {t : TT} (h : PT X (.BoolOp op vs pos) t) : PW X (.BoolOp op vs pos) t := ⟨fun whole => h.run⟩
theorem se_and (hd : Gd L X E k top) {rest : List Expr} (ha : SE L.S X E ma ea f1) (hb : SE L.S X E mb (.BoolOp .And (eb :: rest) pos) f2) :
    SE L.S X E (fun e g => (ma e g).bd fun x g => anU mb true e x g) (.BoolOp .And (ea :: eb :: rest) pos) false := by
  refine ⟨peI (pe_andT ha.pe hb.pe) fun σ H Q h => an_po hd.hK h, (fun z => by cases z), ptI (PW.pt (pw_and ha.pt (pw_of hb.pt))) fun σ H Q h => ?_⟩
  obtain ⟨e, W, g, er, hr, po⟩ := an_pt h
  refine ⟨e, W, g, er, hr, PO.mono (fun b H1 h1 => ?_) po⟩
  cases b with
  | true => exact h1
  | false => exact h1
theorem se_or (hd : Gd L X E k top) {rest : List Expr} (ha : SE L.S X E ma ea f1) (hb : SE L.S X E mb (.BoolOp .Or (eb :: rest) pos) f2) :
    SE L.S X E (fun e g => (ma e g).bd fun x g => anU mb false e x g) (.BoolOp .Or (ea :: eb :: rest) pos) false := by
  refine ⟨peI (pe_orT ha.pe hb.pe) fun σ H Q h => ?_, (fun z => by cases z), ptI (PW.pt (pw_or ha.pt (pw_of hb.pt))) fun σ H Q h => ?_⟩
  · obtain ⟨e, W, g, er, hr, po⟩ := an_po (X := X) hd.hK h
    refine ⟨e, W, g, er, hr, PO.mono (fun x H1 ⟨b, t, q⟩ => ⟨b, t, ?_⟩) po⟩
    cases b with
    | true => exact q
    | false => exact q
  · obtain ⟨e, W, g, er, hr, po⟩ := an_pt h
    refine ⟨e, W, g, er, hr, PO.mono (fun b H1 h1 => ?_) po⟩
    cases b with
    | true => exact h1
    | false => exact h1
/-- the last of an and, an or -/
theorem se_one {op : BoolOp} (ha : SE L.S X E ma ea f1) : SE L.S X E ma (.BoolOp op [ea] pos) false := by
  refine ⟨pe_one ha.pe, (fun z => by cases z), ?_⟩
  cases op with
  | And => exact PW.pt (pw_and1 ha.pt)
  | Or => exact PW.pt (pw_or1 ha.pt)
theorem se_ite (hd : Gd L X E k top) (hc : SE L.S X E mc ec f3) (ha : SE L.S X E ma ea f1) (hb : SE L.S X E mb eb f2) : SE L.S X E (fun e g => (tst (mc e g)).bd fun r g => match r with
    | true => ma e g
    | false => mb e g) (.IfExp ec ea eb pos) false := by
  refine ⟨peI (pe_ifExp hc.pt ha.pe hb.pe) fun σ H Q h => ?_, (fun z => by cases z), ⟨fun pins s σ H Q I h => ?_⟩⟩
  · obtain ⟨e, W, g, er, hr, po⟩ := tt_po (f := fun r e g => match r with
      | true => ma e g
      | false => mb e g) h
    refine ⟨e, W, g, er, hr, PO.mono (fun b H1 ⟨e', W1, g1, er1, hr1, p1⟩ => ?_) po⟩
    cases b with
    | true => exact ⟨e', W1, g1, er1, hr1, p1⟩
    | false => exact ⟨e', W1, g1, er1, hr1, p1⟩
  · have h2 : TTv L.S E (fun e g => tst (mc e g)) σ H fun b H1 => if b = true then TTv L.S E (fun e g => tst (ma e g)) σ H1 Q else TTv L.S E (fun e g => tst (mb e g)) σ H1 Q := by
      obtain ⟨e, W, g, er, hr, po⟩ := h
      refine ⟨e, W, g, er, hr, ?_⟩
      dsimp only at po ⊢
      cases h : tst (mc e g) with
      | bad => rw [h] at po; exact po
      | err x g' => rw [h] at po; exact po
      | ok b g' =>
        rw [h] at po
        intro W' H' b' x1 x2 x3
        cases x3
        cases b with
        | true => exact ⟨e, W', g', er.mono hr.no x1, x2, PO.shift x1 po⟩
        | false => exact ⟨e, W', g', er.mono hr.no x1, x2, PO.shift x1 po⟩
    show wpAny _ _ (isTrue (.IfExp ec ea eb pos) X.env _) _ _ _
    unfold PySem.isTrue
    refine wpAny_bind (thn (hc.pt.run pins s σ H _ I h2) fun b s1 ⟨H1, I1, q1⟩ => ?_)
    cases b with
    | true => exact ha.pt.run pins s1 σ H1 Q I1 q1
    | false => exact hb.pt.run pins s1 σ H1 Q I1 q1
end
end PM
set_option maxRecDepth 100000
set_option maxHeartbeats 1000000
/-! PM, part m: argument lists, displays, subscripts, calls of defs. -/
namespace PM
open PySem PySem.Spec PyProof.Rows L2
def notStar : Expr → Bool
  | .Starred _ _ => false
  | _ => true
theorem star1 {e : Expr} (h : notStar e = true) {es : List Expr} {env : Env} : starEach (e :: es) env = (false, eval e env) :: starEach es env := by
  cases e <;> first | rfl | cases h
theorem starAny {pos : Pos} {env : Env} : ∀ {es : List Expr}, es.all notStar = true → (backTo pos (starEach es env)).any (·.1) = false
  | [], _ => rfl
  | e :: es, h => by
    rw [List.all_cons, Bool.and_eq_true] at h
    rw [star1 h.1]
    have ih := starAny (pos := pos) (env := env) h.2
    unfold backTo at ih ⊢
    rw [List.map_cons, List.any_cons, ih]; rfl
structure SA (S : Sg) (X : Cx) (E : WX) (m : Ev → G → Res (List U)) (es : List Expr) : Prop where
  pa : PA X es (TAv S E m)
  ns : es.all notStar = true
section
variable {L : Law} {X : Cx} {E : WX} {k : Nat} {top : Str → Bool} {ex ea eb ec : Expr} {es : List Expr} {ma mb mc m : Ev → G → Res U} {ms : Ev → G → Res (List U)} {f1 f2 f3 : Bool} {pos : Pos}
theorem paI {t t' : TA} (h : PA X es t) (hi : ∀ σ H Q, t' σ H Q → t σ H Q) : PA X es t' := ⟨fun pos pins s σ H Q I q => h.run pos pins s σ H Q I (hi _ _ _ q)⟩
theorem sa_nil : SA L.S X E (fun _ g => .ok [] g) [] :=
  ⟨paI pa_nil fun σ H Q ⟨e, W, g, er, hr, po⟩ => po.now hr .nil, rfl⟩
theorem sa_cons (ha : SE L.S X E ma ea f1) (hs : SA L.S X E ms es) (hn : notStar ea = true) : SA L.S X E (fun e g => (ma e g).bd fun x g => (ms e g).bd fun l g => .ok (x :: l) g) (ea :: es) := by
  refine ⟨paI (pa_cons ha.pe hs.pa (star1 hn)) fun σ H Q ⟨e, W, g, er, hr, po⟩ => ⟨e, W, g, er, hr, PO.mono (fun v H1 h1 => ?_) (PO.bd (R := RU' L.S) er .nil hr po)⟩, by rw [List.all_cons, hn, hs.ns]; rfl⟩
  obtain ⟨W1, g1, u1, er1, _, hr1, r1, p1⟩ := h1
  refine ⟨e, W1, g1, er1, hr1, PO.mono (fun v2 H2 h2 => ?_) (PO.bd (R := RUs' L.S) er1 (.cons r1 .nil) hr1 p1)⟩
  obtain ⟨W2, g2, u2, er2, rc, hr2, r2, p2⟩ := h2
  cases rc with
  | cons rc _ => exact p2.now hr2 (.cons rc r2)
theorem ta_pf {S : Sg} {σ : L2.St} {H : Hp} {Q : VK} {f : List U → G → Res U} (h : TFv S E (fun e g => (ms e g).bd fun x g => f x g) σ H Q) :
    TAv S E ms σ H fun vs H1 => ∃ W g us, HR S W g H1 ∧ RUs S W H1 us vs ∧ PF S W g H1 Q (fun c d H' => E c d σ H') (f us g) := by
  obtain ⟨e, W, g, er, hr, po⟩ := h
  refine ⟨e, W, g, er, hr, PO.mono (fun v H1 h1 => ?_) (PF.bd (R := RUs' S) er .nil hr po)⟩
  obtain ⟨W1, g1, u1, er1, _, hr1, r1, p1⟩ := h1
  exact ⟨W1, g1, u1, hr1, r1, p1⟩
theorem ta_po {S : Sg} {σ : L2.St} {H : Hp} {Q : VK} {f : List U → G → Res U} (h : TEv S E (fun e g => (ms e g).bd fun x g => f x g) σ H Q) :
    TAv S E ms σ H fun vs H1 => ∃ W g us, HR S W g H1 ∧ RUs S W H1 us vs ∧ PO S (RU' S) W g H1 Q (fun c d H' => E c d σ H') (f us g) := by
  obtain ⟨e, W, g, er, hr, po⟩ := h
  refine ⟨e, W, g, er, hr, PO.mono (fun v H1 h1 => ?_) (PO.bd (R := RUs' S) er .nil hr po)⟩
  obtain ⟨W1, g1, u1, er1, _, hr1, r1, p1⟩ := h1
  exact ⟨W1, g1, u1, hr1, r1, p1⟩
theorem se_tup (hd : Gd L X E k top) (hs : SA L.S X E ms es) {x1 : Nat} : SE L.S X E (fun e g => (ms e g).bd fun l g => grd (line l.length) (.ok (.tup l) g)) (.Tuple es x1 pos) false := by
  refine SE.ofE hd.hK (peI (pe_tup hs.pa) fun σ H Q h => ?_) fun _ => rfl
  obtain ⟨e, W, g, er, hr, po⟩ := ta_po h
  refine ⟨e, W, g, er, hr, PO.mono (fun vs H1 ⟨W1, g1, us, hr1, r1, p1⟩ => ?_) po⟩
  obtain ⟨hb, p1⟩ := grd_ok (P := PO L.S (RU' L.S) W1 g1 H1 Q _) PO.nb p1
  exact ⟨by rw [← r1.length]; exact line_ok hb, fun p hp => p1.tupNew hr1 r1 hp⟩
theorem se_lst (hd : Gd L X E k top) (hs : SA L.S X E ms es) : SE L.S X E (fun e g => (ms e g).bd fun l g => grd (line l.length) (.ok (.lst l) g)) (.List es pos) true := by
  refine SE.ofF hd.hK (peI (pe_lst hs.pa) fun σ H Q h => ?_) fun _ => rfl
  obtain ⟨e, W, g, er, hr, po⟩ := ta_pf h
  refine ⟨e, W, g, er, hr, PO.mono (fun vs H1 ⟨W1, g1, us, hr1, r1, p1⟩ => ?_) po⟩
  obtain ⟨hb, p1⟩ := grd_ok (P := PF L.S W1 g1 H1 Q _) PF.nb p1
  exact ⟨by rw [← r1.length]; exact line_ok hb, fun p hp => p1.lst hr1 r1 hp⟩
theorem PF.dct {S : Sg} {W : Wd} {g : G} {H : Hp} {Q : VK} {E : EK} {b : Bool} {us : List (U × U)} (h : PF S W g H Q E (.ok (.dct b us) g)) (hr : HR S W g H) {p : Addr} {o : HO} (hp : H p = none)
    (r : match b with
      | false => ∃ vs, o = .dK vs ∧ RUk S W H us vs
      | true => ∃ vs, o = .dT vs ∧ RUt S W H us vs) : Q (.ref p) (upd H p o) := by
  cases b with
  | false =>
    obtain ⟨vs, rfl, r⟩ := r
    exact h W _ p vs (ext_put hp) (hr_put hr hp) hp (hr.freeF hp) (hr.freeφ hp) upd_same (r.mono hr.no (ext_put hp))
  | true =>
    obtain ⟨vs, rfl, r⟩ := r
    exact h W _ p vs (ext_put hp) (hr_put hr hp) hp (hr.freeF hp) (hr.freeφ hp) upd_same (r.mono hr.no (ext_put hp))
theorem se_dct0 (hd : Gd L X E k top) (b : Bool) : SE L.S X E (fun _ g => .ok (.dct b []) g) (.Dict [] [] pos) true := by
  refine SE.ofF hd.hK ?_ fun _ => rfl
  cases b with
  | false => exact peI pe_dnewK fun σ H Q ⟨e, W, g, er, hr, po⟩ => fun p hp => po.dct hr hp ⟨[], rfl, .nil⟩
  | true => exact peI pe_dnewT fun σ H Q ⟨e, W, g, er, hr, po⟩ => fun p hp => po.dct hr hp ⟨[], rfl, .nil⟩
/-! ### subscripts -/
theorem se_ix (hd : Gd L X E k top) (ha : SE L.S X E ma ea f1) (hb : SE L.S X E mb eb f2) (hs : PlainIx eb) : SE L.S X E (fun e g => (ma e g).bd fun x g => (mb e g).bd fun y g => match ixU g x y with
    | some u => .ok u g
    | none => .bad) (.Subscript ea eb pos) false := by
  refine SE.ofE hd.hK ⟨fun pins s σ H Q I h => ?_⟩ fun _ => rfl
  refine Subscript_ (binT ha.pe hb.pe I (two_po h) fun v u s2 x y H2 I2 rx ry q => ?_)
  obtain ⟨W, g, a, b, hr, r1, r2, po⟩ := q
  cases hz : ixU g a b with
  | none => rw [hz] at po; exact po.elim
  | some z =>
    rw [hz] at po
    exact ixU_ok (EE := E) hd.hK (by have := hd.room.un; omega) σ ea eb pins s2 σ H2 x y v u Q I2 rx ry ⟨W, g, a, b, z, hr, r1, r2, hz, po⟩ (hs _ _)
/-- a part of a slice -/
structure SO (S : Sg) (X : Cx) (E : WX) (m : Ev → G → Res U) (eo : Option Expr) : Prop where
  po : L2.PO X eo fun σ H Q => ∃ e W g, EnvR S W H e σ ∧ HR S W g H ∧ PO S (fun _ _ u o => optI u = some o) W g H Q (fun c d H' => E c d σ H') (m e g)
theorem poI {eo : Option Expr} {t t' : TO} (h : L2.PO X eo t) (hi : ∀ σ H Q, t' σ H Q → t σ H Q) : L2.PO X eo t' := ⟨fun pins s σ H Q I q => h.run pins s σ H Q I (hi _ _ _ q)⟩
theorem so_none : SO L.S X E (fun _ g => .ok .non g) none := ⟨poI po_none fun σ H Q ⟨e, W, g, er, hr, po⟩ => po.now hr rfl⟩
theorem so_some (ha : SE L.S X E ma ea f1) : SO L.S X E (fun e g => intR (ma e g)) (some ea) := by
  refine ⟨poI (po_some ha.pe) fun σ H Q ⟨e, W, g, er, hr, po⟩ => ⟨e, W, g, er, hr, ?_⟩⟩
  cases h : ma e g with
  | bad => rw [h] at po; exact po
  | err x g' => rw [h] at po; exact po
  | ok u g' =>
    rw [h] at po
    intro W' H' v x1 x2 x3
    cases x3 <;> first | exact po.elim | skip
    exact ⟨_, rfl, po W' H' _ x1 x2 rfl⟩
theorem se_sl (hd : Gd L X E k top) {lo hi : Option Expr} {p2 : Pos} (ha : SE L.S X E ma ea f1) (hl : SO L.S X E mb lo) (hh : SO L.S X E mc hi) : SE L.S X E (fun e g => (ma e g).bd fun x g => (mb e g).bd fun y g => (mc e g).bd fun z g => slU g x y z) (.Subscript ea (.Slice lo hi none p2) pos) true := by
  refine SE.ofF hd.hK ⟨fun pins s σ H Q I h => ?_⟩ fun _ => rfl
  refine (pe_slice (pos := pos) (p2 := p2) (slU_ok (EE := E) hd.hK σ) ha.pe hl.po hh.po).run pins s σ H Q I ?_
  obtain ⟨e, W, g, er, hr, po⟩ := h
  refine ⟨e, W, g, er, hr, PO.mono (fun v H1 h1 => ?_) (PF.bd (R := RU' L.S) er .nil hr po)⟩
  obtain ⟨W1, g1, u1, er1, _, hr1, r1, p1⟩ := h1
  refine ⟨e, W1, g1, er1, hr1, PO.mono (fun lo' H2 h2 => ?_) (PF.bd (R := fun _ _ u o => optI u = some o) er1 (.cons r1 .nil) hr1 p1)⟩
  obtain ⟨W2, g2, u2, er2, rc, hr2, r2, p2⟩ := h2
  refine ⟨e, W2, g2, er2, hr2, PO.mono (fun hi' H3 h3 => ?_) (PF.bd (R := fun _ _ u o => optI u = some o) er2 rc hr2 p2)⟩
  obtain ⟨W3, g3, u3, er3, rc3, hr3, r3, p3⟩ := h3
  cases rc3 with
  | cons rc3 _ => exact ⟨W3, g3, u1, u2, u3, hr3, rc3, r2, r3, p3⟩
theorem se_rev (hd : Gd L X E k top) {k0 : Nat} {p1 p2 p3 : Pos} (ha : SE L.S X E ma ea f1) : SE L.S X E (fun e g => (ma e g).bd fun x g => match asL g x with
    | some l => .ok (.lst l.reverse) g
    | none => .bad) (.Subscript ea (.Slice none none (some (.UnaryOp .USub (.Constant (.int 1) k0 p1) p2)) p3) pos) true := by
  refine SE.ofF hd.hK (peI (pe_revL ha.pe) fun σ H Q ⟨e, W, g, er, hr, po⟩ => ⟨e, W, g, er, hr, PO.mono (fun v H1 h1 => ?_) (PF.bd (R := RU' L.S) er .nil hr po)⟩) fun _ => rfl
  obtain ⟨W1, g1, u1, er1, _, hr1, r1, p1⟩ := h1
  dsimp only at p1
  cases hl : asL g1 u1 with
  | none => rw [hl] at p1; exact p1.elim
  | some l =>
    rw [hl] at p1
    obtain ⟨a, vs, rfl, sq, rs⟩ := asL_ok hr1 r1 hl
    exact ⟨a, vs, rfl, by rw [hd.hK]; exact sq, fun p hp => p1.lst hr1 rs.rev hp⟩
end
end PM
set_option maxRecDepth 100000
set_option maxHeartbeats 1000000
/-! PM, part n: a call: the callee sees the cells of its arguments alone. -/
namespace PM
open PySem PySem.Spec PyProof.Rows L2
section
variable {K : Sg} {W W' : Wd} {H : Hp}
mutual
theorem RU_flat (hF : ∀ a, W.F a → W'.F a) : ∀ {u : U} {v : V}, u.flat = true → RU K W H u v → RU K W' H u v
  | _, _, _, .non => .non
  | _, _, _, .bl b => .bl b
  | _, _, _, .int i => .int i
  | _, _, _, .str x => .str x
  | _, _, q, .tup f h r => .tup (hF _ f) h (RUs_flat hF q r)
  | _, _, q, .lst f h r => .lst (hF _ f) h (RUs_flat hF q r)
  | _, _, q, .dK f h r => .dK (hF _ f) h (RUk_flat hF q r)
  | _, _, q, .dT f h r => .dT (hF _ f) h (RUt_flat hF q r)
  | _, _, _, .scr h => .scr (h.imp (fun z => ⟨hF _ z.1, z.2⟩) id)
  | _, _, q, .ref h => by cases q
  | _, _, _, .ex0 f h => .ex0 (hF _ f) h
  | _, _, q, .ex1 f h f2 h2 r => .ex1 (hF _ f) h (hF _ f2) h2 (RU_flat hF (by unfold U.flat flatL at q; rw [Bool.and_eq_true] at q; exact q.1) r)
theorem RUs_flat (hF : ∀ a, W.F a → W'.F a) : ∀ {u : List U} {v : List V}, flatL u = true → RUs K W H u v → RUs K W' H u v
  | _, _, _, .nil => .nil
  | _, _, q, .cons a r => by
    unfold flatL at q
    rw [Bool.and_eq_true] at q
    exact .cons (RU_flat hF q.1 a) (RUs_flat hF q.2 r)
theorem RUk_flat (hF : ∀ a, W.F a → W'.F a) : ∀ {u : List (U × U)} {v : List (Key × V)}, flatD u = true → RUk K W H u v → RUk K W' H u v
  | _, _, _, .nil => .nil
  | _, _, q, .cons c a r => by
    unfold flatD flatP at q
    rw [Bool.and_eq_true, Bool.and_eq_true] at q
    exact .cons c (RU_flat hF q.1.2 a) (RUk_flat hF q.2 r)
theorem RUt_flat (hF : ∀ a, W.F a → W'.F a) : ∀ {u : List (U × U)} {v : List (List Key × V)}, flatD u = true → RUt K W H u v → RUt K W' H u v
  | _, _, _, .nil => .nil
  | _, _, q, .cons c a r => by
    unfold flatD flatP at q
    rw [Bool.and_eq_true, Bool.and_eq_true] at q
    exact .cons c (RU_flat hF q.1.2 a) (RUt_flat hF q.2 r)
end
theorem RUf_flat {S : Sg} (hF : ∀ a, W.F a → W'.F a) : ∀ {u : List (Nat × U)} {v : List (Str × V)}, (u.all fun p => p.2.flat) = true → RUf S W H u v → RUf S W' H u v
  | _, _, _, .nil => .nil
  | _, _, q, .cons a r => by
    rw [List.all_cons, Bool.and_eq_true] at q
    exact .cons (RU_flat hF q.1 a) (RUf_flat hF q.2 r)
theorem CellR_flat {S : Sg} (hF : ∀ a, W.F a → W'.F a) {a : Addr} : ∀ {c : Cell}, c.flat = true → CellR S W H a c → CellR S W' H a c
  | .lst us, q, ⟨vs, h, r⟩ => ⟨vs, h, RUs_flat hF q r⟩
  | .dct false us, q, ⟨vs, h, r⟩ => ⟨vs, h, RUk_flat hF q r⟩
  | .dct true us, q, ⟨vs, h, r⟩ => ⟨vs, h, RUt_flat hF q r⟩
  | .ins c fs, q, ⟨dx, vs, h, r⟩ => ⟨dx, vs, h, RUf_flat hF q r⟩
end
theorem refsOf_nd : ∀ l : List U, (refsOf l).Nodup
  | [] => .nil
  | u :: r => by
    have ih := refsOf_nd r
    cases u <;> first | exact ih | skip
    rename_i n
    show (if n ∈ refsOf r then refsOf r else n :: refsOf r).Nodup
    by_cases h : n ∈ refsOf r
    · rw [if_pos h]; exact ih
    · rw [if_neg h]; exact List.nodup_cons.mpr ⟨h, ih⟩
theorem refsOf_mem : ∀ {l : List U} {n : Nat}, U.ref n ∈ l → n ∈ refsOf l
  | [], _, h => by cases h
  | u :: r, n, h => by
    rcases List.mem_cons.mp h with e | h
    · subst e
      show n ∈ (if n ∈ refsOf r then refsOf r else n :: refsOf r)
      by_cases h : n ∈ refsOf r
      · rw [if_pos h]; exact h
      · rw [if_neg h]; exact List.mem_cons_self
    · have ih := refsOf_mem h
      cases u <;> first | exact ih | skip
      rename_i m
      show n ∈ (if m ∈ refsOf r then refsOf r else m :: refsOf r)
      by_cases h : m ∈ refsOf r
      · rw [if_pos h]; exact ih
      · rw [if_neg h]; exact List.mem_cons_of_mem _ ih
theorem takeCells_ok {g : G} : ∀ {rs : List Nat} {cs : G}, takeCells g rs = some cs → cs.length = rs.length ∧ ∀ i n, rs[i]? = some n → ∃ c, gat g n = some c ∧ c.flat = true ∧ gat cs i = some c
  | [], _, h => by cases h; exact ⟨rfl, fun i n h => by simp at h⟩
  | n :: r, cs, h => by
    unfold takeCells at h
    split at h
    · rename_i c hc
      split at h
      · rename_i hf
        split at h
        · rename_i q hq
          cases h
          obtain ⟨h1, h2⟩ := takeCells_ok hq
          refine ⟨by simp [h1], fun i m hm => ?_⟩
          cases i with
          | zero => cases hm; exact ⟨c, hc, hf, rfl⟩
          | succ i =>
            obtain ⟨d, e1, e2, e3⟩ := h2 i m (by simpa using hm)
            exact ⟨d, e1, e2, by unfold gat at e3 ⊢; simpa using e3⟩
        · cases h
      · cases h
    · cases h
/-- what putCells leaves -/
theorem putCells_ok {g1 : G} : ∀ {rs : List Nat} {g g' : G} {i : Nat}, rs.Nodup → (∀ n ∈ rs, n < g.length) → putCells g g1 i rs = some g' →
    g'.length = g.length ∧ (∀ m, m ∉ rs → gat g' m = gat g m) ∧ ∀ j n, rs[j]? = some n → ∃ c, gat g1 (i + j) = some c ∧ c.flat = true ∧ gat g' n = some c
  | [], g, g', i, _, _, h => by cases h; exact ⟨rfl, fun _ _ => rfl, fun j n h => by simp at h⟩
  | n :: r, g, g', i, nd, hl, h => by
    unfold putCells at h
    obtain ⟨nd1, nd2⟩ := List.nodup_cons.mp nd
    have hn : n < g.length := hl n List.mem_cons_self
    split at h
    · rename_i c hc
      split at h
      · rename_i hf
        obtain ⟨h1, h2, h3⟩ := putCells_ok nd2 (fun m hm => by rw [List.length_set]; exact hl m (List.mem_cons_of_mem _ hm)) h
        refine ⟨by rw [h1, List.length_set], fun m hm => ?_, fun j m hj => ?_⟩
        · simp only [List.mem_cons, not_or] at hm
          rw [h2 m hm.2, gat_set hn, if_neg hm.1]
        · cases j with
          | zero =>
            cases hj
            refine ⟨c, hc, hf, ?_⟩
            rw [h2 n nd1, gat_set hn, if_pos rfl]
          | succ j =>
            obtain ⟨d, e1, e2, e3⟩ := h3 j m (by simpa using hj)
            exact ⟨d, by rw [show i + (j + 1) = i + 1 + j by omega]; exact e1, e2, e3⟩
      · cases h
    · cases h
theorem idxOf_get {rs : List Nat} {n : Nat} (h : n ∈ rs) : rs[rs.idxOf n]? = some n := by
  have hl := List.idxOf_lt_length_iff.mpr h
  rw [List.getElem?_eq_getElem hl]
  exact congrArg some (List.getElem_idxOf hl)
section
variable {S : Sg} {W : Wd} {g : G} {H : Hp}
/-- the callee's world -/
def subW (W : Wd) (rs : List Nat) : Wd := ⟨fun i => (rs[i]?).bind W.φ, W.F⟩
theorem subW_φ {rs : List Nat} {i : Nat} {a : Addr} (h : (subW W rs).φ i = some a) : ∃ n, rs[i]? = some n ∧ W.φ n = some a := by
  have h' : (rs[i]?).bind W.φ = some a := h
  cases e : rs[i]? with
  | none => rw [e] at h'; cases h'
  | some n => rw [e] at h'; exact ⟨n, rfl, h'⟩
theorem subW_own {rs : List Nat} {cs : G} (tk : takeCells g rs = some cs) {a : Addr} (h : own (subW W rs) cs a) : ∃ (i n : Nat) (c : Cell), rs[i]? = some n ∧ gat g n = some c ∧ W.φ n = some a := by
  obtain ⟨i, c, _, ha⟩ := h
  obtain ⟨n, h1, h2⟩ := subW_φ ha
  obtain ⟨d, e1, _, _⟩ := (takeCells_ok tk).2 i n h1
  exact ⟨i, n, d, h1, e1, h2⟩
theorem sub_hr {rs : List Nat} {cs : G} (hr : HR S W g H) (nd : rs.Nodup) (tk : takeCells g rs = some cs) : HR S (subW W rs) cs H := by
  obtain ⟨hl, hc⟩ := takeCells_ok tk
  refine ⟨fun i c h => ?_, fun i j c d a h1 h2 h3 h4 => ?_, fun a o => ?_, hr.fz, fun n a h => ?_, fun n a h => ?_⟩
  · have hi := gat_lt h
    have hi' : i < rs.length := by omega
    have e : rs[i]? = some rs[i] := List.getElem?_eq_getElem hi'
    obtain ⟨d, e1, e2, e3⟩ := hc i _ e
    rw [h] at e3
    cases e3
    obtain ⟨a, ha, r⟩ := hr.cell _ _ e1
    refine ⟨a, ?_, CellR_flat (W := W) (W' := subW W rs) (fun _ f => f) e2 r⟩
    show (rs[i]?).bind W.φ = some a
    rw [e]; exact ha
  · obtain ⟨n, e1, e2⟩ := subW_φ h3
    obtain ⟨m, e3, e4⟩ := subW_φ h4
    obtain ⟨c1, q1, _, _⟩ := hc i n e1
    obtain ⟨c2, q2, _, _⟩ := hc j m e3
    have : n = m := hr.inj n m c1 c2 a q1 q2 e2 e4
    subst this
    obtain ⟨l1, z1⟩ := List.getElem?_eq_some_iff.mp e1
    obtain ⟨l2, z2⟩ := List.getElem?_eq_some_iff.mp e3
    exact (List.getElem_inj nd).mp (z1.trans z2.symm)
  · obtain ⟨i, n, c, _, e2, e3⟩ := subW_own tk o
    exact hr.dis a ⟨n, c, e2, e3⟩
  · obtain ⟨m, _, e⟩ := subW_φ h
    exact hr.tr m a e
  · obtain ⟨m, e, _⟩ := subW_φ h
    have := (List.getElem?_eq_some_iff.mp e).1
    omega
theorem sub_args {rs : List Nat} : ∀ (us : List U) {vs : List V}, (∀ n, U.ref n ∈ us → n ∈ rs) → us.all okArg = true → RUs S W H us vs → RUs S (subW W rs) H (us.map (renU rs)) vs
  | [], _, _, _, r => by cases r; exact .nil
  | u :: us, _, hm, hk, r => by
    cases r with
    | cons a r =>
    rw [List.all_cons, Bool.and_eq_true] at hk
    refine .cons ?_ (sub_args us (fun n hn => hm n (List.mem_cons_of_mem _ hn)) hk.2 r)
    cases a with
    | @ref n a h =>
      refine .ref ?_
      show (rs[rs.idxOf n]?).bind W.φ = some a
      rw [idxOf_get (hm n List.mem_cons_self)]; exact h
    | non => exact .non
    | bl b => exact .bl b
    | int i => exact .int i
    | str x => exact .str x
    | tup f h r => exact RU_flat (W := W) (W' := subW W rs) (fun _ f => f) hk.1 (.tup f h r)
    | lst f h r => exact RU_flat (W := W) (W' := subW W rs) (fun _ f => f) hk.1 (.lst f h r)
    | dK f h r => exact RU_flat (W := W) (W' := subW W rs) (fun _ f => f) hk.1 (.dK f h r)
    | dT f h r => exact RU_flat (W := W) (W' := subW W rs) (fun _ f => f) hk.1 (.dT f h r)
    | scr h => exact .scr h
    | ex0 f h => exact .ex0 f h
    | ex1 f h f2 h2 r => exact RU_flat (W := W) (W' := subW W rs) (fun _ f => f) hk.1 (.ex1 f h f2 h2 r)
/-- behind the callee -/
theorem sub_back {rs : List Nat} {cs g1 g' : G} {W1 : Wd} {H1 : Hp} (hr : HR S W g H) (nd : rs.Nodup) (tk : takeCells g rs = some cs) (x : Ext (subW W rs) cs H W1 g1 H1) (hr1 : HR S W1 g1 H1) (pt : putCells g g1 0 rs = some g') :
    Ext W g H ⟨W.φ, W1.F⟩ g' H1 ∧ HR S ⟨W.φ, W1.F⟩ g' H1 := by
  obtain ⟨hl, hc⟩ := takeCells_ok tk
  have mem : ∀ n ∈ rs, ∃ i, rs[i]? = some n := fun n hn => ⟨_, idxOf_get hn⟩
  obtain ⟨p1, p2, p3⟩ := putCells_ok nd (fun n hn => by
    obtain ⟨i, e⟩ := mem n hn
    obtain ⟨c, e1, _, _⟩ := hc i n e
    exact gat_lt e1) pt
  have live : ∀ {n c}, gat g' n = some c → ∃ d, gat g n = some d := fun {n c} h => by
    by_cases hn : n ∈ rs
    · obtain ⟨i, e⟩ := mem n hn
      obtain ⟨d, e1, _, _⟩ := hc i n e
      exact ⟨d, e1⟩
    · rw [p2 n hn] at h; exact ⟨c, h⟩
  have sub : ∀ a, own (subW W rs) cs a → own W g a := fun a o => by
    obtain ⟨i, n, c, _, e2, e3⟩ := subW_own tk o
    exact ⟨n, c, e2, e3⟩
  have own' : ∀ a, own (⟨W.φ, W1.F⟩ : Wd) g' a → own W g a := fun a ⟨n, c, h1, h2⟩ => by
    obtain ⟨d, e⟩ := live h1
    exact ⟨n, d, e, h2⟩
  have xx : Ext W g H ⟨W.φ, W1.F⟩ g' H1 := by
    refine ⟨fun _ _ h => h, x.F, fun a o h no => x.keep a o h fun z => no (sub a z), fun a f => ?_, fun a o => .inl (own' a o), x.tr, fun _ _ h => .inl h⟩
    rcases x.nF a f with z | z | z
    · exact .inl z
    · exact .inr (.inl (sub a z))
    · exact .inr (.inr z)
  -- the cells of the arguments
  have at1 : ∀ {i n a}, rs[i]? = some n → W.φ n = some a → W1.φ i = some a := fun {i n a} e ha => x.φ i a (by
    show (rs[i]?).bind W.φ = some a
    rw [e]; exact ha)
  refine ⟨xx, fun n c h => ?_, fun n m c d a h1 h2 h3 h4 => ?_, fun a o f => ?_, hr1.fz, fun n a h => xx.tr a (hr.tr n a h), fun n a h => by rw [p1]; exact hr.bd n a h⟩
  · by_cases hn : n ∈ rs
    · obtain ⟨i, e⟩ := mem n hn
      obtain ⟨d, e1, e2, e3⟩ := p3 i n e
      rw [h] at e3
      cases e3
      rw [Nat.zero_add] at e1
      obtain ⟨c0, q1, _, _⟩ := hc i n e
      obtain ⟨a, ha, _⟩ := hr.cell n c0 q1
      have r := hr1.cellOk e1 (at1 e ha)
      exact ⟨a, ha, CellR_flat (W := W1) (W' := ⟨W.φ, W1.F⟩) (fun _ f => f) e2 r⟩
    · rw [p2 n hn] at h
      obtain ⟨a, ha, r⟩ := hr.cell n c h
      refine ⟨a, ha, r.mono hr.no xx fun o ho => x.keep a o ho fun z => hn ?_⟩
      obtain ⟨i, m, d, e1, e2, e3⟩ := subW_own tk z
      have : n = m := hr.inj n m c d a h e2 ha e3
      rw [this]; exact List.mem_of_getElem? e1
  · obtain ⟨c1, e1⟩ := live h1
    obtain ⟨c2, e2⟩ := live h2
    exact hr.inj n m c1 c2 a e1 e2 h3 h4
  · obtain ⟨n, c, h1, h2⟩ := o
    by_cases hn : n ∈ rs
    · obtain ⟨i, e⟩ := mem n hn
      obtain ⟨d, e1, _, _⟩ := p3 i n e
      rw [Nat.zero_add] at e1
      exact hr1.dis a ⟨i, d, e1, at1 e h2⟩ f
    · obtain ⟨d, e⟩ := live h1
      rcases x.nF a f with z | z | z
      · exact hr.dis a ⟨n, d, e, h2⟩ z
      · obtain ⟨i, m, d', e1, e2, e3⟩ := subW_own tk z
        have : n = m := hr.inj n m d d' a e e2 h2 e3
        exact hn (by rw [this]; exact List.mem_of_getElem? e1)
      · exact hr.tr n a h2 z
theorem backU_flat {rs : List Nat} {g' g1 : G} {u : U} (h : ∀ n, u ≠ .ref n) : backU rs g' g1 u = match u.flat with
    | true => .ok u g'
    | false => .bad := by
  cases u <;> first | rfl | exact absurd rfl (h _)
theorem runSub_ok {sem : List U → G → Res U} {us : List U} {vs : List V} {Q : VK} {E : EK} (hr : HR S W g H) (r : RUs S W H us vs) (h : PO S (RU' S) W g H Q E (runSub sem us g)) : SpF S sem vs H Q E := by
  unfold runSub at h
  have nd := refsOf_nd us
  generalize hrs : refsOf us = rs at h nd
  dsimp only at h
  split at h
  · rename_i cs ha tk
    refine ⟨subW W rs, cs, us.map (renU rs), sub_hr hr nd tk, sub_args us (fun n hn => by rw [← hrs]; exact refsOf_mem hn) ha r, ?_⟩
    cases hs : sem (us.map (renU rs)) cs with
    | bad => rw [hs] at h; exact h
    | err x g1 =>
      rw [hs] at h
      dsimp only at h
      cases pt : putCells g g1 0 rs with
      | none => rw [pt] at h; exact h.elim
      | some g' =>
        rw [pt] at h
        obtain ⟨hb, h⟩ := grd_ok (P := PO S (RU' S) W g H Q E) PO.nb h
        intro W1 H1 c d x1 x2 x3
        obtain ⟨y1, y2⟩ := sub_back hr nd tk x1 x2 pt
        refine h _ H1 c d y1 y2 ⟨x3.1, ?_⟩
        have x4 := x3.2
        unfold exFlat at hb
        cases hf : x.fld with
        | none => rw [hf] at x4; exact x4
        | some u =>
          rw [hf] at x4 hb
          obtain ⟨a, v, e1, e2, e3, e4⟩ := x4
          exact ⟨a, v, e1, e2, e3, RU_flat (W := W1) (W' := ⟨W.φ, W1.F⟩) (fun _ f => f) hb e4⟩
    | ok u g1 =>
      rw [hs] at h
      dsimp only at h
      cases pt : putCells g g1 0 rs with
      | none => rw [pt] at h; exact h.elim
      | some g' =>
        rw [pt] at h
        dsimp only at h
        intro W1 H1 v x1 x2 x3
        obtain ⟨y1, y2⟩ := sub_back hr nd tk x1 x2 pt
        by_cases hu : ∃ i, u = .ref i
        · obtain ⟨i, rfl⟩ := hu
          unfold backU at h
          dsimp only at h
          cases x3 with
          | @ref _ a hi =>
          cases hn : rs[i]? with
          | some n =>
            rw [hn] at h
            refine h _ H1 _ y1 y2 (.ref ?_)
            obtain ⟨c0, q1, _, _⟩ := (takeCells_ok tk).2 i n hn
            obtain ⟨b, hb, _⟩ := hr.cell n c0 q1
            have := x1.φ i b (by
              show (rs[i]?).bind W.φ = some b
              rw [hn]; exact hb)
            rw [hi] at this
            cases this
            exact hb
          | none =>
            rw [hn] at h
            dsimp only at h
            cases hc : gat g1 i with
            | none => rw [hc] at h; exact h.elim
            | some c =>
              rw [hc] at h
              dsimp only at h
              cases hf : c.flat with
              | false => rw [hf] at h; exact h.elim
              | true =>
                rw [hf] at h
                have hp : H a = none := by
                  rcases x1.nO a ⟨i, c, hc, hi⟩ with z | z
                  · exfalso
                    obtain ⟨j, m, d, e1, e2, e3⟩ := subW_own tk z
                    have hj : W1.φ j = some a := x1.φ j a (by
                      show (rs[j]?).bind W.φ = some a
                      rw [e1]; exact e3)
                    obtain ⟨_, _, p3⟩ := putCells_ok nd (fun n hn => by
                      obtain ⟨c, e1, _, _⟩ := (takeCells_ok tk).2 _ n (idxOf_get hn)
                      exact gat_lt e1) pt
                    obtain ⟨d', q1, _, _⟩ := p3 j m e1
                    rw [Nat.zero_add] at q1
                    have : i = j := x2.inj i j c d' a hc q1 hi hj
                    rw [this, e1] at hn
                    cases hn
                  · exact z
                have nf : ¬ W1.F a := x2.dis a ⟨i, c, hc, hi⟩
                refine h _ H1 _ (ext_own y1 y2 hp) (hr_own y2 nf (fun n z => hr.tr n a z hp) (x2.tr i a hi) (CellR_flat (W := W1) (W' := ⟨W.φ, W1.F⟩) (fun _ f => f) hf (x2.cellOk hc hi))) (.ref ?_)
                show (if g'.length = g'.length then some a else _) = some a
                rw [if_pos rfl]
        · rw [backU_flat fun n e => hu ⟨n, e⟩] at h
          cases hf : u.flat with
          | false => rw [hf] at h; exact h.elim
          | true =>
            rw [hf] at h
            exact h _ H1 v y1 y2 (RU_flat (W := W1) (W' := ⟨W.φ, W1.F⟩) (fun _ f => f) hf x3)
  · exact h.elim
end
section
variable {L : Law} {X : Cx} {E : WX} {k : Nat} {top : Str → Bool} {ea : Expr} {es : List Expr} {ms : Ev → G → Res (List U)} {pos p : Pos}
theorem se_call (hd : Gd L X E k top) {f : Nat} {x : Str} (hdn : L.dn f = true) (hx : L.fnN f = x) (hg : Gl X x) (hdb : (x == ("__debug__" : Str)) = false) (hs : SA L.S X E ms (ea :: es)) :
    SE L.S X E (fun e g => (ms e g).bd fun l g => runSub (L.T.fn f) l g) (.Call (.Name x p) (ea :: es) [] pos) false := by
  obtain ⟨addr, fd, ps, hm, hk, hb, F⟩ := hd.fc.fn f hdn
  rw [hx] at hm
  have ns := hs.ns
  rw [List.all_cons, Bool.and_eq_true] at ns
  refine SE.ofE hd.hK (peI (pe_callS (E := WE E) (by rw [hd.hK]; exact F) hd.room hg hm (by rw [hd.hK]; exact hk) (by rw [hd.hK]; exact hb) (fun σ => passAt hd.tk σ) hs.pa hdb (star1 ns.1) (starAny ns.2)) fun σ H Q h => ?_) fun _ => rfl
  obtain ⟨e, W, g, er, hr, po⟩ := ta_po h
  exact ⟨e, W, g, er, hr, PO.mono (fun vs H1 ⟨W1, g1, us, hr1, r1, p1⟩ => runSub_ok hr1 r1 p1) po⟩
end
end PM
set_option maxRecDepth 100000
set_option maxHeartbeats 1000000
/-! PM, part o: built-in functions by values. -/
namespace PM
open PySem PySem.Spec PyProof.Rows L2
def bltR (S : Sg) (E : WX) (σ : L2.St) (b : Blt) : List V → Hp → VK → Prop := fun vs H Q => ∃ W g us, HR S W g H ∧ RUs S W H us vs ∧ PF S W g H Q (fun c d H' => E c d σ H') (bltU g b us)
def bltV : Blt → Value
  | .len => .builtin "len"
  | .min => .builtin "min"
  | .max => .builtin "max"
  | .sorted => .builtin "sorted"
  | .sum => .builtin "sum"
  | .all => .builtin "all"
  | .any => .builtin "any"
  | .int => .type "int"
  | .str => .type "str"
  | .list => .type "list"
  | .tuple => .type "tuple"
  | .abs => .builtin "abs"
  | .sset => .type "set"
theorem minL_ok : ∀ {l : List Int} {m : Int}, minL l = some m → m ∈ l ∧ ∀ y ∈ l, m ≤ y
  | [], _, h => by cases h
  | [x], _, h => by cases h; exact ⟨List.mem_cons_self, fun y hy => by simp at hy; omega⟩
  | x :: y :: r, m, h => by
    have h' : (minL (y :: r)).map (fun m => if m < x then m else x) = some m := h
    cases e : minL (y :: r) with
    | none => rw [e] at h'; cases h'
    | some q =>
      rw [e] at h'
      cases h'
      obtain ⟨h1, h2⟩ := minL_ok e
      dsimp only
      by_cases hq : q < x
      · rw [if_pos hq]
        exact ⟨List.mem_cons_of_mem _ h1, fun z hz => by
          rcases List.mem_cons.mp hz with rfl | hz
          · omega
          · exact h2 z hz⟩
      · rw [if_neg hq]
        exact ⟨List.mem_cons_self, fun z hz => by
          rcases List.mem_cons.mp hz with rfl | hz
          · omega
          · have := h2 z hz; omega⟩
theorem maxL_ok : ∀ {l : List Int} {m : Int}, maxL l = some m → m ∈ l ∧ ∀ y ∈ l, y ≤ m
  | [], _, h => by cases h
  | [x], _, h => by cases h; exact ⟨List.mem_cons_self, fun y hy => by simp at hy; omega⟩
  | x :: y :: r, m, h => by
    have h' : (maxL (y :: r)).map (fun m => if x < m then m else x) = some m := h
    cases e : maxL (y :: r) with
    | none => rw [e] at h'; cases h'
    | some q =>
      rw [e] at h'
      cases h'
      obtain ⟨h1, h2⟩ := maxL_ok e
      dsimp only
      by_cases hq : x < q
      · rw [if_pos hq]
        exact ⟨List.mem_cons_of_mem _ h1, fun z hz => by
          rcases List.mem_cons.mp hz with rfl | hz
          · omega
          · exact h2 z hz⟩
      · rw [if_neg hq]
        exact ⟨List.mem_cons_self, fun z hz => by
          rcases List.mem_cons.mp hz with rfl | hz
          · omega
          · have := h2 z hz; omega⟩
section
variable {S : Sg} {W : Wd} {g : G} {H : Hp} {Q : VK} {E : EK}
theorem blsOf_ok : ∀ (l : List U) {bs : List Bool} {vs : List V}, blsOf l = some bs → RUs S W H l vs → vs = bs.map V.bl
  | [], bs, vs, h, r => by cases r; cases h; rfl
  | u :: us, bs, vs, h, r => by
    cases r with
    | cons a r =>
    cases a <;> first | (cases h; done) | skip
    rename_i i
    have h' : (blsOf us).map (i :: ·) = some bs := h
    cases e : blsOf us with
    | none => rw [e] at h'; cases h'
    | some q =>
      rw [e] at h'
      cases h'
      rw [blsOf_ok us e r]; rfl
/-- tuples of ints: each at its own address -/
theorem tupsOf_ok : ∀ (l : List U) {ts : List (List Int)} {vs : List V}, tupsOf l = some ts → RUs S W H l vs → PySem.W.EachIs (fun v t => ∃ a, v = V.ref a ∧ W.F a ∧ H a = some (.tup (t.map V.int))) vs ts ∧ ∀ t ∈ ts, ∃ i x, t = i :: x
  | [], ts, vs, h, r => by cases r; cases h; exact ⟨.nil, fun t ht => by cases ht⟩
  | u :: us, ts, vs, h, r => by
    cases r with
    | cons a r =>
    cases a <;> first | (cases h; done) | skip
    rename_i p l ws f q rs
    unfold tupsOf at h
    split at h
    · rename_i i x y h1 h2
      cases h
      obtain ⟨e1, e2⟩ := tupsOf_ok us h2 r
      obtain ⟨e3, _⟩ := intsOf_ok _ h1 rs
      refine ⟨.cons ⟨_, rfl, f, by rw [← e3]; exact q⟩ e1, fun t ht => ?_⟩
      rcases List.mem_cons.mp ht with rfl | ht
      · exact ⟨i, x, rfl⟩
      · exact e2 t ht
    · cases h
theorem each_rus : ∀ {vs : List V} {ts : List (List Int)}, PySem.W.EachIs (fun v t => ∃ a, v = V.ref a ∧ W.F a ∧ H a = some (.tup (t.map V.int))) vs ts → RUs S W H (ts.map fun t => .tup (t.map U.int)) vs
  | _, _, .nil => .nil
  | _, _, .cons ⟨a, e, f, q⟩ r => by
    subst e
    exact .cons (.tup f q (RUs.ints _)) (each_rus r)
end
/-- sorted(xs), xs a list of tuples of ints, none of them empty -/
def rSortedN (K : PySem.W.Frag) : List V → Hp → VK → Prop := fun vs H Q => ∃ (a : Addr) (xs : List V) (ts : List (List Int)), vs = [V.ref a] ∧ SqL K H a xs ∧ PySem.W.EachIs (fun v t => ∃ a, v = V.ref a ∧ H a = some (.tup (t.map V.int))) xs ts ∧ (∀ t ∈ ts, ∃ i x, t = i :: x) ∧
  ∀ (ys : List V) (p : Addr), PySem.W.EachIs (fun v t => v ∈ xs ∧ ∃ a, v = V.ref a ∧ H a = some (.tup (t.map V.int))) ys (ts.mergeSort lexLe) → H p = none → Q (.ref p) (upd H p (.lst ys))
theorem each_vals {xs : List V} {us : List Value} : ∀ {ts : List (List Int)} {R : V → List Int → Prop}, Vals xs us → PySem.W.EachIs R xs ts → PySem.W.EachIs (fun u t => ∃ x, RelV x u ∧ R x t) us ts := by
  intro ts R hv he
  induction he generalizing us with
  | nil => cases hv; exact .nil
  | cons h _ ih => cases hv with
    | cons r rr => exact .cons ⟨_, r, h⟩ (ih rr)
theorem vals_each {us : List Value} : ∀ {ts : List (List Int)} {R : V → List Int → Prop}, PySem.W.EachIs (fun u t => ∃ x, RelV x u ∧ R x t) us ts → ∃ xs, Vals xs us ∧ PySem.W.EachIs R xs ts := by
  intro ts R he
  induction he with
  | nil => exact ⟨[], .nil, .nil⟩
  | cons h _ ih =>
    obtain ⟨x, r, q⟩ := h
    obtain ⟨xs, v, e⟩ := ih
    exact ⟨x :: xs, .cons r v, .cons q e⟩
theorem dataLe_tups : PySem.W.dataLe false (fun t : List Int => PyData.tuple (t.map .int)) = lexLe := by
  funext a b
  rw [PySem.W.dataLe_eq]
  show (!PySem.W.dataLt (.tuple (b.map .int)) (.tuple (a.map .int))) = !decide (b < a)
  rw [PySem.W.dataLt_tuple]
  exact congrArg not (PySem.W.dataLt_ints b a)
theorem depth_ints : ∀ t : List Int, PyData.depthAll (t.map .int) = 0
  | [] => rfl
  | x :: r => by
    show max 0 (PyData.depthAll (r.map .int)) = 0
    rw [depth_ints r]; rfl
theorem dp_ints {K : PySem.W.Frag} {H : Hp} : ∀ t : List Int, DpAll K H (t.map V.int) (t.map .int)
  | [] => .nil
  | x :: r => .cons (.int x) (dp_ints r)
theorem each_and {α β : Type} {R R' : α → β → Prop} : ∀ {l : List α} {q : List β}, PySem.W.EachIs R l q → (∀ a b, a ∈ l → R a b → R' a b) → PySem.W.EachIs R' l q := by
  intro l q h
  induction h with
  | nil => exact fun _ => .nil
  | cons h _ ih => exact fun f => .cons (f _ _ List.mem_cons_self h) (ih fun a b m => f a b (List.mem_cons_of_mem _ m))
section
variable {X : Cx}
theorem cr_sortedN (hu : X.A.units + 65 < cLine) : CallR X (.builtin "sorted") (rSortedN X.K) := by
  intro pins s σ H vs us Q I r h
  obtain ⟨a, xs, ts, rfl, hs, he, hne, q⟩ := h
  obtain ⟨its, rv, hl, hz⟩ := I.list hs
  rw [Vals.ref1 r]
  have e1 := each_vals rv (each_and (R' := fun v t => v ∈ xs ∧ ∃ a, v = V.ref a ∧ H a = some (.tup (t.map V.int))) he fun v t m h => ⟨m, h⟩)
  have hel : ts.length = its.length := e1.length.symm
  refine PySem.W.sorted_data (enc := fun t : List Int => PyData.tuple (t.map .int)) hl.isList e1 (each_and e1 ?_) (PySem.W.AllAlike.of fun b b' => ?_) (.inl fun d hd => by
    obtain ⟨t, ht, rfl⟩ := List.mem_map.mp hd
    obtain ⟨i, x, rfl⟩ := hne t ht
    exact ⟨.int i, x.map .int, rfl⟩) (by rw [hel, ← rv.length]; exact hz) (fun b _ => ?_) fun out ho eo => ?_
  · rintro u t _ ⟨x, rx, _, b, rfl, hb⟩
    exact Dp.reads I (.tuple (t.map .int)) (.ref b) u (.tup (.inl (.inl hb)) (dp_ints t)) rx
  · show PySem.W.alike (.tuple (b.map .int)) (.tuple (b'.map .int)) = true
    unfold PySem.W.alike
    exact PySem.W.alike_ints b b'
  · show _ + 2 + (PyData.depthAll (b.map .int) + 1) < cLine
    rw [depth_ints]; omega
  · rw [dataLe_tups] at eo
    obtain ⟨ys, vy, ey⟩ := vals_each eo
    obtain ⟨ep, he'⟩ := PyProof.Rows.sortedAll_at s.heap its out.toArray
    have hlen : ys.length ≤ sizeLine := by rw [vy.length, ho, hel, ← rv.length]; exact hz
    exact ⟨.ref _, upd H (s.heap.objs.size + 1) (.lst ys), I.laid (t' := s.toks) (fun _ _ => PyProof.Rows.sortedAll_old) (Nat.le_succ _) ⟨hlen, out, ep, vy, he'⟩, rfl, q ys _ ey (I.hok.fresh (Nat.le_succ _))⟩
end
end PM
set_option maxRecDepth 100000
set_option maxHeartbeats 1000000
/-! PM, part p: built-in functions, called. -/
namespace PM
open PySem PySem.Spec PyProof.Rows L2
theorem ddp_mem {x : Int × Int} : ∀ {l : List (Int × Int)}, x ∈ ddp l ↔ x ∈ l
  | [] => Iff.rfl
  | y :: r => by
    have ih := @ddp_mem x r
    show x ∈ (if y ∈ r then ddp r else y :: ddp r) ↔ _
    by_cases h : y ∈ r
    · rw [if_pos h, ih, List.mem_cons]
      exact ⟨.inr, fun z => z.elim (fun e => e ▸ h) id⟩
    · rw [if_neg h, List.mem_cons, List.mem_cons, ih]
theorem ddp_nodup : ∀ (l : List (Int × Int)), (ddp l).Nodup
  | [] => .nil
  | y :: r => by
    show (if y ∈ r then ddp r else y :: ddp r).Nodup
    by_cases h : y ∈ r
    · rw [if_pos h]; exact ddp_nodup r
    · rw [if_neg h]; exact List.nodup_cons.mpr ⟨fun z => h (ddp_mem.mp z), ddp_nodup r⟩
theorem prSet_perm (l : List (Int × Int)) : (prSet l).Perm (ddp l) := List.mergeSort_perm _ _
theorem prSet_mem {x : Int × Int} {l : List (Int × Int)} : x ∈ prSet l ↔ x ∈ l := (prSet_perm l).mem_iff.trans ddp_mem
theorem prSet_nodup (l : List (Int × Int)) : (prSet l).Nodup := (prSet_perm l).nodup_iff.mpr (ddp_nodup l)
theorem prSet_srt (l : List (Int × Int)) : (prSet l).Pairwise fun a b => a.1 * 64 + a.2 ≤ b.1 * 64 + b.2 := by
  have h := List.pairwise_mergeSort (le := prLe) (fun a b c h1 h2 => by
    unfold prLe at *
    simp only [decide_eq_true_eq] at *
    omega) (fun a b => by
    unfold prLe
    simp only [Bool.or_eq_true, decide_eq_true_eq]
    omega) (ddp l)
  exact h.imp fun z => of_decide_eq_true z
theorem prSet_len (l : List (Int × Int)) : (prSet l).length ≤ l.length := by
  rw [(prSet_perm l).length_eq]
  induction l with
  | nil => exact Nat.le_refl _
  | cons y r ih =>
    show (if y ∈ r then ddp r else y :: ddp r).length ≤ _
    by_cases h : y ∈ r
    · rw [if_pos h, List.length_cons]; omega
    · rw [if_neg h, List.length_cons, List.length_cons]; omega
section
variable {S : Sg} {W : Wd} {g : G} {H : Hp} {Q : VK} {E : EK}
/-- pairs, each at its own address -/
theorem prsOf_ok : ∀ (l : List U) {ps : List (Int × Int)} {vs : List V}, prsOf l = some ps → RUs S W H l vs → (∃ ks : List (Addr × List Int), vs = ks.map (fun p => V.ref p.1) ∧ ks.map (·.2) = ps.map (fun p => [p.1, p.2]) ∧ ∀ p ∈ ks, W.F p.1 ∧ H p.1 = some (.tup (p.2.map V.int))) ∧
    ∀ p ∈ ps, 0 ≤ p.1 ∧ p.1 < 64 ∧ 0 ≤ p.2 ∧ p.2 < 64
  | [], ps, vs, h, r => by cases r; cases h; exact ⟨⟨[], rfl, rfl, fun p hp => by cases hp⟩, fun p hp => by cases hp⟩
  | u :: us, ps, vs, h, r => by
    cases r with
    | cons a r =>
    unfold prsOf at h
    split at h
    · rename_i heq
      exact nomatch heq
    · rename_i x y us' heq
      obtain ⟨rfl, rfl⟩ := List.cons.inj heq
      split at h
      · rename_i q hb hq
        cases h
        simp only [Bool.and_eq_true, decide_eq_true_eq] at hb
        obtain ⟨⟨ks, e1, e2, e3⟩, e4⟩ := prsOf_ok us hq r
        cases a with
        | @tup p _ ws f hp rs =>
        cases rs with
        | cons r1 rs =>
        cases rs with
        | cons r2 rs =>
        cases rs
        cases r1
        cases r2
        refine ⟨⟨(p, [x, y]) :: ks, by rw [e1]; rfl, by rw [List.map_cons, e2]; rfl, fun z hz => ?_⟩, fun z hz => ?_⟩
        · rcases List.mem_cons.mp hz with rfl | hz
          · exact ⟨f, hp⟩
          · exact e3 z hz
        · rcases List.mem_cons.mp hz with rfl | hz
          · exact hb
          · exact e4 z hz
      · cases h
    · cases h
/-- the one rising list of these -/
theorem prs_one {ps : List (Int × Int)} {L' : List (Addr × List Int)} (hb : ∀ p ∈ ps, 0 ≤ p.1 ∧ p.1 < 64 ∧ 0 ≤ p.2 ∧ p.2 < 64) (hm : ∀ k, k ∈ L'.map (·.2) ↔ k ∈ ps.map (fun p => [p.1, p.2])) (nd : (L'.map (·.2)).Nodup)
    (pw : L'.Pairwise (fun q r => TS.code 64 q.2 ≤ TS.code 64 r.2)) : L'.map (·.2) = (prSet ps).map fun p => [p.1, p.2] := by
  have inj : ∀ a b : Int × Int, ([a.1, a.2] : List Int) = [b.1, b.2] → a = b := fun a b h => by
    simp only [List.cons.injEq, and_true] at h
    exact Prod.ext h.1 h.2
  have nd2 : ((prSet ps).map fun p => [p.1, p.2]).Nodup := by
    refine List.pairwise_map.mpr ((prSet_nodup ps).imp fun {a b} h e => h (inj a b e))
  have hm2 : ∀ k, k ∈ L'.map (·.2) ↔ k ∈ (prSet ps).map (fun p => [p.1, p.2]) := fun k => by
    rw [hm k, List.mem_map, List.mem_map]
    exact ⟨fun ⟨p, h, e⟩ => ⟨p, prSet_mem.mpr h, e⟩, fun ⟨p, h, e⟩ => ⟨p, prSet_mem.mp h, e⟩⟩
  refine List.Perm.eq_of_pairwise (le := fun a b => TS.code 64 a ≤ TS.code 64 b) (fun a b ha hb' h1 h2 => ?_) (List.pairwise_map.mpr pw) (List.pairwise_map.mpr ((prSet_srt ps).imp fun {a b} h => ?_)) ((List.perm_ext_iff_of_nodup nd nd2).mpr hm2)
  · obtain ⟨p, hp, rfl⟩ := List.mem_map.mp ((hm a).mp ha)
    obtain ⟨q, hq, rfl⟩ := List.mem_map.mp hb'
    rw [code_pair, code_pair] at h1 h2
    have b1 := hb p hp
    have b2 := hb q (prSet_mem.mp hq)
    have e1 : p.1 = q.1 := by omega
    have e2 : p.2 = q.2 := by omega
    rw [e1, e2]
  · rw [code_pair, code_pair]; exact h
theorem rus_prs : ∀ {L : List (Addr × List Int)} {ps : List (Int × Int)}, L.map (·.2) = ps.map (fun p => [p.1, p.2]) → (∀ p ∈ L, W.F p.1 ∧ H p.1 = some (.tup (p.2.map V.int))) → RUs S W H (ps.map prU) (L.map fun q => V.ref q.1)
  | [], [], _, _ => .nil
  | [], _ :: _, h, _ => by cases h
  | _ :: _, [], h, _ => by cases h
  | (a, k) :: L, p :: ps, h, hh => by
    rw [List.map_cons, List.map_cons] at h
    obtain ⟨h1, h2⟩ := List.cons.inj h
    obtain ⟨f, e⟩ := hh (a, k) List.mem_cons_self
    have h1 : k = [p.1, p.2] := h1
    subst h1
    exact .cons (.tup f e (.cons (.int _) (.cons (.int _) .nil))) (rus_prs h2 fun q hq => hh q (List.mem_cons_of_mem _ hq))
end
theorem RUk.length {K : Sg} {W : Wd} {H : Hp} : ∀ {l : List (U × U)} {kv : List (Key × V)}, RUk K W H l kv → l.length = kv.length
  | _, _, .nil => rfl
  | _, _, .cons _ _ r => by rw [List.length_cons, List.length_cons, RUk.length r]
theorem RUt.length {K : Sg} {W : Wd} {H : Hp} : ∀ {l : List (U × U)} {kv : List (List Key × V)}, RUt K W H l kv → l.length = kv.length
  | _, _, .nil => rfl
  | _, _, .cons _ _ r => by rw [List.length_cons, List.length_cons, RUt.length r]
theorem each_F {W : Wd} {H : Hp} : ∀ {ws : List V} {ts : List (List Int)}, PySem.W.EachIs (fun v t => ∃ a, v = V.ref a ∧ W.F a ∧ H a = some (.tup (t.map V.int))) ws ts → ∀ v ∈ ws, ∀ a, v = V.ref a → W.F a
  | _, _, .nil, v, hv, _, _ => by cases hv
  | _, _, .cons ⟨b, e, f, _⟩ r, v, hv, a, ha => by
    rcases List.mem_cons.mp hv with rfl | hv
    · rw [e] at ha; cases ha; exact f
    · exact each_F r v hv a ha
section
variable {X : Cx} {S : Sg}
theorem bltU_ok (hK : X.K = S.K) (hc : X.calm = true) (hu : X.A.units + 65 < cLine) (σ0 : L2.St) {EE : WX} (b : Blt) (hb : b ≠ .sset) : CallR X (bltV b) (bltR S EE σ0 b) := by
  intro pins s σ H vs us Q I rx ⟨W, g, l, hr, rl, h⟩
  have one : ∀ {u : U}, RUs S W H [u] vs → ∃ v, vs = [v] ∧ RU S W H u v := fun {u} r => by
    cases r with
    | cons a r => cases r; exact ⟨_, rfl, a⟩
  have two : ∀ {u u' : U}, RUs S W H [u, u'] vs → ∃ v v', vs = [v, v'] ∧ RU S W H u v ∧ RU S W H u' v' := fun {u u'} r => by
    cases r with
    | cons a r => cases r with
      | cons a' r => cases r; exact ⟨_, _, rfl, a, a'⟩
  have lst : ∀ {u : U} {l : List U} {v : V}, RU S W H u v → asL g u = some l → ∃ a vs, v = .ref a ∧ SqL X.K H a vs ∧ RUs S W H l vs := fun r e => by
    rw [hK]; exact asL_ok hr r e
  unfold bltU at h
  split at h
  · -- len
    rename_i u
    obtain ⟨v, rfl, r⟩ := one rl
    split at h
    · obtain ⟨hl, h⟩ := grd_ok (P := PF S W g H Q _) PF.nb h
      cases r
      exact call_len pins s σ H _ us Q I rx ⟨_, _, rfl, ⟨line_ok hl, rfl⟩, h.int hr⟩
    · split at h
      · rename_i l' hl
        obtain ⟨a, ws, rfl, sq, rs⟩ := asS_ok hr r hl
        refine call_len pins s σ H _ us Q I rx ⟨_, l'.length, rfl, ?_, h.int hr⟩
        rcases sq with sq | sq
        · exact .inl ⟨ws, by rw [hK]; exact sq, rs.length⟩
        · exact .inr ⟨ws, by rw [hK]; exact sq, rs.length⟩
      · split at h
        · rename_i k l' hl
          obtain ⟨a, rfl, d⟩ := asD_ok hr r hl
          cases k with
          | false =>
            obtain ⟨kv, h1, h2⟩ := d
            have e : l'.length = kv.length := RUk.length h2
            refine call_lenD pins s σ H _ us Q I rx ⟨a, kv, rfl, h1, ?_⟩
            rw [← e]; exact h.int hr
          | true =>
            obtain ⟨kv, h1, h2⟩ := d
            have e : l'.length = kv.length := RUt.length h2
            refine call_len_dT pins s σ H _ us Q I rx ⟨a, kv, rfl, h1, ?_⟩
            rw [← e]; exact h.int hr
        · exact h.elim
  · obtain ⟨v, v', rfl, r1, r2⟩ := two rl
    cases r1; cases r2
    exact call_min2 hc pins s σ H _ us Q I rx ⟨_, _, rfl, h.int hr⟩
  · obtain ⟨v, v', rfl, r1, r2⟩ := two rl
    cases r1; cases r2
    exact call_max2 hc pins s σ H _ us Q I rx ⟨_, _, rfl, h.int hr⟩
  · -- min
    obtain ⟨v, rfl, r⟩ := one rl
    split at h
    · rename_i l' hl
      obtain ⟨a, ws, rfl, sq, rs⟩ := lst r hl
      cases e : (intsOf l').bind minL with
      | none => rw [e] at h; exact h.elim
      | some m =>
        rw [e] at h
        obtain ⟨ns, e1, e2⟩ := Option.bind_eq_some_iff.mp e
        obtain ⟨e3, _⟩ := intsOf_ok _ e1 rs
        obtain ⟨m1, m2⟩ := minL_ok e2
        refine cr_min hc pins s σ H _ us Q I rx ⟨a, ns, rfl, by rw [← e3]; exact sq, List.length_pos_of_mem m1, fun z z1 z2 => ?_⟩
        have : z = m := by have := z2 m m1; have := m2 z z1; omega
        rw [this]; exact h.int hr
    · exact h.elim
  · obtain ⟨v, rfl, r⟩ := one rl
    split at h
    · rename_i l' hl
      obtain ⟨a, ws, rfl, sq, rs⟩ := lst r hl
      cases e : (intsOf l').bind maxL with
      | none => rw [e] at h; exact h.elim
      | some m =>
        rw [e] at h
        obtain ⟨ns, e1, e2⟩ := Option.bind_eq_some_iff.mp e
        obtain ⟨e3, _⟩ := intsOf_ok _ e1 rs
        obtain ⟨m1, m2⟩ := maxL_ok e2
        refine cr_max hc pins s σ H _ us Q I rx ⟨a, ns, rfl, by rw [← e3]; exact sq, List.length_pos_of_mem m1, fun z z1 z2 => ?_⟩
        have : z = m := by have := z2 m m1; have := m2 z z1; omega
        rw [this]; exact h.int hr
    · exact h.elim
  · -- sum
    obtain ⟨v, rfl, r⟩ := one rl
    split at h
    · rename_i l' hl
      obtain ⟨a, ws, rfl, sq, rs⟩ := lst r hl
      cases e : intsOf l' with
      | none => rw [e] at h; exact h.elim
      | some ns =>
        rw [e] at h
        obtain ⟨e3, _⟩ := intsOf_ok _ e rs
        exact cr_sum hc pins s σ H _ us Q I rx ⟨a, ns, rfl, by rw [← e3]; exact sq, h.int hr⟩
    · exact h.elim
  · -- all
    obtain ⟨v, rfl, r⟩ := one rl
    split at h
    · rename_i bs hl
      obtain ⟨l', e1, e2⟩ := Option.bind_eq_some_iff.mp hl
      obtain ⟨a, ws, rfl, sq, rs⟩ := lst r e1
      exact cr_all hc pins s σ H _ us Q I rx ⟨a, bs, rfl, by rw [← blsOf_ok _ e2 rs]; exact sq, h.bl hr⟩
    · exact h.elim
  · obtain ⟨v, rfl, r⟩ := one rl
    split at h
    · rename_i bs hl
      obtain ⟨l', e1, e2⟩ := Option.bind_eq_some_iff.mp hl
      obtain ⟨a, ws, rfl, sq, rs⟩ := lst r e1
      exact cr_any hc pins s σ H _ us Q I rx ⟨a, bs, rfl, by rw [← blsOf_ok _ e2 rs]; exact sq, h.bl hr⟩
    · exact h.elim
  · obtain ⟨v, rfl, r⟩ := one rl
    cases r
    exact call_int1 pins s σ H _ us Q I rx (.inl ⟨_, rfl, h.int hr⟩)
  · obtain ⟨v, rfl, r⟩ := one rl
    cases r
    exact call_int1 pins s σ H _ us Q I rx (.inr ⟨_, rfl, h.int hr⟩)
  · obtain ⟨v, rfl, r⟩ := one rl
    cases r
    exact call_abs pins s σ H _ us Q I rx ⟨_, rfl, h.int hr⟩
  · -- list
    obtain ⟨v, rfl, r⟩ := one rl
    split at h
    · rename_i l' hl
      obtain ⟨a, ws, rfl, sq, rs⟩ := asS_ok hr r hl
      exact call_list_of pins s σ H _ us Q I rx ⟨a, ws, rfl, by rw [hK]; exact sq, fun p hp => h.lst hr rs hp⟩
    · exact h.elim
  · obtain ⟨v, rfl, r⟩ := one rl
    cases r with
    | tup f q r => exact call_tuple_of pins s σ H _ us Q I rx ⟨_, _, rfl, .inr ⟨.inl (.inl q), h.old hr (.tup f q r) ⟨rfl, rfl⟩⟩⟩
  · obtain ⟨v, rfl, r⟩ := one rl
    split at h
    · rename_i l' hl
      obtain ⟨a, ws, rfl, sq, rs⟩ := lst r hl
      exact call_tuple_of pins s σ H _ us Q I rx ⟨_, _, rfl, .inl ⟨sq, fun p hp => h.tupNew hr rs hp⟩⟩
    · exact h.elim
  · -- sorted
    obtain ⟨v, rfl, r⟩ := one rl
    split at h
    · rename_i l' hl
      obtain ⟨a, ws, rfl, sq, rs⟩ := lst r hl
      split at h
      · rename_i ns e
        obtain ⟨e3, _⟩ := intsOf_ok _ e rs
        refine cr_sortedI pins s σ H _ us Q I rx ⟨a, ns, rfl, by rw [← e3]; exact sq, fun ns' p hp hs hn => ?_⟩
        have : ns' = ns.mergeSort (fun a b => decide (a ≤ b)) := by
          refine List.Perm.eq_of_pairwise (le := fun a b : Int => a ≤ b) (fun a b _ _ h1 h2 => Int.le_antisymm h1 h2) hs ?_ (hp.trans (List.mergeSort_perm _ _).symm)
          refine (List.pairwise_mergeSort (le := fun a b : Int => decide (a ≤ b)) (fun a b c h1 h2 => ?_) (fun a b => ?_) ns).imp fun z => of_decide_eq_true z
          · simp only [decide_eq_true_eq] at *; omega
          · simp only [Bool.or_eq_true, decide_eq_true_eq]; omega
        rw [this]
        exact h.lst hr (RUs.ints _) hn
      · split at h
        · rename_i ts e
          obtain ⟨e1, e2⟩ := tupsOf_ok _ e rs
          refine cr_sortedN hu pins s σ H _ us Q I rx ⟨a, ws, ts, rfl, sq, each_and e1 (fun v t _ ⟨a, q, _, z⟩ => ⟨a, q, z⟩), e2, fun ys p hy hn => h.lst hr (each_rus (S := S) (W := W) (H := H) ?_) hn⟩
          refine each_and hy fun v t _ ⟨m, a, q, z⟩ => ⟨a, q, ?_, z⟩
          exact each_F e1 v m a q
        · exact h.elim
    · exact h.elim
  · exact absurd rfl hb
  · exact h.elim
end
end PM
set_option maxRecDepth 100000
set_option maxHeartbeats 1000000
/-! PM, part q: built-in functions, the rules; isinstance; exceptions as values. -/
namespace PM
open PySem PySem.Spec PyProof.Rows L2
def bltN : Blt → Str
  | .len => "len"
  | .min => "min"
  | .max => "max"
  | .sorted => "sorted"
  | .sum => "sum"
  | .all => "all"
  | .any => "any"
  | .int => "int"
  | .str => "str"
  | .list => "list"
  | .tuple => "tuple"
  | .abs => "abs"
  | .sset => "set"
theorem bltN_boot (b : Blt) : bltN b ∈ boots := by cases b <;> decide +kernel
theorem bltV_boot (b : Blt) : bootBuiltins (bltN b) = some (bltV b) := by cases b <;> decide +kernel
theorem bltN_n (b : Blt) : bltN b ≠ "__name__" := by cases b <;> decide +kernel
theorem bltN_d (b : Blt) : (bltN b == ("__debug__" : Str)) = false := by cases b <;> decide +kernel
section
variable {L : Law} {X : Cx} {E : WX} {k : Nat} {top : Str → Bool} {ea eb : Expr} {es : List Expr} {ma mb : Ev → G → Res U} {ms : Ev → G → Res (List U)} {f1 f2 : Bool} {pos p p2 : Pos}
theorem Gd.un (hd : Gd L X E k top) : X.A.units + 65 < cLine := by have := hd.room.un; omega
theorem se_blt (hd : Gd L X E k top) (b : Blt) (hb : b ≠ .sset) {x : Str} (hx : bltN b = x) (hg : Gl X x) (hs : SA L.S X E ms (ea :: es)) :
    SE L.S X E (fun e g => (ms e g).bd fun l g => bltU g b l) (.Call (.Name x p) (ea :: es) [] pos) true := by
  subst hx
  have ns := hs.ns
  rw [List.all_cons, Bool.and_eq_true] at ns
  refine SE.ofF hd.hK ⟨fun pins s σ H Q I h => ?_⟩ fun _ => rfl
  have hm := hd.fc.bt _ (bltN_boot b)
  have hc := bltU_ok (EE := E) hd.hK hd.calm hd.un σ b hb
  have h2 : tCB (bltR L.S E σ b) (TAv L.S E ms) σ H Q := by
    obtain ⟨e, W, g, er, hr, po⟩ := ta_pf h
    exact ⟨e, W, g, er, hr, PO.mono (fun vs H1 ⟨W1, g1, us, hr1, r1, p1⟩ => ⟨W1, g1, us, hr1, r1, p1⟩) po⟩
  have hv := bltV_boot b
  have h1 := bltN_n b
  have h3 := bltN_d b
  by_cases ht : ∃ id, bltV b = .builtin id
  · obtain ⟨id, e⟩ := ht
    rw [e] at hc hv
    exact (pe_callB (p := p) (pos := pos) hc hg hm hv hs.pa h1 h3 (star1 ns.1) (starAny ns.2)).run pins s σ H Q I h2
  · have : ∃ id, bltV b = .type id := by cases b <;> first | exact ⟨_, rfl⟩ | exact absurd ⟨_, rfl⟩ ht
    obtain ⟨id, e⟩ := this
    rw [e] at hc hv
    exact (pe_callTy (p := p) (pos := pos) hc hg hm hv hs.pa h1 h3 (star1 ns.1) (starAny ns.2)).run pins s σ H Q I h2
/-- sorted(set(e)) -/
theorem se_sset (hd : Gd L X E k top) {p3 : Pos} (h1 : Gl X "sorted") (h2 : Gl X "set") (hn : notStar ea = true) (ha : SE L.S X E ma ea f1) :
    SE L.S X E (fun e g => (ma e g).bd fun x g => bltU g .sset [x]) (.Call (.Name "sorted" p) [.Call (.Name "set" p2) [ea] [] p3] [] pos) true := by
  refine SE.ofF hd.hK ⟨fun pins s σ H Q I h => ?_⟩ fun _ => rfl
  have hm1 := hd.fc.bt "sorted" (by decide +kernel)
  have hm2 := hd.fc.bt "set" (by decide +kernel)
  have su : X.A.units + 64 < cLine := by have := hd.un; omega
  have pset := pe_callTy (X := X) (p := p2) (pos := p3) (cr_setOfT hd.calm su) h2 hm2 (by decide +kernel) (pa_cons ha.pe pa_nil (star1 hn)) (by decide +kernel) (by decide +kernel) (star1 hn) rfl
  refine (pe_callB (X := X) (p := p) (pos := pos) (cr_sortedT hd.calm) h1 hm1 (by decide +kernel) (pa_cons pset pa_nil (star1 rfl)) (by decide +kernel) (by decide +kernel) (star1 rfl) rfl).run pins s σ H Q I ?_
  obtain ⟨e, W, g, er, hr, po⟩ := h
  refine ⟨e, W, g, er, hr, PO.mono (fun v H1 h1 => ?_) (PF.bd (R := RU' L.S) er .nil hr po)⟩
  obtain ⟨W1, g1, u1, er1, _, hr1, r1, p1⟩ := h1
  unfold bltU at p1
  dsimp only at p1
  cases hl : asL g1 u1 with
  | none => rw [hl] at p1; exact p1.elim
  | some l =>
    rw [hl] at p1
    dsimp only at p1
    cases hp : prsOf l with
    | none => rw [hp] at p1; exact p1.elim
    | some ps =>
      rw [hp] at p1
      obtain ⟨hb, p1⟩ := grd_ok (P := PF L.S W1 g1 H1 Q _) PF.nb p1
      obtain ⟨a, vs, rfl, sq, rs⟩ := asL_ok hr1 r1 hl
      obtain ⟨⟨ks, e1, e2, e3⟩, e4⟩ := prsOf_ok (S := L.S) l hp rs
      have klen : ks.length = ps.length := by have := congrArg List.length e2; simpa using this
      refine ⟨a, ks, rfl, by rw [hd.hK, ← e1]; exact sq, fun q hq => .inl (.inl (e3 q hq).2), by rw [klen]; exact of_decide_eq_true hb, fun b L' hbn hL1 hL2 => ?_⟩
      have x2 := ext_put (W := W1) (g := g1) (o := SetTO X.prog X.w b L') hbn
      have hr2 := hr_put (o := SetTO X.prog X.w b L') hr1 hbn
      have old : ∀ q ∈ L', W1.F q.1 ∧ upd H1 b (SetTO X.prog X.w b L') q.1 = some (.tup (q.2.map V.int)) := fun q hq => by
        obtain ⟨f, t⟩ := e3 q (hL1 q hq)
        exact ⟨f, x2.keep _ _ t (hr1.no _ f)⟩
      have two : ∀ q ∈ L', ∃ p ∈ ps, q.2 = [p.1, p.2] := fun q hq => by
        have : q.2 ∈ ps.map (fun p => [p.1, p.2]) := by rw [← e2]; exact List.mem_map.mpr ⟨q, hL1 q hq, rfl⟩
        obtain ⟨p, hp, e⟩ := List.mem_map.mp this
        exact ⟨p, hp, e.symm⟩
      refine ⟨b, L', 2, 64, rfl, upd_same, fun q hq => .inl (.inl (old q hq).2), by omega, fun q hq => ?_, fun L'' c hperm hnd hlen hpw hc => ?_⟩
      · obtain ⟨p, hp, e⟩ := two q hq
        rw [e]
        refine ⟨rfl, fun i hi => ?_⟩
        have b4 := e4 p hp
        have : i = p.1 ∨ i = p.2 := by simpa using hi
        omega
      · have hm : ∀ k, k ∈ L''.map (·.2) ↔ k ∈ ps.map (fun p => [p.1, p.2]) := fun k => by
          rw [(hperm.map _).mem_iff, ← e2]
          exact ⟨fun h => by
            obtain ⟨q, hq, e⟩ := List.mem_map.mp h
            exact List.mem_map.mpr ⟨q, hL1 q hq, e⟩, fun h => by
            obtain ⟨q, hq, e⟩ := List.mem_map.mp h
            rw [← e]
            exact hL2 q hq⟩
        have one := prs_one e4 hm hnd hpw
        have rs2 : RUs L.S W1 (upd H1 b (SetTO X.prog X.w b L')) ((prSet ps).map prU) (L''.map fun q => V.ref q.1) := rus_prs one fun q hq => old q (hperm.mem_iff.mp hq)
        exact (PF.shift x2 p1).lst hr2 rs2 hc
end
end PM
set_option maxRecDepth 100000
set_option maxHeartbeats 1000000
/-! PM, part r: exceptions as values; isinstance. -/
namespace PMK
open PySem PySem.Spec PySem.Calls PyProof.Rows PySem.W
section
variable {prog : Program} {w : World} {A : Around} {E : Value → Shared → Prop} {s : Shared} {K : Frag} {x D : Addr} {ox : Obj} {od : Option Obj}
theorem bindAny {name : Str} {f gt : Value} (hc : (clsIn K D).isSome = true) (h1 : findIn K (.ref D) name = some (some f)) (h2 : specialIn K f "__get__" = some (some gt)) (h3 : takesIn K f = some true) : findObj K D od name = some (.bind gt f) := by
  obtain ⟨cd, hcd⟩ := Option.isSome_iff_exists.mp hc
  unfold findObj
  rw [hcd, Option.bind_some, h1, Option.bind_some]
  simp [h2, h3]
/-- e.__class__, e an exception with or without a dict -/
theorem askCls {Z : Option Value → Shared → Prop} (c : L2.ExcC K D) (kx : K.In s.heap) (J : InstAt s.heap x ox D od) (hz : Z (some (.ref D)) { s with toks := s.toks + 1 }) : wpAny (model prog w) A (getAttr? (.ref x) "__class__") Z E s := by
  have f0 : findObj K D od "__class__" = some (.bind (.builtin "getset_descriptor.__get__") (.builtin "object.__class__")) := bindAny (by obtain ⟨cd, hcd, _⟩ := any_some c.hd; rw [hcd]; rfl) c.ha c.hn c.ht
  obtain ⟨hp, gs, dr, tk, sy⟩ := s
  have la := J.type (M := model prog w)
  have lb := looks_findIn (M := model prog w) kx c.hg
  have lc := looks_findIn (M := model prog w) kx c.hk
  have ld := looks_find (M := model prog w) kx J f0
  have le : Looks (model prog w) hp (isInstance (.ref x) (.type "BaseException")) true := la.andThen (looks_subIn kx c.hs)
  have n0 : (false && onTheHeap (Value.builtin "BaseException.__getattribute__")) = false := rfl
  have n1 : (Value.builtin "BaseException.__getattribute__" == Value.builtin "object.__getattribute__") = false := by decide +kernel
  have n2 : (onTheHeap (Value.ref D) && Value.builtin "BaseException.__getattribute__" == Value.builtin "object.__getattribute__") = false := by rw [n1]; rfl
  unfold getAttr? getAttrBy? getAttrBy
  refine wpAny_bind (wpAny_mkText (wpAny_bind (wpAny_attempt (wpAny_holding (wpAny_bind (la.at (wpAny_bind (lb.at ?_))))))))
  show wpAny _ _ (if (onTheHeap (Value.ref D) && Value.builtin "BaseException.__getattribute__" == Value.builtin "object.__getattribute__") = true then _ else _) _ _ _
  rw [n2, if_neg Bool.false_ne_true]
  unfold getAttrByItsOwn hookBefore
  refine wpAny_bind ?_
  rw [if_pos (show onTheHeap (Value.ref D) = true from rfl)]
  refine lc.at ?_
  refine wpAny_bind (wpAny_attempt (wpAny_holding ?_))
  unfold callGetattribute
  rw [n0, if_neg Bool.false_ne_true]
  unfold boundAndCalled
  rw [PySem.F.excAttr_ValueError.ga.bind (.ref x)]
  refine wpAny_bind (wpAny_pure ?_)
  show wpAny _ _ (call (.builtin "BaseException.__getattribute__") [.ref x, .str "__class__" tk]) _ _ _
  refine wpAny_call (codeAny_call_builtin PySem.F.excAttr_ValueError.ga.plain PySem.F.entry_bexc_ga ?_)
  refine @check_slot (model prog w) _ _ ⟨hp, gs, dr, tk + 1, sy⟩ "BaseException.__getattribute__" "BaseException" "__getattribute__" (.ref x) [.str "__class__" tk] [] _ (by decide +kernel) (by decide +kernel) le (PySem.F.args_bexc_ga (.ref x) (.str "__class__" tk)) ?_
  unfold Builtin.«object.__getattribute__»
  refine wpAny_bind (wpAny_of_eq (a := ((Value.ref x : Value), [Value.str "__class__" tk])) (by first | rfl | (simp only [slotArgs]; rfl)) ?_)
  refine wpAny_bind (wpAny_pure (wpAny_bind (la.at (wpAny_bind (ld.at ?_)))))
  show wpAny _ _ (holding [Value.builtin "object.__class__"] (call (.builtin "getset_descriptor.__get__") [.builtin "object.__class__", .ref x, .ref D]) >>= ret) _ _ _
  refine wpAny_bind (wpAny_holding (wpAny_call (class_get (s := ⟨hp, gs, dr, tk + 1, sy⟩) (ox := ox) (od := od) kx J c.hm ?_)))
  refine wpAny_pure ?_
  show wpAny _ _ (handedOut (.ref D)) _ _ _
  rw [handedOut_of (v := .ref D) rfl]
  first
    | exact wpAny_pure (wpAny_pure hz)
    | exact wpAny_pure hz
    | exact wpAny_pure (wpAny_bind (wpAny_pure (wpAny_pure hz)))
theorem kitE (c : L2.ExcC K D) : KitX K (.ref x) (.ref D) (fun h => ∃ ox od, InstAt h x ox D od) where
  ty := fun _ _ _ ⟨_, _, J⟩ => J.type
  it := fun _ _ kx _ => by
    obtain ⟨cd, hcd, _⟩ := any_some c.hd
    unfold clsIn at hcd
    split at hcd
    · rename_i o1 o2 o3 o4 ho
      intro A1 Q1 E1 s1 k q
      unfold isType loadHead
      exact wpAny_bind (wpAny_loadPart (k _ _ (kx _ _ ho)) (wpAny_pure q))
    · cases hcd
  ne := fun h tp dd its n sl kx htp => by
    obtain ⟨cd, hcd, _⟩ := any_some c.hd
    refine Bool.eq_false_iff.mpr fun q => ?_
    have e : D = tp := Value.ref.inj (beq_iff_eq.mp q)
    subst e
    unfold clsIn at hcd
    split at hcd
    · rename_i o1 o2 o3 o4 ho
      have z := (kx _ _ ho).symm.trans htp
      cases z
    · cases hcd
  ca := fun kx ⟨_, _, J⟩ k => askCls c kx J k
end
end PMK
namespace PM
open PySem PySem.Spec PyProof.Rows L2
section
variable {X : Cx} {pins : List (Addr × Obj)} {σ : L2.St} {H : Hp} {s : Shared}
theorem exV_ok {P : Program} {w : World} {h : Heap} {a : Addr} {cls : Value} {d : Option Addr} {oe : Obj} {vs : Array Value} (e : h.get? a = some oe) (z : Zc cls d oe) (q : oe.data = .fields vs) : ObjOk P w H h a (exV cls a d) :=
  ⟨⟨oe, vs, e, z, q⟩, ⟨oe, e⟩, fun _ _ ⟨o, v, p, r⟩ k => ⟨o, v, k o p, r⟩⟩
theorem inst0 {a C : Addr} (I : Inv X pins σ H s) (e : H a = some (exV (.ref C) a none)) : ∃ ox od, PySem.W.InstAt s.heap a ox C od := by
  obtain ⟨⟨oe, vs, h1, ⟨z1, z2⟩, h3⟩, _⟩ := (show ObjOk X.prog X.w H s.heap a (exV (.ref C) a none) from I.hok a _ e)
  exact ⟨oe, none, h1, z1, by unfold PySem.W.notCls; rw [h3] <;> rfl, by rw [z2] <;> trivial⟩
theorem inst1 {a C dd : Addr} {fs : List (Str × V)} (I : Inv X pins σ H s) (e : H a = some (exV (.ref C) a (some dd))) (ed : H dd = some (.xd fs)) : ∃ ox od, PySem.W.InstAt s.heap a ox C (some od) ∧ ∀ n v, fs.lookup n = some v → ∃ u, PySem.W.lookIn n od = some (some u) ∧ RelV v u := by
  obtain ⟨⟨oe, vs, h1, ⟨z1, z2⟩, h3⟩, _⟩ := (show ObjOk X.prog X.w H s.heap a (exV (.ref C) a (some dd)) from I.hok a _ e)
  obtain ⟨mA, hns, hr⟩ := (show ObjOk X.prog X.w H s.heap dd (.xd fs) from I.hok dd _ ed)
  obtain ⟨od, ho, hl⟩ := lookIn_ns hns
  refine ⟨oe, od, ⟨h1, z1, by unfold PySem.W.notCls; rw [h3] <;> rfl, by rw [z2]; exact ho⟩, fun n v q => ?_⟩
  obtain ⟨u, hu, ru⟩ := RelO.some_of (v := v) (o := mA n) (by rw [← q]; exact hr n)
  exact ⟨u, by rw [hl, hu], ru⟩
end
/-- the type of a value -/
def tgW (S : Sg) : Tg → Value
  | .non => .type "NoneType"
  | .int => .type "int"
  | .bool => .type "bool"
  | .str => .type "str"
  | .list => .type "list"
  | .tuple => .type "tuple"
  | .dict => .type "dict"
  | .exn c => .ref (S.cls c)
theorem kit_U {L : Law} {X : Cx} {pins : List (Addr × Obj)} {σ : L2.St} {H : Hp} {s : Shared} {W : Wd} {g : G} {u : U} {v : V} {val : Value} {t : Tg} (hK : X.K = L.S.K) (xc : Xc L L.S.K X.mg) (hr : HR L.S W g H) (I : Inv X pins σ H s) (rx : RelV v val) (r : RU L.S W H u v) (ht : tagU g u = some t) (hc : ∀ c, t = .exn c → L.T.cs c = true) :
    ∃ P : Heap → Prop, PySem.W.KitX X.K val (tgW L.S t) P ∧ P s.heap ∧ val ≠ .builtin "__main__.__loader__#opaque" := by
  have base : ∀ {v : V} {val t : Value}, RelV v val → TyX X.K H v t → ∃ P : Heap → Prop, PySem.W.KitX X.K val t P ∧ P s.heap ∧ val ≠ .builtin "__main__.__loader__#opaque" := fun rx ty => kit_of I rx ty
  cases r with
  | non => cases ht; exact base rx (.base .non)
  | bl b => cases ht; exact base rx (.base (.bl b))
  | int i => cases ht; exact base rx (.base (.int i))
  | str x => cases ht; exact base rx (.base (.str x))
  | tup f h rs => cases ht; exact base rx (.base (.tup h))
  | lst f h rs => cases ht; exact base rx (.base (.lst h))
  | dK f h rs => cases ht; exact base rx (.base (.dK h))
  | dT f h rs => cases ht; exact base rx (.base (.dT h))
  | scr h => cases ht
  | @ref n a h =>
    unfold tagU at ht
    dsimp only at ht
    split at ht
    · rename_i l hg
      cases ht
      obtain ⟨vs, h1, _⟩ := hr.cellOk hg h
      exact base rx (.base (.lst h1))
    · rename_i b l hg
      cases ht
      have hx := hr.cellOk hg h
      cases b with
      | false =>
        obtain ⟨vs, h1, _⟩ := hx
        exact base rx (.base (.dK h1))
      | true =>
        obtain ⟨vs, h1, _⟩ := hx
        exact base rx (.base (.dT h1))
    · cases ht
  | @ex0 a c f h =>
    cases ht
    cases rx
    have e := xc.isE c (hc c rfl)
    rw [← hK] at e
    exact ⟨_, PMK.kitE e, inst0 I h, fun z => nomatch z⟩
  | @ex1 a dd c u v f h f2 h2 r =>
    cases ht
    cases rx
    have e := xc.isE c (hc c rfl)
    rw [← hK] at e
    obtain ⟨ox, od, J, _⟩ := inst1 I h h2
    exact ⟨_, PMK.kitE e, ⟨ox, _, J⟩, fun z => nomatch z⟩
def tgS : Tg → String
  | .non => "NoneType"
  | .int => "int"
  | .bool => "bool"
  | .str => "str"
  | .list => "list"
  | .tuple => "tuple"
  | .dict => "dict"
  | .exn c => ""
def tyS : Ty → String
  | .int => "int"
  | .bool => "bool"
  | .str => "str"
  | .list => "list"
  | .tuple => "tuple"
  | .dict => "dict"
  | .own c => ""
  | .ve => ""
theorem kitB_ok {t : Tg} {y : Ty} (h1 : ∀ c, t ≠ .exn c) (h2 : ∀ c, y ≠ .own c) (h3 : y ≠ .ve) : kitB (tgS t) (tyS y) = some (tgB t y) := by
  cases t <;> first | exact absurd rfl (h1 _) | skip
  all_goals cases y <;> first | exact absurd rfl h3 | exact absurd rfl (h2 _) | (unfold tgS tyS tgB; decide +kernel)
theorem one_ok {L : Law} {K : PySem.W.Frag} {mg : Str → Option Value} (xc : Xc L K mg) {t : Tg} {y : Ty} {b : Bool} (h : oneT L.T.cs t y = some b) : PySem.W.kitOne K (tgW L.S t) (tyW L.S y) = some b := by
  unfold oneT at h
  split at h
  · rename_i c d
    split at h
    · rename_i hh
      rw [Bool.and_eq_true] at hh
      cases h
      exact (xc.sub c d hh.1 hh.2).1
    · cases h
  · rename_i c
    split at h
    · rename_i hh
      cases h
      exact xc.ve c hh
    · cases h
  · cases h
  · cases h
  · cases h
  · rename_i n1 n2 n3 n4 n5
    cases h
    have h1 : ∀ c, t ≠ .exn c := n1
    have h2 : ∀ c, y ≠ .own c := n2
    have h3 : y ≠ .ve := n3
    have e := kit_ty (K := K) (kitB_ok h1 h2 h3)
    cases t <;> first | exact absurd rfl (h1 _) | skip
    all_goals cases y <;> first | exact absurd rfl h3 | exact absurd rfl (h2 _) | exact e
theorem any_ok {L : Law} {K : PySem.W.Frag} {mg : Str → Option Value} (xc : Xc L K mg) {t : Tg} : ∀ {ts : List Ty} {b : Bool}, anyT L.T.cs t ts = some b → PySem.W.kitAny K (tgW L.S t) (ts.map (tyW L.S)) = some b
  | [], _, h => h
  | y :: r, b, h => by
    unfold anyT at h
    show (match PySem.W.kitOne K (tgW L.S t) (tyW L.S y) with
      | some true => some true
      | some false => PySem.W.kitAny K (tgW L.S t) (r.map (tyW L.S))
      | none => none) = some b
    split at h
    · rename_i e
      rw [one_ok xc e]; exact h
    · rename_i e
      rw [one_ok xc e]; exact any_ok xc h
    · cases h
theorem any_cs {cs : Nat → Bool} {c : Nat} : ∀ {ts : List Ty} {b : Bool}, anyT cs (.exn c) ts = some b → ts ≠ [] → cs c = true
  | [], _, _, n => absurd rfl n
  | y :: r, b, h, _ => by
    unfold anyT at h
    cases hc : cs c with
    | true => rfl
    | false =>
      exfalso
      have : oneT cs (.exn c) y = none := by
        unfold oneT
        cases y <;> simp [hc]
      rw [this] at h
      cases h
end PM
set_option maxRecDepth 100000
set_option maxHeartbeats 1000000
/-! PM, part s: isinstance; exceptions made, their fields; list(range(..)). -/
namespace PM
open PySem PySem.Spec PyProof.Rows L2
def tyN (L : Law) : Ty → Str
  | .int => "int"
  | .bool => "bool"
  | .str => "str"
  | .list => "list"
  | .tuple => "tuple"
  | .dict => "dict"
  | .own c => L.clN c
  | .ve => "ValueError"
def tyOk (L : Law) : Ty → Bool
  | .own c => L.T.cs c && !(L.clN c == ("__debug__" : Str))
  | _ => true
section
variable {L : Law} {X : Cx} {E : WX} {k : Nat} {top : Str → Bool} {ea eb : Expr} {es : List Expr} {ma mb : Ev → G → Res U} {ms : Ev → G → Res (List U)} {f1 f2 : Bool} {pos p p2 p3 : Pos}
theorem pe_ty (hd : Gd L X E k top) {y : Ty} {x : Str} (hx : tyN L y = x) (ho : tyOk L y = true) (hg : Gl X x) : PE X (.Name x p) (tC (tyV L.S y)) := by
  subst hx
  have b : ∀ {n : Str} {t : String}, n ∈ boots → bootBuiltins n = some (.type t) → n ≠ "__name__" → (n == ("__debug__" : Str)) = false → Gl X n → PE X (.Name n p) (tC (.ty t)) := fun {n t} h1 h2 h3 h4 h5 =>
    pe_bltn h5 (hd.fc.bt n h1) h2 rfl h3 h4
  cases y with
  | own c =>
    unfold tyOk at ho
    rw [Bool.and_eq_true] at ho
    exact pe_glob hg (hd.fc.xc.nm c ho.1) rfl (by have h2 := ho.2; rw [Bool.not_eq_true'] at h2; exact h2)
  | int => exact b (n := "int") (by decide +kernel) (by decide +kernel) (by decide +kernel) (by decide +kernel) hg
  | bool => exact b (n := "bool") (by decide +kernel) (by decide +kernel) (by decide +kernel) (by decide +kernel) hg
  | str => exact b (n := "str") (by decide +kernel) (by decide +kernel) (by decide +kernel) (by decide +kernel) hg
  | list => exact b (n := "list") (by decide +kernel) (by decide +kernel) (by decide +kernel) (by decide +kernel) hg
  | tuple => exact b (n := "tuple") (by decide +kernel) (by decide +kernel) (by decide +kernel) (by decide +kernel) hg
  | dict => exact b (n := "dict") (by decide +kernel) (by decide +kernel) (by decide +kernel) (by decide +kernel) hg
  | ve => exact b (n := "ValueError") (by decide +kernel) (by decide +kernel) (by decide +kernel) (by decide +kernel) hg
theorem tyV_eq {S : Sg} {y : Ty} {w : Value} (r : RelV (tyV S y) w) : w = tyW S y := by
  cases y <;> exact r
theorem tyV_all {S : Sg} : ∀ {ys : List Ty} {ws : List Value}, Vals (ys.map (tyV S)) ws → ws = ys.map (tyW S)
  | [], _, .nil => rfl
  | y :: r, _, .cons a b => by rw [tyV_eq a, tyV_all b]; rfl
def isR (L : Law) : List V → Hp → VK → Prop := fun vs H Q => ∃ W g u v t ys b, HR L.S W g H ∧ RU L.S W H u v ∧ tagU g u = some t ∧ anyT L.T.cs t ys = some b ∧ ys ≠ [] ∧ Q (.bl b) H ∧
  ((∃ y, ys = [y] ∧ vs = [v, tyV L.S y]) ∨ ∃ tp, vs = [v, .ref tp] ∧ H tp = some (.tup (ys.map (tyV L.S))))
theorem isR_ok (hK : X.K = L.S.K) (xc : Xc L L.S.K X.mg) : CallR X (.builtin "isinstance") (isR L) := by
  intro pins s σ H vs us Q I rx h
  obtain ⟨W, g, u, v, t, ys, b, hr, ru, ht, hb, hne, q, h⟩ := h
  have hcs : ∀ c, t = .exn c → L.T.cs c = true := fun c e => by subst e; exact any_cs hb hne
  have ha := any_ok xc hb
  rw [← hK] at ha
  rcases h with ⟨y, rfl, rfl⟩ | ⟨tp, rfl, hT⟩
  · obtain ⟨w1, w2, rfl, r1, r2⟩ := vals2 rx
    obtain ⟨P, Z, pz, hx⟩ := kit_U hK xc hr I r1 ru ht hcs
    have e2 := tyV_eq r2
    subst e2
    have h1 : PySem.W.kitOne X.K (tgW L.S t) (tyW L.S y) = some b := by
      have h' : (match PySem.W.kitOne X.K (tgW L.S t) (tyW L.S y) with
        | some true => some true
        | some false => some false
        | none => none) = some b := ha
      cases e : PySem.W.kitOne X.K (tgW L.S t) (tyW L.S y) with
      | none => rw [e] at h'; cases h'
      | some c => rw [e] at h'; cases c <;> exact h'
    exact PySem.W.kia_one Z I.kIn pz h1 hx fun tk => ⟨.bl b, H, I.tok tk, rfl, q⟩
  · obtain ⟨w1, w2, rfl, r1, r2⟩ := vals2 rx
    cases (show w2 = Value.ref tp from r2)
    obtain ⟨P, Z, pz, hx⟩ := kit_U hK xc hr I r1 ru ht hcs
    obtain ⟨_, its, rv, o, h1, h2, n, h3⟩ := (show ObjOk X.prog X.w H s.heap tp (.tup (ys.map (tyV L.S))) from I.hok tp _ hT)
    have e3 := tyV_all rv
    subst e3
    obtain ⟨oc, od, dt, sl⟩ := o
    dsimp only at h2 h3
    subst h2 h3
    exact PySem.W.kia_tup Z I.kIn pz h1 ha hx fun tk => ⟨.bl b, H, I.tok tk, rfl, q⟩
theorem isi_in {W : Wd} {g : G} {H : Hp} {Q : VK} {EE : EK} {u : U} {ys : List Ty} (h : PO L.S (RU' L.S) W g H Q EE (isiU L.T.cs g u ys)) (hr : HR L.S W g H) : ∃ t b, tagU g u = some t ∧ anyT L.T.cs t ys = some b ∧ Q (.bl b) H := by
  unfold isiU at h
  cases ht : tagU g u with
  | none => rw [ht] at h; exact h.elim
  | some t =>
    rw [ht] at h
    have h : PO L.S (RU' L.S) W g H Q EE (match anyT L.T.cs t ys with
      | some b => .ok (.bl b) g
      | none => .bad) := h
    cases ha : anyT L.T.cs t ys with
    | none => rw [ha] at h; exact h.elim
    | some b => rw [ha] at h; exact ⟨t, b, rfl, ha, h.now hr (.bl b)⟩
theorem se_isi1 (hd : Gd L X E k top) {y : Ty} {x : Str} (h0 : Gl X "isinstance") (hx : tyN L y = x) (ho : tyOk L y = true) (hg : Gl X x) (hn : notStar ea = true) (ha : SE L.S X E ma ea f1) :
    SE L.S X E (fun e g => (ma e g).bd fun x g => isiU L.T.cs g x [y]) (.Call (.Name "isinstance" p) [ea, .Name x p2] [] pos) false := by
  refine SE.ofE hd.hK ⟨fun pins s σ H Q I h => ?_⟩ fun _ => rfl
  refine (pe_callB (X := X) (p := p) (pos := pos) (isR_ok hd.hK hd.fc.xc) h0 (hd.fc.bt _ (by decide +kernel)) (by decide +kernel) (pa_cons ha.pe (pa_cons (pe_ty (p := p2) hd hx ho hg) pa_nil rfl) (star1 hn)) (by decide +kernel) (by decide +kernel) (star1 hn) rfl).run pins s σ H Q I ?_
  obtain ⟨e, W, g, er, hr, po⟩ := h
  refine ⟨e, W, g, er, hr, PO.mono (fun v H1 h1 => ?_) (PO.bd (R := RU' L.S) er .nil hr po)⟩
  obtain ⟨W1, g1, u1, er1, _, hr1, r1, p1⟩ := h1
  obtain ⟨t, b, ht, hb, q⟩ := isi_in p1 hr1
  exact ⟨W1, g1, u1, v, t, [y], b, hr1, r1, ht, hb, (fun z => nomatch z), q, .inl ⟨y, rfl, rfl⟩⟩
/-- the names of types, in brackets -/
def tysN (L : Law) : List Ty → List Expr → Bool
  | [], [] => true
  | y :: r, .Name x _ :: es => x == tyN L y && (tyOk L y && tysN L r es)
  | _, _ => false
def tNms (S : Sg) (ys : List Ty) : TA := fun _ H Q => Q (ys.map (tyV S)) H
theorem pa_tys (hd : Gd L X E k top) : ∀ {ys : List Ty} {es : List Expr}, tysN L ys es = true → (∀ y ∈ ys, Gl X (tyN L y)) → PA X es (tNms L.S ys)
  | [], [], _, _ => pa_nil
  | y :: r, ex :: es, h, hg => by
    cases ex <;> first | (cases h; done) | skip
    rename_i x p
    unfold tysN at h
    rw [Bool.and_eq_true, Bool.and_eq_true] at h
    have e : x = tyN L y := by simpa using h.1
    have ih := pa_tys hd h.2.2 fun z hz => hg z (List.mem_cons_of_mem _ hz)
    exact paI (pa_cons (pe_ty (p := p) hd e.symm h.2.1 (by rw [e]; exact hg y List.mem_cons_self)) ih rfl) fun σ H Q q => q
  | [], _ :: _, h, _ => by cases h
  | _ :: _, [], h, _ => by cases h
theorem se_isiT (hd : Gd L X E k top) {ys : List Ty} {x1 : Nat} (h0 : Gl X "isinstance") (hy : tysN L ys es = true) (hl : decide (ys.length ≤ sizeLine) = true) (hne : ys ≠ []) (hg : ∀ y ∈ ys, Gl X (tyN L y)) (hn : notStar ea = true) (ha : SE L.S X E ma ea f1) :
    SE L.S X E (fun e g => (ma e g).bd fun x g => isiU L.T.cs g x ys) (.Call (.Name "isinstance" p) [ea, .Tuple es x1 p2] [] pos) false := by
  refine SE.ofE hd.hK ⟨fun pins s σ H Q I h => ?_⟩ fun _ => rfl
  refine (pe_callB (X := X) (p := p) (pos := pos) (isR_ok hd.hK hd.fc.xc) h0 (hd.fc.bt _ (by decide +kernel)) (by decide +kernel) (pa_cons ha.pe (pa_cons (pe_tup (pa_tys hd hy hg)) pa_nil rfl) (star1 hn)) (by decide +kernel) (by decide +kernel) (star1 hn) rfl).run pins s σ H Q I ?_
  obtain ⟨e, W, g, er, hr, po⟩ := h
  refine ⟨e, W, g, er, hr, PO.mono (fun v H1 h1 => ?_) (PO.bd (R := RU' L.S) er .nil hr po)⟩
  obtain ⟨W1, g1, u1, er1, _, hr1, r1, p1⟩ := h1
  refine ⟨by rw [List.length_map]; exact of_decide_eq_true hl, fun q hq => ?_⟩
  have x2 := ext_put (W := W1) (g := g1) (o := .tup (ys.map (tyV L.S))) hq
  have hr2 := hr_put (o := .tup (ys.map (tyV L.S))) hr1 hq
  obtain ⟨t, b, ht, hb, q'⟩ := isi_in (PO.shift x2 p1) hr2
  exact ⟨W1, g1, u1, v, t, ys, b, hr2, r1.mono hr1.no x2, ht, hb, hne, q', .inr ⟨q, rfl, upd_same⟩⟩
/-! ### exceptions made -/
/-- what makes an exception, as a value -/
theorem pe_mk {ex : Expr} {t : L2.St → Hp → XK → Prop} (h : PMk X ex t) : PE X ex (fun σ H Q => t σ H fun cls d H' => ∀ a, H' a = none → Q (.ref a) (upd H' a (exV cls a d))) := by
  refine ⟨fun pins s σ H Q I q => wpAny_mono (h pins s σ H _ I q) (fun u s' hu => ?_) fun _ _ z => z⟩
  obtain ⟨a, oe, vs, sI, H', cls, d, rfl, J, k, hne, ha, hz, hd, h1, na, os, ag, r, q⟩ := hu
  have J2 := J.laidN (t' := s'.toks) k hne na (exV_ok (P := X.prog) (w := X.w) (H := upd H' a (exV cls a d)) ha hz hd)
  refine ⟨.ref a, _, ?_, rfl, q a na⟩
  obtain ⟨hp, gs, dr, tk, sy⟩ := s'
  obtain ⟨hp0, gs0, dr0, tk0, sy0⟩ := sI
  dsimp only at os ag J2
  subst os
  exact ⟨J2.ok, J2.os, ag, J2.base, J2.loc, J2.cell, J2.free, J2.freeC, J2.pin, J2.hok, J2.len⟩
end
end PM
set_option maxRecDepth 100000
set_option maxHeartbeats 1000000
/-! PM, part t: exceptions made and raised; list(range(..)), tuple(range(..)). -/
namespace PM
open PySem PySem.Spec PyProof.Rows L2
section
variable {L : Law} {X : Cx} {E : WX} {k : Nat} {top : Str → Bool} {ea eb : Expr} {es : List Expr} {ma mb : Ev → G → Res U} {ms : Ev → G → Res (List U)} {f1 f2 : Bool} {pos p p2 p3 : Pos}
/-- what is wished of a made exception -/
def XQ (S : Sg) (c : Nat) (Q : XK) (W : Wd) (g : G) (H : Hp) (us : List U) : Prop := match hasF c, us with
  | true, [u] => ∀ W' H' d, Ext W g H W' g H' → HR S W' g H' → ExR S W' H' ⟨c, some u⟩ (.ref (S.cls c)) d → Q (.ref (S.cls c)) d H'
  | false, _ => Q (.ref (S.cls c)) none H
  | _, _ => False
def TMk (S : Sg) (E : WX) (ms : Ev → G → Res (List U)) (c : Nat) : L2.St → Hp → XK → Prop := fun σ H Q => TAv S E ms σ H fun vs H1 => ∃ W g us, HR S W g H1 ∧ RUs S W H1 us vs ∧ vs.length ≤ 1000 ∧ XQ S c Q W g H1 us
theorem mk_1 (hd : Gd L X E k top) {c : Nat} {x : Str} (hc : L.T.cs c = true) (hf : hasF c = true) (hx : L.clN c = x) (hdb : (x == ("__debug__" : Str)) = false) (hg : Gl X x) (hs : SA L.S X E ms (ea :: es)) : PMk X (.Call (.Name x p) (ea :: es) [] pos) (TMk L.S E ms c) := by
  intro pins s σ H Q I h
  obtain ⟨fI, fd, ps, i1, i2, i3, F⟩ := hd.fc.xi c hc hf
  obtain ⟨o1, o2, o3⟩ := hd.fc.xc.oe c hc hf
  have hm := hd.fc.xc.nm c hc
  rw [hx] at hm
  have ns := hs.ns
  rw [List.all_cons, Bool.and_eq_true] at ns
  refine pmk_oex (p := p) (pos := pos) (ds := []) (dvs := []) (by rw [hd.hK]; exact o1) (by rw [hd.hK]; exact i1) (by rw [hd.hK]; exact i2) (by rw [hd.hK]; exact F) (hd.room.mono hd.k3) (by rw [hd.hK]; exact i3) .nil (passes_call hd.tk fun _ _ _ _ z => z.elim) hg hm hs.pa hdb (star1 ns.1) (starAny ns.2) pins s σ H Q I ?_
  obtain ⟨e, W, g, er, hr, po⟩ := h
  refine ⟨e, W, g, er, hr, PO.mono (fun vs H1 h1 => ?_) po⟩
  obtain ⟨W1, g1, us, hr1, rs, hl, q⟩ := h1
  refine ⟨hl, fun a ha => ?_⟩
  unfold XQ at q
  rw [hf] at q
  cases rs with
  | nil => exact q.elim
  | @cons u us v vs r rs =>
  cases rs with
  | cons _ _ => exact q.elim
  | nil =>
  refine ⟨a, v, rfl, upd_same, fun dx hdx hne => ⟨rfl, dx, [(L.S.xf c, v)], upd_same, by rw [upd_ne hne]; exact upd_same, by rw [upd_ne hne] at hdx; exact hdx, ?_⟩⟩
  rw [upd_ne hne] at hdx
  have eH : upd (del (upd (upd (upd H1 a (exo a (L.S.cls c) none)) dx (exd dx [(L.S.xf c, v)])) a (exo a (L.S.cls c) (some dx))) a) dx (.xd [(L.S.xf c, v)]) = upd H1 dx (.xd [(L.S.xf c, v)]) := by
    funext b
    by_cases h1 : b = dx
    · subst h1; rw [upd_same, upd_same]
    · rw [upd_ne h1, upd_ne h1]
      by_cases h2 : b = a
      · subst h2; rw [del_same, ha]
      · rw [del_ne h2, upd_ne h2, upd_ne h1, upd_ne h2]
  rw [eH]
  have x2 := ext_new (W := W1) (g := g1) (o := .xd [(L.S.xf c, v)]) hr1 hdx
  have hr2 := hr_new (o := .xd [(L.S.xf c, v)]) hr1 hdx
  exact q _ _ _ x2 hr2 ⟨rfl, dx, v, rfl, upd_same, .inr rfl, r.mono hr1.no x2⟩
theorem mk_0 (hd : Gd L X E k top) {c : Nat} {x : Str} (hc : L.T.cs c = true) (hf : hasF c = false) (hx : L.clN c = x) (hdb : (x == ("__debug__" : Str)) = false) (hg : Gl X x) : PMk X (.Call (.Name x p) [] [] pos) (TMk L.S E (fun _ g => .ok [] g) c) := by
  intro pins s σ H Q I h
  have hm := hd.fc.xc.nm c hc
  rw [hx] at hm
  obtain ⟨k1, k2, k3⟩ := hd.fc.xc.kp c hc
  have ex := hd.fc.xc.ex c hc hf
  rw [← hd.hK] at k1 k2 k3 ex
  obtain ⟨e, W, g, er, hr, po⟩ := h
  obtain ⟨W1, g1, us, hr1, rs, hl, q⟩ := po.now hr .nil
  refine wpAny_Call_Name_kw (ld_glob I hg hm ?_ hdb)
  refine PySem.W.callWith_K0 I.kIn k1 ?_
  obtain ⟨bm, N, nm, qn, bs, hdct, sn, sub, ab, col, dd, z0, z1, z2, z3, z5, mN, hC, hN, hni, T⟩ := exc_obj I.kIn ex
  refine wpAny_call_exc_subT F.excBase_ValueError T hC hN hni (fun h' a hm' => ?_) (by show 0 ≤ sizeLine; exact Nat.zero_le _)
  unfold XQ at q
  rw [hf] at q
  exact mk_of I hm' (raises_own k2 k3) q (I.hok.gone hm'.new)
theorem mk_m (hd : Gd L X E k top) {c : Nat} {x m : Str} {j : Nat} (hc : L.T.cs c = true) (hf : hasF c = false) (hx : L.clN c = x) (hdb : (x == ("__debug__" : Str)) = false) (hg : Gl X x) : PMk X (.Call (.Name x p) [.Constant (.str m) j p2] [] pos) (TMk L.S E (fun _ g => .ok [.str m] g) c) := by
  intro pins s σ H Q I h
  have hm := hd.fc.xc.nm c hc
  rw [hx] at hm
  obtain ⟨k1, k2, k3⟩ := hd.fc.xc.kp c hc
  have ex := hd.fc.xc.ex c hc hf
  rw [← hd.hK] at k1 k2 k3 ex
  obtain ⟨e, W, g, er, hr, po⟩ := h
  obtain ⟨W1, g1, us, hr1, rs, hl, q⟩ := po.now (b := [V.str m]) hr (.cons (.str m) .nil)
  unfold XQ at q
  rw [hf] at q
  exact pmk_own F.excBase_ValueError ex hm k1 (raises_own k2 k3) hg hdb pins s σ H Q I q
/-- an exception as a value -/
theorem se_xnew (hd : Gd L X E k top) {ex : Expr} {c : Nat} (hc : L.T.cs c = true) (h : PMk X ex (TMk L.S E ms c)) (hp : Plain ex X) (hb : ∀ e g l g', ms e g = .ok l g' → l.length ≤ 1000) : SE L.S X E (fun e g => (ms e g).bd fun l g => match xnU c l with
    | some u => .ok u g
    | none => .bad) ex false := by
  refine SE.ofE hd.hK (peI (pe_mk h) fun σ H Q h => ?_) hp
  obtain ⟨e, W, g, er, hr, po⟩ := h
  refine ⟨e, W, g, er, hr, ?_⟩
  dsimp only at po
  cases hm : ms e g with
  | bad => rw [hm] at po; exact po
  | err x g' => rw [hm] at po; exact po
  | ok l g' =>
    rw [hm] at po
    intro W1 H1 vs x1 hr1 rs
    refine ⟨W1, g', l, hr1, rs, by rw [← rs.length]; exact hb _ _ _ _ hm, ?_⟩
    have po : PO L.S (RU' L.S) W g H Q (fun c d H' => E c d σ H') (match xnU c l with
      | some u => .ok u g'
      | none => .bad) := po
    unfold xnU at po
    unfold XQ
    cases hf : hasF c with
    | true =>
      rw [hf] at po
      cases rs with
      | nil => exact po.elim
      | @cons u us v vs r rs =>
        cases rs with
        | cons _ _ => exact po.elim
        | nil =>
          intro W' H' d x2 hr2 xr a ha
          obtain ⟨_, dd, v', rfl, hx, hf', rv⟩ := xr
          have x3 := ext_new (W := W') (g := g') (o := exV (.ref (L.S.cls c)) a (some dd)) hr2 ha
          have hr3 := hr_new (o := exV (.ref (L.S.cls c)) a (some dd)) hr2 ha
          exact po _ _ _ (x1.trans (x2.trans x3)) hr3 (.ex1 (.inr rfl) upd_same (.inl hf') (x3.keep _ _ hx (hr2.no _ hf')) (rv.mono hr2.no x3))
    | false =>
      rw [hf] at po
      intro a ha
      have x3 := ext_new (W := W1) (g := g') (o := exV (.ref (L.S.cls c)) a none) hr1 ha
      have hr3 := hr_new (o := exV (.ref (L.S.cls c)) a none) hr1 ha
      cases l with
      | nil => exact po _ _ _ (x1.trans x3) hr3 (.ex0 (.inr rfl) upd_same)
      | cons _ _ => exact po.elim
def notSup : Expr → Bool
  | .Call _ _ _ _ => false
  | _ => true
theorem sup_base {e : Expr} {f : Str} {env : Env} (h : notSup e = true) : attributeBase e f env (eval e env) = eval e env := by
  cases e <;> first | rfl | cases h
/-- a field of an exception -/
theorem se_xfl (hd : Gd L X E k top) {c : Nat} {f : Str} (hc : L.T.cs c = true) (hf : hasF c = true) (hx : L.S.xf c = f) (hn : notSup ea = true) (ha : SE L.S X E ma ea f1) : SE L.S X E (fun e g => (ma e g).bd fun x g => match xfU c x with
    | some u => .ok u g
    | none => .bad) (.Attribute ea f pos) false := by
  subst hx
  refine SE.ofE hd.hK ⟨fun pins s σ H Q I h => ?_⟩ fun _ => rfl
  obtain ⟨e, W, g, er, hr, po⟩ := h
  refine attr_of (sup_base hn) (thn (ha.pe.run pins s σ H _ I ⟨e, W, g, er, hr, PO.bd (R := RU' L.S) er .nil hr po⟩) fun u s1 hh => ?_)
  obtain ⟨x, H1, I1, rx, W1, g1, u1, er1, _, hr1, r1, p1⟩ := hh
  obtain ⟨o1, T, o3⟩ := hd.fc.xc.oe c hc hf
  dsimp only at p1
  cases r1 with
  | @ex1 a dd c' u2 v f1 h f2 h2 r =>
    unfold xfU at p1
    dsimp only at p1
    by_cases hcc : (c == c') = true
    · rw [if_pos hcc] at p1
      have e : c = c' := by simpa using hcc
      subst e
      cases (show u = Value.ref a from rx)
      obtain ⟨ox, od, J, hl⟩ := inst1 I1 h h2
      obtain ⟨w, hw, rw'⟩ := hl (L.S.xf c) v (by simp [List.lookup])
      have K1 := I1.kIn
      rw [hd.hK] at K1
      exact HandSPX.exc_get K1 J T.ga T.gg T.exC (PySem.W.findObj_own T.hdC o3 rfl hw) (handed_of rw') ⟨v, H1, I1.tok _, rw', p1.now hr1 r⟩
    · rw [if_neg hcc] at p1; exact p1.elim
  | _ => exact p1.elim
/-! ### range as an argument -/
theorem rngV {S : Sg} {W : Wd} {H : Hp} (a b : Int) : RUs S W H (rngL a b) (rgV a b) := by
  unfold rngL rgV
  generalize List.range (b - a).toNat = l
  induction l with
  | nil => exact .nil
  | cons i r ih => exact .cons (.int _) ih
theorem rng_ok {i j : Int} (h : rngOk i j = true) : -(2 ^ 62) ≤ i ∧ i < 2 ^ 62 ∧ -(2 ^ 62) ≤ j ∧ j < 2 ^ 62 := by
  unfold rngOk at h
  simp only [Bool.and_eq_true, decide_eq_true_eq] at h
  exact h
end
end PM
set_option maxRecDepth 100000
set_option maxHeartbeats 1000000
/-! PM, part u: what is walked. -/
namespace PM
open PySem PySem.Spec PyProof.Rows L2
mutual
theorem same_eq : ∀ {a b : U}, U.same a b = true → a = b := by
  intro a b h
  cases a <;> cases b <;> first | rfl | (unfold U.same at h; cases h; done) | skip
  all_goals unfold U.same at h
  · rw [eq_of_beq h]
  · rw [eq_of_beq h]
  · rw [eq_of_beq h]
  · rw [sameL_eq h]
  · rw [sameL_eq h]
  · rw [eq_of_beq h]
  · rw [Bool.and_eq_true] at h
    rw [eq_of_beq h.1, sameL_eq h.2]
theorem sameL_eq : ∀ {a b : List U}, sameL a b = true → a = b := by
  intro a b h
  cases a <;> cases b <;> first | rfl | (unfold sameL at h; cases h; done) | skip
  unfold sameL at h
  rw [Bool.and_eq_true] at h
  rw [same_eq h.1, sameL_eq h.2]
end
theorem stay_app {g : G} : ∀ {a b : List (Nat × List U)}, stay g (a ++ b) = true → stay g a = true ∧ stay g b = true
  | [], _, h => ⟨rfl, h⟩
  | (n, l) :: a, b, h => by
    have h' : ((match gat g n with
      | some (.lst l') => sameL l' l
      | _ => false) && stay g (a ++ b)) = true := h
    rw [Bool.and_eq_true] at h'
    obtain ⟨h1, h2⟩ := stay_app h'.2
    exact ⟨Bool.and_eq_true_iff.mpr ⟨h'.1, h1⟩, h2⟩
theorem stay_asL {g g' : G} {u : U} {l : List U} (e : asL g u = some l) (h : stay g' (srcU g u) = true) : asL g' u = some l := by
  cases u <;> first | exact e | skip
  rename_i n
  unfold asL at e ⊢
  dsimp only at e ⊢
  split at e
  · rename_i l' hg
    cases e
    unfold srcU at h
    dsimp only at h
    rw [hg] at h
    have h' : ((match gat g' n with
      | some (.lst l') => sameL l' l
      | _ => false) && stay g' []) = true := h
    rw [Bool.and_eq_true] at h'
    have h1 := h'.1
    split at h1
    · rename_i l2 hg2
      have e0 := sameL_eq h1
      subst e0
      first | rw [hg2] | rfl
    · cases h1
  · cases e
theorem stay_asS {g g' : G} {u : U} {l : List U} (e : asS g u = some l) (h : stay g' (srcU g u) = true) : asS g' u = some l := by
  cases u <;> first | exact e | skip
  rename_i n
  have e : asL g (.ref n) = some l := e
  exact stay_asL (g := g) e h
/-- what an iterator does, by the items -/
def ItOk (S : Sg) (W : Wd) (g : G) (H : Hp) (J : L2.It) (w : Wk) : Prop := ∀ W' g' H', Ext W g H W' g' H' → HR S W' g' H' → stay g' w.sr = true → ∀ i,
  (∀ u, w.l[i]? = some u → J.go i H' ∧ ∀ x H'', J.yld i H' x H'' → ∃ W'', Ext W' g' H' W'' g' H'' ∧ HR S W'' g' H'' ∧ RU S W'' H'' u x) ∧ (w.l.length ≤ i → J.stop i H')
def IP (S : Sg) (W : Wd) (g : G) (H : Hp) (R : L2.It → Hp → Prop) (E : EK) : Res Wk → Prop
  | .ok w g' => ∀ W' H' J, Ext W g H W' g' H' → HR S W' g' H' → ItOk S W' g' H' J w → R J H'
  | .err x g' => ∀ W' H' c d, Ext W g H W' g' H' → HR S W' g' H' → ExR S W' H' x c d → E c d H'
  | .bad => False
def TIv (S : Sg) (E : WX) (m : Ev → G → Res Wk) : TI := fun σ H R => ∃ e W g, EnvR S W H e σ ∧ HR S W g H ∧ IP S W g H R (fun c d H' => E c d σ H') (m e g)
theorem IP.shift {S : Sg} {W W1 : Wd} {g g1 : G} {H H1 : Hp} {R : L2.It → Hp → Prop} {E : EK} (x : Ext W g H W1 g1 H1) : ∀ {r : Res Wk}, IP S W g H R E r → IP S W1 g1 H1 R E r
  | .ok a g', h => fun W' H' b e => h W' H' b (x.trans e)
  | .err _ g', h => fun W' H' c d e => h W' H' c d (x.trans e)
  | .bad, h => h
/-- behind an expression -/
theorem IP.bd {S : Sg} {α β : Type} {Rl : Wd → Hp → α → β → Prop} {W : Wd} {g : G} {H : Hp} {σ : L2.St} {e : Ev} {E : WX} {f : α → G → Res Wk} {R : L2.It → Hp → Prop} (hr : HR S W g H) (er : EnvR S W H e σ) {cu : List U} {cv : List V} (rc : RUs S W H cu cv) :
    ∀ {r : Res α}, IP S W g H R (fun c d H' => E c d σ H') (r.bd f) →
      PO S Rl W g H (fun b H1 => ∃ W1 g1 a, EnvR S W1 H1 e σ ∧ RUs S W1 H1 cu cv ∧ HR S W1 g1 H1 ∧ Rl W1 H1 a b ∧ IP S W1 g1 H1 R (fun c d H' => E c d σ H') (f a g1)) (fun c d H' => E c d σ H') r
  | .ok a g', h => fun W' H' b x h1 h2 => ⟨W', g', a, er.mono hr.no x, rc.mono hr.no x, h1, h2, IP.shift x h⟩
  | .err _ g', h => h
  | .bad, h => h
structure SI (L : Law) (X : Cx) (E : WX) (m : Ev → G → Res Wk) (tg iter : Expr) : Prop where
  pi : PI X tg iter (TIv L.S E m)
section
variable {L : Law} {X : Cx} {E : WX} {k : Nat} {top : Str → Bool} {ea eb tg : Expr} {es : List Expr} {ma mb : Ev → G → Res U} {ms : Ev → G → Res (List U)} {f1 f2 : Bool} {pos p p2 p3 : Pos}
theorem piI {it : Expr} {t t' : TI} (h : PI X tg it t) (hi : ∀ σ H R, t' σ H R → t σ H R) : PI X tg it t' := ⟨fun pins s σ H R I q => h.run pins s σ H R I (hi _ _ _ q)⟩
theorem itl_ok {S : Sg} {W : Wd} {g : G} {H : Hp} {u : U} {a : Addr} {l : List U} (r : RU S W H u (.ref a)) (hr : HR S W g H) (e : asL g u = some l) : ItOk S W g H (Itl S.K a) ⟨l, srcU g u⟩ := by
  intro W' g' H' x hr' st i
  obtain ⟨a', vs, ea, sq, rs⟩ := asL_ok hr' (r.mono hr.no x) (stay_asL e st)
  cases ea
  refine ⟨fun u hu => ?_, fun hl => ⟨vs, sq, by rw [← rs.length]; exact hl⟩⟩
  obtain ⟨v, hv, rv⟩ := rs.get hu
  refine ⟨⟨vs, v, sq, hv⟩, fun x2 H'' ⟨e1, e2⟩ => ?_⟩
  subst e1
  have := e2 vs sq
  rw [hv] at this
  cases this
  exact ⟨W', Ext.refl, hr', rv⟩
theorem itt_ok {S : Sg} {W : Wd} {g : G} {H : Hp} {a : Addr} {l : List U} (r : RU S W H (.tup l) (.ref a)) (hr : HR S W g H) : ItOk S W g H (Itt S.K a) ⟨l, []⟩ := by
  intro W' g' H' x hr' st i
  have r' := r.mono hr.no x
  cases r' with
  | @tup _ _ vs f h rs =>
  have sq : SqT S.K H' a vs := .inl (.inl h)
  have uq : ∀ ws, SqT S.K H' a ws → True := fun _ _ => trivial
  refine ⟨fun u hu => ?_, fun hl => ⟨vs, sq, by rw [← rs.length]; exact hl⟩⟩
  obtain ⟨v, hv, rv⟩ := rs.get hu
  refine ⟨⟨vs, v, sq, hv⟩, fun x2 H'' ⟨e1, e2⟩ => ?_⟩
  subst e1
  have := e2 vs sq
  rw [hv] at this
  cases this
  exact ⟨W', Ext.refl, hr', rv⟩
theorem asL_asS {g : G} {u : U} {l : List U} (h : asS g u = some l) (hn : ∀ l, u ≠ .tup l) : asL g u = some l := by
  cases u <;> first | exact h | exact absurd rfl (hn _)
/-- a list, a tuple -/
theorem si_seq (hd : Gd L X E k top) (ha : SE L.S X E ma ea f1) : SI L X E (fun e g => (ma e g).bd fun x g => match asS g x with
    | some l => .ok ⟨l, srcU g x⟩ g
    | none => .bad) tg ea := by
  refine ⟨⟨fun pins s σ H R I h => ?_⟩⟩
  obtain ⟨e, W, g, er, hr, ip⟩ := h
  dsimp only at ip
  have aft := IP.bd (Rl := RU' L.S) hr er .nil ip
  by_cases ht : ∃ l g', ma e g = .ok (.tup l) g'
  · obtain ⟨l, g', hm⟩ := ht
    refine (pi_tup (tg := tg) ha.pe).run pins s σ H R I ⟨e, W, g, er, hr, ?_⟩
    rw [hm] at aft ⊢
    intro W' H' b x h1 h2
    obtain ⟨W1, g1, u, er1, _, hr1, r1, p1⟩ := aft W' H' b x h1 h2
    cases h2 with
    | @tup a _ vs f q rs =>
      refine ⟨a, rfl, ⟨vs, .inl (.inl q)⟩, ?_⟩
      have ip2 : IP L.S W g H R (fun c d H' => E c d σ H') (.ok ⟨l, []⟩ g') := by
        rw [hm] at ip; exact ip
      rw [hd.hK]
      exact ip2 W' H' _ x h1 (itt_ok (.tup f q rs) h1)
  · refine (pi_list (tg := tg) ha.pe).run pins s σ H R I ⟨e, W, g, er, hr, ?_⟩
    cases hm : ma e g with
    | bad => rw [hm] at ip; exact ip
    | err x g' => rw [hm] at ip; exact ip
    | ok u g' =>
      rw [hm] at ip
      intro W' H' b x h1 h2
      have ip : IP L.S W g H R (fun c d H' => E c d σ H') (match asS g' u with
        | some l => .ok ⟨l, srcU g' u⟩ g'
        | none => .bad) := ip
      cases hl : asS g' u with
      | none => rw [hl] at ip; exact ip.elim
      | some l =>
        rw [hl] at ip
        have hL := asL_asS hl fun l e => ht ⟨l, g', by rw [hm, e]⟩
        obtain ⟨a, vs, rfl, sq, rs⟩ := asL_ok h1 h2 hL
        exact ⟨a, rfl, ⟨vs, by rw [hd.hK]; exact sq⟩, by rw [hd.hK]; exact ip W' H' _ x h1 (itl_ok h2 h1 hL)⟩
theorem itr_ok {S : Sg} {W : Wd} {g : G} {H : Hp} (i j : Int) : ItOk S W g H (Itr i (j - i).toNat) ⟨rngL i j, []⟩ := by
  intro W' g' H' x hr' st n
  have hlen : (rngL i j).length = (j - i).toNat := by unfold rngL; rw [List.length_map, List.length_range]
  refine ⟨fun u hu => ?_, fun hl => by rw [← hlen]; exact hl⟩
  have hn : n < (rngL i j).length := (List.getElem?_eq_some_iff.mp hu).1
  rw [hlen] at hn
  have eu : u = .int (i + (n : Nat)) := by
    have : (rngL i j)[n]? = some (.int (i + (n : Nat))) := by
      unfold rngL
      rw [List.getElem?_map, List.getElem?_range hn]; rfl
    rw [this] at hu; cases hu; rfl
  subst eu
  refine ⟨hn, fun x2 H'' ⟨e1, e2⟩ => ?_⟩
  subst e1; subst e2
  exact ⟨W', Ext.refl, hr', .int _⟩
theorem si_rng1 (hd : Gd L X E k top) (hg : Gl X "range") (hn : notStar ea = true) (ha : SE L.S X E ma ea f1) : SI L X E (fun e g => (ma e g).bd fun x g => match x with
    | .int j => grd (rngOk 0 j) (.ok ⟨rngL 0 j, []⟩ g)
    | _ => .bad) tg (.Call (.Name "range" p) [ea] [] pos) := by
  refine ⟨piI (pi_range1 (ta := tCons (TEv L.S E ma) tNil) hg (hd.fc.bt _ (by decide +kernel)) (pa_cons ha.pe pa_nil (star1 hn)) (star1 hn)) fun σ H R h => ?_⟩
  obtain ⟨e, W, g, er, hr, ip⟩ := h
  refine ⟨e, W, g, er, hr, PO.mono (fun v H1 h1 => ?_) (IP.bd (Rl := RU' L.S) hr er .nil ip)⟩
  obtain ⟨W1, g1, u, er1, _, hr1, r1, p1⟩ := h1
  cases r1 <;> first | exact p1.elim | skip
  rename_i j
  cases hb : rngOk 0 j with
  | false =>
    dsimp only at p1
    rw [hb] at p1; exact p1.elim
  | true =>
    dsimp only at p1
    rw [hb] at p1
    obtain ⟨b1, b2, b3, b4⟩ := rng_ok hb
    have q := p1 W1 H1 (Itr 0 (j - 0).toNat) Ext.refl hr1 (itr_ok 0 j)
    exact ⟨j, rfl, b3, b4, by rw [Int.sub_zero] at q; exact q⟩
theorem si_rng2 (hd : Gd L X E k top) (hg : Gl X "range") (hn : notStar ea = true) (hn2 : notStar eb = true) (ha : SE L.S X E ma ea f1) (hb : SE L.S X E mb eb f2) : SI L X E (fun e g => (ma e g).bd fun x g => (mb e g).bd fun y g => match x, y with
    | .int i, .int j => grd (rngOk i j) (.ok ⟨rngL i j, []⟩ g)
    | _, _ => .bad) tg (.Call (.Name "range" p) [ea, eb] [] pos) := by
  refine ⟨piI (pi_range2 (ta := tCons (TEv L.S E ma) (tCons (TEv L.S E mb) tNil)) hg (hd.fc.bt _ (by decide +kernel)) (pa_cons ha.pe (pa_cons hb.pe pa_nil (star1 hn2)) (star1 hn)) (by rw [star1 hn, star1 hn2]; rfl) (by rw [star1 hn2]; rfl)) fun σ H R h => ?_⟩
  obtain ⟨e, W, g, er, hr, ip⟩ := h
  refine ⟨e, W, g, er, hr, PO.mono (fun v H1 h1 => ?_) (IP.bd (Rl := RU' L.S) hr er .nil ip)⟩
  obtain ⟨W1, g1, u, er1, _, hr1, r1, p1⟩ := h1
  refine ⟨e, W1, g1, er1, hr1, PO.mono (fun v2 H2 h2 => ?_) (IP.bd (Rl := RU' L.S) hr1 er1 (.cons r1 .nil) p1)⟩
  obtain ⟨W2, g2, u2, er2, rc, hr2, r2, p2⟩ := h2
  cases rc with
  | cons r1 _ =>
  cases r1 <;> first | exact p2.elim | skip
  cases r2 <;> first | exact p2.elim | skip
  rename_i i j
  cases hb : rngOk i j with
  | false =>
    dsimp only at p2
    rw [hb] at p2; exact p2.elim
  | true =>
    dsimp only at p2
    rw [hb] at p2
    exact ⟨i, j, rfl, rng_ok hb, p2 W2 H2 (Itr i (j - i).toNat) Ext.refl hr2 (itr_ok i j)⟩
theorem enumL_get : ∀ {l : List U} {n i : Nat} {u : U}, (enumL n l)[i]? = some u → ∃ x, l[i]? = some x ∧ u = .tup [.int ((n + i : Nat) : Int), x]
  | [], _, _, _, h => by cases h
  | x :: r, n, 0, u, h => by cases h; exact ⟨x, rfl, rfl⟩
  | x :: r, n, i + 1, u, h => by
    obtain ⟨y, h1, h2⟩ := enumL_get (l := r) (n := n + 1) (i := i) h
    exact ⟨y, h1, by rw [h2, show n + 1 + i = n + (i + 1) by omega]⟩
theorem enumL_len : ∀ {l : List U} {n : Nat}, (enumL n l).length = l.length
  | [], _ => rfl
  | _ :: r, n => by
    show (enumL (n + 1) r).length + 1 = _
    rw [enumL_len]; rfl
theorem si_enum (hd : Gd L X E k top) {elts : List Expr} {kk : Nat} {tp : Pos} (hg : Gl X "enumerate") (hn : notStar ea = true) (ha : SE L.S X E ma ea f1) : SI L X E (fun e g => (ma e g).bd fun x g => match asL g x with
    | some l => .ok ⟨enumL 0 l, srcU g x⟩ g
    | none => .bad) (.Tuple elts kk tp) (.Call (.Name "enumerate" p) [ea] [] pos) := by
  refine ⟨piI (pi_enum (ta := tCons (TEv L.S E ma) tNil) hg (hd.fc.bt _ (by decide +kernel)) (pa_cons ha.pe pa_nil (star1 hn)) (star1 hn)) fun σ H R h => ?_⟩
  obtain ⟨e, W, g, er, hr, ip⟩ := h
  refine ⟨e, W, g, er, hr, PO.mono (fun v H1 h1 => ?_) (IP.bd (Rl := RU' L.S) hr er .nil ip)⟩
  obtain ⟨W1, g1, u, er1, _, hr1, r1, p1⟩ := h1
  cases hl : asL g1 u with
  | none => rw [hl] at p1; exact p1.elim
  | some l =>
    rw [hl] at p1
    obtain ⟨a, vs, rfl, sq, rs⟩ := asL_ok hr1 r1 hl
    suffices hit : ItOk L.S W1 g1 H1 (Ite L.S.K a) ⟨enumL 0 l, srcU g1 u⟩ from ⟨a, vs, rfl, by rw [hd.hK]; exact sq, by rw [hd.hK]; exact p1 W1 H1 _ Ext.refl hr1 hit⟩
    intro W' g' H' x hr' st i
    obtain ⟨a', vs', ea', sq', rs'⟩ := asL_ok hr' (r1.mono hr1.no x) (stay_asL hl st)
    cases ea'
    refine ⟨fun u hu => ?_, fun hle => ⟨vs', sq', by rw [← rs'.length, ← enumL_len (n := 0)]; exact hle⟩⟩
    obtain ⟨y, hy, rfl⟩ := enumL_get hu
    obtain ⟨v, hv, rv⟩ := rs'.get hy
    refine ⟨⟨vs', v, sq', hv⟩, fun x2 H'' ⟨T, v2, e1, hT, e2, e3⟩ => ?_⟩
    subst e1; subst e2
    have := e3 vs' sq'
    rw [hv] at this
    cases this
    have x2 := ext_new (W := W') (g := g') (o := .tup [.int (i : Nat), v]) hr' hT
    refine ⟨_, x2, hr_new hr' hT, .tup (.inr rfl) upd_same (.cons ?_ (.cons (rv.mono hr'.no x2) .nil))⟩
    rw [Nat.zero_add]
    exact .int _
theorem zipL_get : ∀ {l r : List U} {i : Nat} {u : U}, (zipL l r)[i]? = some u → ∃ x y, l[i]? = some x ∧ r[i]? = some y ∧ u = .tup [x, y]
  | [], _, _, _, h => by unfold zipL at h; cases h
  | _ :: _, [], _, _, h => by unfold zipL at h; cases h
  | x :: l, y :: r, 0, u, h => by unfold zipL at h; cases h; exact ⟨x, y, rfl, rfl, rfl⟩
  | x :: l, y :: r, i + 1, u, h => by
    unfold zipL at h
    exact zipL_get (l := l) (r := r) (i := i) h
theorem zipL_len : ∀ {l r : List U}, (zipL l r).length = min l.length r.length
  | [], r => by unfold zipL; simp
  | _ :: _, [] => by unfold zipL; simp
  | x :: l, y :: r => by
    unfold zipL
    rw [List.length_cons, zipL_len, List.length_cons, List.length_cons]; omega
theorem si_zip (hd : Gd L X E k top) {elts : List Expr} {kk : Nat} {tp : Pos} (hg : Gl X "zip") (hn : notStar ea = true) (hn2 : notStar eb = true) (ha : SE L.S X E ma ea f1) (hb : SE L.S X E mb eb f2) : SI L X E (fun e g => (ma e g).bd fun x g => (mb e g).bd fun y g => match asL g x, asL g y with
    | some l, some r => .ok ⟨zipL l r, srcU g x ++ srcU g y⟩ g
    | _, _ => .bad) (.Tuple elts kk tp) (.Call (.Name "zip" p) [ea, eb] [] pos) := by
  refine ⟨piI (pi_zip (ta := tCons (TEv L.S E ma) (tCons (TEv L.S E mb) tNil)) hg (hd.fc.bt _ (by decide +kernel)) (pa_cons ha.pe (pa_cons hb.pe pa_nil (star1 hn2)) (star1 hn)) (star1 hn) (by rw [star1 hn2]; rfl)) fun σ H R h => ?_⟩
  obtain ⟨e, W, g, er, hr, ip⟩ := h
  refine ⟨e, W, g, er, hr, PO.mono (fun v H1 h1 => ?_) (IP.bd (Rl := RU' L.S) hr er .nil ip)⟩
  obtain ⟨W1, g1, u, er1, _, hr1, r1, p1⟩ := h1
  refine ⟨e, W1, g1, er1, hr1, PO.mono (fun v2 H2 h2 => ?_) (IP.bd (Rl := RU' L.S) hr1 er1 (.cons r1 .nil) p1)⟩
  obtain ⟨W2, g2, u2, er2, rc, hr2, r2, p2⟩ := h2
  cases rc with
  | cons r1 _ =>
  cases hl : asL g2 u with
  | none => rw [hl] at p2; exact p2.elim
  | some l =>
  cases hl2 : asL g2 u2 with
  | none => rw [hl, hl2] at p2; exact p2.elim
  | some l2 =>
    rw [hl, hl2] at p2
    obtain ⟨a, vs, rfl, sq, rs⟩ := asL_ok hr2 r1 hl
    obtain ⟨b, ws, rfl, sq2, rs2⟩ := asL_ok hr2 r2 hl2
    suffices hit : ItOk L.S W2 g2 H2 (Itz L.S.K a b) ⟨zipL l l2, srcU g2 u ++ srcU g2 u2⟩ from ⟨a, b, vs, ws, rfl, by rw [hd.hK]; exact sq, by rw [hd.hK]; exact sq2, by rw [hd.hK]; exact p2 W2 H2 _ Ext.refl hr2 hit⟩
    intro W' g' H' x hr' st i
    obtain ⟨st1, st2⟩ := stay_app st
    obtain ⟨a', vs', ea', sq', rs'⟩ := asL_ok hr' (r1.mono hr2.no x) (stay_asL hl st1)
    cases ea'
    obtain ⟨b', ws', eb', sq2', rs2'⟩ := asL_ok hr' (r2.mono hr2.no x) (stay_asL hl2 st2)
    cases eb'
    refine ⟨fun u hu => ?_, fun hle => ⟨vs', ws', sq', sq2', by
      have hle : (zipL l l2).length ≤ i := hle
      rw [zipL_len, rs'.length, rs2'.length] at hle; omega⟩⟩
    obtain ⟨y, z, hy, hz, rfl⟩ := zipL_get hu
    obtain ⟨v, hv, rv⟩ := rs'.get hy
    obtain ⟨v2, hv2, rv2⟩ := rs2'.get hz
    refine ⟨⟨vs', ws', v, v2, sq', sq2', hv, hv2⟩, fun x2 H'' ⟨T, w1, w2, e1, hT, e2, e3, e4⟩ => ?_⟩
    subst e1; subst e2
    have h3 := e3 vs' sq'
    rw [hv] at h3
    cases h3
    have h4 := e4 ws' sq2'
    rw [hv2] at h4
    cases h4
    have x2 := ext_new (W := W') (g := g') (o := .tup [v, v2]) hr' hT
    exact ⟨_, x2, hr_new hr' hT, .tup (.inr rfl) upd_same (.cons (rv.mono hr'.no x2) (.cons (rv2.mono hr'.no x2) .nil))⟩
end
end PM
set_option maxRecDepth 100000
set_option maxHeartbeats 1000000
/-! PM, part v: targets; comprehensions. -/
namespace PM
open PySem PySem.Spec PyProof.Rows L2
mutual
def Pat.ixs : Pat → List Nat
  | .nm i => [i]
  | .tup ps => ps.ixs
def Ps.ixs : Ps → List Nat
  | .nil => []
  | .cons p r => p.ixs ++ r.ixs
end
def Ps.len : Ps → Nat
  | .nil => 0
  | .cons _ r => r.len + 1
section
variable {S : Sg} {W : Wd} {g : G} {H : Hp}
theorem EnvR.set {e : Ev} {σ : L2.St} {u : U} {v : V} (er : EnvR S W H e σ) (r : RU S W H u v) (i : Nat) : EnvR S W H (e.set i (some u)) (σ.set i (some v)) := by
  refine ⟨by rw [List.length_set, List.length_set]; exact er.1, fun j w hj => ?_⟩
  by_cases h : i = j
  · subst h
    have hl : i < e.length := by
      have := (List.getElem?_eq_some_iff.mp hj).1
      rw [List.length_set] at this; exact this
    rw [List.getElem?_set_self hl] at hj
    cases hj
    exact ⟨v, List.getElem?_set_self (by rw [← er.1]; exact hl), r⟩
  · rw [List.getElem?_set_ne h] at hj
    obtain ⟨v', h1, h2⟩ := er.2 j w hj
    exact ⟨v', by rw [List.getElem?_set_ne h]; exact h1, h2⟩
theorem EnvR.del {e : Ev} {σ : L2.St} (er : EnvR S W H e σ) (i : Nat) : EnvR S W H (e.set i none) (σ.set i none) := by
  refine ⟨by rw [List.length_set, List.length_set]; exact er.1, fun j w hj => ?_⟩
  by_cases h : i = j
  · subst h
    have hl : i < e.length := by
      have := (List.getElem?_eq_some_iff.mp hj).1
      rw [List.length_set] at this; exact this
    rw [List.getElem?_set_self hl] at hj
    cases hj
  · rw [List.getElem?_set_ne h] at hj
    obtain ⟨v', h1, h2⟩ := er.2 j w hj
    exact ⟨v', by rw [List.getElem?_set_ne h]; exact h1, h2⟩
theorem EnvR.wipe {e : Ev} {σ : L2.St} (er : EnvR S W H e σ) : ∀ vs : List Nat, EnvR S W H (wipeE e vs) (L2.wipe σ vs)
  | [] => er
  | v :: vs => (EnvR.wipe er vs).del v
end
theorem wipe_out {σ : L2.St} {i : Nat} {o : Option V} : ∀ {vs : List Nat}, i ∈ vs → L2.wipe (σ.set i o) vs = L2.wipe σ vs
  | [], h => by cases h
  | v :: vs, h => by
    show (L2.wipe (σ.set i o) vs).set v none = (L2.wipe σ vs).set v none
    by_cases hi : i ∈ vs
    · rw [wipe_out hi]
    · rcases List.mem_cons.mp h with e | h
      · subst e
        have : ∀ {vs : List Nat}, i ∉ vs → L2.wipe (σ.set i o) vs = (L2.wipe σ vs).set i o := fun {vs} hn => by
          induction vs with
          | nil => rfl
          | cons w ws ih =>
            simp only [List.mem_cons, not_or] at hn
            show (L2.wipe (σ.set i o) ws).set w none = ((L2.wipe σ ws).set w none).set i o
            rw [ih hn.2, List.set_comm _ _ (by exact fun e => hn.1 (by omega))]
        rw [this hi, List.set_set]
      · exact absurd h hi
def Fits (σ σ' : L2.St) (ix : List Nat) : Prop := ∀ vs, (∀ i ∈ ix, i ∈ vs) → L2.wipe σ' vs = L2.wipe σ vs
mutual
/-- what a target does -/
def tP (S : Sg) : Pat → TG
  | .nm i => gName i
  | .tup ps => fun v σ H Q => gTup S.K ps.len (tPs S ps) v σ H Q ∨ gUnl S.K ps.len (tPs S ps) v σ H Q
def tPs (S : Sg) : Ps → TGs
  | .nil => gNil
  | .cons p r => gCons (tP S p) (tPs S r)
end
structure SP' (S : Sg) (X : Cx) (p : Pat) (tg : Expr) : Prop where
  pg : PG X tg (tP S p)
  ns : notStar tg = true
structure SPs' (S : Sg) (X : Cx) (ps : Ps) (es : List Expr) : Prop where
  pg : PGs X es (tPs S ps)
  ns : es.all notStar = true
  ln : es.length = ps.len
theorem asg1 {e : Expr} (h : notStar e = true) {es : List Expr} {env : Env} : assignEach (e :: es) env = (false, assign e env) :: assignEach es env := by
  cases e <;> first | rfl | cases h
theorem asg_len {env : Env} : ∀ {es : List Expr}, es.all notStar = true → (assignEach es env).length = es.length
  | [], _ => rfl
  | e :: es, h => by
    rw [List.all_cons, Bool.and_eq_true] at h
    rw [asg1 h.1, List.length_cons, asg_len h.2, List.length_cons]
theorem asg_find {env : Env} : ∀ {es : List Expr}, es.all notStar = true → (assignEach es env).findIdx? (·.1) = none
  | [], _ => rfl
  | e :: es, h => by
    rw [List.all_cons, Bool.and_eq_true] at h
    rw [asg1 h.1, List.findIdx?_cons]
    have ih := asg_find (env := env) h.2
    simp [ih]
section
variable {L : Law} {X : Cx} {E : WX} {k : Nat} {top : Str → Bool} {tg : Expr} {es : List Expr} {p : Pat} {ps : Ps} {pos : Pos}
theorem sp_nm {S : Sg} {i : Nat} {x : Str} (hN : X.N.Nodup) (hi : X.N[i]? = some x) (hx : Loc X.env.scope x) (hf : X.fn x = true ∨ X.env.scope.names.lookup x = some .local) : SP' S X (.nm i) (.Name x pos) :=
  ⟨pg_name hN hi hx hf, rfl⟩
theorem sps_nil {S : Sg} : SPs' S X .nil [] := ⟨pgs_nil, rfl, rfl⟩
theorem sps_cons {S : Sg} (h1 : SP' S X p tg) (h2 : SPs' S X ps es) : SPs' S X (.cons p ps) (tg :: es) :=
  ⟨pgs_cons h1.pg h2.pg (by rw [asg1 h1.ns]; rfl), by rw [List.all_cons, h1.ns, h2.ns]; rfl, by rw [List.length_cons, h2.ln]; rfl⟩
theorem sp_tup {S : Sg} {kk : Nat} (hK : X.K = S.K) (hc : X.calm = true) (h : SPs' S X ps es) : SP' S X (.tup ps) (.Tuple es kk pos) := by
  refine ⟨⟨fun pins s σ H v u Q I r hh => ?_⟩, rfl⟩
  have hh : gTup S.K ps.len (tPs S ps) v σ H Q ∨ gUnl S.K ps.len (tPs S ps) v σ H Q := hh
  rw [← hK] at hh
  rcases hh with hh | hh
  · exact (pg_tup hc h.pg (by rw [asg_len h.ns, h.ln]) (asg_find h.ns)).run pins s σ H v u Q I r hh
  · exact (pg_unl hc h.pg (by rw [asg_len h.ns, h.ln]) (asg_find h.ns)).run pins s σ H v u Q I r hh
theorem bindPs_len {g : G} : ∀ {ps : Ps} {us : List U} {e e' : Ev}, bindPs g ps us e = some e' → us.length = ps.len
  | .nil, [], _, _, _ => rfl
  | .nil, _ :: _, _, _, h => by unfold bindPs at h; cases h
  | .cons _ _, [], _, _, h => by unfold bindPs at h; cases h
  | .cons p r, u :: us, e, e', h => by
    unfold bindPs at h
    split at h
    · rw [List.length_cons, bindPs_len h]; rfl
    · cases h
mutual
theorem bindP_ok {S : Sg} {W : Wd} {g : G} {H : Hp} (hr : HR S W g H) : ∀ {p : Pat} {u : U} {v : V} {e e' : Ev} {σ : L2.St} {Q : L2.St → Hp → Prop}, RU S W H u v → EnvR S W H e σ → bindP g p u e = some e' →
    (∀ σ', EnvR S W H e' σ' → Fits σ σ' p.ixs → Q σ' H) → tP S p v σ H Q
  | .nm i, u, v, e, e', σ, Q, r, er, h, hq => by
    unfold bindP at h
    split at h
    · cases h
      exact hq _ (er.set r i) fun vs hv => wipe_out (hv i List.mem_cons_self)
    · cases h
  | .tup ps, u, v, e, e', σ, Q, r, er, h, hq => by
    unfold bindP at h
    split at h
    · rename_i l hl
      have hlen := bindPs_len h
      obtain ⟨a, vs, rfl, sq, rs⟩ := asS_ok hr r hl
      have hv : vs.length = ps.len := by rw [← rs.length]; exact hlen
      rcases sq with sq | sq
      · exact .inr ⟨a, vs, rfl, sq, hv, bindPs_ok hr rs er h hq⟩
      · exact .inl ⟨a, vs, rfl, sq, hv, bindPs_ok hr rs er h hq⟩
    · cases h
theorem bindPs_ok {S : Sg} {W : Wd} {g : G} {H : Hp} (hr : HR S W g H) : ∀ {ps : Ps} {us : List U} {vs : List V} {e e' : Ev} {σ : L2.St} {Q : L2.St → Hp → Prop}, RUs S W H us vs → EnvR S W H e σ → bindPs g ps us e = some e' →
    (∀ σ', EnvR S W H e' σ' → Fits σ σ' ps.ixs → Q σ' H) → tPs S ps vs σ H Q
  | .nil, us, vs, e, e', σ, Q, r, er, h, hq => by
    cases r with
    | nil =>
      unfold bindPs at h
      cases h
      exact ⟨rfl, hq σ er fun _ _ => rfl⟩
    | cons _ _ => unfold bindPs at h; cases h
  | .cons p ps, us, vs, e, e', σ, Q, r, er, h, hq => by
    cases r with
    | nil => unfold bindPs at h; cases h
    | @cons u us v vs a r =>
      unfold bindPs at h
      split at h
      · rename_i e1 he
        refine ⟨v, vs, rfl, bindP_ok hr a er he fun σ1 er1 f1 => bindPs_ok hr r er1 h fun σ2 er2 f2 => hq σ2 er2 fun ws hw => ?_⟩
        rw [f2 ws fun i hi => hw i (List.mem_append_right _ hi), f1 ws fun i hi => hw i (List.mem_append_left _ hi)]
      · cases h
end
end
end PM
set_option maxRecDepth 100000
set_option maxHeartbeats 1000000
/-! PM, part w: comprehensions. -/
namespace PM
open PySem PySem.Spec PyProof.Rows L2
section
variable {S : Sg} {W : Wd} {H H' : Hp}
theorem SqLF.agree {K : PySem.W.Frag} {a : Addr} {vs : List V} (h : ∀ a, W.F a → H' a = H a) (x : SqLF K W H a vs) : SqLF K W H' a vs := by
  rcases x with ⟨f, r⟩ | r
  · refine .inl ⟨f, ?_⟩
    unfold Rd at r ⊢
    rw [h a f]; exact r
  · exact .inr r
mutual
theorem RU_agree (h : ∀ a, W.F a → H' a = H a) : ∀ {u : U} {v : V}, RU S W H u v → RU S W H' u v
  | _, _, .non => .non
  | _, _, .bl b => .bl b
  | _, _, .int i => .int i
  | _, _, .str x => .str x
  | _, _, .tup f q r => .tup f (by rw [h _ f]; exact q) (RUs_agree h r)
  | _, _, .lst f q r => .lst f (by rw [h _ f]; exact q) (RUs_agree h r)
  | _, _, .dK f q r => .dK f (by rw [h _ f]; exact q) (RUk_agree h r)
  | _, _, .dT f q r => .dT f (by rw [h _ f]; exact q) (RUt_agree h r)
  | _, _, .scr q => .scr (q.agree h)
  | _, _, .ref q => .ref q
  | _, _, .ex0 f q => .ex0 f (by rw [h _ f]; exact q)
  | _, _, .ex1 f q f2 q2 r => .ex1 f (by rw [h _ f]; exact q) f2 (by rw [h _ f2]; exact q2) (RU_agree h r)
theorem RUs_agree (h : ∀ a, W.F a → H' a = H a) : ∀ {u : List U} {v : List V}, RUs S W H u v → RUs S W H' u v
  | _, _, .nil => .nil
  | _, _, .cons a r => .cons (RU_agree h a) (RUs_agree h r)
theorem RUk_agree (h : ∀ a, W.F a → H' a = H a) : ∀ {u : List (U × U)} {v : List (Key × V)}, RUk S W H u v → RUk S W H' u v
  | _, _, .nil => .nil
  | _, _, .cons q a r => .cons q (RU_agree h a) (RUk_agree h r)
theorem RUt_agree (h : ∀ a, W.F a → H' a = H a) : ∀ {u : List (U × U)} {v : List (List Key × V)}, RUt S W H u v → RUt S W H' u v
  | _, _, .nil => .nil
  | _, _, .cons q a r => .cons q (RU_agree h a) (RUt_agree h r)
end
theorem RUf_agree (h : ∀ a, W.F a → H' a = H a) : ∀ {u : List (Nat × U)} {v : List (Str × V)}, RUf S W H u v → RUf S W H' u v
  | _, _, .nil => .nil
  | _, _, .cons a r => .cons (RU_agree h a) (RUf_agree h r)
theorem CellR_agree (h : ∀ a, W.F a → H' a = H a) {a : Addr} (ha : H' a = H a) : ∀ {c : Cell}, CellR S W H a c → CellR S W H' a c
  | .lst us, ⟨vs, q, r⟩ => ⟨vs, by rw [ha]; exact q, RUs_agree h r⟩
  | .dct false us, ⟨vs, q, r⟩ => ⟨vs, by rw [ha]; exact q, RUk_agree h r⟩
  | .dct true us, ⟨vs, q, r⟩ => ⟨vs, by rw [ha]; exact q, RUt_agree h r⟩
  | .ins c fs, ⟨dx, vs, q, r⟩ => ⟨dx, vs, by rw [ha]; exact q, RUf_agree h r⟩
end
section
variable {S : Sg} {W W' : Wd} {g g' : G} {H H' : Hp} {D : Addr} {o : HO}
/-- an object in no one's hands is written -/
theorem ext_out (x : Ext W g H W' g' H') (hD : H D = none) : Ext W g H W' g' (upd H' D o) :=
  ⟨x.φ, x.F, fun a q h no => by rw [upd_ne (ne_of_none h hD)]; exact x.keep a q h no, x.nF, x.nO, fun a h => by
    by_cases e : a = D
    · subst e; exact absurd hD h
    · rw [upd_ne e]; exact x.tr a h, x.nφ⟩
theorem agree_out (hF : ¬ W.F D) : ∀ a, W.F a → upd H D o a = H a := fun a f => upd_ne fun e => hF (by rw [← e]; exact f)
theorem hr_out (hr : HR S W g H) (hF : ¬ W.F D) (hφ : ∀ n, W.φ n ≠ some D) : HR S W g (upd H D o) := by
  refine ⟨fun n c h => ?_, hr.inj, hr.dis, fun a f => ?_, fun n a h => ?_, hr.bd⟩
  · obtain ⟨a, ha, r⟩ := hr.cell n c h
    exact ⟨a, ha, CellR_agree (agree_out hF) (upd_ne fun e => hφ n (by rw [← e]; exact ha)) r⟩
  · rw [agree_out hF a f]; exact hr.fz a f
  · rw [upd_ne fun e => hφ n (by rw [← e]; exact h)]; exact hr.tr n a h
end
def E0 : WX := fun _ _ _ _ => False
theorem wipe_set_none {σ : L2.St} : ∀ (vs : List Nat) (i : Nat), i ∈ vs → (L2.wipe σ vs)[i]? ≠ some (some v) := fun vs i h q => (wipe_some q).2 h
theorem wipe_wipe {σ : L2.St} (vs : List Nat) : L2.wipe (L2.wipe σ vs) vs = L2.wipe σ vs := by
  have : ∀ (ws : List Nat), (∀ i ∈ ws, i ∈ vs) → L2.wipe (L2.wipe σ vs) ws = L2.wipe σ vs := fun ws => by
    induction ws with
    | nil => exact fun _ => rfl
    | cons w ws ih =>
      intro h
      show (L2.wipe (L2.wipe σ vs) ws).set w none = _
      rw [ih fun i hi => h i (List.mem_cons_of_mem _ hi)]
      refine List.ext_getElem? fun j => ?_
      by_cases e : w = j
      · subst e
        by_cases hl : w < (L2.wipe σ vs).length
        · rw [List.getElem?_set_self hl]
          cases q : (L2.wipe σ vs)[w]? with
          | none => rw [List.getElem?_eq_none_iff] at q; omega
          | some o =>
            cases o with
            | none => rfl
            | some v => exact absurd (h w List.mem_cons_self) (wipe_some q).2
        · rw [List.getElem?_eq_none (by rw [List.length_set]; omega), List.getElem?_eq_none (by omega)]
      · rw [List.getElem?_set_ne e]
  exact this vs fun _ h => h
/-- one turn -/
def turnU (p : Pat) (mt me : Ev → G → Res U) (e0 : Ev) (x : U) (g : G) : Res (Option U) := match bindP g p x e0 with
  | some e' => (tst (mt e' g)).bd fun b g => match b with
    | true => (me e' g).bd fun u g => .ok (some u) g
    | false => .ok none g
  | none => .bad
section
variable {L : Law} {X : Cx} {E : WX} {k : Nat} {top : Str → Bool} {mi : Ev → G → Res Wk} {mt me : Ev → G → Res U} {p : Pat} {vs : List Nat} {σ : L2.St} {H : Hp} {Q : VK}
theorem noErr_ok {α : Type} {S : Sg} {W : Wd} {g : G} {H : Hp} {Q : VK} {EE : EK} {r : Res α} {f : α → G → Res U} (h : PF S W g H Q EE ((noErr r).bd f)) : ∃ a g', r = .ok a g' := by
  cases r with
  | ok a g' => exact ⟨a, g', rfl⟩
  | err x g' => exact h.elim
  | bad => exact h.elim
/-- the runs of a comprehension -/
theorem lc_run (hp : ∀ i ∈ p.ixs, i ∈ vs) (h : TFv L.S E (fun e g => (mi e g).bd fun w g => (noErr (lcGo (turnU p mt me (wipeE e vs)) w.sr w.l [] g)).bd fun r g => .ok (.lst r) g) σ H Q) :
    tLc (TIv L.S E mi) (tP L.S p) (TTv L.S E0 fun e g => tst (mt e g)) (TEv L.S E0 me) vs σ H Q := by
  obtain ⟨e, W, g, er, hr, pf⟩ := h
  refine ⟨e, W, g, er, hr, ?_⟩
  dsimp only at pf
  cases hm : mi e g with
  | bad => rw [hm] at pf; exact pf
  | err x g' => rw [hm] at pf; exact pf
  | ok w g1 =>
    rw [hm] at pf
    intro W1 H1 J x1 hr1 hit D hD
    have pf1 : PF L.S W1 g1 H1 Q (fun c d H' => E c d σ H') ((noErr (lcGo (turnU p mt me (wipeE e vs)) w.sr w.l [] g1)).bd fun r g => .ok (.lst r) g) := PF.shift x1 pf
    have er1 := (er.mono hr.no x1).wipe vs
    refine ⟨fun i m Hc => m = w.l.length - i ∧ i ≤ w.l.length ∧ ∃ Wc gc accU accV, Ext W1 g1 H1 Wc gc Hc ∧ HR L.S Wc gc Hc ∧ ¬ Wc.F D ∧ (∀ n, Wc.φ n ≠ some D) ∧ Hc D = some (.lst accV) ∧ RUs L.S Wc Hc accU accV ∧
      PF L.S W1 g1 H1 Q (fun c d H' => E c d σ H') ((noErr (lcGo (turnU p mt me (wipeE e vs)) w.sr (w.l.drop i) accU gc)).bd fun r g => .ok (.lst r) g),
      ⟨_, rfl, Nat.zero_le _, W1, g1, [], [], ext_put hD, hr_put hr1 hD, hr1.freeF hD, hr1.freeφ hD, upd_same, .nil, pf1⟩, ?_⟩
    rintro i m Hc ⟨rfl, hi, Wc, gc, accU, accV, xc, hrc, nF, nφ, hDc, ra, pc⟩
    have st : stay gc w.sr = true := by
      obtain ⟨a, g', q⟩ := noErr_ok pc
      cases hl : w.l.drop i with
      | nil =>
        rw [hl] at q
        cases z : stay gc w.sr with
        | true => rfl
        | false =>
          have q' : grd (stay gc w.sr) (.ok accU gc) = .ok a g' := q
          rw [z] at q'
          exact nomatch q'
      | cons u r =>
        rw [hl] at q
        cases z : stay gc w.sr with
        | true => rfl
        | false =>
          have q' : grd (stay gc w.sr) ((turnU p mt me (wipeE e vs) u gc).bd _) = .ok a g' := q
          rw [z] at q'
          exact nomatch q'
    obtain ⟨it1, it2⟩ := hit Wc gc Hc xc hrc st i
    have nO : ¬ own Wc gc D := fun ⟨n, c, _, z⟩ => nφ n z
    by_cases hlt : w.l.length ≤ i
    · refine .inl ⟨it2 hlt, ?_⟩
      rw [List.drop_eq_nil_of_le hlt] at pc
      have pc2 : PF L.S W1 g1 H1 Q (fun c d H' => E c d σ H') ((noErr (grd (stay gc w.sr) (.ok accU gc))).bd fun r g => .ok (.lst r) g) := pc
      rw [st] at pc2
      exact pc2 Wc Hc D accV xc hrc hD nF nφ hDc ra
    · have hlt : i < w.l.length := by omega
      have hu : w.l[i]? = some w.l[i] := List.getElem?_eq_getElem hlt
      obtain ⟨go, yld⟩ := it1 _ hu
      rw [List.drop_eq_getElem_cons hlt] at pc
      generalize w.l[i] = u at *
      have pc2 : PF L.S W1 g1 H1 Q (fun c d H' => E c d σ H') ((noErr (grd (stay gc w.sr) ((turnU p mt me (wipeE e vs) u gc).bd fun o g' => match o with
        | some u => grd (line (accU.length + 1)) (lcGo (turnU p mt me (wipeE e vs)) w.sr (w.l.drop (i + 1)) (accU ++ [u]) g')
        | none => lcGo (turnU p mt me (wipeE e vs)) w.sr (w.l.drop (i + 1)) accU g'))).bd fun r g => .ok (.lst r) g) := pc
      rw [st] at pc2
      refine .inr ⟨go, fun H' => w.l.length - (i + 1) = w.l.length - (i + 1) ∧ i + 1 ≤ w.l.length ∧ ∃ Wc gc accU accV, Ext W1 g1 H1 Wc gc H' ∧ HR L.S Wc gc H' ∧ ¬ Wc.F D ∧ (∀ n, Wc.φ n ≠ some D) ∧ H' D = some (.lst accV) ∧ RUs L.S Wc H' accU accV ∧
        PF L.S W1 g1 H1 Q (fun c d H' => E c d σ H') ((noErr (lcGo (turnU p mt me (wipeE e vs)) w.sr (w.l.drop (i + 1)) accU gc)).bd fun r g => .ok (.lst r) g), fun H' hN => ⟨w.l.length - (i + 1), by omega, hN⟩, fun x H'' hy => ?_⟩
      obtain ⟨W2, x2, hr2, rx⟩ := yld x H'' hy
      -- what stays of D
      have keep : ∀ {Wz : Wd} {gz : G} {Hz : Hp}, Ext Wc gc Hc Wz gz Hz → ¬ Wz.F D ∧ (∀ n, Wz.φ n ≠ some D) ∧ Hz D = some (.lst accV) := fun {Wz gz Hz} z => by
        refine ⟨fun f => ?_, fun n q => ?_, z.keep _ _ hDc nO⟩
        · rcases z.nF D f with q | q | q
          · exact nF q
          · exact nO q
          · rw [hDc] at q; cases q
        · rcases z.nφ n D q with q | q
          · exact nφ n q
          · rw [hDc] at q; cases q
      cases hb : bindP gc p u (wipeE e vs) with
      | none =>
        have ec : turnU p mt me (wipeE e vs) u gc = .bad := by unfold turnU; rw [hb]
        rw [ec] at pc2; exact pc2.elim
      | some e' =>
        have ec : turnU p mt me (wipeE e vs) u gc = (tst (mt e' gc)).bd fun b g => match b with
          | true => (me e' g).bd fun u g => .ok (some u) g
          | false => .ok none g := by unfold turnU; rw [hb]
        rw [ec] at pc2
        refine bindP_ok hr2 rx ((er1.mono hr1.no xc).mono hrc.no x2) hb fun σ' er' fit => ⟨by rw [fit vs hp, wipe_wipe], e', W2, gc, er', hr2, ?_⟩
        show PO L.S RB W2 gc H'' _ _ (tst (mt e' gc))
        cases ht : tst (mt e' gc) with
        | bad => rw [ht] at pc2; exact pc2.elim
        | err xx gg => rw [ht] at pc2; exact pc2.elim
        | ok b g3 =>
          rw [ht] at pc2
          intro W3 H3 b' x3 hr3 rb
          cases rb
          have xx3 := x2.trans x3
          cases b with
          | false =>
            obtain ⟨k1, k2, k3⟩ := keep xx3
            exact ⟨rfl, by omega, W3, g3, accU, accV, xc.trans xx3, hr3, k1, k2, k3, ra.mono hrc.no xx3, pc2⟩
          | true =>
            refine ⟨e', W3, g3, er'.mono hr2.no x3, hr3, ?_⟩
            have pc3 : PF L.S W1 g1 H1 Q (fun c d H' => E c d σ H') ((noErr (((me e' g3).bd fun u g => (.ok (some u) g : Res (Option U))).bd fun o g' => match o with
              | some u => grd (line (accU.length + 1)) (lcGo (turnU p mt me (wipeE e vs)) w.sr (w.l.drop (i + 1)) (accU ++ [u]) g')
              | none => lcGo (turnU p mt me (wipeE e vs)) w.sr (w.l.drop (i + 1)) accU g')).bd fun r g => .ok (.lst r) g) := pc2
            show PO L.S (RU' L.S) W3 g3 H3 _ _ (me e' g3)
            cases he : me e' g3 with
            | bad => rw [he] at pc3; exact pc3.elim
            | err xx gg => rw [he] at pc3; exact pc3.elim
            | ok u' g4 =>
              rw [he] at pc3
              intro W4 H4 y x4 hr4 ry
              have xx4 := xx3.trans x4
              obtain ⟨k1, k2, k3⟩ := keep xx4
              have pc4 : PF L.S W1 g1 H1 Q (fun c d H' => E c d σ H') ((noErr (grd (line (accU.length + 1)) (lcGo (turnU p mt me (wipeE e vs)) w.sr (w.l.drop (i + 1)) (accU ++ [u']) g4))).bd fun r g => .ok (.lst r) g) := pc3
              have hl : line (accU.length + 1) = true := by
                cases z : line (accU.length + 1) with
                | true => rfl
                | false => rw [z] at pc4; exact pc4.elim
              rw [hl] at pc4
              have hl2 := line_ok hl
              refine ⟨accV, k3, by rw [← ra.length]; omega, rfl, by omega, W4, g4, accU ++ [u'], accV ++ [y], ext_out (xc.trans xx4) hD, hr_out hr4 k1 k2, k1, k2, upd_same, ?_, pc4⟩
              exact RUs_agree (agree_out k1) ((ra.mono hrc.no xx4).app (.cons ry .nil))
end
end PM
set_option maxRecDepth 100000
set_option maxHeartbeats 1000000
/-! PM, part x: comprehensions as expressions; list(range(..)); the check of expressions. -/
namespace PM
open PySem PySem.Spec PyProof.Rows L2
def notSet : Expr → Bool
  | .Set _ _ _ => false
  | _ => true
theorem notSet_ok {e : Expr} {env : Env} (h : notSet e = true) (x : Value) : foldedSetIterable e env x = pure x := by
  cases e <;> first | rfl | cases h
def plainB : Expr → Bool
  | .UnaryOp .Not _ _ => false
  | .BoolOp _ _ _ => false
  | .IfExp _ _ _ _ => false
  | .Compare _ _ _ _ => false
  | _ => true
theorem plain_ok {e : Expr} {X : Cx} (h : plainB e = true) : Plain e X := by
  intro whole
  cases e <;> first | rfl | (cases h; done) | skip
  rename_i op x p
  cases op <;> first | rfl | cases h
def pixB : Expr → Bool
  | .Slice _ _ _ _ => false
  | _ => true
theorem pix_ok {e : Expr} (h : pixB e = true) : PlainIx e := by
  intro o i
  cases e <;> first | rfl | cases h
section
variable {L : Law} {X : Cx} {E : WX} {k : Nat} {top : Str → Bool} {ea eb elt tg iter : Expr} {ifs : List Expr} {ma mb me mt : Ev → G → Res U} {mi : Ev → G → Res Wk} {f1 f2 : Bool} {pos p p2 : Pos}
abbrev blkT (scope : Scope) : Str → Bool := fun x => scope.names.lookup x == some .cell
theorem Gd.blk (hd : Gd L X E k top) {s : Shared} {H : Hp} {scope : Scope} {cenv : Env} {fp : List Addr} : Gd L (X.blk s H scope cenv fp) E0 k (blkT scope) :=
  ⟨hd.hK, hd.calm, hd.nd, hd.room, hd.k3, takes0, hd.fc, fun _ h => h⟩
structure STs (S : Sg) (X : Cx) (E : WX) (mt : Ev → G → Res U) (ifs : List Expr) : Prop where
  pt : PTs X ifs (TTv S E fun e g => tst (mt e g))
theorem sts_nil {S : Sg} : STs S X E (fun _ g => .ok (.bl true) g) [] := by
  refine ⟨⟨fun pins s σ H Q I h => pts_nil.run pins s σ H Q I ?_⟩⟩
  obtain ⟨e, W, g, er, hr, po⟩ := h
  exact po.now hr rfl
theorem sts_one (h : SE L.S X E mt ea f1) : STs L.S X E mt [ea] := ⟨pts_one h.pt⟩
/-- all of a comprehension's parts -/
structure LcP (L : Law) (X : Cx) (E : WX) (k : Nat) (own : List (Str × Nat)) (pt : Pat) (mi : Ev → G → Res Wk) (mt me : Ev → G → Res U) (elt tg iter : Expr) (ifs : List Expr) (scope : Scope) : Prop where
  pi : SI L X E mi tg iter
  ok : blkC X.N X.env.scope scope own = true
  ix : ∀ i ∈ pt.ixs, i ∈ own.map (·.2)
  ns : notSet iter = true
  sub : ∀ Y : Cx, Gd L Y E0 k (blkT scope) → Y.N = X.N → Y.env.scope = relS scope X.env.scope → SP' L.S Y pt tg ∧ STs L.S Y E0 mt ifs ∧ ∃ f, SE L.S Y E0 me elt f
def lcU (own : List Nat) (pt : Pat) (mi : Ev → G → Res Wk) (mt me : Ev → G → Res U) (e : Ev) (g : G) : Res U := (mi e g).bd fun w g => (noErr (lcGo (turnU pt mt me (wipeE e own)) w.sr w.l [] g)).bd fun r g => .ok (.lst r) g
theorem se_lc (hd : Gd L X E k top) {own : List (Str × Nat)} {pt : Pat} {scope : Scope} (c : LcP L X E k own pt mi mt me elt tg iter ifs scope) : SE L.S X E (lcU (own.map (·.2)) pt mi mt me) (.ListComp elt [⟨tg, iter, ifs, 0⟩] scope pos) true := by
  have sub := fun (s : Shared) (H : Hp) (C : Addr) (cl : List (Str × Addr)) (fp : List Addr) => c.sub (X.blk s H scope (compEnvC scope cl C X.env) fp) hd.blk rfl rfl
  refine SE.ofF hd.hK (peI (pe_lc hd.calm hd.nd c.pi.pi (blkOk_by c.ok) (fun s H C cl fp => (sub s H C cl fp).1.pg) (fun s H C cl fp => (sub s H C cl fp).2.1.pt) (fun s H C cl fp => ?_) (notSet_ok c.ns)) fun σ H Q h => lc_run c.ix h) fun _ => rfl
  obtain ⟨f, hf⟩ := (sub s H C cl fp).2.2
  exact hf.pe
theorem ps_lc (hd : Gd L X E k top) {own : List (Str × Nat)} {pt : Pat} {scope : Scope} (c : LcP L X E k own pt mi mt me elt tg iter ifs scope) {i : Nat} {y : Str} {py spos : Pos} (hy : X.N[i]? = some y) (hyl : X.env.scope.names.lookup y = some .local)
    (hsw : swapsWith (.ListComp elt [⟨tg, iter, ifs, 0⟩] scope pos) (some (.Name y py)) spos.line X.env = pure true) : PS X (.Assign [.Name y py] (.ListComp elt [⟨tg, iter, ifs, 0⟩] scope pos) spos) (tAsg (TFv L.S E (lcU (own.map (·.2)) pt mi mt me)) (gName i)) := by
  have sub := fun (s : Shared) (H : Hp) (C : Addr) (cl : List (Str × Addr)) (fp : List Addr) => c.sub (X.blk s H scope (compEnvC scope cl C X.env) fp) hd.blk rfl rfl
  have q := ps_setLc (i := i) (py := py) hd.calm hd.nd hy hyl hsw c.pi.pi (blkOk_by c.ok) (fun s H C cl fp => (sub s H C cl fp).1.pg) (fun s H C cl fp => (sub s H C cl fp).2.1.pt) (te := TEv L.S E0 me) (fun s H C cl fp => by
    obtain ⟨f, hf⟩ := (sub s H C cl fp).2.2
    exact hf.pe) (notSet_ok c.ns)
  exact ⟨fun pins s σ H D I h => q.run pins s σ H D I (lc_run c.ix h)⟩
/-! ### freezing -/
theorem ext_frz {S : Sg} {W : Wd} {g : G} {H : Hp} {n : Nat} {a : Addr} {c : Cell} (hr : HR S W g H) (hn : gat g n = some c) (ha : W.φ n = some a) : Ext W g H ⟨W.φ, fun b => W.F b ∨ b = a⟩ (g.set n none) H ∧ HR S ⟨W.φ, fun b => W.F b ∨ b = a⟩ (g.set n none) H := by
  have gs : ∀ {m : Nat} {d : Cell}, gat (g.set n none) m = some d → m ≠ n ∧ gat g m = some d := fun {m d} h => by
    rw [gat_set (gat_lt hn)] at h
    by_cases e : m = n
    · rw [if_pos e] at h; cases h
    · rw [if_neg e] at h; exact ⟨e, h⟩
  have ow : ∀ b, own (⟨W.φ, fun b => W.F b ∨ b = a⟩ : Wd) (g.set n none) b → own W g b ∧ b ≠ a := fun b ⟨m, d, h, e⟩ => by
    obtain ⟨h1, h2⟩ := gs h
    exact ⟨⟨m, d, h2, e⟩, fun z => h1 (hr.inj m n d c b h2 hn e (by rw [z]; exact ha))⟩
  refine ⟨⟨fun _ _ h => h, fun _ h => .inl h, fun _ _ h _ => h, fun b h => ?_, fun b h => .inl (ow b h).1, fun _ h => h, fun _ _ h => .inl h⟩, ⟨fun m d h => ?_, fun m k c1 c2 b h1 h2 h3 h4 => hr.inj m k c1 c2 b (gs h1).2 (gs h2).2 h3 h4, fun b o f => ?_, fun b f => ?_, hr.tr, fun m b h => by rw [List.length_set]; exact hr.bd m b h⟩⟩
  · rcases h with h | rfl
    · exact .inl h
    · exact .inr (.inl ⟨n, c, hn, ha⟩)
  · obtain ⟨b, hb, r⟩ := hr.cell m d (gs h).2
    refine ⟨b, hb, ?_⟩
    cases d with
    | lst us => obtain ⟨vs, h1, h2⟩ := r; exact ⟨vs, h1, RUs_more (fun _ h => .inl h) h2⟩
    | dct k us =>
      cases k <;> obtain ⟨vs, h1, h2⟩ := r
      · exact ⟨vs, h1, RUk_more (fun _ h => .inl h) h2⟩
      · exact ⟨vs, h1, RUt_more (fun _ h => .inl h) h2⟩
    | ins c fs => obtain ⟨dx, vs, h1, h2⟩ := r; exact ⟨dx, vs, h1, RUf_more (fun _ h => .inl h) h2⟩
  · obtain ⟨o1, o2⟩ := ow b o
    rcases f with f | f
    · exact hr.dis b o1 f
    · exact o2 f
  · rcases f with f | rfl
    · exact hr.fz b f
    · exact hr.tr n _ ha
theorem se_fz (hd : Gd L X E k top) (ha : SE L.S X E ma ea f1) (he : Plain ea X) : SE L.S X E (fun e g => (ma e g).bd fun x g => match fzU g x with
    | some (u, g') => .ok u g'
    | none => .bad) ea false := by
  refine SE.ofE hd.hK (peI ha.pe fun σ H Q ⟨e, W, g, er, hr, po⟩ => ⟨e, W, g, er, hr, PO.mono (fun v H1 h1 => ?_) (PO.bd (R := RU' L.S) er .nil hr po)⟩) he
  obtain ⟨W1, g1, u1, er1, _, hr1, r1, p1⟩ := h1
  dsimp only at p1
  cases hz : fzU g1 u1 with
  | none => rw [hz] at p1; exact p1.elim
  | some z =>
    obtain ⟨u2, g2⟩ := z
    rw [hz] at p1
    have p1 : PO L.S (RU' L.S) W1 g1 H1 Q (fun c d H' => E c d σ H') (.ok u2 g2) := p1
    unfold fzU at hz
    split at hz
    · rename_i n
      cases r1 with
      | @ref _ a hn =>
      split at hz
      · rename_i l hg
        split at hz
        · cases hz
          obtain ⟨vs, h1, h2⟩ := hr1.cellOk hg hn
          obtain ⟨x, hr2⟩ := ext_frz hr1 hg hn
          exact p1 _ H1 _ x hr2 (.lst (.inr rfl) h1 (RUs_more (fun _ h => .inl h) h2))
        · cases hz
      · rename_i b l hg
        split at hz
        · cases hz
          obtain ⟨x, hr2⟩ := ext_frz hr1 hg hn
          have c := hr1.cellOk hg hn
          cases b with
          | false =>
            obtain ⟨vs, h1, h2⟩ := c
            exact p1 _ H1 _ x hr2 (.dK (.inr rfl) h1 (RUk_more (fun _ h => .inl h) h2))
          | true =>
            obtain ⟨vs, h1, h2⟩ := c
            exact p1 _ H1 _ x hr2 (.dT (.inr rfl) h1 (RUt_more (fun _ h => .inl h) h2))
        · cases hz
      · cases hz
    · split at hz
      · cases hz; exact p1.now hr1 r1
      · cases hz
/-! ### range as an argument -/
theorem rgOk_of {i j : Int} (h : (rngOk i j && line (j - i).toNat) = true) : RgOk i j := by
  rw [Bool.and_eq_true] at h
  obtain ⟨h1, h2, h3, h4⟩ := rng_ok h.1
  have h5 := line_ok h.2
  rw [sizeLine_eq] at h5
  exact ⟨h1, h2, h3, h4, by omega⟩
theorem se_lrg1 (hd : Gd L X E k top) (hg : Gl X "list") (hg2 : Gl X "range") (hn : notStar ea = true) (ha : SE L.S X E ma ea f1) : SE L.S X E (fun e g => (ma e g).bd fun y g => match y with
    | .int j => grd (rngOk 0 j && line (j - 0).toNat) (.ok (.lst (rngL 0 j)) g)
    | _ => .bad) (.Call (.Name "list" p) [.Call (.Name "range" p2) [ea] [] pos] [] pos') true := by
  refine SE.ofF hd.hK (peI (pe_listRg hd.calm hg (hd.fc.bt _ (by decide +kernel)) (prg_1 hg2 (hd.fc.bt _ (by decide +kernel)) ha.pe (star1 hn)) rfl) fun σ H Q h => ?_) fun _ => rfl
  obtain ⟨e, W, g, er, hr, po⟩ := h
  refine ⟨e, W, g, er, hr, PO.mono (fun v H1 h1 => ?_) (PF.bd (R := RU' L.S) er .nil hr po)⟩
  obtain ⟨W1, g1, u1, er1, _, hr1, r1, p1⟩ := h1
  cases r1 <;> first | exact p1.elim | skip
  rename_i j
  obtain ⟨hb, p1⟩ := grd_ok (P := PF L.S W1 g1 H1 Q _) PF.nb p1
  exact ⟨j, rfl, rgOk_of hb, fun q hq => p1.lst hr1 (rngV 0 j) hq⟩
theorem se_lrg2 (hd : Gd L X E k top) (hg : Gl X "list") (hg2 : Gl X "range") (hn : notStar ea = true) (hn2 : notStar eb = true) (ha : SE L.S X E ma ea f1) (hb : SE L.S X E mb eb f2) : SE L.S X E (fun e g => (ma e g).bd fun x g => (mb e g).bd fun y g => match x, y with
    | .int i, .int j => grd (rngOk i j && line (j - i).toNat) (.ok (.lst (rngL i j)) g)
    | _, _ => .bad) (.Call (.Name "list" p) [.Call (.Name "range" p2) [ea, eb] [] pos] [] pos') true := by
  refine SE.ofF hd.hK (peI (pe_listRg hd.calm hg (hd.fc.bt _ (by decide +kernel)) (prg_2 hg2 (hd.fc.bt _ (by decide +kernel)) ha.pe hb.pe (star1 hn) (star1 hn2) (by rw [star1 hn2]; rfl)) rfl) fun σ H Q h => ?_) fun _ => rfl
  obtain ⟨e, W, g, er, hr, po⟩ := h
  refine ⟨e, W, g, er, hr, PO.mono (fun v H1 h1 => ?_) (PF.bd (R := RU' L.S) er .nil hr po)⟩
  obtain ⟨W1, g1, u1, er1, _, hr1, r1, p1⟩ := h1
  refine ⟨e, W1, g1, er1, hr1, PO.mono (fun v2 H2 h2 => ?_) (PF.bd (R := RU' L.S) er1 (.cons r1 .nil) hr1 p1)⟩
  obtain ⟨W2, g2, u2, er2, rc, hr2, r2, p2⟩ := h2
  cases rc with
  | cons r1 _ =>
  cases r1 <;> first | exact p2.elim | skip
  cases r2 <;> first | exact p2.elim | skip
  rename_i i j
  obtain ⟨hb, p2⟩ := grd_ok (P := PF L.S W2 g2 H2 Q _) PF.nb p2
  exact ⟨i, j, rfl, rfl, rgOk_of hb, fun q hq => p2.lst hr2 (rngV i j) hq⟩
theorem se_trg (hd : Gd L X E k top) (hg : Gl X "tuple") (hg2 : Gl X "range") (hn : notStar ea = true) (ha : SE L.S X E ma ea f1) : SE L.S X E (fun e g => (ma e g).bd fun x g => match x with
    | .int j => grd (rngOk 0 j && line j.toNat) (.ok (.tup (rngL 0 j)) g)
    | _ => .bad) (.Call (.Name "tuple" p) [.Call (.Name "range" p2) [ea] [] pos] [] pos') false := by
  refine SE.ofE hd.hK (peI (pe_tupRg hd.calm hg (hd.fc.bt _ (by decide +kernel)) (prg_1 hg2 (hd.fc.bt _ (by decide +kernel)) ha.pe (star1 hn)) rfl) fun σ H Q h => ?_) fun _ => rfl
  obtain ⟨e, W, g, er, hr, po⟩ := h
  refine ⟨e, W, g, er, hr, PO.mono (fun v H1 h1 => ?_) (PO.bd (R := RU' L.S) er .nil hr po)⟩
  obtain ⟨W1, g1, u1, er1, _, hr1, r1, p1⟩ := h1
  cases r1 <;> first | exact p1.elim | skip
  rename_i j
  obtain ⟨hb, p1⟩ := grd_ok (P := PO L.S (RU' L.S) W1 g1 H1 Q _) PO.nb p1
  refine ⟨j, rfl, rgOk_of (by rw [Int.sub_zero]; exact hb), fun q hq => p1.tupNew hr1 (rngV 0 j) hq⟩
end
end PM
set_option maxRecDepth 100000
set_option maxHeartbeats 2000000
/-! PM, part y: the check that a piece of syntax is what the machine's term says. -/
namespace PM
open PySem PySem.Spec PyProof.Rows L2
def visB (sc : Scope) (x : Str) : Bool := match sc.names.lookup x with
  | some .local => true
  | some .cell => true
  | some .free => true
  | _ => false
def glB (sc : Scope) (x : Str) : Bool := match sc.names.lookup x with
  | some .globalImplicit => true
  | _ => false
def locB (sc : Scope) (top : Str → Bool) (x : Str) : Bool := match sc.names.lookup x with
  | some .local => true
  | some .cell => top x
  | _ => false
def dbgN : Str := "__debug__"
def cdN : Str := "__classdict__"
def nmB (N : List Str) (sc : Scope) (i : Nat) (x : Str) : Bool := decide (N[i]? = some x) && (visB sc x && (!(x == dbgN) && !(x == cdN)))
theorem vis_ok {sc : Scope} {x : Str} (h : visB sc x = true) : Vis sc x := by
  unfold visB at h
  split at h <;> first | exact .inl (by assumption) | exact .inr (.inl (by assumption)) | exact .inr (.inr (by assumption)) | cases h
theorem gl_ok {X : Cx} {x : Str} (h : glB X.env.scope x = true) : Gl X x := by
  unfold glB at h
  split at h
  · assumption
  · cases h
theorem loc_ok {X : Cx} {top : Str → Bool} {x : Str} (ht : ∀ x, top x = true → X.fn x = true) (h : locB X.env.scope top x = true) : Loc X.env.scope x ∧ (X.fn x = true ∨ X.env.scope.names.lookup x = some .local) := by
  unfold locB at h
  split at h
  · rename_i e; exact ⟨.inl e, .inr e⟩
  · rename_i e; exact ⟨.inr e, .inl (ht x h)⟩
  · cases h
def frE : E → Bool
  | .bin _ _ _ => true
  | .lst _ => true
  | .dct0 _ => true
  | .sl _ _ _ => true
  | .rev _ => true
  | .blt _ _ => true
  | .lrg _ _ => true
  | .lc _ _ _ _ _ => true
  | _ => false
mutual
def ckP (N : List Str) (sc : Scope) (top : Str → Bool) : Pat → Expr → Bool
  | .nm i, ex => (match ex with
    | .Name x _ => decide (N[i]? = some x) && locB sc top x
    | _ => false)
  | .tup ps, ex => (match ex with
    | .Tuple es _ _ => ckPs N sc top ps es
    | _ => false)
def ckPs (N : List Str) (sc : Scope) (top : Str → Bool) : Ps → List Expr → Bool
  | .nil, l => (match l with
    | [] => true
    | _ => false)
  | .cons p r, l => (match l with
    | e :: es => ckP N sc top p e && ckPs N sc top r es
    | [] => false)
end
def ownP (N : List Str) (own : List Nat) : List (Str × Nat) := own.filterMap fun i => (N[i]?).map fun x => (x, i)
def isYes : E → Bool
  | .bl true => true
  | _ => false
def esNil : Es → Bool
  | .nil => true
  | _ => false
def esLen : Es → Nat
  | .nil => 0
  | .cons _ r => esLen r + 1
def isZero : E → Bool
  | .int i => decide (i = 0)
  | _ => false
def isNo : E → Bool
  | .no => true
  | _ => false
/-- the head of a call by a global name -/
def cal (sc : Scope) (n : Str) (x : Str) : Bool := decide (n = x) && glB sc x
mutual
def ckE (L : Law) (N : List Str) : E → Scope → (Str → Bool) → Expr → Bool
  | .var i, sc, top, ex => (match ex with
    | .Name x _ => nmB N sc i x
    | _ => false)
  | .non, sc, top, ex => (match ex with
    | .Constant .none _ _ => true
    | _ => false)
  | .bl b, sc, top, ex => (match ex with
    | .Constant (.bool c) _ _ => decide (b = c)
    | _ => false)
  | .int i, sc, top, ex => (match ex with
    | .Constant (.int j) _ _ => decide (i = j)
    | _ => false)
  | .str s, sc, top, ex => (match ex with
    | .Constant (.str t) _ _ => decide (s = t)
    | _ => false)
  | .gv n, sc, top, ex => (match ex with
    | .Name x _ => cal sc (L.gvN n) x && ((L.T.gv n).isSome && !(x == dbgN))
    | _ => false)
  | .bin op a b, sc, top, ex => (match ex with
    | .BinOp ea o eb _ => decide (op = o) && (ckE L N a sc top ea && ckE L N b sc top eb)
    | _ => false)
  | .neg a, sc, top, ex => (match ex with
    | .UnaryOp .USub ea _ => ckE L N a sc top ea
    | _ => false)
  | .not a, sc, top, ex => (match ex with
    | .UnaryOp .Not ea _ => ckE L N a sc top ea
    | _ => false)
  | .and a b, sc, top, ex => (match ex with
    | .BoolOp .And [ea, eb] _ => ckE L N a sc top ea && ckE L N b sc top eb
    | .BoolOp .And (ea :: eb :: ec :: r) p => ckE L N a sc top ea && ckE L N b sc top (.BoolOp .And (eb :: ec :: r) p)
    | _ => false)
  | .or a b, sc, top, ex => (match ex with
    | .BoolOp .Or [ea, eb] _ => ckE L N a sc top ea && ckE L N b sc top eb
    | .BoolOp .Or (ea :: eb :: ec :: r) p => ckE L N a sc top ea && ckE L N b sc top (.BoolOp .Or (eb :: ec :: r) p)
    | _ => false)
  | .cmp op a b, sc, top, ex => (match ex with
    | .Compare ea [o] [eb] _ => decide (op = o) && (!behindInMarks op eb && (ckE L N a sc top ea && ckE L N b sc top eb))
    | _ => false)
  | .chain op op2 a b c, sc, top, ex => (match ex with
    | .Compare ea [o, o2] [eb, ec] _ => decide (op = o) && (decide (op2 = o2) && (!lastMarks [op, op2] [eb, ec] && (ckE L N a sc top ea && (ckE L N b sc top eb && ckE L N c sc top ec))))
    | _ => false)
  | .ite c a b, sc, top, ex => (match ex with
    | .IfExp ec ea eb _ => ckE L N c sc top ec && (ckE L N a sc top ea && ckE L N b sc top eb)
    | _ => false)
  | .tup es, sc, top, ex => (match ex with
    | .Tuple l _ _ => ckEs L N es sc top l
    | _ => false)
  | .lst es, sc, top, ex => (match ex with
    | .List l _ => ckEs L N es sc top l
    | _ => false)
  | .dct0 _, sc, top, ex => (match ex with
    | .Dict [] [] _ => true
    | _ => false)
  | .mk a, sc, top, ex => frE a && (plainB ex && ckE L N a sc top ex)
  | .fz a, sc, top, ex => plainB ex && ckE L N a sc top ex
  | .ix a b, sc, top, ex => (match ex with
    | .Subscript ea eb _ => pixB eb && (ckE L N a sc top ea && ckE L N b sc top eb)
    | _ => false)
  | .sl a lo hi, sc, top, ex => (match ex with
    | .Subscript ea (.Slice l h none _) _ => ckE L N a sc top ea && ((match l with
      | none => isNo lo
      | some e => !isNo lo && ckE L N lo sc top e) && (match h with
      | none => isNo hi
      | some e => !isNo hi && ckE L N hi sc top e))
    | _ => false)
  | .rev a, sc, top, ex => (match ex with
    | .Subscript ea (.Slice none none (some (.UnaryOp .USub (.Constant (.int i) _ _) _)) _) _ => decide (i = 1) && ckE L N a sc top ea
    | _ => false)
  | .call f es, sc, top, ex => (match ex with
    | .Call (.Name x _) (ea :: l) [] _ => cal sc (L.fnN f) x && (L.dn f && (!(x == dbgN) && ckEs L N es sc top (ea :: l)))
    | _ => false)
  | .blt b es, sc, top, ex => (match b with
    | .sset => (match es with
      | .cons a .nil => (match ex with
        | .Call (.Name x _) [.Call (.Name y _) [ea] [] _] [] _ => cal sc "sorted" x && (cal sc "set" y && (notStar ea && ckE L N a sc top ea))
        | _ => false)
      | _ => false)
    | b => (match ex with
      | .Call (.Name x _) (ea :: l) [] _ => cal sc (bltN b) x && (decide (b ≠ .sset) && ckEs L N es sc top (ea :: l))
      | _ => false))
  | .lrg a b, sc, top, ex => (match ex with
    | .Call (.Name x _) [.Call (.Name y _) [eb] [] _] [] _ => cal sc "list" x && (cal sc "range" y && (isZero a && (notStar eb && ckE L N b sc top eb)))
    | .Call (.Name x _) [.Call (.Name y _) [ea, eb] [] _] [] _ => cal sc "list" x && (cal sc "range" y && (notStar ea && (notStar eb && (ckE L N a sc top ea && ckE L N b sc top eb))))
    | _ => false)
  | .trg a, sc, top, ex => (match ex with
    | .Call (.Name x _) [.Call (.Name y _) [ea] [] _] [] _ => cal sc "tuple" x && (cal sc "range" y && (notStar ea && ckE L N a sc top ea))
    | _ => false)
  | .isi a ts, sc, top, ex => (match ex with
    | .Call (.Name x _) [ea, .Name y _] [] _ => cal sc "isinstance" x && (notStar ea && (ckE L N a sc top ea && (match ts with
      | [t] => cal sc (tyN L t) y && tyOk L t
      | _ => false)))
    | .Call (.Name x _) [ea, .Tuple es _ _] [] _ => cal sc "isinstance" x && (notStar ea && (ckE L N a sc top ea && (tysN L ts es && (ts.all (fun t => glB sc (tyN L t)) && (!ts.isEmpty && decide (ts.length ≤ sizeLine))))))
    | _ => false)
  | .xnew c es, sc, top, ex => (match ex with
    | .Call (.Name x _) l [] _ => cal sc (L.clN c) x && (L.T.cs c && (!(x == dbgN) && (match hasF c with
      | true => (match l with
        | ea :: r => decide (esLen es ≤ 1000) && ckEs L N es sc top (ea :: r)
        | [] => false)
      | false => l.isEmpty && esNil es)))
    | _ => false)
  | .xfl c a, sc, top, ex => (match ex with
    | .Attribute ea f _ => L.T.cs c && (hasF c && (decide (L.S.xf c = f) && (notSup ea && ckE L N a sc top ea)))
    | _ => false)
  | .lc own tg it t elt, sc, top, ex => (match ex with
    | .ListComp ee [⟨et, ei, ifs, as⟩] scope _ => decide (as = 0) && (decide ((ownP N own).map (·.2) = own) && (blkC N sc scope (ownP N own) && (tg.ixs.all (fun i => own.contains i) && (notSet ei && (ckP N (relS scope sc) (blkT scope) tg et &&
      (ckI L N it sc top et ei && ((match ifs with
        | [] => isYes t
        | [c] => ckE L N t (relS scope sc) (blkT scope) c
        | _ => false) && ckE L N elt (relS scope sc) (blkT scope) ee)))))))
    | _ => false)
  | _, _, _, _ => false
def ckEs (L : Law) (N : List Str) : Es → Scope → (Str → Bool) → List Expr → Bool
  | .nil, sc, top, l => (match l with
    | [] => true
    | _ => false)
  | .cons a r, sc, top, l => (match l with
    | e :: es => notStar e && (ckE L N a sc top e && ckEs L N r sc top es)
    | [] => false)
def ckI (L : Law) (N : List Str) : It → Scope → (Str → Bool) → Expr → Expr → Bool
  | .seq a, sc, top, tg, ex => ckE L N a sc top ex
  | .rng1 a, sc, top, tg, ex => (match ex with
    | .Call (.Name x _) [ea] [] _ => cal sc "range" x && (notStar ea && ckE L N a sc top ea)
    | _ => false)
  | .rng2 a b, sc, top, tg, ex => (match ex with
    | .Call (.Name x _) [ea, eb] [] _ => cal sc "range" x && (notStar ea && (notStar eb && (ckE L N a sc top ea && ckE L N b sc top eb)))
    | _ => false)
  | .enum a, sc, top, tg, ex => (match tg, ex with
    | .Tuple _ _ _, .Call (.Name x _) [ea] [] _ => cal sc "enumerate" x && (notStar ea && ckE L N a sc top ea)
    | _, _ => false)
  | .zip a b, sc, top, tg, ex => (match tg, ex with
    | .Tuple _ _ _, .Call (.Name x _) [ea, eb] [] _ => cal sc "zip" x && (notStar ea && (notStar eb && (ckE L N a sc top ea && ckE L N b sc top eb)))
    | _, _ => false)
  | _, _, _, _, _ => false
end
end PM
set_option maxRecDepth 100000
set_option maxHeartbeats 4000000
/-! PM, part z: the check of expressions is sound. -/
namespace PM
open PySem PySem.Spec PyProof.Rows L2
theorem dbg_of {x : Str} (h : (!(x == dbgN)) = true) : (x == ("__debug__" : Str)) = false := by
  rw [Bool.not_eq_true'] at h; exact h
section
variable {L : Law} {N : List Str}
theorem nm_ok {X : Cx} {i : Nat} {x : Str} (hN : X.N = N) (h : nmB N X.env.scope i x = true) : X.N[i]? = some x ∧ Vis X.env.scope x ∧ (x == ("__debug__" : Str)) = false ∧ (x == ("__classdict__" : Str)) = false := by
  unfold nmB at h
  simp only [Bool.and_eq_true, decide_eq_true_eq] at h
  obtain ⟨h1, h2, h3, h4⟩ := h
  exact ⟨by rw [hN]; exact h1, vis_ok h2, dbg_of h3, by rw [Bool.not_eq_true'] at h4; exact h4⟩
theorem cal_ok {X : Cx} {n x : Str} (h : cal X.env.scope n x = true) : n = x ∧ Gl X x := by
  unfold cal at h
  rw [Bool.and_eq_true, decide_eq_true_eq] at h
  exact ⟨h.1, gl_ok h.2⟩
mutual
theorem ckP_ok {X : Cx} {top : Str → Bool} {E : WX} {k : Nat} (hd : Gd L X E k top) (hN : X.N = N) : ∀ {p : Pat} {ex : Expr}, ckP N X.env.scope top p ex = true → SP' L.S X p ex
  | .nm i, ex, h => by
    unfold ckP at h
    split at h
    · rw [Bool.and_eq_true, decide_eq_true_eq] at h
      obtain ⟨h1, h2⟩ := loc_ok hd.fn h.2
      exact sp_nm hd.nd (by rw [hN]; exact h.1) h1 h2
    · cases h
  | .tup ps, ex, h => by
    unfold ckP at h
    split at h
    · exact sp_tup hd.hK hd.calm (ckPs_ok hd hN h)
    · cases h
theorem ckPs_ok {X : Cx} {top : Str → Bool} {E : WX} {k : Nat} (hd : Gd L X E k top) (hN : X.N = N) : ∀ {ps : Ps} {l : List Expr}, ckPs N X.env.scope top ps l = true → SPs' L.S X ps l
  | .nil, l, h => by
    unfold ckPs at h
    split at h
    · exact sps_nil
    · cases h
  | .cons p r, l, h => by
    unfold ckPs at h
    split at h
    · rw [Bool.and_eq_true] at h
      exact sps_cons (ckP_ok hd hN h.1) (ckPs_ok hd hN h.2)
    · cases h
end
theorem evEs_len {T : Tb} : ∀ {es : Es} {e : Ev} {g : G} {l : List U} {g' : G}, evEs T es e g = .ok l g' → l.length = esLen es
  | .nil, e, g, l, g', h => by
    unfold evEs at h
    cases h; rfl
  | .cons a r, e, g, l, g', h => by
    unfold evEs at h
    cases h1 : evE T a e g with
    | bad => rw [h1] at h; cases h
    | err _ _ => rw [h1] at h; cases h
    | ok u g1 =>
      rw [h1] at h
      have h : ((evEs T r e g1).bd fun l g => .ok (u :: l) g) = .ok l g' := h
      cases h2 : evEs T r e g1 with
      | bad => rw [h2] at h; cases h
      | err _ _ => rw [h2] at h; cases h
      | ok l2 g2 =>
        rw [h2] at h
        cases h
        rw [List.length_cons, evEs_len h2]; rfl
theorem ne_sset {b : Blt} (h : decide (b ≠ .sset) = true) : b ≠ .sset := of_decide_eq_true h
def Good (L : Law) (N : List Str) (e : E) : Prop := ∀ (X : Cx) (E : WX) (k : Nat) (top : Str → Bool) (ex : Expr), ckE L N e X.env.scope top ex = true → Gd L X E k top → X.N = N → SE L.S X E (evE L.T e) ex (frE e)
def GoodS (L : Law) (N : List Str) (es : Es) : Prop := ∀ (X : Cx) (E : WX) (k : Nat) (top : Str → Bool) (l : List Expr), ckEs L N es X.env.scope top l = true → Gd L X E k top → X.N = N → SA L.S X E (evEs L.T es) l
def GoodI (L : Law) (N : List Str) (it : It) : Prop := ∀ (X : Cx) (E : WX) (k : Nat) (top : Str → Bool) (tg ex : Expr), ckI L N it X.env.scope top tg ex = true → Gd L X E k top → X.N = N → SI L X E (evI L.T it) tg ex
theorem evE_lc {T : Tb} {own : List Nat} {tg : Pat} {it : It} {t elt : E} : evE T (.lc own tg it t elt) = lcU own tg (evI T it) (evE T t) (evE T elt) := by
  funext e g; rfl
/-- a comprehension's parts -/
theorem lc_parts {own : List Nat} {tg : Pat} {it : It} {t elt : E} (gi : GoodI L N it) (gt : Good L N t) (ge : Good L N elt) {X : Cx} {E : WX} {k : Nat} {top : Str → Bool} {ee et ei : Expr} {ifs : List Expr} {as : Int} {scope : Scope} {p : Pos}
    (h : ckE L N (.lc own tg it t elt) X.env.scope top (.ListComp ee [⟨et, ei, ifs, as⟩] scope p) = true) (hd : Gd L X E k top) (hN : X.N = N) :
    as = 0 ∧ (ownP N own).map (·.2) = own ∧ LcP L X E k (ownP N own) tg (evI L.T it) (evE L.T t) (evE L.T elt) ee et ei ifs scope := by
  unfold ckE at h
  simp only [Bool.and_eq_true, decide_eq_true_eq, List.all_eq_true] at h
  obtain ⟨h1, h2, h3, h4, h5, h6, h7, h8, h9⟩ := h
  refine ⟨h1, h2, gi _ _ _ _ _ _ h7 hd hN, by rw [hN]; exact h3, fun i hi => ?_, h5, fun Y gd nY sY => ⟨?_, ?_, ?_⟩⟩
  · rw [h2]; exact List.contains_iff_mem.mp (h4 i hi)
  · exact ckP_ok gd (nY.trans hN) (by rw [sY]; exact h6)
  · split at h8
    · cases t <;> first | (cases h8; done) | skip
      rename_i b
      cases b
      · cases h8
      · exact sts_nil
    · exact sts_one (gt _ _ _ _ _ (by rw [sY]; exact h8) gd (nY.trans hN))
    · cases h8
  · exact ⟨_, ge _ _ _ _ _ (by rw [sY]; exact h9) gd (nY.trans hN)⟩
mutual
theorem good : ∀ e : E, Good L N e
  | .var i => fun X E k top ex h hd hN => by
    unfold ckE at h
    split at h
    · obtain ⟨h1, h2, h3, h4⟩ := nm_ok hN h
      exact se_var hd.hK h1 h2 h3 h4
    · cases h
  | .non => fun X E k top ex h hd hN => by
    unfold ckE at h
    split at h
    · exact se_c hd.hK pe_non (fun _ _ => .non) fun _ => rfl
    · cases h
  | .bl b => fun X E k top ex h hd hN => by
    unfold ckE at h
    split at h
    · have := of_decide_eq_true h
      subst this
      exact se_c hd.hK pe_bl (fun _ _ => .bl _) fun _ => rfl
    · cases h
  | .int i => fun X E k top ex h hd hN => by
    unfold ckE at h
    split at h
    · have := of_decide_eq_true h
      subst this
      exact se_c hd.hK pe_int (fun _ _ => .int _) fun _ => rfl
    · cases h
  | .str s => fun X E k top ex h hd hN => by
    unfold ckE at h
    split at h
    · have := of_decide_eq_true h
      subst this
      exact se_c hd.hK pe_str (fun _ _ => .str _) fun _ => rfl
    · cases h
  | .gv n => fun X E k top ex h hd hN => by
    unfold ckE at h
    split at h
    · rename_i x p
      simp only [Bool.and_eq_true] at h
      obtain ⟨h1, h2, h3⟩ := h
      obtain ⟨e1, hg⟩ := cal_ok h1
      obtain ⟨u, hu⟩ := Option.isSome_iff_exists.mp h2
      obtain ⟨v, val, m1, m2, m3⟩ := hd.fc.gv n u hu
      rw [e1] at m1
      have q : evE L.T (.gv n) = fun _ g => .ok u g := by
        funext e g
        show (match L.T.gv n with
          | some u => (.ok u g : Res U)
          | none => .bad) = _
        rw [hu]
      rw [q]
      exact se_c hd.hK (pe_glob hg m1 m2 (dbg_of h3)) m3 fun _ => rfl
    · cases h
  | .bin op a b => fun X E k top ex h hd hN => by
    unfold ckE at h
    split at h
    · simp only [Bool.and_eq_true, decide_eq_true_eq] at h
      obtain ⟨h1, h2, h3⟩ := h
      subst h1
      exact se_bin hd (good a _ _ _ _ _ h2 hd hN) (good b _ _ _ _ _ h3 hd hN)
    · cases h
  | .neg a => fun X E k top ex h hd hN => by
    unfold ckE at h
    split at h
    · exact se_neg hd (good a _ _ _ _ _ h hd hN)
    · cases h
  | .not a => fun X E k top ex h hd hN => by
    unfold ckE at h
    split at h
    · exact se_not hd (good a _ _ _ _ _ h hd hN)
    · cases h
  | .and a b => fun X E k top ex h hd hN => by
    have q : evE L.T (.and a b) = fun e g => (evE L.T a e g).bd fun x g => anU (evE L.T b) true e x g := by
      funext e g
      show ((evE L.T a e g).bd fun x g => match truU g x with
        | some true => evE L.T b e g
        | some false => .ok x g
        | none => .bad) = _
      congr 1
      funext x g
      unfold anU
      cases truU g x with
      | none => rfl
      | some b => cases b <;> rfl
    rw [q]
    unfold ckE at h
    split at h
    · simp only [Bool.and_eq_true] at h
      exact se_and hd (good a _ _ _ _ _ h.1 hd hN) (se_one (good b _ _ _ _ _ h.2 hd hN))
    · simp only [Bool.and_eq_true] at h
      exact se_and hd (good a _ _ _ _ _ h.1 hd hN) (good b _ _ _ _ _ h.2 hd hN)
    · cases h
  | .or a b => fun X E k top ex h hd hN => by
    have q : evE L.T (.or a b) = fun e g => (evE L.T a e g).bd fun x g => anU (evE L.T b) false e x g := by
      funext e g
      show ((evE L.T a e g).bd fun x g => match truU g x with
        | some true => .ok x g
        | some false => evE L.T b e g
        | none => .bad) = _
      congr 1
      funext x g
      unfold anU
      cases truU g x with
      | none => rfl
      | some b => cases b <;> rfl
    rw [q]
    unfold ckE at h
    split at h
    · simp only [Bool.and_eq_true] at h
      exact se_or hd (good a _ _ _ _ _ h.1 hd hN) (se_one (good b _ _ _ _ _ h.2 hd hN))
    · simp only [Bool.and_eq_true] at h
      exact se_or hd (good a _ _ _ _ _ h.1 hd hN) (good b _ _ _ _ _ h.2 hd hN)
    · cases h
  | .cmp op a b => fun X E k top ex h hd hN => by
    unfold ckE at h
    split at h
    · simp only [Bool.and_eq_true, decide_eq_true_eq, Bool.not_eq_true'] at h
      obtain ⟨h1, h2, h3, h4⟩ := h
      subst h1
      exact se_cmp hd (good a _ _ _ _ _ h3 hd hN) (good b _ _ _ _ _ h4 hd hN) h2
    · cases h
  | .chain op op2 a b c => fun X E k top ex h hd hN => by
    unfold ckE at h
    split at h
    · simp only [Bool.and_eq_true, decide_eq_true_eq, Bool.not_eq_true'] at h
      obtain ⟨h1, h2, h3, h4, h5, h6⟩ := h
      subst h1; subst h2
      exact se_chain hd (good a _ _ _ _ _ h4 hd hN) (good b _ _ _ _ _ h5 hd hN) (good c _ _ _ _ _ h6 hd hN) h3
    · cases h
  | .ite c a b => fun X E k top ex h hd hN => by
    unfold ckE at h
    split at h
    · simp only [Bool.and_eq_true] at h
      exact se_ite hd (good c _ _ _ _ _ h.1 hd hN) (good a _ _ _ _ _ h.2.1 hd hN) (good b _ _ _ _ _ h.2.2 hd hN)
    · cases h
  | .tup es => fun X E k top ex h hd hN => by
    unfold ckE at h
    split at h
    · exact se_tup hd (goods es _ _ _ _ _ h hd hN)
    · cases h
  | .lst es => fun X E k top ex h hd hN => by
    unfold ckE at h
    split at h
    · exact se_lst hd (goods es _ _ _ _ _ h hd hN)
    · cases h
  | .dct0 b => fun X E k top ex h hd hN => by
    unfold ckE at h
    split at h
    · exact se_dct0 hd b
    · cases h
  | .mk a => fun X E k top ex h hd hN => by
    unfold ckE at h
    simp only [Bool.and_eq_true] at h
    obtain ⟨h1, h2, h3⟩ := h
    have q := good a _ _ _ _ _ h3 hd hN
    rw [h1] at q
    exact se_mk hd q (plain_ok h2)
  | .ix a b => fun X E k top ex h hd hN => by
    unfold ckE at h
    split at h
    · simp only [Bool.and_eq_true] at h
      exact se_ix hd (good a _ _ _ _ _ h.2.1 hd hN) (good b _ _ _ _ _ h.2.2 hd hN) (pix_ok h.1)
    · cases h
  | .sl a lo hi => fun X E k top ex h hd hN => by
    unfold ckE at h
    split at h
    · rename_i ea l hh p2 p
      simp only [Bool.and_eq_true] at h
      obtain ⟨h1, h2, h3⟩ := h
      have part : ∀ {o : Option Expr} {x : PM.E}, (∀ {ex : Expr}, ckE L N x X.env.scope top ex = true → SE L.S X E (evE L.T x) ex (frE x)) → (match o with
        | none => isNo x
        | some e => !isNo x && ckE L N x X.env.scope top e) = true → SO L.S X E (fun e g => noOr x g (evE L.T x e g)) o := fun {o x} gx hx => by
        cases o with
        | none =>
          cases x <;> first | (cases hx; done) | exact so_none
        | some e =>
          simp only [Bool.and_eq_true, Bool.not_eq_true'] at hx
          have q := so_some (gx hx.2)
          have : (fun e g => noOr x g (evE L.T x e g)) = fun e g => intR (evE L.T x e g) := by
            funext e g
            cases x <;> first | rfl | (have := hx.1; cases this)
          rw [this]; exact q
      exact se_sl hd (good a _ _ _ _ _ h1 hd hN) (part (fun hh => good lo _ _ _ _ _ hh hd hN) h2) (part (fun hh => good hi _ _ _ _ _ hh hd hN) h3)
    · cases h
  | .rev a => fun X E k top ex h hd hN => by
    unfold ckE at h
    split at h
    · simp only [Bool.and_eq_true, decide_eq_true_eq] at h
      obtain ⟨h1, h2⟩ := h
      subst h1
      exact se_rev hd (good a _ _ _ _ _ h2 hd hN)
    · cases h
  | .call f es => fun X E k top ex h hd hN => by
    unfold ckE at h
    split at h
    · simp only [Bool.and_eq_true] at h
      obtain ⟨h1, h2, h3, h4⟩ := h
      obtain ⟨e1, hg⟩ := cal_ok h1
      exact se_call hd h2 e1 hg (dbg_of h3) (goods es _ _ _ _ _ h4 hd hN)
    · cases h
  | .blt b es => fun X E k top ex h hd hN => by
    by_cases hb : b = .sset
    · subst hb
      unfold ckE at h
      dsimp only at h
      split at h
      · rename_i a
        split at h
        · simp only [Bool.and_eq_true] at h
          obtain ⟨h1, h2, h3, h4⟩ := h
          obtain ⟨e1, hg⟩ := cal_ok h1
          obtain ⟨e2, hg2⟩ := cal_ok h2
          subst e1; subst e2
          have qq : (fun e g => (evE L.T a e g).bd fun x g => bltU g .sset [x]) = evE L.T (.blt .sset (.cons a .nil)) := by
            funext e g
            show _ = (((evE L.T a e g).bd fun x g => (Res.ok ([] : List U) g).bd fun l g => Res.ok (x :: l) g).bd fun l g => bltU g .sset l)
            cases evE L.T a e g <;> rfl
          rw [← qq]
          exact se_sset hd hg hg2 h3 (good a _ _ _ _ _ h4 hd hN)
        · cases h
      · cases h
    · have h' : ∃ x p ea l pos, ex = .Call (.Name x p) (ea :: l) [] pos ∧ (cal X.env.scope (bltN b) x && (decide (b ≠ .sset) && ckEs L N es X.env.scope top (ea :: l))) = true := by
        unfold ckE at h
        cases b <;> first | exact absurd rfl hb | (
          dsimp only at h
          split at h
          · exact ⟨_, _, _, _, _, rfl, h⟩
          · cases h)
      obtain ⟨x, p, ea, l, pos, rfl, h'⟩ := h'
      simp only [Bool.and_eq_true] at h'
      obtain ⟨h1, h2, h3⟩ := h'
      obtain ⟨e1, hg⟩ := cal_ok h1
      exact se_blt hd b hb e1 hg (goods es _ _ _ _ _ h3 hd hN)
  | .lrg a b => fun X E k top ex h hd hN => by
    unfold ckE at h
    split at h
    · simp only [Bool.and_eq_true] at h
      obtain ⟨h1, h2, h3, h4, h5⟩ := h
      obtain ⟨e1, hg⟩ := cal_ok h1
      obtain ⟨e2, hg2⟩ := cal_ok h2
      subst e1; subst e2
      cases a <;> first | (cases h3; done) | skip
      rename_i i
      have := of_decide_eq_true h3
      subst this
      have qq : (fun e g => (evE L.T b e g).bd fun y g => match y with
        | .int j => grd (rngOk 0 j && line (j - 0).toNat) (.ok (.lst (rngL 0 j)) g)
        | _ => .bad) = evE L.T (.lrg (.int 0) b) := by
        funext e g
        show ((evE L.T b e g).bd fun y g => (match y with
          | .int j => grd (rngOk 0 j && line (j - 0).toNat) (.ok (.lst (rngL 0 j)) g)
          | _ => .bad : Res U)) = ((evE L.T b e g).bd fun y g => (match U.int 0, y with
          | .int i, .int j => grd (rngOk i j && line (j - i).toNat) (.ok (.lst (rngL i j)) g)
          | _, _ => .bad : Res U))
        congr 1
        funext y g
        cases y <;> rfl
      rw [← qq]
      exact se_lrg1 hd hg hg2 h4 (good b _ _ _ _ _ h5 hd hN)
    · simp only [Bool.and_eq_true] at h
      obtain ⟨h1, h2, h3, h4, h5, h6⟩ := h
      obtain ⟨e1, hg⟩ := cal_ok h1
      obtain ⟨e2, hg2⟩ := cal_ok h2
      subst e1; subst e2
      exact se_lrg2 hd hg hg2 h3 h4 (good a _ _ _ _ _ h5 hd hN) (good b _ _ _ _ _ h6 hd hN)
    · cases h
  | .trg a => fun X E k top ex h hd hN => by
    unfold ckE at h
    split at h
    · simp only [Bool.and_eq_true] at h
      obtain ⟨h1, h2, h3, h4⟩ := h
      obtain ⟨e1, hg⟩ := cal_ok h1
      obtain ⟨e2, hg2⟩ := cal_ok h2
      subst e1; subst e2
      exact se_trg hd hg hg2 h3 (good a _ _ _ _ _ h4 hd hN)
    · cases h
  | .isi a ts => fun X E k top ex h hd hN => by
    unfold ckE at h
    split at h
    · simp only [Bool.and_eq_true] at h
      obtain ⟨h1, h2, h3, h4⟩ := h
      obtain ⟨e1, hg⟩ := cal_ok h1
      subst e1
      split at h4
      · rename_i t
        rw [Bool.and_eq_true] at h4
        obtain ⟨e2, hg2⟩ := cal_ok h4.1
        exact se_isi1 hd hg e2 h4.2 hg2 h2 (good a _ _ _ _ _ h3 hd hN)
      · cases h4
    · simp only [Bool.and_eq_true, List.all_eq_true] at h
      obtain ⟨h1, h2, h3, h4, h5, h6, h7⟩ := h
      obtain ⟨e1, hg⟩ := cal_ok h1
      subst e1
      exact se_isiT hd hg h4 h7 (by intro z; subst z; cases h6) (fun y hy => gl_ok (h5 y hy)) h2 (good a _ _ _ _ _ h3 hd hN)
    · cases h
  | .xnew c es => fun X E k top ex h hd hN => by
    unfold ckE at h
    split at h
    · rename_i x p l p2
      simp only [Bool.and_eq_true] at h
      obtain ⟨h1, h2, h3, h4⟩ := h
      obtain ⟨e1, hg⟩ := cal_ok h1
      cases hf : hasF c with
      | true =>
        rw [hf] at h4
        dsimp only at h4
        split at h4
        · rw [Bool.and_eq_true] at h4
          exact se_xnew hd h2 (mk_1 hd h2 hf e1 (dbg_of h3) hg (goods es _ _ _ _ _ h4.2 hd hN)) (fun _ => rfl) fun e g l g' q => by rw [evEs_len q]; exact of_decide_eq_true h4.1
        · cases h4
      | false =>
        rw [hf] at h4
        dsimp only at h4
        rw [Bool.and_eq_true] at h4
        cases es with
        | cons _ _ => cases h4.2
        | nil =>
          cases l with
          | cons _ _ => cases h4.1
          | nil => exact se_xnew hd h2 (mk_0 hd h2 hf e1 (dbg_of h3) hg) (fun _ => rfl) fun e g l g' q => by rw [evEs_len (es := .nil) q]; exact Nat.zero_le _
    · cases h
  | .xfl c a => fun X E k top ex h hd hN => by
    unfold ckE at h
    split at h
    · simp only [Bool.and_eq_true, decide_eq_true_eq] at h
      obtain ⟨h1, h2, h3, h4, h5⟩ := h
      exact se_xfl hd h1 h2 h3 h4 (good a _ _ _ _ _ h5 hd hN)
    · cases h
  | .lc own tg it t elt => fun X E k top ex h hd hN => by
    have h0 := h
    unfold ckE at h
    split at h
    · obtain ⟨e1, e2, c⟩ := lc_parts (goodi it) (good t) (good elt) h0 hd hN
      subst e1
      rw [evE_lc, ← e2]
      exact se_lc hd c
    · cases h
  | .dct1 _ _ _ => fun X E k top ex h hd hN => by unfold ckE at h; cases h
  | .fz a => fun X E k top ex h hd hN => by
    unfold ckE at h
    rw [Bool.and_eq_true] at h
    exact se_fz hd (good a _ _ _ _ _ h.2 hd hN) (plain_ok h.1)
  | .fld _ _ _ => fun X E k top ex h hd hN => by unfold ckE at h; cases h
  | .no => fun X E k top ex h hd hN => by unfold ckE at h; cases h
  | .mth _ _ _ => fun X E k top ex h hd hN => by unfold ckE at h; cases h
  | .new _ _ _ => fun X E k top ex h hd hN => by unfold ckE at h; cases h
  | .bm _ _ _ => fun X E k top ex h hd hN => by unfold ckE at h; cases h
theorem goods : ∀ es : Es, GoodS L N es
  | .nil => fun X E k top l h hd hN => by
    unfold ckEs at h
    split at h
    · exact sa_nil
    · cases h
  | .cons a r => fun X E k top l h hd hN => by
    unfold ckEs at h
    split at h
    · simp only [Bool.and_eq_true] at h
      exact sa_cons (good a _ _ _ _ _ h.2.1 hd hN) (goods r _ _ _ _ _ h.2.2 hd hN) h.1
    · cases h
theorem goodi : ∀ it : It, GoodI L N it
  | .seq a => fun X E k top tg ex h hd hN => by
    unfold ckI at h
    exact si_seq hd (good a _ _ _ _ _ h hd hN)
  | .rng1 a => fun X E k top tg ex h hd hN => by
    unfold ckI at h
    split at h
    · simp only [Bool.and_eq_true] at h
      obtain ⟨e1, hg⟩ := cal_ok h.1
      subst e1
      exact si_rng1 hd hg h.2.1 (good a _ _ _ _ _ h.2.2 hd hN)
    · cases h
  | .rng2 a b => fun X E k top tg ex h hd hN => by
    unfold ckI at h
    split at h
    · simp only [Bool.and_eq_true] at h
      obtain ⟨h1, h2, h3, h4, h5⟩ := h
      obtain ⟨e1, hg⟩ := cal_ok h1
      subst e1
      exact si_rng2 hd hg h2 h3 (good a _ _ _ _ _ h4 hd hN) (good b _ _ _ _ _ h5 hd hN)
    · cases h
  | .enum a => fun X E k top tg ex h hd hN => by
    unfold ckI at h
    split at h
    · simp only [Bool.and_eq_true] at h
      obtain ⟨e1, hg⟩ := cal_ok h.1
      subst e1
      exact si_enum hd hg h.2.1 (good a _ _ _ _ _ h.2.2 hd hN)
    · cases h
  | .zip a b => fun X E k top tg ex h hd hN => by
    unfold ckI at h
    split at h
    · simp only [Bool.and_eq_true] at h
      obtain ⟨h1, h2, h3, h4, h5⟩ := h
      obtain ⟨e1, hg⟩ := cal_ok h1
      subst e1
      exact si_zip hd hg h2 h3 (good a _ _ _ _ _ h4 hd hN) (good b _ _ _ _ _ h5 hd hN)
    · cases h
  | .items _ => fun X E k top tg ex h hd hN => by unfold ckI at h; cases h
end
end
end PM
set_option maxRecDepth 100000
set_option maxHeartbeats 1000000
/-! PM, second part, a: statements, rule by rule. -/
namespace PM
open PySem PySem.Spec PyProof.Rows L2
/-- what is to be shown behind a statement's run -/
def RO (S : Sg) (W : Wd) (g : G) (H : Hp) (D : Ends) (E : WX) : RS → Prop
  | .nx e g' => ∀ W' H' σ', Ext W g H W' g' H' → HR S W' g' H' → EnvR S W' H' e σ' → D.nx σ' H'
  | .rt u g' => ∀ W' H' v, Ext W g H W' g' H' → HR S W' g' H' → RU S W' H' u v → D.rt v H'
  | .bk e g' => ∀ W' H' σ', Ext W g H W' g' H' → HR S W' g' H' → EnvR S W' H' e σ' → D.bk σ' H'
  | .ct e g' => ∀ W' H' σ', Ext W g H W' g' H' → HR S W' g' H' → EnvR S W' H' e σ' → D.ct σ' H'
  | .err x e g' => ∀ W' H' σ' c d, Ext W g H W' g' H' → HR S W' g' H' → EnvR S W' H' e σ' → ExR S W' H' x c d → E c d σ' H'
  | .bad => False
theorem RO.shift {S : Sg} {W W1 : Wd} {g g1 : G} {H H1 : Hp} {D : Ends} {E : WX} (x : Ext W g H W1 g1 H1) : ∀ {r : RS}, RO S W g H D E r → RO S W1 g1 H1 D E r
  | .nx _ _, h => fun W' H' σ' e => h W' H' σ' (x.trans e)
  | .rt _ _, h => fun W' H' v e => h W' H' v (x.trans e)
  | .bk _ _, h => fun W' H' σ' e => h W' H' σ' (x.trans e)
  | .ct _ _, h => fun W' H' σ' e => h W' H' σ' (x.trans e)
  | .err _ _ _, h => fun W' H' σ' c d e => h W' H' σ' c d (x.trans e)
  | .bad, h => h
def TSv (S : Sg) (E : WX) (m : Ev → G → RS) : TS := fun D σ H => ∃ e W g, EnvR S W H e σ ∧ HR S W g H ∧ RO S W g H D E (m e g)
section
variable {S : Sg} {α β : Type} {R : Wd → Hp → α → β → Prop} {W : Wd} {g : G} {H : Hp} {σ : L2.St} {e : Ev} {E : WX} {D : Ends}
theorem RO.st {cu : List U} {cv : List V} {f : α → G → RS} (er : EnvR S W H e σ) (rc : RUs S W H cu cv) (hr : HR S W g H) : ∀ {r : Res α}, RO S W g H D E (r.st e f) →
    PO S R W g H (fun b H1 => ∃ W1 g1 a, EnvR S W1 H1 e σ ∧ RUs S W1 H1 cu cv ∧ HR S W1 g1 H1 ∧ R W1 H1 a b ∧ RO S W1 g1 H1 D E (f a g1)) (fun c d H' => E c d σ H') r
  | .ok a g', h => fun W' H' b x h1 h2 => ⟨W', g', a, er.mono hr.no x, rc.mono hr.no x, h1, h2, RO.shift x h⟩
  | .err _ g', h => fun W' H' c d x h1 h2 => h W' H' σ c d x h1 (er.mono hr.no x) h2
  | .bad, h => h
theorem RO.now {e' : Ev} {σ' : L2.St} (h : RO S W g H D E (.nx e' g)) (hr : HR S W g H) (er : EnvR S W H e' σ') : D.nx σ' H := h W H σ' Ext.refl hr er
end
structure SS (L : Law) (X : Cx) (E : WX) (m : Ev → G → RS) (st : Stmt) : Prop where
  ps : PS X st (TSv L.S E m)
structure SSs (L : Law) (X : Cx) (E : WX) (m : Ev → G → RS) (l : List Stmt) : Prop where
  ps : PSs X l (TSv L.S E m)
structure Gs (L : Law) (X : Cx) (E : WX) (k : Nat) (top : Str → Bool) : Prop where
  gd : Gd L X E k top
  pass : PassesOwn (model X.prog X.w) X.A X.env X.xe
  stk : X.stack = X.env :: X.outer
  frm : X.env.frame = some X.env.locals
section
variable {L : Law} {X : Cx} {E : WX} {k : Nat} {top : Str → Bool} {ea eb ec tg : Expr} {es : List Expr} {ma mb mc : Ev → G → Res U} {ms : Ev → G → Res (List U)} {m1 m2 : Ev → G → RS} {f1 f2 f3 : Bool} {pos p p2 p3 : Pos} {st : Stmt} {sts sts2 : List Stmt}
theorem psI {t t' : TS} (h : PS X st t) (hi : ∀ D σ H, t' D σ H → t D σ H) : PS X st t' := ⟨fun pins s σ H D I q => h.run pins s σ H D I (hi _ _ _ q)⟩
theorem pssI {t t' : TS} (h : PSs X sts t) (hi : ∀ D σ H, t' D σ H → t D σ H) : PSs X sts t' := ⟨fun pins s σ H D I q => h.run pins s σ H D I (hi _ _ _ q)⟩
/-! ### rows -/
theorem sss_nil : SSs L X E (fun e g => .nx e g) [] := ⟨pssI pss_nil fun D σ H ⟨e, W, g, er, hr, po⟩ => po.now hr er⟩
theorem sss_cons (h1 : SS L X E m1 st) (h2 : SSs L X E m2 sts) : SSs L X E (fun e g => (m1 e g).sq fun e g => m2 e g) (st :: sts) := by
  refine ⟨pssI (pss_cons h1.ps h2.ps) fun D σ H ⟨e, W, g, er, hr, po⟩ => ⟨e, W, g, er, hr, ?_⟩⟩
  dsimp only at po
  cases h : m1 e g with
  | nx e' g' =>
    rw [h] at po
    exact fun W' H' σ' x h1 h2 => ⟨e', W', g', h2, h1, RO.shift x po⟩
  | rt u g' => rw [h] at po; exact po
  | bk e' g' => rw [h] at po; exact po
  | ct e' g' => rw [h] at po; exact po
  | err x e' g' => rw [h] at po; exact po
  | bad => rw [h] at po; exact po
theorem ss_pass : SS L X E (fun e g => .nx e g) (.Pass pos) := ⟨psI ps_pass fun D σ H ⟨e, W, g, er, hr, po⟩ => po.now hr er⟩
theorem ss_brk : SS L X E (fun e g => .bk e g) (.Break pos) := ⟨psI ps_break fun D σ H ⟨e, W, g, er, hr, po⟩ => po W H σ Ext.refl hr er⟩
theorem ss_cont : SS L X E (fun e g => .ct e g) (.Continue pos) := ⟨psI ps_continue fun D σ H ⟨e, W, g, er, hr, po⟩ => po W H σ Ext.refl hr er⟩
theorem ss_ret0 : SS L X E (fun e g => .rt .non g) (.Return none pos) := ⟨psI ps_retN fun D σ H ⟨e, W, g, er, hr, po⟩ => po W H .non Ext.refl hr .non⟩
theorem ss_ret (ha : SE L.S X E ma ea f1) : SS L X E (fun e g => (ma e g).st e fun u g => .rt u g) (.Return (some ea) pos) := by
  refine ⟨psI (ps_ret ha.pe) fun D σ H ⟨e, W, g, er, hr, po⟩ => ⟨e, W, g, er, hr, PO.mono (fun v H1 h1 => ?_) (RO.st (R := RU' L.S) er .nil hr po)⟩⟩
  obtain ⟨W1, g1, u, er1, _, hr1, r1, p1⟩ := h1
  exact p1 W1 H1 v Ext.refl hr1 r1
/-- no comprehension -/
def noComp : Expr → Bool
  | .ListComp _ _ _ _ => false
  | .SetComp _ _ _ _ => false
  | .DictComp _ _ _ _ _ => false
  | _ => true
theorem swap_no {e : Expr} {t : Option Expr} {n : Nat} {env : Env} (h : noComp e = true) : swapsWith e t n env = pure false := by
  cases e <;> first | rfl | cases h
theorem ss_expr (ha : SE L.S X E ma ea f1) (hn : noComp ea = true) : SS L X E (fun e g => (ma e g).st e fun _ g => .nx e g) (.Expr ea pos) := by
  refine ⟨psI (ps_expr ha.pe (swap_no hn)) fun D σ H ⟨e, W, g, er, hr, po⟩ => ⟨e, W, g, er, hr, PO.mono (fun v H1 h1 => ?_) (RO.st (R := RU' L.S) er .nil hr po)⟩⟩
  obtain ⟨W1, g1, u, er1, _, hr1, r1, p1⟩ := h1
  exact p1.now hr1 er1
/-! ### stores -/
theorem ss_set (hd : Gd L X E k top) {i : Nat} {x : Str} (hi : X.N[i]? = some x) (hx : Loc X.env.scope x) (hf : X.fn x = true ∨ X.env.scope.names.lookup x = some .local) (ha : SE L.S X E ma ea f1) (hs : swapsWith ea (some (.Name x p)) pos.line X.env = pure false) :
    SS L X E (fun e g => (ma e g).st e fun x g => match bindP g (.nm i) x e with
      | some e' => .nx e' g
      | none => .bad) (.Assign [.Name x p] ea pos) := by
  refine ⟨psI (ps_set hd.nd hi hx ha.pe hs hf) fun D σ H ⟨e, W, g, er, hr, po⟩ => ⟨e, W, g, er, hr, PO.mono (fun v H1 h1 => ?_) (RO.st (R := RU' L.S) er .nil hr po)⟩⟩
  obtain ⟨W1, g1, u, er1, _, hr1, r1, p1⟩ := h1
  cases hb : bindP g1 (.nm i) u e with
  | none => rw [hb] at p1; exact p1.elim
  | some e' =>
    rw [hb] at p1
    exact bindP_ok hr1 (p := .nm i) r1 er1 hb fun σ' er' _ => p1.now hr1 er'
theorem ss_asg (hd : Gd L X E k top) {pt : Pat} (hp : SP' L.S X pt tg) (ha : SE L.S X E ma ea f1) (hs : swapsWithSole [tg] ea pos.line X.env = pure false) (hw : swappedStores [tg] ea X.env = pure none) :
    SS L X E (fun e g => (ma e g).st e fun x g => match bindP g pt x e with
      | some e' => .nx e' g
      | none => .bad) (.Assign [tg] ea pos) := by
  refine ⟨psI (ps_asg ha.pe hp.pg hs hw (by rw [asg1 hp.ns]; rfl)) fun D σ H ⟨e, W, g, er, hr, po⟩ => ⟨e, W, g, er, hr, PO.mono (fun v H1 h1 => ?_) (RO.st (R := RU' L.S) er .nil hr po)⟩⟩
  obtain ⟨W1, g1, u, er1, _, hr1, r1, p1⟩ := h1
  cases hb : bindP g1 pt u e with
  | none => rw [hb] at p1; exact p1.elim
  | some e' =>
    rw [hb] at p1
    exact bindP_ok hr1 r1 er1 hb fun σ' er' _ => p1.now hr1 er'
def lcM (mk : Bool) (r : Res U) : Res U := match mk with
  | true => r.bd fun x g => mkU g x
  | false => r
/-- name = [..] -/
theorem ss_lc (hd : Gd L X E k top) {elt iter : Expr} {ifs : List Expr} {own : List (Str × Nat)} {pt : Pat} {scope : Scope} {me mt : Ev → G → Res U} {mi : Ev → G → Res Wk} {mk : Bool} (c : LcP L X E k own pt mi mt me elt tg iter ifs scope) {i : Nat} {y : Str} {py spos : Pos} (hy : X.N[i]? = some y) (hyl : X.env.scope.names.lookup y = some .local)
    (hsw : swapsWith (.ListComp elt [⟨tg, iter, ifs, 0⟩] scope pos) (some (.Name y py)) spos.line X.env = pure true) :
    SS L X E (fun e g => (lcM mk (lcU (own.map fun (q : Str × Nat) => q.2) pt mi mt me e g)).st e fun x g => match bindP g (.nm i) x e with
      | some e' => .nx e' g
      | none => .bad) (.Assign [.Name y py] (.ListComp elt [⟨tg, iter, ifs, 0⟩] scope pos) spos) := by
  refine ⟨psI (ps_lc hd c hy hyl hsw) fun D σ H ⟨e, W, g, er, hr, po⟩ => ⟨e, W, g, er, hr, ?_⟩⟩
  have fin : PO L.S (RU' L.S) W g H (fun x H1 => gName i x σ H1 D.nx) (fun c d H' => E c d σ H') (lcM mk (lcU (own.map fun (q : Str × Nat) => q.2) pt mi mt me e g)) := by
    refine PO.mono (fun v H1 h1 => ?_) (RO.st (R := RU' L.S) er .nil hr po)
    obtain ⟨W1, g1, u, er1, _, hr1, r1, p1⟩ := h1
    cases hb : bindP g1 (.nm i) u e with
    | none => rw [hb] at p1; exact p1.elim
    | some e' =>
      rw [hb] at p1
      exact bindP_ok hr1 (p := .nm i) r1 er1 hb fun σ' er' _ => p1.now hr1 er'
  cases mk with
  | true => exact PF_mk fin
  | false => exact PF_of fin
/-! ### dicts, put -/
theorem RUk_any {S : Sg} {W : Wd} {H : Hp} {u : U} {q : Key} (hq : keyU u = some q) : ∀ {l : List (U × U)} {kv : List (Key × V)}, RUk S W H l kv → (l.any fun p => p.1.eqv u) = (kv.any fun p => decide (p.1 = q))
  | _, _, .nil => rfl
  | _, _, .cons hk a r => by
    rw [List.any_cons, List.any_cons, RUk_any hq r, key_eqv hk hq]
theorem RUk_map {S : Sg} {W : Wd} {H : Hp} {u x : U} {q : Key} {v : V} (hq : keyU u = some q) (rx : RU S W H x v) : ∀ {l : List (U × U)} {kv : List (Key × V)}, RUk S W H l kv → RUk S W H (l.map fun p => match p.1.eqv u with
    | true => (p.1, x)
    | false => p) (kv.map fun p => if p.1 = q then (p.1, v) else p)
  | _, _, .nil => .nil
  | _, _, .cons (q := p) hk a r => by
    have e := key_eqv hk hq
    rw [List.map_cons, List.map_cons]
    dsimp only
    rw [e]
    by_cases h : p = q
    · rw [decide_eq_true h, if_pos h]
      exact .cons hk rx (RUk_map hq rx r)
    · rw [decide_eq_false h, if_neg h]
      exact .cons hk a (RUk_map hq rx r)
theorem RUk_app {S : Sg} {W : Wd} {H : Hp} {u x : U} {q : Key} {v : V} (hq : keyU u = some q) (rx : RU S W H x v) : ∀ {l : List (U × U)} {kv : List (Key × V)}, RUk S W H l kv → RUk S W H (l ++ [(u, x)]) (kv ++ [(q, v)])
  | _, _, .nil => .cons hq rx .nil
  | _, _, .cons hk a r => .cons hk a (RUk_app hq rx r)
theorem RUk_put {S : Sg} {W : Wd} {H : Hp} {u x : U} {q : Key} {v : V} (hq : keyU u = some q) (rx : RU S W H x v) {l : List (U × U)} {kv : List (Key × V)} (r : RUk S W H l kv) : RUk S W H (dPut l u x) (putK kv q v) := by
  unfold dPut putK
  rw [RUk_any hq r]
  by_cases h : (kv.any fun p => decide (p.1 = q)) = true
  · rw [if_pos h, h]; exact RUk_map hq rx r
  · rw [if_neg h, Bool.not_eq_true _ |>.mp h]; exact RUk_app hq rx r
theorem RUt_any {S : Sg} {W : Wd} {H : Hp} {u : U} {q : List Key} (hq : keyT u = some q) : ∀ {l : List (U × U)} {kv : List (List Key × V)}, RUt S W H l kv → (l.any fun p => p.1.eqv u) = (kv.any fun p => decide (p.1 = q))
  | _, _, .nil => rfl
  | _, _, .cons hk a r => by
    rw [List.any_cons, List.any_cons, RUt_any hq r, keyT_eqv hk hq]
theorem RUt_map {S : Sg} {W : Wd} {H : Hp} {u x : U} {q : List Key} {v : V} (hq : keyT u = some q) (rx : RU S W H x v) : ∀ {l : List (U × U)} {kv : List (List Key × V)}, RUt S W H l kv → RUt S W H (l.map fun p => match p.1.eqv u with
    | true => (p.1, x)
    | false => p) (kv.map fun p => if p.1 = q then (p.1, v) else p)
  | _, _, .nil => .nil
  | _, _, .cons (q := p) hk a r => by
    have e := keyT_eqv hk hq
    rw [List.map_cons, List.map_cons]
    dsimp only
    rw [e]
    by_cases h : p = q
    · rw [decide_eq_true h, if_pos h]
      exact .cons hk rx (RUt_map hq rx r)
    · rw [decide_eq_false h, if_neg h]
      exact .cons hk a (RUt_map hq rx r)
theorem RUt_app {S : Sg} {W : Wd} {H : Hp} {u x : U} {q : List Key} {v : V} (hq : keyT u = some q) (rx : RU S W H x v) : ∀ {l : List (U × U)} {kv : List (List Key × V)}, RUt S W H l kv → RUt S W H (l ++ [(u, x)]) (kv ++ [(q, v)])
  | _, _, .nil => .cons hq rx .nil
  | _, _, .cons hk a r => .cons hk a (RUt_app hq rx r)
theorem RUt_put {S : Sg} {W : Wd} {H : Hp} {u x : U} {q : List Key} {v : V} (hq : keyT u = some q) (rx : RU S W H x v) {l : List (U × U)} {kv : List (List Key × V)} (r : RUt S W H l kv) : RUt S W H (dPut l u x) (putK kv q v) := by
  unfold dPut putK
  rw [RUt_any hq r]
  by_cases h : (kv.any fun p => decide (p.1 = q)) = true
  · rw [if_pos h, h]; exact RUt_map hq rx r
  · rw [if_neg h, Bool.not_eq_true _ |>.mp h]; exact RUt_app hq rx r
/-- o[i] = v, by values -/
def tSetU (L : Law) (E : WX) (σ : L2.St) : TSet := fun o i v H Q => ∃ W g uo ui uv g', HR L.S W g H ∧ RU L.S W H uo o ∧ RU L.S W H ui i ∧ RU L.S W H uv v ∧ setIxU g uo ui uv = some g' ∧ ∀ W' H', Ext W g H W' g' H' → HR L.S W' g' H' → Q H'
theorem setU_ok (hd : Gd L X E k top) (σ0 : L2.St) : PSet X (tSetU L E σ0) := by
  intro pins s σ H o i v ov iv u Q I ro ri rv h
  obtain ⟨W, g, uo, ui, uv, g', hr, r1, r2, r3, e, q⟩ := h
  unfold setIxU at e
  cases r1 <;> first | (cases e; done) | skip
  rename_i n a ha
  dsimp only at e
  split at e
  · rename_i l hg
    split at e
    · rename_i j
      split at e
      · rename_i j' hj
        cases e
        cases r2
        obtain ⟨vs, h1, h2⟩ := hr.cellOk hg ha
        have x := ext_set (S := L.S) (o := .lst (vs.set j' v)) (c' := .lst (l.set j' uv)) hr hg ha
        exact set_list pins s σ H _ _ v ov iv u Q I ro ri rv ⟨a, vs, _, j', rfl, rfl, h1, by rw [← h2.length]; exact hj, q W _ x (hr_set hr hg ha ⟨_, upd_same, (h2.set r3 j').mono hr.no x⟩)⟩
      · cases e
    · cases e
  · rename_i t l hg
    split at e
    · rename_i hh
      rw [Bool.and_eq_true] at hh
      cases e
      have c := hr.cellOk hg ha
      have hl := line_ok hh.2
      have hu : X.A.units + 1 < cLine := by have := hd.un; omega
      cases t with
      | false =>
        obtain ⟨kv, h1, h2⟩ := c
        obtain ⟨qk, hq⟩ := keyB_some (show keyB ui = true from hh.1)
        have ei := keyU_val hq r2
        subst ei
        have x := ext_set (S := L.S) (o := .dK (putK kv qk v)) (c' := .dct false (dPut l ui uv)) hr hg ha
        exact set_dict hu pins s σ H _ _ v ov iv u Q I ro ri rv ⟨a, _, rfl, DPut.k h1 (by rw [← RUk.length h2]; omega), q W _ x (hr_set hr hg ha ⟨_, upd_same, (RUk_put hq r3 h2).mono hr.no x⟩)⟩
      | true =>
        obtain ⟨kv, h1, h2⟩ := c
        cases r2 with
        | @tup b us vs f hb rs =>
          obtain ⟨qk, hq⟩ := keysB_some (show us.all keyB = true from hh.1)
          have x := ext_set (S := L.S) (o := .dT (putK kv qk v)) (c' := .dct true (dPut l (.tup us) uv)) hr hg ha
          exact set_dict hu pins s σ H _ _ v ov iv u Q I ro ri rv ⟨a, _, rfl, DPut.t h1 (by rw [← keysU_val hq rs]; exact hb) (by rw [← RUt.length h2]; omega), q W _ x (hr_set hr hg ha ⟨_, upd_same, (RUt_put (u := .tup us) hq r3 h2).mono hr.no x⟩)⟩
        | _ => cases hh.1
    · cases e
  · cases e
theorem swap_sub {e o i : Expr} {n : Nat} {env : Env} : swapsWithSole [.Subscript o i p] e n env = pure false := by
  show swapsWith e (some (.Subscript o i p)) n env = _
  cases e <;> rfl
theorem swapped_sub {e o i : Expr} {env : Env} : swappedStores [.Subscript o i p] e env = pure none := by
  cases e <;> rfl
theorem ss_setIx (hd : Gd L X E k top) (ho : SE L.S X E ma ea f1) (hi : SE L.S X E mb eb f2) (hv : SE L.S X E mc ec f3) (hx : pixB eb = true) :
    SS L X E (fun e g => (mc e g).st e fun v g => (ma e g).st e fun x g => (mb e g).st e fun k g => match setIxU g x k v with
      | some g' => .nx e g'
      | none => .bad) (.Assign [.Subscript ea eb p] ec pos) := by
  refine ⟨⟨fun pins s σ H D I h => ?_⟩⟩
  have hpg : PG X (.Subscript ea eb p) (gSub (TEv L.S E ma) (TEv L.S E mb) (tSetU L E σ)) := pg_sub ho.pe hi.pe (setU_ok hd σ) (by intro v; cases eb <;> first | rfl | cases hx)
  refine (ps_asg (pos := pos) hv.pe hpg swap_sub swapped_sub rfl).run pins s σ H D I ?_
  obtain ⟨e, W, g, er, hr, po⟩ := h
  refine ⟨e, W, g, er, hr, PO.mono (fun v H1 h1 => ?_) (RO.st (R := RU' L.S) er .nil hr po)⟩
  obtain ⟨W1, g1, u1, er1, _, hr1, r1, p1⟩ := h1
  refine ⟨e, W1, g1, er1, hr1, PO.mono (fun o H2 h2 => ?_) (RO.st (R := RU' L.S) er1 (.cons r1 .nil) hr1 p1)⟩
  obtain ⟨W2, g2, u2, er2, rc2, hr2, r2, p2⟩ := h2
  refine ⟨e, W2, g2, er2, hr2, PO.mono (fun i H3 h3 => ?_) (RO.st (R := RU' L.S) er2 (.cons r2 rc2) hr2 p2)⟩
  obtain ⟨W3, g3, u3, er3, rc3, hr3, r3, p3⟩ := h3
  cases rc3 with
  | cons ro rc3 =>
  cases rc3 with
  | cons rv _ =>
  cases hb : setIxU g3 u2 u3 u1 with
  | none => rw [hb] at p3; exact p3.elim
  | some g' =>
    rw [hb] at p3
    exact ⟨W3, g3, u2, u3, u1, g', hr3, ro, r3, rv, hb, fun W' H' x hr' => p3 W' H' σ x hr' (er3.mono hr3.no x)⟩
end
end PM
set_option maxRecDepth 100000
set_option maxHeartbeats 1000000
/-! PM, second part, b: methods that change a list; if, for, while, raise. -/
namespace PM
open PySem PySem.Spec PyProof.Rows L2
def mtN : Mt → Str
  | .append => "append"
  | .extend => "extend"
  | .reverse => "reverse"
  | .clear => "clear"
  | _ => ""
def mtId : Mt → String
  | .append => "list.append"
  | .extend => "list.extend"
  | .reverse => "list.reverse"
  | .clear => "list.clear"
  | _ => ""
def mtOk : Mt → Bool
  | .append => true
  | .extend => true
  | .reverse => true
  | .clear => true
  | _ => false
section
variable {L : Law} {X : Cx} {E : WX} {k : Nat} {top : Str → Bool} {ea eb ec tg : Expr} {es : List Expr} {ma mb mc : Ev → G → Res U} {ms : Ev → G → Res (List U)} {m1 m2 : Ev → G → RS} {f1 f2 f3 : Bool} {pos p p2 p3 : Pos} {st : Stmt} {sts sts2 : List Stmt}
def mtR (L : Law) (m : Mt) : V → List V → Hp → VK → Prop := fun x vs H Q => ∃ W g uo us g', HR L.S W g H ∧ RU L.S W H uo x ∧ RUs L.S W H us vs ∧ mtU g m uo us = some g' ∧ ∀ W' H', Ext W g H W' g' H' → HR L.S W' g' H' → Q .non H'
theorem mtR_ok (m : Mt) (hm : mtOk m = true) : MtR X (mtId m) (mtR L m) := by
  intro pins s σ H x vs v us Q I rx rv h
  obtain ⟨W, g, uo, ul, g', hr, ro, rl, e, q⟩ := h
  unfold mtU at e
  cases ro <;> first | (cases e; done) | skip
  rename_i n a ha
  dsimp only at e
  split at e
  · rename_i xs hg
    obtain ⟨ws, h1, h2⟩ := hr.cellOk hg ha
    have wr : ∀ (l : List U) (ys : List V), g' = g.set n (some (.lst l)) → RUs L.S W H l ys → Q .non (upd H a (.lst ys)) := fun l ys e r => by
      subst e
      have x := ext_set (S := L.S) (o := .lst ys) (c' := .lst l) hr hg ha
      exact q W _ x (hr_set hr hg ha ⟨_, upd_same, r.mono hr.no x⟩)
    cases m <;> first | (cases hm; done) | skip
    · -- append
      cases rl with
      | nil => cases e
      | cons r rl =>
      cases rl with
      | cons _ _ => cases e
      | nil =>
      dsimp only at e
      split at e
      · rename_i hl
        cases e
        have hl2 := line_ok hl
        exact mt_append pins s σ H _ _ v us Q I rx rv ⟨a, ws, _, rfl, rfl, h1, by rw [← h2.length]; omega, wr _ _ rfl (h2.app (.cons r .nil))⟩
      · cases e
    · -- extend
      cases rl with
      | nil => cases e
      | @cons u _ w _ r rl =>
      cases rl with
      | cons _ _ => cases e
      | nil =>
      dsimp only at e
      have go : ∀ {b : Addr} {zs : List V} {ys : List U}, w = .ref b → H b = some (.lst zs) → RUs L.S W H ys zs → (if line (xs.length + ys.length) then some (g.set n (some (.lst (xs ++ ys)))) else none) = some g' → wpAny (model X.prog X.w) X.A (call (.builtin (mtId .extend)) (v :: us)) (EP X pins σ Q) X.xe s := fun {b zs ys} e1 e2 e3 e4 => by
        subst e1
        split at e4
        · rename_i hl
          cases e4
          have hl2 := line_ok hl
          exact mt_extend pins s σ H _ _ v us Q I rx rv ⟨a, b, ws, zs, rfl, rfl, h1, e2, by rw [← h2.length, ← e3.length]; exact hl2, wr _ _ rfl (h2.app e3)⟩
        · cases e4
      cases r with
      | lst f hb rs => exact go rfl hb rs e
      | @ref n2 b hb =>
        dsimp only at e
        unfold asL at e
        dsimp only at e
        cases hg2 : gat g n2 with
        | none => rw [hg2] at e; cases e
        | some c =>
          rw [hg2] at e
          cases c with
          | lst l2 =>
            obtain ⟨zs, z1, z2⟩ := hr.cellOk hg2 hb
            exact go rfl z1 z2 e
          | dct _ _ => cases e
          | ins _ _ => cases e
      | _ => cases e
    · -- reverse
      cases rl with
      | cons _ _ => cases e
      | nil =>
      cases e
      exact mt_reverse pins s σ H _ _ v us Q I rx rv ⟨a, ws, rfl, rfl, h1, wr _ _ rfl h2.rev⟩
    · cases rl with
      | cons _ _ => cases e
      | nil =>
      cases e
      exact mt_clear pins s σ H _ _ v us Q I rx rv ⟨a, ws, rfl, rfl, h1, wr _ _ rfl .nil⟩
  · cases e
  · cases e
theorem few_ok {e : Expr} {env : Env} (h : notStar e = true) : ((backTo p (starEach [e] env)).all (fun x => !x.1) && (backToKw p (keywordEach [] env)).all (fun x => x.1.isSome)
      && decide ((e :: []).length + ([] : List Keyword).length + (if ([] : List Keyword).isEmpty then 0 else 1) < 30)) = true := by
  rw [star1 h]; rfl
theorem mt_cell {S : Sg} {W : Wd} {g : G} {H : Hp} {m : Mt} {u : U} {v : V} {l : List U} {g' : G} (hr : HR S W g H) (r : RU S W H u v) (e : mtU g m u l = some g') : ∃ a xs, v = .ref a ∧ H a = some (.lst xs) := by
  unfold mtU at e
  cases r <;> first | (cases e; done) | skip
  rename_i n a ha
  dsimp only at e
  split at e
  · rename_i xs hg
    obtain ⟨ws, h1, _⟩ := hr.cellOk hg ha
    exact ⟨a, ws, rfl, h1⟩
  · cases e
  · cases e
theorem lc_ty {S : Sg} {W : Wd} {g : G} {H : Hp} {u : U} {v : V} (hr : HR S W g H) (r : RU S W H u v) (e : isLC g u = true) : L2.tyV S.K "list" v H := by
  unfold isLC at e
  cases r <;> first | (cases e; done) | skip
  rename_i n a ha
  dsimp only at e
  split at e
  · rename_i xs hg
    obtain ⟨ws, h1, _⟩ := hr.cellOk hg ha
    exact .inl ⟨rfl, ws, .inl (.inl h1)⟩
  · cases e
theorem ss_meth1 (hd : Gd L X E k top) {m : Mt} {x : Str} {apos cpos : Pos} (hm : mtOk m = true) (hx : mtN m = x) (hn : notSup ea = true) (hn2 : notStar eb = true) (hl : (apos.endLine == cpos.line) = true) (ho : SE L.S X E ma ea f1) (ha : SE L.S X E mb eb f2) :
    SS L X E (fun e g => (ma e g).st e fun x g => grdS (isLC g x) ((mb e g).st e fun u g => match mtU g m x [u] with
      | some g' => .nx e g'
      | none => .bad)) (.Expr (.Call (.Attribute ea x apos) [eb] [] cpos) pos) := by
  have bm : PE X (.Call (.Attribute ea x apos) [eb] [] cpos) (tBM X.K "list" (mtR L m) (TEv L.S E ma) (tCons (TEv L.S E mb) tNil)) := by
    subst hx
    cases m <;> first | (cases hm; done) | skip
    · exact pe_bm F.plainAttrs_list F.slot_list_append F.type_list_append (mtR_ok .append rfl) ho.pe (pa_cons ha.pe pa_nil (star1 hn2)) (sup_base hn) (few_ok hn2) hl (star1 hn2) rfl
    · exact pe_bm F.plainAttrs_list F.slot_list_extend F.type_list_extend (mtR_ok .extend rfl) ho.pe (pa_cons ha.pe pa_nil (star1 hn2)) (sup_base hn) (few_ok hn2) hl (star1 hn2) rfl
    · exact pe_bm F.plainAttrs_list F.slot_list_reverse F.type_list_reverse (mtR_ok .reverse rfl) ho.pe (pa_cons ha.pe pa_nil (star1 hn2)) (sup_base hn) (few_ok hn2) hl (star1 hn2) rfl
    · exact pe_bm F.plainAttrs_list F.slot_list_clear F.type_list_clear (mtR_ok .clear rfl) ho.pe (pa_cons ha.pe pa_nil (star1 hn2)) (sup_base hn) (few_ok hn2) hl (star1 hn2) rfl
  refine ⟨psI (ps_expr bm (swap_no rfl)) fun D σ H ⟨e, W, g, er, hr, po⟩ => ⟨e, W, g, er, hr, PO.mono (fun v H1 h1 => ?_) (RO.st (R := RU' L.S) er .nil hr po)⟩⟩
  obtain ⟨W1, g1, u1, er1, _, hr1, r1, p1⟩ := h1
  cases hc : isLC g1 u1 with
  | false => rw [hc] at p1; exact p1.elim
  | true =>
    rw [hc] at p1
    refine ⟨by rw [hd.hK]; exact lc_ty hr1 r1 hc, e, W1, g1, er1, hr1, PO.mono (fun w H2 h2 => ?_) (RO.st (R := RU' L.S) er1 (.cons r1 .nil) hr1 p1)⟩
    obtain ⟨W2, g2, u2, er2, rc, hr2, r2, p2⟩ := h2
    cases rc with
    | cons rc _ =>
    cases hb : mtU g2 m u1 [u2] with
    | none => rw [hb] at p2; exact p2.elim
    | some g' =>
      rw [hb] at p2
      exact ⟨W2, g2, u1, [u2], g', hr2, rc, .cons r2 .nil, hb, fun W' H' x hr' => p2 W' H' σ x hr' (er2.mono hr2.no x)⟩
/-! ### if, for, while -/
theorem RO.tt {S : Sg} {W : Wd} {g : G} {H : Hp} {σ : L2.St} {e : Ev} {D : Ends} {f : Bool → G → RS} (er : EnvR S W H e σ) (hr : HR S W g H) {r : Res Bool} (h : RO S W g H D E (r.st e f)) :
    PO S RB W g H (fun b H1 => ∃ W1 g1, EnvR S W1 H1 e σ ∧ HR S W1 g1 H1 ∧ RO S W1 g1 H1 D E (f b g1)) (fun c d H' => E c d σ H') r := by
  refine PO.mono (fun b H1 h1 => ?_) (RO.st (R := RB) er .nil hr h)
  obtain ⟨W1, g1, a, er1, _, hr1, rb, p1⟩ := h1
  cases rb
  exact ⟨W1, g1, er1, hr1, p1⟩
theorem ss_ite (hc : SE L.S X E mc ec f3) (h1 : SSs L X E m1 sts) (h2 : SSs L X E m2 sts2) : SS L X E (fun e g => (tst (mc e g)).st e fun r g => match r with
    | true => m1 e g
    | false => m2 e g) (.If ec sts sts2 pos) := by
  refine ⟨psI (ps_if hc.pt h1.ps h2.ps) fun D σ H ⟨e, W, g, er, hr, po⟩ => ⟨e, W, g, er, hr, PO.mono (fun b H1 hh => ?_) (RO.tt er hr po)⟩⟩
  obtain ⟨W1, g1, er1, hr1, p1⟩ := hh
  cases b with
  | true => exact ⟨e, W1, g1, er1, hr1, p1⟩
  | false => exact ⟨e, W1, g1, er1, hr1, p1⟩
theorem ss_while (hs : Gs L X E k top) {n : Nat} (hc : SE L.S X E mc ec f3) (h1 : SSs L X E m1 sts) : SS L X E (fun e g => whGo (fun e g => tst (mc e g)) m1 n e g) (.While ec sts [] pos) := by
  refine ⟨psI (ps_while hs.pass hc.pt h1.ps) fun D σ H ⟨e, W, g, er, hr, po⟩ => ⟨fun m σc Hc => ∃ ec Wc gc, EnvR L.S Wc Hc ec σc ∧ HR L.S Wc gc Hc ∧ RO L.S Wc gc Hc D E (whGo (fun e g => tst (mc e g)) m1 m ec gc), ⟨n, e, W, g, er, hr, po⟩, ?_⟩⟩
  rintro m σc Hc ⟨e1, W1, g1, er1, hr1, p1⟩
  cases m with
  | zero => exact p1.elim
  | succ m =>
    refine ⟨e1, W1, g1, er1, hr1, PO.mono (fun b H2 hh => ?_) (RO.tt er1 hr1 p1)⟩
    obtain ⟨W2, g2, er2, hr2, p2⟩ := hh
    cases b with
    | false => exact p2.now hr2 er2
    | true =>
      refine ⟨fun σ' H' => ∃ ec Wc gc, EnvR L.S Wc H' ec σ' ∧ HR L.S Wc gc H' ∧ RO L.S Wc gc H' D E (whGo (fun e g => tst (mc e g)) m1 m ec gc), fun σ' H' hN => ⟨m, Nat.lt_succ_self _, hN⟩, e1, W2, g2, er2, hr2, ?_⟩
      dsimp only at p2
      cases hb : m1 e1 g2 with
      | nx e3 g3 => rw [hb] at p2; exact fun W3 H3 σ3 x hr3 er3 => ⟨e3, W3, g3, er3, hr3, RO.shift x p2⟩
      | ct e3 g3 => rw [hb] at p2; exact fun W3 H3 σ3 x hr3 er3 => ⟨e3, W3, g3, er3, hr3, RO.shift x p2⟩
      | bk e3 g3 => rw [hb] at p2; exact p2
      | rt u g3 => rw [hb] at p2; exact p2
      | err x e3 g3 => rw [hb] at p2; exact p2
      | bad => rw [hb] at p2; exact p2
theorem ss_for (hs : Gs L X E k top) {pt : Pat} {iter : Expr} {mi : Ev → G → Res Wk} (hi : SI L X E mi tg iter) (hp : SP' L.S X pt tg) (h1 : SSs L X E m1 sts) (hn : notSet iter = true) :
    SS L X E (fun e g => (mi e g).st e fun w g => forGo pt m1 w.sr w.l e g) (.For tg iter sts [] pos) := by
  refine ⟨psI (ps_for hs.pass hs.gd.calm hi.pi hp.pg h1.ps (notSet_ok hn)) fun D σ H ⟨e, W, g, er, hr, po⟩ => ⟨e, W, g, er, hr, ?_⟩⟩
  dsimp only at po
  cases hm : mi e g with
  | bad => rw [hm] at po; exact po
  | err x g' => rw [hm] at po; exact fun W' H' c d x h1 h2 => po W' H' σ c d x h1 (er.mono hr.no x) h2
  | ok w g1 =>
    rw [hm] at po
    intro W1 H1 J x1 hr1 hit
    refine ⟨fun i m σc Hc => m = w.l.length - i ∧ i ≤ w.l.length ∧ ∃ ec Wc gc, EnvR L.S Wc Hc ec σc ∧ Ext W1 g1 H1 Wc gc Hc ∧ HR L.S Wc gc Hc ∧ RO L.S Wc gc Hc D E (forGo pt m1 w.sr (w.l.drop i) ec gc), ⟨_, rfl, Nat.zero_le _, e, W1, g1, er.mono hr.no x1, Ext.refl, hr1, RO.shift x1 po⟩, ?_⟩
    rintro i m σc Hc ⟨rfl, hi, e2, Wc, gc, erc, xc, hrc, pc⟩
    have st : stay gc w.sr = true := by
      cases z : stay gc w.sr with
      | true => rfl
      | false =>
        exfalso
        cases hl : w.l.drop i with
        | nil =>
          rw [hl] at pc
          have pc : RO L.S Wc gc Hc D E (grdS (stay gc w.sr) (.nx e2 gc)) := pc
          rw [z] at pc; exact pc
        | cons u r =>
          rw [hl] at pc
          unfold forGo at pc
          rw [z] at pc; exact pc
    obtain ⟨it1, it2⟩ := hit Wc gc Hc xc hrc st i
    by_cases hlt : w.l.length ≤ i
    · refine .inl ⟨it2 hlt, ?_⟩
      rw [List.drop_eq_nil_of_le hlt] at pc
      have pc : RO L.S Wc gc Hc D E (grdS (stay gc w.sr) (.nx e2 gc)) := pc
      rw [st] at pc
      exact pc.now hrc erc
    · have hlt : i < w.l.length := by omega
      have hu : w.l[i]? = some w.l[i] := List.getElem?_eq_getElem hlt
      obtain ⟨go, yld⟩ := it1 _ hu
      rw [List.drop_eq_getElem_cons hlt] at pc
      generalize w.l[i] = u at *
      unfold forGo at pc
      rw [st] at pc
      refine .inr ⟨go, fun σ' H' => w.l.length - (i + 1) = w.l.length - (i + 1) ∧ i + 1 ≤ w.l.length ∧ ∃ ec Wc gc, EnvR L.S Wc H' ec σ' ∧ Ext W1 g1 H1 Wc gc H' ∧ HR L.S Wc gc H' ∧ RO L.S Wc gc H' D E (forGo pt m1 w.sr (w.l.drop (i + 1)) ec gc), fun σ' H' hN => ⟨w.l.length - (i + 1), by omega, hN⟩, fun x H'' hy => ?_⟩
      obtain ⟨W2, x2, hr2, rx⟩ := yld x H'' hy
      cases hb : bindP gc pt u e2 with
      | none => rw [hb] at pc; exact pc.elim
      | some e3 =>
        rw [hb] at pc
        refine bindP_ok hr2 rx (erc.mono hrc.no x2) hb fun σ' er' _ => ⟨e3, W2, gc, er', hr2, ?_⟩
        have pc2 : RO L.S W2 gc H'' D E (match m1 e3 gc with
          | .nx e g => forGo pt m1 w.sr (w.l.drop (i + 1)) e g
          | .ct e g => forGo pt m1 w.sr (w.l.drop (i + 1)) e g
          | .bk e g => .nx e g
          | r => r) := RO.shift x2 pc
        cases hb : m1 e3 gc with
        | nx e4 g4 => rw [hb] at pc2; exact fun W3 H3 σ3 x hr3 er3 => ⟨rfl, by omega, e4, W3, g4, er3, xc.trans (x2.trans x), hr3, RO.shift x pc2⟩
        | ct e4 g4 => rw [hb] at pc2; exact fun W3 H3 σ3 x hr3 er3 => ⟨rfl, by omega, e4, W3, g4, er3, xc.trans (x2.trans x), hr3, RO.shift x pc2⟩
        | bk e4 g4 => rw [hb] at pc2; exact pc2
        | rt u g4 => rw [hb] at pc2; exact pc2
        | err x e4 g4 => rw [hb] at pc2; exact pc2
        | bad => rw [hb] at pc2; exact pc2
/-! ### raise -/
theorem ss_raise (hd : Gd L X E k top) {c : Nat} (h : PMk X ea (TMk L.S E ms c)) (hb : ∀ e g l g', ms e g = .ok l g' → l.length ≤ 1000) : SS L X E (fun e g => (ms e g).st e fun l g => raiseU c l e g) (.Raise (some ea) none pos) := by
  refine ⟨psI (ps_raise hd.calm hd.tk h) fun D σ H ⟨e, W, g, er, hr, po⟩ => ⟨e, W, g, er, hr, ?_⟩⟩
  dsimp only at po
  cases hm : ms e g with
  | bad => rw [hm] at po; exact po
  | err x g' => rw [hm] at po; exact fun W' H' c d x h1 h2 => po W' H' σ c d x h1 (er.mono hr.no x) h2
  | ok l g1 =>
    rw [hm] at po
    intro W1 H1 vs x1 hr1 rs
    refine ⟨W1, g1, l, hr1, rs, by rw [← rs.length]; exact hb _ _ _ _ hm, ?_⟩
    have er1 := er.mono hr.no x1
    have po : RO L.S W g H D E (raiseU c l e g1) := po
    unfold raiseU at po
    unfold XQ
    cases hf : hasF c with
    | true =>
      rw [hf] at po
      cases l with
      | nil => exact po.elim
      | cons u l =>
        cases l with
        | cons _ _ => exact po.elim
        | nil => exact fun W' H' d x2 hr2 xr => po W' H' σ _ d (x1.trans x2) hr2 (er1.mono hr1.no x2) xr
    | false =>
      rw [hf] at po
      exact po W1 H1 σ _ none x1 hr1 er1 ⟨rfl, rfl⟩
end
end PM
set_option maxRecDepth 100000
set_option maxHeartbeats 4000000
/-! PM, second part, c: the check of statements, sound. -/
namespace PM
open PySem PySem.Spec PyProof.Rows L2
/-- is the store done inside the comprehension's run -/
def swB (sc : Scope) (x : Str) (py p : Pos) (scope : Scope) : Bool := sc.names.lookup x == some .local && py.line == p.line && !(scope.names.any fun (n, k) => n == x && (k == .local || k == .cell))
theorem swB_ok {X : Cx} {x : Str} {py p : Pos} {elt : Expr} {gens : List Comprehension} {scope : Scope} {n : Nat} (hk : X.env.scope.kind = .function) : swapsWith (.ListComp elt gens scope p) (some (.Name x py)) n X.env = pure (swB X.env.scope x py p scope) := by
  show (do return X.env.blockKind == .function && X.env.kindOf x == some .local && py.line == p.line && !(scope.names.any fun (n, k) => n == x && (k == .local || k == .cell)) : Sem Bool) = _
  have : (X.env.blockKind == ScopeKind.function) = true := by
    unfold Env.blockKind
    rw [hk]; rfl
  rw [this, Bool.true_and]
  rfl
def notTup : Expr → Bool
  | .Tuple _ _ _ => false
  | _ => true
theorem swap_tup {e : Expr} {l : List Expr} {kk n : Nat} {p : Pos} {env : Env} : swapsWithSole [.Tuple l kk p] e n env = pure false := by
  show swapsWith e (some (.Tuple l kk p)) n env = _
  cases e <;> rfl
theorem swapped_tup {e : Expr} {l : List Expr} {kk : Nat} {p : Pos} {env : Env} (h : notTup e = true) : swappedStores [.Tuple l kk p] e env = pure none := by
  cases e <;> first | rfl | cases h
/-- a comprehension, with or without mk -/
def unMk : E → Bool × E
  | .mk a => (true, a)
  | a => (false, a)
def isLc : E → Bool
  | .lc _ _ _ _ _ => true
  | _ => false
def ckSet (L : Law) (N : List Str) (p : Pat) (a : E) (sc : Scope) (top : Str → Bool) (tg ea : Expr) : Bool := match tg with
  | .Name x py => (match p with
    | .nm i => decide (N[i]? = some x) && (locB sc top x && (match noComp ea with
      | true => ckE L N a sc top ea
      | false => (match ea with
        | .ListComp _ _ scope cp => (match swB sc x py cp scope with
          | false => ckE L N a sc top ea
          | true => decide (sc.names.lookup x = some .local) && (isLc (unMk a).2 && ckE L N (unMk a).2 sc top ea))
        | _ => false)))
    | _ => false)
  | .Tuple l kk q => notTup ea && (ckP N sc top p (.Tuple l kk q) && ckE L N a sc top ea)
  | _ => false
mutual
def ckS (L : Law) (N : List Str) : S → Scope → (Str → Bool) → Stmt → Bool
  | .expr a, sc, top, st => (match st with
    | .Expr ea _ => noComp ea && ckE L N a sc top ea
    | _ => false)
  | .meth m o es, sc, top, st => (match st with
    | .Expr (.Call (.Attribute eo x apos) [eb] [] cpos) _ => mtOk m && (decide (mtN m = x) && (notSup eo && (notStar eb && ((apos.endLine == cpos.line) && (ckE L N o sc top eo && (match es with
      | .cons b .nil => ckE L N b sc top eb
      | _ => false))))))
    | _ => false)
  | .set p a, sc, top, st => (match st with
    | .Assign [tg] ea _ => decide (sc.kind = .function) && ckSet L N p a sc top tg ea
    | _ => false)
  | .setIx o i a, sc, top, st => (match st with
    | .Assign [.Subscript eo ei _] ev _ => pixB ei && (ckE L N o sc top eo && (ckE L N i sc top ei && ckE L N a sc top ev))
    | _ => false)
  | .ite c a b, sc, top, st => (match st with
    | .If ec sa sb _ => ckE L N c sc top ec && (ckSs L N a sc top sa && ckSs L N b sc top sb)
    | _ => false)
  | .for_ p it b, sc, top, st => (match st with
    | .For tg iter sb [] _ => notSet iter && (ckP N sc top p tg && (ckI L N it sc top tg iter && ckSs L N b sc top sb))
    | _ => false)
  | .while_ _ c b, sc, top, st => (match st with
    | .While ec sb [] _ => ckE L N c sc top ec && ckSs L N b sc top sb
    | _ => false)
  | .ret a, sc, top, st => (match st with
    | .Return (some ea) _ => ckE L N a sc top ea
    | _ => false)
  | .ret0, sc, top, st => (match st with
    | .Return none _ => true
    | _ => false)
  | .raise c es, sc, top, st => (match st with
    | .Raise (some (.Call (.Name x _) l [] _)) none _ => cal sc (L.clN c) x && (L.T.cs c && (!(x == dbgN) && (match hasF c with
      | true => (match l with
        | ea :: r => decide (esLen es ≤ 1000) && ckEs L N es sc top (ea :: r)
        | [] => false)
      | false => (match l, es with
        | [.Constant (.str s) _ _], .cons (.str t) .nil => decide (s = t)
        | [], .nil => true
        | _, _ => false))))
    | _ => false)
  | .pass, sc, top, st => (match st with
    | .Pass _ => true
    | _ => false)
  | .brk, sc, top, st => (match st with
    | .Break _ => true
    | _ => false)
  | .cont, sc, top, st => (match st with
    | .Continue _ => true
    | _ => false)
  | _, _, _, _ => false
def ckSs (L : Law) (N : List Str) : Ss → Scope → (Str → Bool) → List Stmt → Bool
  | .nil, sc, top, l => (match l with
    | [] => true
    | _ => false)
  | .cons s r, sc, top, l => (match l with
    | st :: sts => ckS L N s sc top st && ckSs L N r sc top sts
    | [] => false)
end
section
variable {L : Law} {N : List Str}
def GoodT (L : Law) (N : List Str) (s : S) : Prop := ∀ (X : Cx) (E : WX) (k : Nat) (top : Str → Bool) (st : Stmt), ckS L N s X.env.scope top st = true → Gs L X E k top → X.N = N → SS L X E (evS L.T s) st
def GoodTs (L : Law) (N : List Str) (s : Ss) : Prop := ∀ (X : Cx) (E : WX) (k : Nat) (top : Str → Bool) (l : List Stmt), ckSs L N s X.env.scope top l = true → Gs L X E k top → X.N = N → SSs L X E (evSs L.T s) l
theorem set_ok {X : Cx} {E : WX} {k : Nat} {top : Str → Bool} {p : Pat} {a : PM.E} {tg ea : Expr} {pos : Pos} (hd : Gd L X E k top) (hN : X.N = N) (hk : X.env.scope.kind = .function) (h : ckSet L N p a X.env.scope top tg ea = true) : SS L X E (evS L.T (.set p a)) (.Assign [tg] ea pos) := by
  unfold ckSet at h
  split at h
  · rename_i x py
    split at h
    · rename_i i
      simp only [Bool.and_eq_true, decide_eq_true_eq] at h
      obtain ⟨h1, h2, h3⟩ := h
      obtain ⟨l1, l2⟩ := loc_ok hd.fn h2
      have hi : X.N[i]? = some x := by rw [hN]; exact h1
      split at h3
      · rename_i hc
        exact ss_set hd hi l1 l2 (good a _ _ _ _ _ h3 hd hN) (swap_no hc)
      · split at h3
        · rename_i elt gens scope cp hc
          have hsw := swB_ok (X := X) (x := x) (py := py) (p := cp) (elt := elt) (gens := gens) (scope := scope) (n := pos.line) hk
          split at h3
          · rename_i e
            rw [e] at hsw
            exact ss_set hd hi l1 l2 (good a _ _ _ _ _ h3 hd hN) hsw
          · rename_i e
            rw [e] at hsw
            simp only [Bool.and_eq_true, decide_eq_true_eq] at h3
            obtain ⟨h4, h5, h6⟩ := h3
            -- the comprehension itself
            have main : ∀ (mk : Bool) (own : List Nat) (tg : Pat) (it : It) (t el : PM.E), ckE L N (.lc own tg it t el) X.env.scope top (.ListComp elt gens scope cp) = true →
                SS L X E (fun e g => (lcM mk (evE L.T (.lc own tg it t el) e g)).st e fun x g => match bindP g (.nm i) x e with
                  | some e' => .nx e' g
                  | none => .bad) (.Assign [.Name x py] (.ListComp elt gens scope cp) pos) := by
              intro mk own tg it t el hck
              have h0 := hck
              unfold ckE at hck
              split at hck
              · rename_i ee et ei ifs as sc2 cp2 heq
                cases heq
                obtain ⟨e1, e2, c⟩ := lc_parts (goodi it) (good t) (good el) h0 hd hN
                subst e1
                have q := ss_lc (mk := mk) hd c (i := i) hi h4 (py := py) (spos := pos) hsw
                have ee : (ownP N own).map (fun (q : Str × Nat) => q.2) = own := e2
                rw [ee] at q
                rw [evE_lc]
                exact q
              · cases hck
            cases a <;> first | (cases h5; done) | skip
            · rename_i b
              cases b <;> first | (cases h5; done) | skip
              exact main true _ _ _ _ _ h6
            · exact main false _ _ _ _ _ h6
        · cases h3
    · cases h
  · simp only [Bool.and_eq_true] at h
    exact ss_asg hd (ckP_ok hd hN h.2.1) (good a _ _ _ _ _ h.2.2 hd hN) swap_tup (swapped_tup h.1)
  · cases h
mutual
theorem goodT : ∀ s : S, GoodT L N s
  | .expr a => fun X E k top st h hs hN => by
    unfold ckS at h
    split at h
    · rw [Bool.and_eq_true] at h
      exact ss_expr (good a _ _ _ _ _ h.2 hs.gd hN) h.1
    · cases h
  | .meth m o es => fun X E k top st h hs hN => by
    unfold ckS at h
    split at h
    · simp only [Bool.and_eq_true, decide_eq_true_eq] at h
      obtain ⟨h1, h2, h3, h4, h5, h6, h7⟩ := h
      split at h7
      · rename_i b
        have qq : (fun e g => (evE L.T o e g).st e fun x g => grdS (isLC g x) ((evE L.T b e g).st e fun u g => match mtU g m x [u] with
          | some g' => .nx e g'
          | none => .bad)) = evS L.T (.meth m o (.cons b .nil)) := by
          funext e g
          show _ = (evE L.T o e g).st e fun x g => grdS (isLC g x) (((evE L.T b e g).bd fun y g => (Res.ok ([] : List U) g).bd fun l g => Res.ok (y :: l) g).st e fun l g => match mtU g m x l with
            | some g' => .nx e g'
            | none => .bad)
          congr 1
          funext x g1
          congr 1
          cases evE L.T b e g1 <;> rfl
        rw [← qq]
        exact ss_meth1 hs.gd h1 h2 h3 h4 h5 (good o _ _ _ _ _ h6 hs.gd hN) (good b _ _ _ _ _ h7 hs.gd hN)
      · cases h7
    · cases h
  | .set p a => fun X E k top st h hs hN => by
    unfold ckS at h
    split at h
    · rw [Bool.and_eq_true, decide_eq_true_eq] at h
      exact set_ok hs.gd hN h.1 h.2
    · cases h
  | .setIx o i a => fun X E k top st h hs hN => by
    unfold ckS at h
    split at h
    · simp only [Bool.and_eq_true] at h
      exact ss_setIx hs.gd (good o _ _ _ _ _ h.2.1 hs.gd hN) (good i _ _ _ _ _ h.2.2.1 hs.gd hN) (good a _ _ _ _ _ h.2.2.2 hs.gd hN) h.1
    · cases h
  | .ite c a b => fun X E k top st h hs hN => by
    unfold ckS at h
    split at h
    · simp only [Bool.and_eq_true] at h
      exact ss_ite (good c _ _ _ _ _ h.1 hs.gd hN) (goodTs a _ _ _ _ _ h.2.1 hs hN) (goodTs b _ _ _ _ _ h.2.2 hs hN)
    · cases h
  | .for_ p it b => fun X E k top st h hs hN => by
    unfold ckS at h
    split at h
    · simp only [Bool.and_eq_true] at h
      exact ss_for hs (goodi it _ _ _ _ _ _ h.2.2.1 hs.gd hN) (ckP_ok hs.gd hN h.2.1) (goodTs b _ _ _ _ _ h.2.2.2 hs hN) h.1
    · cases h
  | .while_ n c b => fun X E k top st h hs hN => by
    unfold ckS at h
    split at h
    · simp only [Bool.and_eq_true] at h
      exact ss_while hs (good c _ _ _ _ _ h.1 hs.gd hN) (goodTs b _ _ _ _ _ h.2 hs hN)
    · cases h
  | .ret a => fun X E k top st h hs hN => by
    unfold ckS at h
    split at h
    · exact ss_ret (good a _ _ _ _ _ h hs.gd hN)
    · cases h
  | .ret0 => fun X E k top st h hs hN => by
    unfold ckS at h
    split at h
    · exact ss_ret0
    · cases h
  | .raise c es => fun X E k top st h hs hN => by
    unfold ckS at h
    split at h
    · simp only [Bool.and_eq_true] at h
      obtain ⟨h1, h2, h3, h4⟩ := h
      obtain ⟨e1, hg⟩ := cal_ok h1
      cases hf : hasF c with
      | true =>
        rw [hf] at h4
        dsimp only at h4
        split at h4
        · rw [Bool.and_eq_true] at h4
          exact ss_raise hs.gd (mk_1 hs.gd h2 hf e1 (dbg_of h3) hg (goods es _ _ _ _ _ h4.2 hs.gd hN)) fun e g l g' q => by rw [evEs_len q]; exact of_decide_eq_true h4.1
        · cases h4
      | false =>
        rw [hf] at h4
        dsimp only at h4
        split at h4
        · have := of_decide_eq_true h4
          subst this
          exact ss_raise hs.gd (ms := evEs L.T (.cons (.str _) .nil)) (mk_m hs.gd h2 hf e1 (dbg_of h3) hg) fun e g l g' q => by rw [evEs_len q]; exact Nat.le_of_ble_eq_true rfl
        · exact ss_raise hs.gd (ms := evEs L.T .nil) (mk_0 hs.gd h2 hf e1 (dbg_of h3) hg) fun e g l g' q => by rw [evEs_len (es := .nil) q]; exact Nat.zero_le _
        · cases h4
    · cases h
  | .pass => fun X E k top st h hs hN => by
    unfold ckS at h
    split at h
    · exact ss_pass
    · cases h
  | .brk => fun X E k top st h hs hN => by
    unfold ckS at h
    split at h
    · exact ss_brk
    · cases h
  | .cont => fun X E k top st h hs hN => by
    unfold ckS at h
    split at h
    · exact ss_cont
    · cases h
  | .setFld _ _ _ => fun X E k top st h hs hN => by unfold ckS at h; cases h
  | .aug _ _ _ => fun X E k top st h hs hN => by unfold ckS at h; cases h
  | .augFld _ _ _ _ => fun X E k top st h hs hN => by unfold ckS at h; cases h
  | .try_ _ _ _ _ => fun X E k top st h hs hN => by unfold ckS at h; cases h
theorem goodTs : ∀ s : Ss, GoodTs L N s
  | .nil => fun X E k top l h hs hN => by
    unfold ckSs at h
    split at h
    · exact sss_nil
    · cases h
  | .cons s r => fun X E k top l h hs hN => by
    unfold ckSs at h
    split at h
    · rw [Bool.and_eq_true] at h
      exact sss_cons (goodT s _ _ _ _ _ h.1 hs hN) (goodTs r _ _ _ _ _ h.2 hs hN)
    · cases h
end
end
end PM
set_option maxRecDepth 100000
set_option maxHeartbeats 4000000
/-! PM, second part, d: a def keeps its promise; all defs, level by level. -/
namespace PM
open PySem PySem.Spec PyProof.Rows L2
def scopeB (N ps : List Str) (sc : Scope) : Bool := decide (sc.kind = .function) && (!sc.isCoroutine && (!sc.isGenerator && (decide N.Nodup && (decide (N.take ps.length = ps) && (ps.all (fun x => match sc.names.lookup x with
  | some .local => true
  | some .cell => true
  | _ => false) && sc.names.all fun y => decide (y.2 ≠ .free))))))
theorem scope_ok {N ps : List Str} {sc : Scope} (h : scopeB N ps sc = true) : FnScope N ps sc := by
  unfold scopeB at h
  simp only [Bool.and_eq_true, decide_eq_true_eq, Bool.not_eq_true', List.all_eq_true] at h
  obtain ⟨h1, h2, h3, h4, h5, h6, h7⟩ := h
  refine ⟨h1, h2, h3, h4, h5, fun x hx => ?_, h7⟩
  have := h6 x hx
  split at this
  · left; assumption
  · right; assumption
  · cases this
/-- a def's run -/
def runD (T : Tb) (np n : Nat) (b : Ss) (us : List U) (g : G) : Res U := match decide (us.length = np) with
  | true => evD T n b us g
  | false => .bad
theorem envR_start {S : Sg} {W : Wd} {H : Hp} {us : List U} {vs : List V} (N : List Str) (r : RUs S W H us vs) : EnvR S W H (us.map some ++ List.replicate (N.length - us.length) none) (L2.start N vs) := by
  unfold L2.start
  have hl := r.length
  refine ⟨by simp [hl], fun i u h => ?_⟩
  by_cases hi : i < us.length
  · rw [List.getElem?_append_left (by rw [List.length_map]; exact hi), List.getElem?_map] at h
    cases hu : us[i]? with
    | none => rw [hu] at h; cases h
    | some w =>
      rw [hu] at h
      cases h
      obtain ⟨v, hv, rv⟩ := r.get hu
      refine ⟨v, ?_, rv⟩
      rw [List.getElem?_append_left (by rw [List.length_map, ← hl]; exact hi), List.getElem?_map, hv]; rfl
  · rw [List.getElem?_append_right (by rw [List.length_map]; omega)] at h
    rw [List.getElem?_replicate] at h
    split at h <;> cases h
theorem def_ok {L : Law} {P : Program} {w : World} {mg : Str → Option Value} {base : Heap} {k : Nat} (k3 : 3 ≤ k) (fc : Fct L P w mg base k) {x qual : Str} {pa : Arguments} {body : List Stmt} {sc : Scope} {kws : List (Str × V)} {f : Addr} {fd : FuncData} {N ps : List Str} {b : Ss}
    (F : FunD L.S.K x qual pa body sc [] kws f fd) (hs : scopeB N ps sc = true) (hc : ckSs L N b sc (fun _ => true) body = true) : FnOk P w L.S.K mg base (L2.CX P w) (k + 1) f fd ps (SpF L.S (runD L.T ps.length N.length b)) := by
  have S := scope_ok hs
  refine F.ok (CX := L2.CX P w) S (fun vs H Q E h => ?_) (fun cdv A outer s H vs Q E hr h => ?_)
  · obtain ⟨W, g, us, hr, ru, po⟩ := h
    unfold runD at po
    split at po
    · rename_i e
      rw [← ru.length]; exact of_decide_eq_true e
    · exact po.elim
  · obtain ⟨W, g, us, hr0, ru, po⟩ := h
    refine ⟨TSv L.S (fun c d _ H => E c d H) (evSs L.T b), ?_, us.map some ++ List.replicate (N.length - us.length) none, W, g, envR_start N ru, hr0, ?_⟩
    · have gd : Gd L (cxOf (L2.CX P w) P w L.S.K mg base N qual sc f cdv A outer s H E) (fun c d _ H => E c d H) k (fun _ => true) :=
        ⟨rfl, rfl, S.nd, hr, k3, takes_of rfl rfl rfl rfl, fc, fun _ _ => rfl⟩
      exact (goodTs b _ _ _ _ _ hc ⟨gd, passes_of rfl, rfl, rfl⟩ rfl).ps
    · unfold runD at po
      split at po
      · unfold evD at po
        cases he : evSs L.T b (us.map some ++ List.replicate (N.length - us.length) none) g with
        | nx e g' => rw [he] at po; exact fun W' H' σ' x h1 _ => po W' H' .non x h1 .non
        | rt u g' => rw [he] at po; exact po
        | bk e g' => rw [he] at po; exact po.elim
        | ct e g' => rw [he] at po; exact po.elim
        | err x e g' => rw [he] at po; exact fun W' H' σ' c d x h1 _ h2 => po W' H' c d x h1 h2
        | bad => rw [he] at po; exact po.elim
      · exact po.elim
/-! ### level by level -/
def Law.wf (L : Law) (F : Nat → List U → G → Res U) : Law := { L with T := { L.T with fn := F } }
theorem ck_wf {L : Law} {F : Nat → List U → G → Res U} {N : List Str} {s : Ss} {sc : Scope} {top : Str → Bool} {l : List Stmt} : ckSs (L.wf F) N s sc top l = ckSs L N s sc top l := by kernel_rfl
/-- a def's datum: its parameters' number, its slots' number, its body -/
structure Cd where
  np : Nat
  n : Nat
  b : Ss
def lev (L : Law) (code : Nat → Option Cd) : Nat → Nat → List U → G → Res U
  | 0, _, _, _ => .bad
  | k + 1, f, us, g => match code f with
    | some c => runD (L.wf (lev L code k)).T c.np c.n c.b us g
    | none => .bad
end PM
set_option maxRecDepth 100000
set_option maxHeartbeats 4000000
/-! PM, second part, e: facts by names; all defs; the law. -/
namespace PM
open PySem PySem.Spec PyProof.Rows L2
/-- the names of a law's text, its defs' bodies -/
structure Nz where
  gv : Nat → Option U
  cs : Nat → Bool
  fnN : Nat → Str
  gvN : Nat → Str
  clN : Nat → Str
  fld : Nat → Str
  xf : Nat → Str
  dn : Nat → Bool
  code : Nat → Option Cd
def Nz.law (z : Nz) (K : PySem.W.Frag) : Law := ⟨⟨K, fun c => He.ga K (z.clN c), z.fld, z.xf⟩, ⟨z.gv, z.cs, fun _ _ _ => .bad⟩, z.fnN, z.gvN, z.clN, z.dn⟩
theorem ck_K {z : Nz} {K : PySem.W.Frag} {N : List Str} {s : Ss} {sc : Scope} {top : Str → Bool} {l : List Stmt} : ckSs (z.law K) N s sc top l = ckSs (z.law []) N s sc top l := by kernel_rfl
/-! ### classes of exceptions -/
def oexB (K : PySem.W.Frag) (C : Addr) : Bool := (match K.lookup C with
  | some ⟨.type "type", _, .cls ⟨_, _, m, _, _, h, _, _, _, _, del⟩, sl⟩ => (match m, sl.toList with
    | .ref C' :: bm, [_, _, _, _, some (.builtin n), _] => decide (C' = C) && (decide (n = "ValueError.__new__") && (h && (!del && PySem.HandSPX.refsVE bm)))
    | _, _ => false)
  | _ => false) && (decide (PySem.W.findIn K (.ref C) "__setattr__" = some (some (.builtin "object.__setattr__"))) && (decide (PySem.W.subIn K (.ref C) (.type "BaseException") = some true) && (decide (PySem.W.typeIn K (.ref C) = some (.type "type")) && PySem.W.keepIn K (.ref C))))
theorem oexB_ok {K : PySem.W.Frag} {C : Addr} (h : oexB K C = true) : OexC K C := by
  unfold oexB at h
  simp only [Bool.and_eq_true, decide_eq_true_eq] at h
  obtain ⟨h1, h2, h3, h4, h5⟩ := h
  refine ⟨?_, h2, h3, h4, h5⟩
  split at h1
  · rename_i dd nm bs m ns qn hd sn sub ab col del sl hl
    split at h1
    · rename_i C' bm k0 k1 k2 k3 n k5 hs
      simp only [Bool.and_eq_true, decide_eq_true_eq, Bool.not_eq_true'] at h1
      obtain ⟨rfl, rfl, hh, hdel, hr⟩ := h1
      subst hh hdel
      have hsl : sl = #[k0, k1, k2, k3, some (.builtin "ValueError.__new__"), k5] := by
        obtain ⟨l⟩ := sl
        have hs' : l = _ := hs
        rw [hs']
      subst hsl
      exact ⟨nm, qn, ns, bs, bm, sn, sub, ab, col, dd, k0, k1, k2, k3, k5, hl, hr⟩
    · cases h1
  · cases h1
def excB (K : PySem.W.Frag) (D : Addr) : Bool := decide (PySem.W.findIn K (.ref D) "__getattribute__" = some (some (.builtin "BaseException.__getattribute__"))) && (decide (PySem.W.findIn K (.ref D) "__getattr__" = some none) && (decide (PySem.W.subIn K (.ref D) (.type "BaseException") = some true) && (PySem.W.hasDictIn K D &&
  (decide (PySem.W.findIn K (.ref D) "__class__" = some (some (.builtin "object.__class__"))) && (decide (PySem.W.specialIn K (.builtin "object.__class__") "__get__" = some (some (.builtin "getset_descriptor.__get__"))) && (decide (PySem.W.takesIn K (.builtin "object.__class__") = some true) && decide (PySem.W.mroIn K D (.type "object") = some true)))))))
theorem excB_ok {K : PySem.W.Frag} {D : Addr} (h : excB K D = true) : ExcC K D := by
  unfold excB at h
  simp only [Bool.and_eq_true, decide_eq_true_eq] at h
  obtain ⟨h1, h2, h3, h4, h5, h6, h7, h8⟩ := h
  exact ⟨h1, h2, h3, h4, h5, h6, h7, h8⟩
/-- all that is asked of the classes in the list -/
def xcB (z : Nz) (cl : List Nat) (K : PySem.W.Frag) : Bool := cl.all fun c => excB K (He.ga K (z.clN c)) && (He.eqO (PySem.W.nsIn K mainGlobals (z.clN c)) (some (some (.ref (He.ga K (z.clN c))))) && (cl.all (fun d => decide (PySem.W.kitOne K (.ref (He.ga K (z.clN c))) (.ref (He.ga K (z.clN d))) = some (subC c d)) && decide (PySem.W.exmOne K (.ref (He.ga K (z.clN c))) (.ref (He.ga K (z.clN d))) = some (subC c d))) &&
  (decide (PySem.W.kitOne K (.ref (He.ga K (z.clN c))) (.type "ValueError") = some true) && (PySem.W.keepIn K (.ref (He.ga K (z.clN c))) && (decide (PySem.W.subIn K (.ref (He.ga K (z.clN c))) (.type "BaseException") = some true) && (decide (PySem.W.typeIn K (.ref (He.ga K (z.clN c))) = some (.type "type")) && (match hasF c with
    | true => oexB K (He.ga K (z.clN c)) && (xfB K (He.ga K (z.clN c)) && (decide (PySem.W.findIn K (.ref (He.ga K (z.clN c))) (z.xf c) = some none) && (decide (PySem.W.findIn K (.ref (He.ga K (z.clN c))) "__init__" = some (some (.ref (He.ma K (He.ga K (z.clN c)) "__init__")))) && decide (PySem.W.typeIn K (.ref (He.ma K (He.ga K (z.clN c)) "__init__")) = some (.type "function")))))
    | false => PySem.W.excIn K (He.ga K (z.clN c)) [.type "ValueError", .type "Exception", .type "BaseException", .type "object"] "ValueError.__new__")))))))
theorem xcB_ok {z : Nz} {cl : List Nat} {K : PySem.W.Frag} {h : Heap} {mg : Str → Option Value} (X : K.In h) (G : h.Ns mainGlobals mg) (hb : xcB z cl K = true) (hcl : ∀ c, z.cs c = true → c ∈ cl) : Xc (z.law K) K mg ∧
    ∀ c, z.cs c = true → hasF c = true → PySem.W.findIn K (.ref (He.ga K (z.clN c))) "__init__" = some (some (.ref (He.ma K (He.ga K (z.clN c)) "__init__"))) ∧ PySem.W.typeIn K (.ref (He.ma K (He.ga K (z.clN c)) "__init__")) = some (.type "function") := by
  unfold xcB at hb
  rw [List.all_eq_true] at hb
  have g : ∀ c, z.cs c = true → _ := fun c hc => hb c (hcl c hc)
  simp only [Bool.and_eq_true, decide_eq_true_eq, List.all_eq_true] at g
  refine ⟨⟨fun c hc => PySem.W.mg_of X G (He.eqO_ok (g c hc).2.1), fun c hc => excB_ok (g c hc).1, fun c d hc hd => (g c hc).2.2.1 d (hcl d hd), fun c hc => (g c hc).2.2.2.1, fun c hc => ⟨(g c hc).2.2.2.2.1, (g c hc).2.2.2.2.2.1, (g c hc).2.2.2.2.2.2.1⟩, fun c hc hf => ?_, fun c hc hf => ?_⟩, fun c hc hf => ?_⟩
  · have q := (g c hc).2.2.2.2.2.2.2
    rw [hf] at q
    exact q
  · have q := (g c hc).2.2.2.2.2.2.2
    rw [hf] at q
    simp only [Bool.and_eq_true, decide_eq_true_eq] at q
    exact ⟨oexB_ok q.1, xfB_ok q.2.1, q.2.2.1⟩
  · have q := (g c hc).2.2.2.2.2.2.2
    rw [hf] at q
    simp only [Bool.and_eq_true, decide_eq_true_eq] at q
    exact q.2.2.2
end PM
set_option maxRecDepth 100000
set_option maxHeartbeats 4000000
/-! PM, second part, f: all defs keep their promises; the law's end. -/
namespace PM
open PySem PySem.Spec PyProof.Rows L2
/-! ### an exception's __init__ -/
def initB (ps : List Str) (sc : Scope) (body : List Stmt) (f : Str) : Bool := scopeB ps ps sc && (match body with
  | [.Assign [.Attribute (.Name s _) g _] (.Name y _) _] => decide (g = f) && (decide (ps.length = 2) && (nmB ps sc 0 s && nmB ps sc 1 y))
  | _ => false)
theorem init_ok {L : Law} {P : Program} {w : World} {mg : Str → Option Value} {base : Heap} {c : Nat} {x qual : Str} {pa : Arguments} {body : List Stmt} {sc : Scope} {kws : List (Str × V)} {f : Addr} {fd : FuncData} {ps : List Str} (F : FunD L.S.K x qual pa body sc [] kws f fd) (hb : initB ps sc body (L.S.xf c) = true)
    (oe : OexC L.S.K (L.S.cls c)) (hno : PySem.W.findIn L.S.K (.ref (L.S.cls c)) (L.S.xf c) = some none) : FnOk P w L.S.K mg base (L2.CX P w) 2 f fd ps (SpI L.S c) := by
  unfold initB at hb
  rw [Bool.and_eq_true] at hb
  obtain ⟨hs, hb⟩ := hb
  have S := scope_ok hs
  split at hb
  · rename_i s p1 g p2 y p3 p4
    simp only [Bool.and_eq_true, decide_eq_true_eq] at hb
    obtain ⟨h1, h2, h3, h4⟩ := hb
    subst h1
    refine F.ok (CX := L2.CX P w) S (fun vs H Q E h => ?_) (fun cdv A outer s H vs Q E hr h => ?_)
    · obtain ⟨a, v, rfl, _⟩ := h
      rw [h2]; rfl
    · obtain ⟨a, v, rfl, ha, q⟩ := h
      obtain ⟨a1, a2, a3, a4⟩ := nm_ok (X := cxOf (L2.CX P w) P w L.S.K mg base ps qual sc f cdv A outer s H E) rfl h3
      obtain ⟨b1, b2, b3, b4⟩ := nm_ok (X := cxOf (L2.CX P w) P w L.S.K mg base ps qual sc f cdv A outer s H E) rfl h4
      refine ⟨tOst L.S.K (L.S.xf c) (tVar 0) (tVar 1), pss_one (ps_ost (pe_var a1 a2 a3 a4) (pe_var b1 b2 b3 b4)), v, ?_, .ref a, ?_, a, L.S.cls c, rfl, oe, hno, .inl ⟨ha, fun dx h5 h6 => q dx h5 h6⟩⟩
      · rfl
      · rfl
  · cases hb
/-! ### all defs -/
def DefOk (z : Nz) (K : PySem.W.Frag) (mg : Str → Option Value) (f : Nat) : Prop := ∃ (addr : Addr) (fd : FuncData) (ps : List Str) (x qual : Str) (pa : Arguments) (body : List Stmt) (sc : Scope) (kws : List (Str × V)) (N : List Str) (c : Cd),
  mg (z.fnN f) = some (.ref addr) ∧ FunD K x qual pa body sc [] kws addr fd ∧ Binds K fd ps [] ∧ z.code f = some c ∧ c.np = ps.length ∧ c.n = N.length ∧ scopeB N ps sc = true ∧ ckSs (z.law []) N c.b sc (fun _ => true) body = true
structure Base (z : Nz) (K : PySem.W.Frag) (P : Program) (w : World) (mg : Str → Option Value) (base : Heap) : Prop where
  gv : ∀ x u, z.gv x = some u → ∃ v val, mg (z.gvN x) = some val ∧ RelV v val ∧ ∀ W H, RU (z.law K).S W H u v
  bt : ∀ x ∈ boots, mg x = none
  xc : Xc (z.law K) K mg
  xi : ∀ c, z.cs c = true → hasF c = true → ∃ fI fd ps, PySem.W.findIn K (.ref ((z.law K).S.cls c)) "__init__" = some (some (.ref fI)) ∧ PySem.W.typeIn K (.ref fI) = some (.type "function") ∧ Binds K fd ps [] ∧ FnOk P w K mg base (L2.CX P w) 2 fI fd ps (SpI (z.law K).S c)
  ds : ∀ f, z.dn f = true → DefOk z K mg f
def Nz.sem (z : Nz) (K : PySem.W.Frag) (k : Nat) : Nat → List U → G → Res U := lev (z.law K) z.code k
theorem level {z : Nz} {K : PySem.W.Frag} {P : Program} {w : World} {mg : Str → Option Value} {base : Heap} (B : Base z K P w mg base) : ∀ k, Fct ((z.law K).wf (z.sem K k)) P w mg base (k + 3)
  | 0 => ⟨B.gv, fun f hf => by
    obtain ⟨addr, fd, ps, x, qual, pa, body, sc, kws, N, c, h1, h2, h3, h4, h5, h6, h7, h8⟩ := B.ds f hf
    refine ⟨addr, fd, ps, h1, h2.kp, h3, fun vs H Q E h => ?_, fun A outer s H args us vs Q E hr he hb hv h => ?_⟩
    · obtain ⟨W, g, us, _, _, po⟩ := h
      exact po.elim
    · obtain ⟨W, g, us, _, _, po⟩ := h
      exact po.elim, B.bt, ⟨B.xc.nm, B.xc.isE, B.xc.sub, B.xc.ve, B.xc.kp, B.xc.ex, B.xc.oe⟩, B.xi⟩
  | k + 1 => ⟨B.gv, fun f hf => by
    obtain ⟨addr, fd, ps, x, qual, pa, body, sc, kws, N, c, h1, h2, h3, h4, h5, h6, h7, h8⟩ := B.ds f hf
    refine ⟨addr, fd, ps, h1, h2.kp, h3, ?_⟩
    have q := def_ok (L := (z.law K).wf (z.sem K k)) (by omega) (level B k) h2 h7 (b := c.b) (by rw [ck_wf, ck_K]; exact h8)
    have e : ((z.law K).wf (z.sem K (k + 1))).T.fn f = runD ((z.law K).wf (z.sem K k)).T ps.length N.length c.b := by
      show lev (z.law K) z.code (k + 1) f = _
      funext us g
      show (match z.code f with
        | some c => runD ((z.law K).wf (lev (z.law K) z.code k)).T c.np c.n c.b us g
        | none => .bad) = _
      rw [h4]
      show runD ((z.law K).wf (lev (z.law K) z.code k)).T c.np c.n c.b us g = _
      rw [h5, h6]; rfl
    rw [e]
    exact q, B.bt, ⟨B.xc.nm, B.xc.isE, B.xc.sub, B.xc.ve, B.xc.kp, B.xc.ex, B.xc.oe⟩, B.xi⟩
/-! ### the law -/
def CXn : CXT := fun _ _ _ _ _ _ => False
/-- the law's promise -/
def SpL (S : Sg) (sem : List U → G → Res U) : Sp := fun vs H Q _ => SpF S sem vs H Q fun _ _ _ => False
theorem toL {P : Program} {w : World} {K : PySem.W.Frag} {mg : Str → Option Value} {base : Heap} {k : Nat} {f : Addr} {fd : FuncData} {ps : List Str} {S : Sg} {sem : List U → G → Res U} (F : FnOk P w K mg base (L2.CX P w) k f fd ps (SpF S sem)) : FnOk P w K mg base CXn k f fd ps (SpL S sem) := by
  refine ⟨fun vs H Q E h => F.len vs H Q _ h, fun A outer s H args us vs Q E hr he hb hv h => codeAny_mono (F.run A outer s H args us vs Q _ hr he hb hv h) fun r s' q => ?_⟩
  cases r with
  | ok fl => cases fl <;> exact q
  | error e =>
    obtain ⟨a, B, H', cls, d, _, _, _, _, _, _, _, z⟩ := q
    exact z.elim
theorem law_in {z : Nz} {K : PySem.W.Frag} {sem : List U → G → Res U} (hs : ∀ ns : List Int, ns.length ≤ 63 → ∃ g', sem [.scr ns] [] = .ok (.bl true) g') (H : Hp) (a : Addr) (ns : List Int) (hl : ns.length ≤ 63) (sq : SqL K H a (ns.map V.int)) : SpL (z.law K).S sem [.ref a] H (fun v _ => v = .bl true) fun _ _ _ => False := by
  obtain ⟨g', e⟩ := hs ns hl
  have fin : ∀ W : Wd, RU (z.law K).S W H (.scr ns) (.ref a) → HR (z.law K).S W [] H → SpL (z.law K).S sem [.ref a] H (fun v _ => v = .bl true) fun _ _ _ => False := fun W r hr => by
    refine ⟨W, [], [.scr ns], hr, .cons r .nil, ?_⟩
    rw [e]
    intro W' H' b _ _ rb
    cases rb; rfl
  have no : ∀ {n : Nat} {c : Cell}, gat [] n = some c → False := fun {n c} h => by simp [gat] at h
  have ow : ∀ {W : Wd} {b : Addr}, own W [] b → False := fun {W b} ⟨n, c, h, _⟩ => no h
  rcases sq with sq | sq
  · have hr : HR (z.law K).S ⟨fun _ => none, fun b => b = a⟩ [] H := by
      refine ⟨fun n c h => (no h).elim, fun n m c d a h => (no h).elim, fun b o => (ow o).elim, fun b f => ?_, fun n b h => (nomatch h), fun n b h => (nomatch h)⟩
      have f : b = a := f
      subst f
      rcases sq with sq | ⟨o, sq⟩
      · rw [sq]; exact fun z => nomatch z
      · rw [sq]; exact fun z => nomatch z
    exact fin ⟨fun _ => none, fun b => b = a⟩ (.scr (.inl ⟨rfl, sq⟩)) hr
  · have hr : HR (z.law K).S ⟨fun _ => none, fun _ => False⟩ [] H :=
      ⟨fun n c h => (no h).elim, fun n m c d a h => (no h).elim, fun b o => (ow o).elim, fun b f => f.elim, fun n b h => (nomatch h), fun n b h => (nomatch h)⟩
    exact fin ⟨fun _ => none, fun _ => False⟩ (.scr (.inr (.inr sq))) hr
end PM
set_option maxRecDepth 100000
set_option maxHeartbeats 4000000
/-! PM, second part, g: the head's hook; a law from its data. -/
namespace PM
open PySem PySem.Spec PyProof.Rows L2
def obsP (fa : List He.Fa) (fn : List He.DefD) (ex : PySem.W.Frag → Bool) (K : PySem.W.Frag) : He.AlD := ((He.obsD fa fn K).1 && ex K, (He.obsD fa fn K).2)
def obsPG (n : Nat) (fa : List He.Fa) (fn : List He.DefD) (ex : PySem.W.Frag → Bool) (g : Addr → Option Obj) : He.AlD := obsP fa fn ex (He.frG g (He.asD g n))
def hookP (n : Nat) (fa : List He.Fa) (fn : List He.DefD) (ex : PySem.W.Frag → Bool) : PySem.W.Hook where
  α := He.AlD
  obs := fun s => obsPG n fa fn ex s.heap.get?
  val := fun _ => He.valD fn
  says := fun _ h => ∃ K : PySem.W.Frag, K.In h ∧ obsP fa fn ex K = He.valD fn
  of := fun _ _ e => ⟨_, He.frG_in, e⟩
  keeps := fun _ _ _ ⟨K, hK, c⟩ k => ⟨K, PySem.W.Frag.In.keeps hK k, c⟩
theorem obsPG_eq {n : Nat} {fa : List He.Fa} {fn : List He.DefD} {ex : PySem.W.Frag → Bool} {g : Addr → Option Obj} {s : Shared} (h : ∀ a, g a = s.heap.get? a) : obsPG n fa fn ex g = (hookP n fa fn ex).obs s := by
  have e : g = s.heap.get? := funext h
  rw [e] <;> rfl
theorem obsP_ok {fa : List He.Fa} {fn : List He.DefD} {ex : PySem.W.Frag → Bool} {K : PySem.W.Frag} (c : obsP fa fn ex K = He.valD fn) : He.SaysD fa fn K ∧ ex K = true := by
  have c1 : ((He.obsD fa fn K).1 && ex K) = true := congrArg (fun q : He.AlD => q.1) c
  have c2 : (He.obsD fa fn K).2 = fn.map He.DefD.val := congrArg (fun q : He.AlD => q.2) c
  rw [Bool.and_eq_true] at c1
  exact ⟨Prod.ext c1.1 c2, c1.2⟩
theorem says_all {fa : List He.Fa} {fn : List He.DefD} {K : PySem.W.Frag} (c : He.SaysD fa fn K) {f : He.Fa} (h : f ∈ fa) : f.ok K = true := by
  obtain ⟨i, hi⟩ := List.getElem?_of_mem h
  exact c.fact i hi
/-- a def's datum, of the head's facts -/
theorem defOk_of {z : Nz} {fa : List He.Fa} {fn : List He.DefD} {K : PySem.W.Frag} {h : Heap} {mg : Str → Option Value} (X : K.In h) (G : h.Ns mainGlobals mg) (c : He.SaysD fa fn K) {f : Nat} {d : He.DefD} {N ps : List Str} {cd : Cd} (i : Nat) (hi : fn[i]? = some d)
    (h1 : d.at_ = (z.fnN f, none)) (h2 : d.dfl = []) (hg : He.Fa.glo (z.fnN f) ∈ fa)
    (hb : ∀ (kV doc pm : Value) (an : Option Addr) (cdv ct : Value) (us : List Value), us.length = ps.length → bindArgs (PySem.W.fnOf d.name d.qual d.params d.body d.scope .none kV doc pm an cdv ct) ⟨us, []⟩ = pure (ps.zip us))
    (hc : z.code f = some cd) (h3 : cd.np = ps.length) (h4 : cd.n = N.length) (h5 : scopeB N ps d.scope = true) (h6 : ckSs (z.law []) N cd.b d.scope (fun _ => true) d.body = true) : DefOk z K mg f := by
  obtain ⟨fd, F⟩ := c.def_ i hi
  have e : d.dvs K = [] := by unfold He.DefD.dvs; rw [h2]; rfl
  rw [e] at F
  have hm := He.glo_ok X G (says_all c hg)
  have ea : He.fAd K d.at_ = He.ga K (z.fnN f) := by rw [h1]; rfl
  rw [ea] at F
  exact ⟨_, fd, ps, d.name, d.qual, d.params, d.body, d.scope, d.kws K, N, cd, hm, F, FunD.bindsN F hb, hc, h3, h4, h5, h6⟩
/-- an exception's __init__ -/
theorem initOk_of {z : Nz} {fa : List He.Fa} {fn : List He.DefD} {K : PySem.W.Frag} {P : Program} {w : World} {mg : Str → Option Value} {base : Heap} (c : He.SaysD fa fn K) (xc : Xc (z.law K) K mg) {cl : Nat} {d : He.DefD} {ps : List Str} (i : Nat) (hi : fn[i]? = some d)
    (h1 : d.at_ = (z.clN cl, some ("__init__" : Str))) (h2 : d.dfl = []) (hcs : z.cs cl = true) (hf : hasF cl = true)
    (hb : ∀ (kV doc pm : Value) (an : Option Addr) (cdv ct : Value) (us : List Value), us.length = ps.length → bindArgs (PySem.W.fnOf d.name d.qual d.params d.body d.scope .none kV doc pm an cdv ct) ⟨us, []⟩ = pure (ps.zip us))
    (h5 : initB ps d.scope d.body (z.xf cl) = true)
    (hq : PySem.W.findIn K (.ref (He.ga K (z.clN cl))) "__init__" = some (some (.ref (He.ma K (He.ga K (z.clN cl)) "__init__"))) ∧ PySem.W.typeIn K (.ref (He.ma K (He.ga K (z.clN cl)) "__init__")) = some (.type "function")) :
    ∃ fI fd ps, PySem.W.findIn K (.ref ((z.law K).S.cls cl)) "__init__" = some (some (.ref fI)) ∧ PySem.W.typeIn K (.ref fI) = some (.type "function") ∧ Binds K fd ps [] ∧ FnOk P w K mg base (L2.CX P w) 2 fI fd ps (SpI (z.law K).S cl) := by
  obtain ⟨fd, F⟩ := c.def_ i hi
  have e : d.dvs K = [] := by unfold He.DefD.dvs; rw [h2]; rfl
  rw [e] at F
  have ea : He.fAd K d.at_ = He.ma K (He.ga K (z.clN cl)) "__init__" := by rw [h1]; rfl
  rw [ea] at F
  obtain ⟨o1, o2, o3⟩ := xc.oe cl hcs hf
  exact ⟨_, fd, ps, hq.1, hq.2, FunD.bindsN F hb, init_ok (L := z.law K) F h5 o1 o3⟩
/-! ### the tables, by levels -/
def Nz.fns (z : Nz) : Nat → Nat → List U → G → Res U
  | 0, _, _, _ => .bad
  | k + 1, f, us, g => match z.code f with
    | some c => runD ⟨z.gv, z.cs, z.fns k⟩ c.np c.n c.b us g
    | none => .bad
def Nz.tb (z : Nz) (k : Nat) : Tb := ⟨z.gv, z.cs, z.fns k⟩
theorem tb_eq {z : Nz} {K : PySem.W.Frag} : ∀ k, ((z.law K).wf (z.sem K k)).T = z.tb k
  | 0 => by
    show (⟨z.gv, z.cs, lev (z.law K) z.code 0⟩ : Tb) = ⟨z.gv, z.cs, _⟩
    congr 1
  | k + 1 => by
    show (⟨z.gv, z.cs, lev (z.law K) z.code (k + 1)⟩ : Tb) = ⟨z.gv, z.cs, _⟩
    congr 1
    funext f us g
    show (match z.code f with
      | some c => runD ((z.law K).wf (lev (z.law K) z.code k)).T c.np c.n c.b us g
      | none => .bad) = (match z.code f with
      | some c => runD (z.tb k) c.np c.n c.b us g
      | none => .bad)
    have := tb_eq (z := z) (K := K) k
    unfold Nz.sem at this
    rw [this]
/-- the law's def, walked -/
theorem law_of {z : Nz} {K : PySem.W.Frag} {P : Program} {w : World} {mg : Str → Option Value} {base : Heap} (B : Base z K P w mg base) (k : Nat) {x qual : Str} {pa : Arguments} {body : List Stmt} {sc : Scope} {kws : List (Str × V)} {f : Addr} {fd : FuncData} {N ps : List Str} {b : Ss}
    (F : FunD K x qual pa body sc [] kws f fd) (hs : scopeB N ps sc = true) (hc : ckSs (z.law []) N b sc (fun _ => true) body = true) : FnOk P w K mg base CXn (k + 4) f fd ps (SpL (z.law K).S (runD (z.tb k) ps.length N.length b)) := by
  have q := def_ok (L := (z.law K).wf (z.sem K k)) (by omega) (level B k) F hs (b := b) (by rw [ck_wf, ck_K]; exact hc)
  rw [tb_eq] at q
  exact toL q
end PM
set_option maxRecDepth 100000
set_option maxHeartbeats 0
namespace K27
open PySem PySem.Spec PyProof.Rows L2 PM
/-! ### the text's parts, the machine's terms -/
def tp (i : Nat) : Stmt := PySem.Challenge.pw_beatnet_k27_refusals_made.main.body.getD i (.Pass ⟨0, 0, 0, 0⟩)
def N__law_cell_at : List Str := ["script", "k"]
def b__law_cell_at : Ss := (.cons (.ite (.cmp .Lt (.var 1) (.blt .len (.cons (.var 0) .nil))) (.cons (.ret (.ix (.var 0) (.var 1))) .nil) .nil) (.cons (.ret (.int 0)) .nil))
def N__law_bag : List Str := ["cell", "k"]
def b__law_bag : Ss := (.cons (.ret (.mk (.lst (.cons (.blt .max (.cons (.int 0) (.cons (.bin .Sub (.var 0) (.bin .Pow (.int 10) (.int 18))) .nil))) (.cons (.bin .Add (.bin .Mod (.var 0) (.int 162259276829213363391578010288127)) (.bin .Mult (.int 7919) (.bin .Add (.var 1) (.int 1)))) (.cons (.int 0) .nil)))))) .nil)
def N__law_take : List Str := ["bag", "many", "mixed", "found"]
def b__law_take : Ss := (.cons (.ite (.cmp .Gt (.ix (.var 0) (.int 0)) (.int 1)) (.cons (.set (.nm 3) (.bin .Mod (.ix (.var 0) (.int 0)) (.var 1))) (.cons (.setIx (.var 0) (.int 0) (.bin .FloorDiv (.ix (.var 0) (.int 0)) (.var 1))) (.cons (.ret (.var 3)) .nil))) .nil) (.cons (.setIx (.var 0) (.int 2) (.bin .Add (.ix (.var 0) (.int 2)) (.int 1))) (.cons (.set (.nm 2) (.bin .Mod (.bin .Pow (.bin .Add (.ix (.var 0) (.int 1)) (.bin .Mult (.int 1299709) (.ix (.var 0) (.int 2)))) (.int 3)) (.int 162259276829213363391578010288127))) (.cons (.set (.nm 2) (.bin .Mod (.bin .Pow (.bin .Add (.var 2) (.bin .Mult (.int 15485863) (.ix (.var 0) (.int 2)))) (.int 5)) (.int 618970019642690137449562111))) (.cons (.ret (.bin .Mod (.bin .FloorDiv (.var 2) (.int 1048576)) (.var 1))) .nil)))))
def N__law_alike : List Str := ["found", "due", "k"]
def b__law_alike : Ss := (.cons (.ite (.isi (.var 1) [.list, .tuple]) (.cons (.ite (.or (.cmp .NotEq (.isi (.var 0) [.list]) (.isi (.var 1) [.list])) (.not (.isi (.var 0) [.list, .tuple]))) (.cons (.ret (.bl false)) .nil) .nil) (.cons (.ite (.cmp .NotEq (.blt .len (.cons (.var 0) .nil)) (.blt .len (.cons (.var 1) .nil))) (.cons (.ret (.bl false)) .nil) .nil) (.cons (.ret (.blt .all (.cons (.lc [2] (.nm 2) (.rng1 (.blt .len (.cons (.var 1) .nil))) (.bl true) (.call 3 (.cons (.ix (.var 0) (.var 2)) (.cons (.ix (.var 1) (.var 2)) .nil)))) .nil))) .nil))) .nil) (.cons (.ite (.or (.isi (.var 1) [.bool]) (.isi (.var 0) [.bool])) (.cons (.ret (.and (.isi (.var 1) [.bool]) (.and (.isi (.var 0) [.bool]) (.cmp .Eq (.var 0) (.var 1))))) .nil) .nil) (.cons (.ret (.cmp .Eq (.var 0) (.var 1))) .nil)))
def N__law_classes : List Str := ["caught", "found", "pairs", "word", "there"]
def b__law_classes : Ss := (.cons (.set (.nm 1) (.mk (.lst .nil))) (.cons (.set (.nm 2) (.lst (.cons (.tup (.cons (.str "Fallen") (.cons (.isi (.var 0) [.own 7]) .nil))) (.cons (.tup (.cons (.str "NoBeats") (.cons (.isi (.var 0) [.own 6]) .nil))) .nil)))) (.cons (.set (.nm 2) (.bin .Add (.var 2) (.lst (.cons (.tup (.cons (.str "NoHand") (.cons (.isi (.var 0) [.own 2]) .nil))) (.cons (.tup (.cons (.str "NoLetter") (.cons (.isi (.var 0) [.own 8]) .nil))) .nil))))) (.cons (.set (.nm 2) (.bin .Add (.var 2) (.lst (.cons (.tup (.cons (.str "NoNet") (.cons (.isi (.var 0) [.own 1]) .nil))) (.cons (.tup (.cons (.str "NoNumber") (.cons (.isi (.var 0) [.own 4]) .nil))) .nil))))) (.cons (.set (.nm 2) (.bin .Add (.var 2) (.lst (.cons (.tup (.cons (.str "NoParting") (.cons (.isi (.var 0) [.own 3]) .nil))) (.cons (.tup (.cons (.str "NoProgram") (.cons (.isi (.var 0) [.own 5]) .nil))) .nil))))) (.cons (.set (.nm 2) (.bin .Add (.var 2) (.lst (.cons (.tup (.cons (.str "NoText") (.cons (.isi (.var 0) [.own 10]) .nil))) (.cons (.tup (.cons (.str "TooLong") (.cons (.isi (.var 0) [.own 9]) .nil))) .nil))))) (.cons (.set (.nm 2) (.bin .Add (.var 2) (.lst (.cons (.tup (.cons (.str "beat") (.cons (.isi (.var 0) [.own 0]) .nil))) (.cons (.tup (.cons (.str "value") (.cons (.isi (.var 0) [.ve]) .nil))) .nil))))) (.cons (.for_ (.tup (.cons (.nm 3) (.cons (.nm 4) .nil))) (.seq (.var 2)) (.cons (.ite (.var 4) (.cons (.meth .append (.var 1) (.cons (.var 3) .nil)) .nil) .nil) .nil)) (.cons (.ret (.fz (.var 1))) .nil)))))))))
def N__law_fields : List Str := ["thing", "hand", "fallen", "letter", "late", "found"]
def b__law_fields : Ss := (.cons (.set (.nm 1) (.xnew 2 (.cons (.var 0) .nil))) (.cons (.set (.nm 2) (.xnew 7 (.cons (.var 0) .nil))) (.cons (.set (.nm 3) (.xnew 8 (.cons (.var 0) .nil))) (.cons (.set (.nm 4) (.xnew 9 (.cons (.var 0) .nil))) (.cons (.set (.nm 5) (.lst (.cons (.tup (.cons (.call 4 (.cons (.var 1) .nil)) (.cons (.xfl 2 (.var 1)) .nil))) (.cons (.tup (.cons (.call 4 (.cons (.var 2) .nil)) (.cons (.xfl 7 (.var 2)) .nil))) .nil)))) (.cons (.ret (.bin .Add (.var 5) (.lst (.cons (.tup (.cons (.call 4 (.cons (.var 3) .nil)) (.cons (.xfl 8 (.var 3)) .nil))) (.cons (.tup (.cons (.call 4 (.cons (.var 4) .nil)) (.cons (.xfl 9 (.var 4)) .nil))) .nil))))) .nil))))))
def N_law : List Str := ["script", "k", "bag", "thing", "words", "found", "j", "plain_ones", "due", "word"]
def b_law : Ss := (.cons (.for_ (.nm 1) (.rng1 (.blt .max (.cons (.int 1) (.cons (.blt .min (.cons (.int 8) (.cons (.blt .len (.cons (.var 0) .nil)) .nil))) .nil)))) (.cons (.set (.nm 2) (.call 1 (.cons (.call 0 (.cons (.var 0) (.cons (.var 1) .nil))) (.cons (.var 1) .nil)))) (.cons (.set (.nm 3) (.ix (.lst (.cons (.call 2 (.cons (.var 2) (.cons (.bin .Pow (.int 10) (.int 18)) .nil))) (.cons (.neg (.int 3)) (.cons (.bl true) (.cons .non (.cons (.str "a") (.cons (.tup (.cons (.int 1) (.cons (.int 2) .nil))) .nil))))))) (.call 2 (.cons (.var 2) (.cons (.int 6) .nil))))) (.cons (.set (.nm 4) (.lst (.cons (.str "NoHand") (.cons (.str "Fallen") (.cons (.str "NoLetter") (.cons (.str "TooLong") .nil)))))) (.cons (.set (.nm 5) (.call 5 (.cons (.var 3) .nil))) (.cons (.for_ (.nm 6) (.rng1 (.int 4)) (.cons (.ite (.or (.cmp .NotEq (.ix (.ix (.var 5) (.var 6)) (.int 0)) (.lst (.cons (.ix (.var 4) (.var 6)) (.cons (.str "beat") (.cons (.str "value") .nil))))) (.not (.call 3 (.cons (.ix (.ix (.var 5) (.var 6)) (.int 1)) (.cons (.var 3) .nil))))) (.cons (.ret (.bl false)) .nil) .nil) .nil)) (.cons (.set (.nm 7) (.lst (.cons (.call 4 (.cons (.xnew 1 .nil) .nil)) (.cons (.call 4 (.cons (.xnew 3 .nil) .nil)) (.cons (.call 4 (.cons (.xnew 4 .nil) .nil)) .nil))))) (.cons (.set (.nm 7) (.bin .Add (.var 7) (.lst (.cons (.call 4 (.cons (.xnew 5 .nil) .nil)) (.cons (.call 4 (.cons (.xnew 6 .nil) .nil)) (.cons (.call 4 (.cons (.xnew 10 .nil) .nil)) .nil)))))) (.cons (.set (.nm 8) (.lst (.cons (.str "NoNet") (.cons (.str "NoParting") (.cons (.str "NoNumber") (.cons (.str "NoProgram") (.cons (.str "NoBeats") (.cons (.str "NoText") .nil)))))))) (.cons (.ite (.cmp .NotEq (.var 7) (.lc [9] (.nm 9) (.seq (.var 8)) (.bl true) (.lst (.cons (.var 9) (.cons (.str "beat") (.cons (.str "value") .nil)))))) (.cons (.ret (.bl false)) .nil) .nil) .nil)))))))))) (.cons (.ret (.bl true)) .nil))
def code : Nat → Option Cd
  | 0 => some ⟨2, 2, b__law_cell_at⟩
  | 1 => some ⟨2, 2, b__law_bag⟩
  | 2 => some ⟨2, 4, b__law_take⟩
  | 3 => some ⟨2, 3, b__law_alike⟩
  | 4 => some ⟨1, 5, b__law_classes⟩
  | 5 => some ⟨1, 6, b__law_fields⟩
  | 6 => some ⟨1, 10, b_law⟩
  | _ => none
def fnN : Nat → Str
  | 0 => "_law_cell_at"
  | 1 => "_law_bag"
  | 2 => "_law_take"
  | 3 => "_law_alike"
  | 4 => "_law_classes"
  | 5 => "_law_fields"
  | 6 => "law"
  | _ => ""
def gvN : Nat → Str
  | _ => ""
def clN : Nat → Str
  | 0 => "BeatError"
  | 1 => "NoNet"
  | 2 => "NoHand"
  | 3 => "NoParting"
  | 4 => "NoNumber"
  | 5 => "NoProgram"
  | 6 => "NoBeats"
  | 7 => "Fallen"
  | 8 => "NoLetter"
  | 9 => "TooLong"
  | 10 => "NoText"
  | _ => ""
def xf : Nat → Str
  | 2 => "hand"
  | 7 => "hand"
  | 8 => "number"
  | 9 => "most"
  | _ => ""
def cls : List Nat := [0, 1, 2, 3, 4, 5, 6, 7, 8, 9, 10]
def cs (c : Nat) : Bool := cls.contains c
def dn (f : Nat) : Bool := decide (f < 7)
def gv (x : Nat) : Option U := none
def z : Nz := ⟨gv, cs, fnN, gvN, clN, fun _ => "", xf, dn, code⟩
/-! ### the defs as they stand -/
def d__law_cell_at : He.DefD := ⟨("_law_cell_at", none), "_law_cell_at", "_law_cell_at", defArgs (tp 13), defBody (tp 13), defScope (tp 13), [], []⟩
def d__law_bag : He.DefD := ⟨("_law_bag", none), "_law_bag", "_law_bag", defArgs (tp 14), defBody (tp 14), defScope (tp 14), [], []⟩
def d__law_take : He.DefD := ⟨("_law_take", none), "_law_take", "_law_take", defArgs (tp 15), defBody (tp 15), defScope (tp 15), [], []⟩
def d__law_alike : He.DefD := ⟨("_law_alike", none), "_law_alike", "_law_alike", defArgs (tp 16), defBody (tp 16), defScope (tp 16), [], []⟩
def d__law_classes : He.DefD := ⟨("_law_classes", none), "_law_classes", "_law_classes", defArgs (tp 17), defBody (tp 17), defScope (tp 17), [], []⟩
def d__law_fields : He.DefD := ⟨("_law_fields", none), "_law_fields", "_law_fields", defArgs (tp 18), defBody (tp 18), defScope (tp 18), [], []⟩
def d_law : He.DefD := ⟨("law", none), "law", "law", defArgs (tp 19), defBody (tp 19), defScope (tp 19), [], []⟩
def i_2 : He.DefD := ⟨("NoHand", some "__init__"), "__init__", "NoHand.__init__", defArgs (inClass (tp 3) 0), defBody (inClass (tp 3) 0), defScope (inClass (tp 3) 0), [], []⟩
def i_7 : He.DefD := ⟨("Fallen", some "__init__"), "__init__", "Fallen.__init__", defArgs (inClass (tp 8) 0), defBody (inClass (tp 8) 0), defScope (inClass (tp 8) 0), [], []⟩
def i_8 : He.DefD := ⟨("NoLetter", some "__init__"), "__init__", "NoLetter.__init__", defArgs (inClass (tp 9) 0), defBody (inClass (tp 9) 0), defScope (inClass (tp 9) 0), [], []⟩
def i_9 : He.DefD := ⟨("TooLong", some "__init__"), "__init__", "TooLong.__init__", defArgs (inClass (tp 10) 0), defBody (inClass (tp 10) 0), defScope (inClass (tp 10) 0), [], []⟩
def fnl : List He.DefD := [d__law_cell_at, d__law_bag, d__law_take, d__law_alike, d__law_classes, d__law_fields, d_law, i_2, i_7, i_8, i_9]
/-! ### the checks -/
theorem s__law_cell_at : scopeB N__law_cell_at ["script", "k"] (defScope (tp 13)) = true := by decide +kernel
theorem k__law_cell_at : ckSs (z.law []) N__law_cell_at b__law_cell_at (defScope (tp 13)) (fun _ => true) (defBody (tp 13)) = true := by decide +kernel
theorem s__law_bag : scopeB N__law_bag ["cell", "k"] (defScope (tp 14)) = true := by decide +kernel
theorem k__law_bag : ckSs (z.law []) N__law_bag b__law_bag (defScope (tp 14)) (fun _ => true) (defBody (tp 14)) = true := by decide +kernel
theorem s__law_take : scopeB N__law_take ["bag", "many"] (defScope (tp 15)) = true := by decide +kernel
theorem k__law_take : ckSs (z.law []) N__law_take b__law_take (defScope (tp 15)) (fun _ => true) (defBody (tp 15)) = true := by decide +kernel
theorem s__law_alike : scopeB N__law_alike ["found", "due"] (defScope (tp 16)) = true := by decide +kernel
theorem k__law_alike : ckSs (z.law []) N__law_alike b__law_alike (defScope (tp 16)) (fun _ => true) (defBody (tp 16)) = true := by decide +kernel
theorem s__law_classes : scopeB N__law_classes ["caught"] (defScope (tp 17)) = true := by decide +kernel
theorem k__law_classes : ckSs (z.law []) N__law_classes b__law_classes (defScope (tp 17)) (fun _ => true) (defBody (tp 17)) = true := by decide +kernel
theorem s__law_fields : scopeB N__law_fields ["thing"] (defScope (tp 18)) = true := by decide +kernel
theorem k__law_fields : ckSs (z.law []) N__law_fields b__law_fields (defScope (tp 18)) (fun _ => true) (defBody (tp 18)) = true := by decide +kernel
theorem s_law : scopeB N_law ["script"] (defScope (tp 19)) = true := by decide +kernel
theorem k_law : ckSs (z.law []) N_law b_law (defScope (tp 19)) (fun _ => true) (defBody (tp 19)) = true := by decide +kernel
theorem n_2 : initB ["self", "hand"] (defScope (inClass (tp 3) 0)) (defBody (inClass (tp 3) 0)) "hand" = true := by decide +kernel
theorem n_7 : initB ["self", "hand"] (defScope (inClass (tp 8) 0)) (defBody (inClass (tp 8) 0)) "hand" = true := by decide +kernel
theorem n_8 : initB ["self", "number"] (defScope (inClass (tp 9) 0)) (defBody (inClass (tp 9) 0)) "number" = true := by decide +kernel
theorem n_9 : initB ["self", "most"] (defScope (inClass (tp 10) 0)) (defBody (inClass (tp 10) 0)) "most" = true := by decide +kernel
end K27
set_option maxRecDepth 100000
set_option maxHeartbeats 0
namespace K27
open PySem PySem.Spec PyProof.Rows L2 PM
/-! ### the head -/
def fal : List He.Fa := (boots.map He.Fa.free) ++ [.glo "_law_cell_at", .glo "_law_bag", .glo "_law_take", .glo "_law_alike", .glo "_law_classes", .glo "_law_fields", .glo "law"]
theorem glo_in (f : Nat) (h : f < 7) : He.Fa.glo (z.fnN f) ∈ fal := by
  refine List.mem_append_right _ ?_
  match f, h with
  | 0, _ => exact List.mem_of_getElem? (i := 0) rfl
  | 1, _ => exact List.mem_of_getElem? (i := 1) rfl
  | 2, _ => exact List.mem_of_getElem? (i := 2) rfl
  | 3, _ => exact List.mem_of_getElem? (i := 3) rfl
  | 4, _ => exact List.mem_of_getElem? (i := 4) rfl
  | 5, _ => exact List.mem_of_getElem? (i := 5) rfl
  | 6, _ => exact List.mem_of_getElem? (i := 6) rfl
theorem cs_in : ∀ c, z.cs c = true → c ∈ cls := fun c h => List.contains_iff_mem.mp h
theorem base {P : Program} {w : World} {K : PySem.W.Frag} {h bs : Heap} {mg : Str → Option Value} (X : K.In h) (G : h.Ns mainGlobals mg) (c : He.SaysD fal fnl K) (ex : xcB z cls K = true) : Base z K P w mg bs := by
  obtain ⟨xc, xi⟩ := xcB_ok X G ex cs_in
  refine ⟨fun x u hx => (nomatch hx), fun x hx => He.free_ok X G (says_all c (List.mem_append_left _ (List.mem_map.mpr ⟨x, hx, rfl⟩))), xc, fun cl hcs hf => ?_, fun f hf => ?_⟩
  · have hm := cs_in cl hcs
    have hq := xi cl hcs hf
    have hcases : cl = 2 ∨ cl = 7 ∨ cl = 8 ∨ cl = 9 := by
      unfold hasF at hf
      simp only [Bool.or_eq_true, beq_iff_eq] at hf
      have hm2 : cl ∈ ([0, 1, 2, 3, 4, 5, 6, 7, 8, 9, 10] : List Nat) := hm
      simp only [List.mem_cons, List.not_mem_nil, or_false] at hm2
      omega
    rcases hcases with rfl | rfl | rfl | rfl
    · exact initOk_of c xc (d := i_2) (ps := ["self", "hand"]) 7 rfl rfl rfl hcs hf (fun _ _ _ _ _ _ us hl => match us, hl with
      | [_, _], _ => rfl) n_2 hq
    · exact initOk_of c xc (d := i_7) (ps := ["self", "hand"]) 8 rfl rfl rfl hcs hf (fun _ _ _ _ _ _ us hl => match us, hl with
      | [_, _], _ => rfl) n_7 hq
    · exact initOk_of c xc (d := i_8) (ps := ["self", "number"]) 9 rfl rfl rfl hcs hf (fun _ _ _ _ _ _ us hl => match us, hl with
      | [_, _], _ => rfl) n_8 hq
    · exact initOk_of c xc (d := i_9) (ps := ["self", "most"]) 10 rfl rfl rfl hcs hf (fun _ _ _ _ _ _ us hl => match us, hl with
      | [_, _], _ => rfl) n_9 hq
  · have hf : f < 7 := of_decide_eq_true hf
    have hg := glo_in f hf
    match f, hf with
    | 0, _ => exact defOk_of X G c (d := d__law_cell_at) (N := N__law_cell_at) (ps := ["script", "k"]) 0 rfl rfl rfl hg (fun _ _ _ _ _ _ us hl => match us, hl with
      | [_, _], _ => rfl) rfl rfl rfl s__law_cell_at k__law_cell_at
    | 1, _ => exact defOk_of X G c (d := d__law_bag) (N := N__law_bag) (ps := ["cell", "k"]) 1 rfl rfl rfl hg (fun _ _ _ _ _ _ us hl => match us, hl with
      | [_, _], _ => rfl) rfl rfl rfl s__law_bag k__law_bag
    | 2, _ => exact defOk_of X G c (d := d__law_take) (N := N__law_take) (ps := ["bag", "many"]) 2 rfl rfl rfl hg (fun _ _ _ _ _ _ us hl => match us, hl with
      | [_, _], _ => rfl) rfl rfl rfl s__law_take k__law_take
    | 3, _ => exact defOk_of X G c (d := d__law_alike) (N := N__law_alike) (ps := ["found", "due"]) 3 rfl rfl rfl hg (fun _ _ _ _ _ _ us hl => match us, hl with
      | [_, _], _ => rfl) rfl rfl rfl s__law_alike k__law_alike
    | 4, _ => exact defOk_of X G c (d := d__law_classes) (N := N__law_classes) (ps := ["caught"]) 4 rfl rfl rfl hg (fun _ _ _ _ _ _ us hl => match us, hl with
      | [_], _ => rfl) rfl rfl rfl s__law_classes k__law_classes
    | 5, _ => exact defOk_of X G c (d := d__law_fields) (N := N__law_fields) (ps := ["thing"]) 5 rfl rfl rfl hg (fun _ _ _ _ _ _ us hl => match us, hl with
      | [_], _ => rfl) rfl rfl rfl s__law_fields k__law_fields
    | 6, _ => exact defOk_of X G c (d := d_law) (N := N_law) (ps := ["script"]) 6 rfl rfl rfl hg (fun _ _ _ _ _ _ us hl => match us, hl with
      | [_], _ => rfl) rfl rfl rfl s_law k_law
abbrev R : PySem.W.OpenRow := PySem.W.OpenLaw.row PySem.Challenge.rw_beatnet_k27_refusals_made
abbrev hk : PySem.W.Hook := hookP 6 fal fnl (xcB z cls)
def ob (s : PySem.W.SharedT) : He.AlD := obsPG 6 fal fnl (xcB z cls) (HandSHeadRun.getT s)
theorem ob_eq (s : PySem.W.SharedT) : ob s = hk.obs s.abs := obsPG_eq (HandSHeadRun.getT_eq s)
theorem run (w : World) : HandSHeadRun.RunEq R (PySem.W.view R.prog [19]) hk ob 3000 ["BeatError", "NoNet", "NoHand", "NoParting", "NoNumber", "NoProgram", "NoBeats", "Fallen", "NoLetter", "TooLong", "NoText", "_law_cell_at", "_law_bag", "_law_take", "_law_alike", "_law_classes", "_law_fields"] w := by
  intro os
  kernel_rfl
/-- what the law's def does, all its scripts true: F tells the head's facts -/
theorem facts {P : Program} {w : World} {K : PySem.W.Frag} {h : Heap} {mg : Str → Option Value} {f : Addr} (X : K.In h) (G : h.Ns mainGlobals mg) (hfa : mg ("law" : Str) = some (.ref f)) (c : obsP fal fnl (xcB z cls) K = He.valD fnl) :
    ∃ fd : FuncData, (∀ (s : Shared) (v : Value), BindsTo s fd ⟨[v], []⟩ [("script", v)]) ∧ ∀ bs : Heap, K.In bs → bs.Ns mainGlobals mg → FnOk P w K mg bs CXn 14 f fd ["script"] (SpL (z.law K).S (runD (z.tb 10) 1 N_law.length b_law)) := by
  obtain ⟨c1, c2⟩ := obsP_ok c
  obtain ⟨fd, F⟩ := c1.def_ 6 (d := d_law) rfl
  have e := hfa.symm.trans (He.glo_ok X G (says_all c1 (glo_in 6 (by decide))))
  cases e
  have b := FunD.bindsA (ps := ["script"]) F fun _ _ _ _ _ _ us hl => match us, hl with | [_], _ => rfl
  exact ⟨fd, fun s v => b s [v] rfl, fun bs _ _ => law_of (ps := ["script"]) (base X G c1 c2) 10 F s_law k_law⟩
end K27
set_option maxRecDepth 100000
set_option maxHeartbeats 4000000
namespace K27
open PySem PM
theorem fn_succ {k f : Nat} {us : List U} {g : G} : (z.tb (k + 1)).fn f us g = match code f with
  | some c => runD (z.tb k) c.np c.n c.b us g
  | none => .bad := rfl
def cellAt (ns : List Int) (j : Int) : Int := if j < ns.length then ns.getD j.toNat 0 else 0
theorem cell_run {k : Nat} {ns : List Int} {j : Int} (h0 : 0 ≤ j) : (z.tb (k + 1)).fn 0 [.scr ns, .int j] [] = .ok (.int (cellAt ns j)) [] := by
  rw [fn_succ]
  show runD (z.tb k) 2 2 b__law_cell_at _ _ = _
  unfold cellAt
  by_cases h : j < ns.length
  · have hj : j.toNat < ns.length := by omega
    simp [runD, evD, b__law_cell_at, evSs, evS, evE, evEs, Res.bd, Res.st, RS.sq, tst, tru, truU, cmpU, cmpI, bltU, asS, asL, h, ixU, seqIx, asD, ixOf, h0, List.getElem?_eq_getElem, hj]
  · simp [runD, evD, b__law_cell_at, evSs, evS, evE, evEs, Res.bd, Res.st, RS.sq, tst, tru, truU, cmpU, cmpI, bltU, asS, asL, h, ixU, seqIx, asD, ixOf, h0]
end K27
set_option maxRecDepth 100000
set_option maxHeartbeats 4000000
namespace K27
open PySem PM
theorem p18 : powOk 10 18 = true := by decide +kernel
theorem mul64 {i j : Int} (h1 : -(2 ^ 64) < i) (h2 : i < 2 ^ 64) : mulOk i j = true := by
  unfold mulOk small64
  rw [decide_eq_true h1, decide_eq_true h2]; rfl
theorem pow_ok {i n : Int} {m : Nat} (h : i.natAbs < 2 ^ m) (h0 : 0 ≤ n) (hn : (m : Int) * n ≤ 2 ^ 27) : powOk i n = true := by
  unfold powOk
  have h2 := PySem.intBits_le_iff.mpr h
  have h3 : (Builtin.Int.intBits i : Int) * n ≤ (m : Int) * n := Int.mul_le_mul_of_nonneg_right (by omega) h0
  rw [decide_eq_true h0, decide_eq_true (Int.le_trans h3 hn)]; rfl
abbrev bagC (a b c : Int) : G := [some (.lst [.int a, .int b, .int c])]
theorem bag_run {k : Nat} {c j : Int} : (z.tb (k + 1)).fn 1 [.int c, .int j] [] = .ok (.ref 0) (bagC (if c - 1000000000000000000 > 0 then c - 1000000000000000000 else 0) (c % 162259276829213363391578010288127 + 7919 * (j + 1)) 0) := by
  rw [fn_succ]
  show runD (z.tb k) 2 2 b__law_bag _ _ = _
  have e1 : decide ((0 : Int) < 162259276829213363391578010288127) = true := by decide +kernel
  have e2 : mulOk 7919 (j + 1) = true := mul64 (by decide) (by decide)
  have e3 : line 3 = true := by decide +kernel
  have e4 : ((10 : Int) ^ (18 : Int).toNat) = 1000000000000000000 := by decide +kernel
  simp [runD, evD, b__law_bag, evSs, evS, evE, evEs, Res.bd, Res.st, RS.sq, bltU, binU, grd, p18, e1, e2, e3, e4, mkU, bagC]
theorem take_run {k : Nat} {a b c m : Int} (hm : 0 < m) (hm2 : m < 2 ^ 64) (hb : 0 ≤ b) (hb2 : b < 2 ^ 120) (hc : 0 ≤ c) (hc2 : c < 2 ^ 60) :
    ∃ r a' c', (z.tb (k + 1)).fn 2 [.ref 0, .int m] (bagC a b c) = .ok (.int r) (bagC a' b c') ∧ 0 ≤ r ∧ r < m ∧ 0 ≤ c' ∧ c' ≤ c + 1 := by
  have d1 : divOk m = true := by
    unfold divOk
    rw [decide_eq_true hm, decide_eq_true]; rfl
    have : m.natAbs.log2 < 64 := (Nat.log2_lt (by omega)).mpr (by omega)
    omega
  have e1 : decide ((0 : Int) < m) = true := decide_eq_true hm
  by_cases h : 1 < a
  · refine ⟨a % m, a / m, c, ?_, Int.emod_nonneg _ (by omega), Int.emod_lt_of_pos _ hm, hc, by omega⟩
    rw [fn_succ]
    show runD (z.tb k) 2 4 b__law_take _ _ = _
    simp [runD, evD, b__law_take, evSs, evS, evE, evEs, Res.bd, Res.st, RS.sq, bindP, binU, grd, bagC, tst, tru, truU, cmpU, cmpI, ixU, asD, asS, asL, gat, seqIx, ixOf, h, hm, d1, e1, setIxU]
  · refine ⟨_, a, c + 1, ?_, Int.emod_nonneg ((((b + 1299709 * (c + 1)) ^ 3 % 162259276829213363391578010288127 + 15485863 * (c + 1)) ^ 5 % 618970019642690137449562111) / 1048576) (by omega), Int.emod_lt_of_pos _ hm, by omega, Int.le_refl _⟩
    have e2 : decide ((0 : Int) < 162259276829213363391578010288127) = true := by decide +kernel
    have e3 : decide ((0 : Int) < 618970019642690137449562111) = true := by decide +kernel
    have e4 : divOk 1048576 = true := by decide +kernel
    have e5 : mulOk 1299709 (c + 1) = true := mul64 (by decide) (by decide)
    have e6 : mulOk 15485863 (c + 1) = true := mul64 (by decide) (by decide)
    have e7 : powOk (b + 1299709 * (c + 1)) 3 = true := pow_ok (m := 121) (by omega) (by decide) (by decide)
    have q := Int.emod_lt_of_pos ((b + 1299709 * (c + 1)) ^ 3) (show (0 : Int) < 162259276829213363391578010288127 by decide)
    have q0 := Int.emod_nonneg ((b + 1299709 * (c + 1)) ^ 3) (show (162259276829213363391578010288127 : Int) ≠ 0 by decide)
    have e8 : powOk ((b + 1299709 * (c + 1)) ^ 3 % 162259276829213363391578010288127 + 15485863 * (c + 1)) 5 = true := pow_ok (m := 121) (by omega) (by decide) (by decide)
    rw [fn_succ]
    show runD (z.tb k) 2 4 b__law_take _ _ = _
    simp [runD, evD, b__law_take, evSs, evS, evE, evEs, Res.bd, Res.st, RS.sq, bindP, binU, grd, bagC, tst, tru, truU, cmpU, cmpI, ixU, asD, asS, asL, gat, seqIx, ixOf, h, hm, d1, e1, setIxU, e2, e3, e4, e5, e6, e7, e8]
end K27
set_option maxRecDepth 100000
set_option maxHeartbeats 4000000
namespace K27
open PySem PM
def nmU (x : Str) : U := .lst [.str x, .str "beat", .str "value"]
theorem c1 {k : Nat} : (z.tb (k + 1)).fn 4 [.exn 1 []] [] = .ok (nmU "NoNet") [none] := by kernel_rfl
theorem c2 {k : Nat} {t : U} : (z.tb (k + 1)).fn 4 [.exn 2 [t]] [] = .ok (nmU "NoHand") [none] := by kernel_rfl
theorem c3 {k : Nat} : (z.tb (k + 1)).fn 4 [.exn 3 []] [] = .ok (nmU "NoParting") [none] := by kernel_rfl
theorem c4 {k : Nat} : (z.tb (k + 1)).fn 4 [.exn 4 []] [] = .ok (nmU "NoNumber") [none] := by kernel_rfl
theorem c5 {k : Nat} : (z.tb (k + 1)).fn 4 [.exn 5 []] [] = .ok (nmU "NoProgram") [none] := by kernel_rfl
theorem c6 {k : Nat} : (z.tb (k + 1)).fn 4 [.exn 6 []] [] = .ok (nmU "NoBeats") [none] := by kernel_rfl
theorem c7 {k : Nat} {t : U} : (z.tb (k + 1)).fn 4 [.exn 7 [t]] [] = .ok (nmU "Fallen") [none] := by kernel_rfl
theorem c8 {k : Nat} {t : U} : (z.tb (k + 1)).fn 4 [.exn 8 [t]] [] = .ok (nmU "NoLetter") [none] := by kernel_rfl
theorem c9 {k : Nat} {t : U} : (z.tb (k + 1)).fn 4 [.exn 9 [t]] [] = .ok (nmU "TooLong") [none] := by kernel_rfl
theorem c10 {k : Nat} : (z.tb (k + 1)).fn 4 [.exn 10 []] [] = .ok (nmU "NoText") [none] := by kernel_rfl
theorem no_ref : ∀ {us : List U}, flatL us = true → ∀ n, U.ref n ∉ us
  | [], _, n, hn => by cases hn
  | a :: r, h1, n, hn => by
    unfold flatL at h1
    rw [Bool.and_eq_true] at h1
    rcases List.mem_cons.mp hn with e | hn
    · subst e; cases h1.1
    · exact no_ref h1.2 n hn
/-- a call without own cells -/
theorem run0 {sem : List U → G → Res U} {us : List U} {u : U} {g g1 : G} (h : sem us [] = .ok u g1) (h1 : flatL us = true) (h2 : u.flat = true) : runSub sem us g = .ok u g := by
  have nr : ∀ n, U.ref n ∉ us := fun n => no_ref h1 n
  have e1 : refsOf us = [] := by
    clear h h1
    induction us with
    | nil => rfl
    | cons a r ih =>
      have := ih fun n hn => nr n (List.mem_cons_of_mem _ hn)
      cases a <;> first | exact this | exact absurd List.mem_cons_self (nr _)
  have e2 : us.all okArg = true := by
    clear h nr e1
    induction us with
    | nil => rfl
    | cons a r ih =>
      unfold flatL at h1
      rw [Bool.and_eq_true] at h1
      rw [List.all_cons, ih h1.2, Bool.and_true]
      cases a <;> first | exact h1.1 | rfl
  have e3 : us.map (renU []) = us := by
    clear h h1 e1 e2
    induction us with
    | nil => rfl
    | cons a r ih =>
      rw [List.map_cons, ih fun n hn => nr n (List.mem_cons_of_mem _ hn)]
      cases a <;> first | rfl | exact absurd List.mem_cons_self (nr _)
  unfold runSub
  rw [e1]
  show (match us.all okArg, takeCells g [] with
    | true, some cs => (match sem (us.map (renU [])) cs with
      | .ok u g1 => (match putCells g g1 0 [] with
        | some g' => backU [] g' g1 u
        | none => .bad)
      | .err x g1 => (match putCells g g1 0 [] with
        | some g' => grd (exFlat x) (.err x g')
        | none => .bad)
      | .bad => .bad)
    | _, _ => .bad) = _
  rw [e2, e3]
  show (match sem us [] with
      | .ok u g1 => (match putCells g g1 0 [] with
        | some g' => backU [] g' g1 u
        | none => .bad)
      | .err x g1 => (match putCells g g1 0 [] with
        | some g' => grd (exFlat x) (.err x g')
        | none => .bad)
      | .bad => .bad) = _
  rw [h]
  show backU [] g g1 u = _
  have : ∀ n, u ≠ .ref n := fun n e => by subst e; cases h2
  rw [backU_flat this, h2]
theorem fl1 {t : U} (h : t.flat = true) : flatL [t] = true := by unfold flatL flatL; rw [h]; rfl
def four (t : U) : U := .lst [.tup [nmU "NoHand", t], .tup [nmU "Fallen", t], .tup [nmU "NoLetter", t], .tup [nmU "TooLong", t]]
theorem fields_run {k : Nat} {t : U} (h : t.flat = true) : (z.tb (k + 2)).fn 5 [t] [] = .ok (four t) [] := by
  rw [fn_succ]
  show runD (z.tb (k + 1)) 1 6 b__law_fields _ _ = _
  have fx : ∀ c, flatL [.exn c [t]] = true := fun c => fl1 (fl1 h)
  have e2 : ∀ g, runSub ((z.tb (k + 1)).fn 4) [.exn 2 [t]] g = .ok (nmU "NoHand") g := fun g => run0 c2 (fx 2) rfl
  have e7 : ∀ g, runSub ((z.tb (k + 1)).fn 4) [.exn 7 [t]] g = .ok (nmU "Fallen") g := fun g => run0 c7 (fx 7) rfl
  have e8 : ∀ g, runSub ((z.tb (k + 1)).fn 4) [.exn 8 [t]] g = .ok (nmU "NoLetter") g := fun g => run0 c8 (fx 8) rfl
  have e9 : ∀ g, runSub ((z.tb (k + 1)).fn 4) [.exn 9 [t]] g = .ok (nmU "TooLong") g := fun g => run0 c9 (fx 9) rfl
  have l2 : line 2 = true := by decide +kernel
  have l4 : line 4 = true := by decide +kernel
  simp [runD, evD, b__law_fields, evSs, evS, evE, evEs, Res.bd, Res.st, RS.sq, bindP, binU, grd, xnU, hasF, xfU, e2, e7, e8, e9, l2, l4, four]
theorem alike_s {k : Nat} : (z.tb (k + 1)).fn 3 [.str "a", .str "a"] [] = .ok (.bl true) [] := by kernel_rfl
theorem alike_n {k : Nat} : (z.tb (k + 1)).fn 3 [.non, .non] [] = .ok (.bl true) [] := by kernel_rfl
theorem alike_b {k : Nat} : (z.tb (k + 1)).fn 3 [.bl true, .bl true] [] = .ok (.bl true) [] := by kernel_rfl
theorem alike_t {k : Nat} : (z.tb (k + 2)).fn 3 [.tup [.int 1, .int 2], .tup [.int 1, .int 2]] [] = .ok (.bl true) [] := by kernel_rfl
theorem alike_i {k : Nat} {i : Int} : (z.tb (k + 1)).fn 3 [.int i, .int i] [] = .ok (.bl true) [] := by
  rw [fn_succ]
  show runD (z.tb k) 2 3 b__law_alike _ _ = _
  simp [runD, evD, b__law_alike, evSs, evS, evE, evEs, Res.bd, Res.st, RS.sq, tst, tru, truU, isiU, tagU, anyT, oneT, tgB, cmpU, PM.ob, eqU, deref, U.shp, U.eqv]
/-- what may be handed in -/
def Six (t : U) : Prop := (∃ i, t = .int i) ∨ t = .bl true ∨ t = .non ∨ t = .str "a" ∨ t = .tup [.int 1, .int 2]
theorem Six.flat {t : U} (h : Six t) : t.flat = true := by
  rcases h with ⟨i, rfl⟩ | rfl | rfl | rfl | rfl <;> rfl
theorem alike_run {k : Nat} {t : U} (h : Six t) : (z.tb (k + 2)).fn 3 [t, t] [] = .ok (.bl true) [] := by
  rcases h with ⟨i, rfl⟩ | rfl | rfl | rfl | rfl
  · exact alike_i
  · exact alike_b
  · exact alike_n
  · exact alike_s
  · exact alike_t
/-- the bag, from outside -/
theorem take_sub {k n : Nat} {g : G} {a b c m : Int} (hg : gat g n = some (.lst [.int a, .int b, .int c])) (hm : 0 < m) (hm2 : m < 2 ^ 64) (hb : 0 ≤ b) (hb2 : b < 2 ^ 120) (hc : 0 ≤ c) (hc2 : c < 2 ^ 60) :
    ∃ r a' c', runSub ((z.tb (k + 1)).fn 2) [.ref n, .int m] g = .ok (.int r) (g.set n (some (.lst [.int a', .int b, .int c']))) ∧ 0 ≤ r ∧ r < m ∧ 0 ≤ c' ∧ c' ≤ c + 1 := by
  obtain ⟨r, a', c', e, h1, h2, h3, h4⟩ := take_run (k := k) (a := a) hm hm2 hb hb2 hc hc2
  refine ⟨r, a', c', ?_, h1, h2, h3, h4⟩
  have er : refsOf [U.ref n, .int m] = [n] := rfl
  have et : takeCells g [n] = some (bagC a b c) := by
    show (match gat g n with
      | some c => (match c.flat with
        | true => (match takeCells g [] with
          | some q => some (some c :: q)
          | none => none)
        | false => none)
      | none => none) = _
    rw [hg]; rfl
  have em : [U.ref n, .int m].map (renU [n]) = [.ref 0, .int m] := by
    show [U.ref ([n].idxOf n), .int m] = _
    simp
  unfold runSub
  rw [er]
  dsimp only
  rw [et, em]
  show (match (z.tb (k + 1)).fn 2 [.ref 0, .int m] (bagC a b c) with
    | .ok u g1 => (match putCells g g1 0 [n] with
      | some g' => backU [n] g' g1 u
      | none => .bad)
    | .err x g1 => (match putCells g g1 0 [n] with
      | some g' => grd (exFlat x) (.err x g')
      | none => .bad)
    | .bad => .bad) = _
  rw [e]
  rfl
theorem bag_sub {k : Nat} {g : G} {c j : Int} : ∃ a b, runSub ((z.tb (k + 1)).fn 1) [.int c, .int j] g = .ok (.ref g.length) (g ++ [some (.lst [.int a, .int b, .int 0])]) ∧ b = c % 162259276829213363391578010288127 + 7919 * (j + 1) := by
  refine ⟨if c - 1000000000000000000 > 0 then c - 1000000000000000000 else 0, _, ?_, rfl⟩
  show (match (z.tb (k + 1)).fn 1 [.int c, .int j] [] with
    | .ok u g1 => (match putCells g g1 0 [] with
      | some g' => backU [] g' g1 u
      | none => .bad)
    | .err x g1 => (match putCells g g1 0 [] with
      | some g' => grd (exFlat x) (.err x g')
      | none => .bad)
    | .bad => .bad) = _
  rw [bag_run]
  rfl
end K27
set_option maxRecDepth 100000
set_option maxHeartbeats 4000000
namespace K27
open PySem PM
/-- the turn's body, the bag's part left out -/
def rest : Ss := match b_law with
  | .cons (.for_ _ _ (.cons _ (.cons _ r))) _ => r
  | _ => .nil
theorem rng4 : rngL 0 4 = [.int 0, .int 1, .int 2, .int 3] := by kernel_rfl
theorem rest_run {k : Nat} {t : U} {x0 x1 x2 x4 x5 x6 x7 x8 x9 : Option U} {g : G} (h : Six t) : ∃ e', evSs (z.tb (k + 3)) rest [x0, x1, x2, some t, x4, x5, x6, x7, x8, x9] g = .nx e' g ∧ e'.length = 10 ∧ e'[0]? = some x0 := by
  have hf := h.flat
  have a1 : ∀ g, runSub ((z.tb (k + 3)).fn 5) [t] g = .ok (four t) g := fun g => run0 (fields_run hf) (fl1 hf) (by unfold four; simp [U.flat, flatL, nmU, hf])
  have f2 : flatL [t, t] = true := by simp [flatL, hf]
  have a2 : ∀ g, runSub ((z.tb (k + 3)).fn 3) [t, t] g = .ok (.bl true) g := fun g => run0 (alike_run h) f2 rfl
  have b1 : ∀ g, runSub ((z.tb (k + 3)).fn 4) [.exn 1 []] g = .ok (nmU "NoNet") g := fun g => run0 c1 rfl rfl
  have b3 : ∀ g, runSub ((z.tb (k + 3)).fn 4) [.exn 3 []] g = .ok (nmU "NoParting") g := fun g => run0 c3 rfl rfl
  have b4 : ∀ g, runSub ((z.tb (k + 3)).fn 4) [.exn 4 []] g = .ok (nmU "NoNumber") g := fun g => run0 c4 rfl rfl
  have b5 : ∀ g, runSub ((z.tb (k + 3)).fn 4) [.exn 5 []] g = .ok (nmU "NoProgram") g := fun g => run0 c5 rfl rfl
  have b6 : ∀ g, runSub ((z.tb (k + 3)).fn 4) [.exn 6 []] g = .ok (nmU "NoBeats") g := fun g => run0 c6 rfl rfl
  have b10 : ∀ g, runSub ((z.tb (k + 3)).fn 4) [.exn 10 []] g = .ok (nmU "NoText") g := fun g => run0 c10 rfl rfl
  have l1 : line 1 = true := by decide +kernel
  have l2 : line 2 = true := by decide +kernel
  have l3 : line 3 = true := by decide +kernel
  have l4 : line 4 = true := by decide +kernel
  have l5 : line 5 = true := by decide +kernel
  have l6 : line 6 = true := by decide +kernel
  have r4 : rngOk 0 4 = true := by decide +kernel
  have q1 : ∀ g, cmpU g .NotEq (nmU "NoHand") (.lst [.str "NoHand", .str "beat", .str "value"]) = .ok (.bl false) g := fun g => by kernel_rfl
  have q2 : ∀ g, cmpU g .NotEq (nmU "Fallen") (.lst [.str "Fallen", .str "beat", .str "value"]) = .ok (.bl false) g := fun g => by kernel_rfl
  have q3 : ∀ g, cmpU g .NotEq (nmU "NoLetter") (.lst [.str "NoLetter", .str "beat", .str "value"]) = .ok (.bl false) g := fun g => by kernel_rfl
  have q4 : ∀ g, cmpU g .NotEq (nmU "TooLong") (.lst [.str "TooLong", .str "beat", .str "value"]) = .ok (.bl false) g := fun g => by kernel_rfl
  have q5 : ∀ g, cmpU g .NotEq (.lst [nmU "NoNet", nmU "NoParting", nmU "NoNumber", nmU "NoProgram", nmU "NoBeats", nmU "NoText"]) (.lst [.lst [.str "NoNet", .str "beat", .str "value"], .lst [.str "NoParting", .str "beat", .str "value"], .lst [.str "NoNumber", .str "beat", .str "value"], .lst [.str "NoProgram", .str "beat", .str "value"], .lst [.str "NoBeats", .str "beat", .str "value"], .lst [.str "NoText", .str "beat", .str "value"]]) = .ok (.bl false) g := fun g => by kernel_rfl
  simp [rest, b_law, evSs, evS, evE, evEs, evI, Res.bd, Res.st, RS.sq, bindP, binU, grd, grdS, l1, l2, l3, l4, l5, l6, r4, rng4, a1, a2, b1, b3, b4, b5, b6, b10, forGo, stay, tst, tru, truU, ixU, asD, asS, asL, seqIx, ixOf, four, q1, q2, q3, q4, q5, xnU, hasF, lcGo, wipeE, noErr, srcU]
end K27
set_option maxRecDepth 100000
set_option maxHeartbeats 4000000
namespace K27
open PySem PM
abbrev bc (a b c : Int) : Option Cell := some (.lst [.int a, .int b, .int c])
def s1 : S := match b_law with
  | .cons (.for_ _ _ (.cons a (.cons b r))) _ => a
  | _ => .pass
def s2 : S := match b_law with
  | .cons (.for_ _ _ (.cons a (.cons b r))) _ => b
  | _ => .pass
theorem six_of {r i : Int} (h0 : 0 ≤ i) (h6 : i < 6) : ∃ t, Six t ∧ seqIx [.int r, .int (-3), .bl true, .non, .str "a", .tup [.int 1, .int 2]] (.int i) = some t := by
  have hc : i = 0 ∨ i = 1 ∨ i = 2 ∨ i = 3 ∨ i = 4 ∨ i = 5 := by omega
  rcases hc with rfl | rfl | rfl | rfl | rfl | rfl
  · exact ⟨_, .inl ⟨r, rfl⟩, rfl⟩
  · exact ⟨_, .inl ⟨-3, rfl⟩, rfl⟩
  · exact ⟨_, .inr (.inl rfl), rfl⟩
  · exact ⟨_, .inr (.inr (.inl rfl)), rfl⟩
  · exact ⟨_, .inr (.inr (.inr (.inl rfl))), rfl⟩
  · exact ⟨_, .inr (.inr (.inr (.inr rfl))), rfl⟩
theorem turn_run {k : Nat} {ns : List Int} {j : Int} {x2 x3 x4 x5 x6 x7 x8 x9 : Option U} {g : G} (h0 : 0 ≤ j) (h1 : j < 64) :
    ∃ e' g', evSs (z.tb (k + 3)) (.cons s1 (.cons s2 rest)) [some (.scr ns), some (.int j), x2, x3, x4, x5, x6, x7, x8, x9] g = .nx e' g' ∧ e'.length = 10 ∧ e'[0]? = some (some (.scr ns)) := by
  obtain ⟨a, b, eb, hb⟩ := bag_sub (k := k + 2) (g := g) (c := cellAt ns j) (j := j)
  have ec : runSub ((z.tb (k + 3)).fn 0) [.scr ns, .int j] g = .ok (.int (cellAt ns j)) g := run0 (cell_run h0) rfl rfl
  have m1 := Int.emod_nonneg (cellAt ns j) (show (162259276829213363391578010288127 : Int) ≠ 0 by decide)
  have m2 := Int.emod_lt_of_pos (cellAt ns j) (show (0 : Int) < 162259276829213363391578010288127 by decide)
  have hb0 : 0 ≤ b := by omega
  have hb1 : b < 2 ^ 120 := by omega
  obtain ⟨r, a1, c1, e1, p1, p2, p3, p4⟩ := take_sub (k := k + 2) (n := g.length) (g := g ++ [(bc a b 0)]) (a := a) (b := b) (c := 0) (m := 1000000000000000000) (by rw [gat_push, if_pos rfl]) (by decide) (by decide) hb0 hb1 (by decide) (by decide)
  have gl : g.length < (g ++ [(bc a b 0)]).length := by simp
  obtain ⟨r2, a2, c2, e2, q1, q2, q3, q4⟩ := take_sub (k := k + 2) (n := g.length) (g := (g ++ [(bc a b 0)]).set g.length ((bc a1 b c1))) (a := a1) (b := b) (c := c1) (m := 6) (by rw [gat_set gl, if_pos rfl]) (by decide) (by decide) hb0 hb1 p3 (by omega)
  obtain ⟨t, ht, et⟩ := six_of (r := r) q1 q2
  have eb : runSub ((z.tb (k + 3)).fn 1) [.int (cellAt ns j), .int j] g = .ok (.ref g.length) (g ++ [bc a b 0]) := eb
  have e1 : runSub ((z.tb (k + 3)).fn 2) [.ref g.length, .int 1000000000000000000] (g ++ [bc a b 0]) = .ok (.int r) ((g ++ [bc a b 0]).set g.length (bc a1 b c1)) := e1
  have e2 : runSub ((z.tb (k + 3)).fn 2) [.ref g.length, .int 6] ((g ++ [bc a b 0]).set g.length (bc a1 b c1)) = .ok (.int r2) (((g ++ [bc a b 0]).set g.length (bc a1 b c1)).set g.length (bc a2 b c2)) := e2
  have l6 : line 6 = true := by decide +kernel
  have l2 : line 2 = true := by decide +kernel
  have e4 : ((10 : Int) ^ (18 : Int).toNat) = 1000000000000000000 := by decide +kernel
  generalize hG2 : ((g ++ [bc a b 0]).set g.length (bc a1 b c1)).set g.length (bc a2 b c2) = G2 at e2
  generalize hG1 : (g ++ [bc a b 0]).set g.length (bc a1 b c1) = G1 at e1 e2
  generalize hG0 : g ++ [bc a b 0] = G0 at e1 eb
  have r1 : evS (z.tb (k + 3)) s1 [some (.scr ns), some (.int j), x2, x3, x4, x5, x6, x7, x8, x9] g = .nx [some (.scr ns), some (.int j), some (.ref g.length), x3, x4, x5, x6, x7, x8, x9] G0 := by
    simp [s1, b_law, evS, evE, evEs, Res.bd, Res.st, bindP, ec, eb]
  have r2' : evS (z.tb (k + 3)) s2 [some (.scr ns), some (.int j), some (.ref g.length), x3, x4, x5, x6, x7, x8, x9] G0 = .nx [some (.scr ns), some (.int j), some (.ref g.length), some t, x4, x5, x6, x7, x8, x9] G2 := by
    simp [s2, b_law, evS, evE, evEs, Res.bd, Res.st, bindP, binU, grd, p18, e1, e2, l6, l2, ixU, asD, asS, asL, et]
  obtain ⟨e', h5, h6, h7⟩ := rest_run (k := k) (x0 := some (.scr ns)) (x1 := some (.int j)) (x2 := some (.ref g.length)) (x4 := x4) (x5 := x5) (x6 := x6) (x7 := x7) (x8 := x8) (x9 := x9) (g := G2) ht
  refine ⟨e', G2, ?_, h6, h7⟩
  show ((evS (z.tb (k + 3)) s1 _ g).sq fun e g => (evS (z.tb (k + 3)) s2 e g).sq fun e g => evSs (z.tb (k + 3)) rest e g) = _
  rw [r1]
  show ((evS (z.tb (k + 3)) s2 _ _).sq fun e g => evSs (z.tb (k + 3)) rest e g) = _
  rw [r2']
  exact h5
theorem loop_run {k : Nat} {ns : List Int} : ∀ (l : List U) (e : Ev) (g : G), (∀ u ∈ l, ∃ j : Int, u = .int j ∧ 0 ≤ j ∧ j < 64) → e.length = 10 → e[0]? = some (some (.scr ns)) → ∃ e' g', forGo (.nm 1) (evSs (z.tb (k + 3)) (.cons s1 (.cons s2 rest))) [] l e g = .nx e' g'
  | [], e, g, _, _, _ => ⟨e, g, rfl⟩
  | u :: l, e, g, hl, he, h0 => by
    obtain ⟨j, rfl, j0, j1⟩ := hl u List.mem_cons_self
    match e, he, h0 with
    | [y0, y1, y2, y3, y4, y5, y6, y7, y8, y9], _, h0 =>
      cases h0
      obtain ⟨e1, g1, t1, t2, t3⟩ := turn_run (k := k) (ns := ns) (j := j) (x2 := y2) (x3 := y3) (x4 := y4) (x5 := y5) (x6 := y6) (x7 := y7) (x8 := y8) (x9 := y9) (g := g) j0 j1
      obtain ⟨e2, g2, q⟩ := loop_run l e1 g1 (fun u hu => hl u (List.mem_cons_of_mem _ hu)) t2 t3
      refine ⟨e2, g2, ?_⟩
      unfold forGo
      show grdS true (match evSs (z.tb (k + 3)) (.cons s1 (.cons s2 rest)) [some (.scr ns), some (.int j), y2, y3, y4, y5, y6, y7, y8, y9] g with
        | .nx e g => forGo (.nm 1) (evSs (z.tb (k + 3)) (.cons s1 (.cons s2 rest))) [] l e g
        | .ct e g => forGo (.nm 1) (evSs (z.tb (k + 3)) (.cons s1 (.cons s2 rest))) [] l e g
        | .bk e g => .nx e g
        | r => r) = _
      rw [t1]
      exact q
abbrev e0 (ns : List Int) : Ev := [some (.scr ns), none, none, none, none, none, none, none, none, none]
def nE : E := .blt .max (.cons (.int 1) (.cons (.blt .min (.cons (.int 8) (.cons (.blt .len (.cons (.var 0) .nil)) .nil))) .nil))
theorem n_run (T : Tb) (ns : List Int) : ∃ n : Int, evE T nE (e0 ns) [] = .ok (.int n) [] ∧ 0 ≤ n ∧ n ≤ 8 := by
  refine ⟨if (if (ns.length : Int) < 8 then (ns.length : Int) else 8) > 1 then (if (ns.length : Int) < 8 then (ns.length : Int) else 8) else 1, ?_, ?_, ?_⟩
  · simp [nE, e0, evE, evEs, Res.bd, bltU, asS, asL]
  · split
    · split <;> omega
    · omega
  · split
    · split <;> omega
    · omega
theorem law_eq : b_law = .cons (.for_ (.nm 1) (.rng1 nE) (.cons s1 (.cons s2 rest))) (.cons (.ret (.bl true)) .nil) := rfl
theorem law_ev (T : Tb) {ns : List Int} {n : Int} {e' : Ev} {g' : G} (hn : evE T nE (e0 ns) [] = .ok (.int n) []) (rg : rngOk 0 n = true) (q : forGo (.nm 1) (evSs T (.cons s1 (.cons s2 rest))) [] (rngL 0 n) (e0 ns) [] = .nx e' g') : runD T 1 10 b_law [.scr ns] [] = .ok (.bl true) g' := by
  rw [law_eq]
  generalize (Ss.cons s1 (.cons s2 rest)) = bd at q
  have hs : evS T (.for_ (.nm 1) (.rng1 nE) bd) (e0 ns) [] = .nx e' g' := by
    show ((evE T nE (e0 ns) []).bd fun x g => (match x with
      | .int j => grd (rngOk 0 j) (.ok ⟨rngL 0 j, []⟩ g)
      | _ => .bad : Res Wk)).st (e0 ns) (fun w g => forGo (.nm 1) (evSs T bd) w.sr w.l (e0 ns) g) = _
    rw [hn]
    show ((grd (rngOk 0 n) (.ok ⟨rngL 0 n, []⟩ []) : Res Wk)).st (e0 ns) (fun w g => forGo (.nm 1) (evSs T bd) w.sr w.l (e0 ns) g) = _
    rw [rg]
    exact q
  show ((match (evS T (.for_ (.nm 1) (.rng1 nE) bd) (e0 ns) []).sq fun e g => evSs T (.cons (.ret (.bl true)) .nil) e g with
    | .nx _ g => .ok .non g
    | .rt u g => .ok u g
    | .err x _ g => .err x g
    | _ => .bad) : Res U) = _
  rw [hs]
  rfl
theorem plain (ns : List Int) (hl : ns.length ≤ 63) : ∃ g', runD (z.tb 10) 1 N_law.length b_law [.scr ns] [] = .ok (.bl true) g' := by
  obtain ⟨n, hn, h0, h8⟩ := n_run (z.tb 10) ns
  have rg : rngOk 0 n = true := by
    unfold rngOk
    rw [decide_eq_true (show -(2 ^ 62) ≤ (0 : Int) by decide), decide_eq_true (show (0 : Int) < 2 ^ 62 by decide), decide_eq_true (show -(2 ^ 62) ≤ n by omega), decide_eq_true (show n < 2 ^ 62 by omega)]; rfl
  obtain ⟨e', g', q⟩ := loop_run (k := 7) (ns := ns) (rngL 0 n) (e0 ns) [] (fun u hu => by
    unfold rngL at hu
    obtain ⟨i, hi, rfl⟩ := List.mem_map.mp hu
    rw [List.mem_range] at hi
    exact ⟨_, rfl, by omega, by omega⟩) rfl rfl
  exact ⟨g', law_ev (z.tb 10) hn rg q⟩
end K27
set_option maxRecDepth 100000
set_option maxHeartbeats 0
open PySem PySem.W PySem.Calls PyProof.Rows
theorem PySem.Challenge.cw_beatnet_k27_refusals_made_holds : PySem.Challenge.rw_beatnet_k27_refusals_made.Holds := by
  w_on; o_law
  refine HandSHeadRun.head_any (r := OpenLaw.row PySem.Challenge.rw_beatnet_k27_refusals_made) (q := view (OpenLaw.row PySem.Challenge.rw_beatnet_k27_refusals_made).prog [19]) (H := K27.hk) (ob := K27.ob) (M := 3000) (loose := ["BeatError", "NoNet", "NoHand", "NoParting", "NoNumber", "NoProgram", "NoBeats", "Fallen", "NoLetter", "TooLong", "NoText", "_law_cell_at", "_law_bag", "_law_take", "_law_alike", "_law_classes", "_law_fields"]) (d := HandSHeadRun.topDef (OpenLaw.row PySem.Challenge.rw_beatnet_k27_refusals_made).prog 19) (kwd := []) K27.ob_eq
    (by kernel_rfl) (fun s => by kernel_rfl) K27.run (by kernel_rfl) (by kernel_rfl) (by kernel_rfl) (by rfl) (by first | assumption | decide +kernel) (by decide +kernel) ⟨rfl, rfl, rfl, rfl, rfl, by decide +kernel⟩ ?hw ?hc
  case hw => w_witness2
  case hc =>
    refine L2.walk_ofE (l := PySem.Challenge.rw_beatnet_k27_refusals_made) (n := 63) (k := 14) (x := "script") (CX := PM.CXn) rfl (by decide) (by kernel_rfl) ⟨rfl, by decide, by decide⟩ ?F (fun _ _ _ _ z => z)
    intro w mg fa h Y G hmg0
    obtain ⟨K, KX, c⟩ := Y
    have hmg : mg ("law" : PySem.Str) = some (.ref fa) := by
      have e : (HandSHeadRun.topDef (OpenLaw.row PySem.Challenge.rw_beatnet_k27_refusals_made).prog 19).name = ("law" : PySem.Str) := by kernel_rfl
      rw [← e]
      exact hmg0
    obtain ⟨fd, hb, hF⟩ := K27.facts (P := (PySem.Challenge.rw_beatnet_k27_refusals_made).prog) (w := w) KX G hmg c
    exact ⟨K, fd, _, KX, hb, fun H a ns hl _ hS => PM.law_in K27.plain H a ns hl hS, hF⟩
